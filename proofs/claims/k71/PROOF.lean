import PyProof.Rows.All
import Wide.All
import OpenK.AllK
import Wide.FinOn
import HandS.Base
import HandS.Call
import HandS.List
import HandS.Comp
import HandS.Ends
import HandS.Words
import KE.KDictKeyed
import HandS.Lambda
import HandS.TupMul
import HandS.TupLe
import HandS.TupAny
import HandS.IsInst
import HandS.Flow
import HandS.Wide
import HandS.Text
import HandS.Deep
import HandS.Dict
import KE.KDictPairs
import HandS.More
import HandS.Replace
import KE.IntTextLaws
import HandS.Strs
import HandS.Walk
import HandS.Zip
import KE.GoesMore
import KE.GoesEnum
import HandS.Small
import HandS.Iter
import HandS.Rev
import HandS.Defaults
import HandS.Exc
import HandS.ExcOwn
import HandS.TryOnly
import HandS.HeadHook1
import HandS.ExcIs
import HandS.HotCalls
import HandS.Conv
import HandS.Codes
import HandS.Head0
import HandS.Head1
import HandS.Head2
import HandS.HeadEnd
import HandS.HeadHook2
import HandS.HeadHook4
import PySem.Challenge.RW_everreader_k71_texts_of_no_form
set_option linter.all false
set_option maxRecDepth 100000
/-! The small evaluator: data D, own syntax E / S, and what it gives. Plain Lean, no machine in sight. -/
namespace Ev
open PySem

abbrev Txt := List Nat

/-- data: None, truths, ints, texts, tuples, lists that stay as they are, a shared object by its number, a def by its number -/
inductive D where
  | non | bl (b : Bool) | int (i : Int) | str (s : Txt) | tup (l : List D) | lst (l : List D) | loc (n : Nat) | fn (k : Nat) (l : List D)
deriving Inhabited

mutual
def D.beq : D → D → Bool
  | .non, .non => true
  | .bl a, .bl b => a == b
  | .int a, .int b => a == b
  | .str a, .str b => a == b
  | .tup a, .tup b => D.beqL a b
  | .lst a, .lst b => D.beqL a b
  | .loc a, .loc b => a == b
  | .fn a l, .fn b m => a == b && D.beqL l m
  | _, _ => false
def D.beqL : List D → List D → Bool
  | [], [] => true
  | a :: as, b :: bs => D.beq a b && D.beqL as bs
  | _, _ => false
end
instance : BEq D := ⟨D.beq⟩
mutual
theorem D.beq_refl : ∀ a : D, D.beq a a = true
  | .non => rfl
  | .bl a => by simp [D.beq]
  | .int a => by simp [D.beq]
  | .str a => by simp [D.beq]
  | .tup a => by simp [D.beq, D.beqL_refl a]
  | .lst a => by simp [D.beq, D.beqL_refl a]
  | .loc a => by simp [D.beq]
  | .fn a l => by simp [D.beq, D.beqL_refl l]
theorem D.beqL_refl : ∀ a : List D, D.beqL a a = true
  | [] => rfl
  | a :: as => by simp [D.beqL, D.beq_refl a, D.beqL_refl as]
end
mutual
theorem D.eq_of : ∀ a b : D, D.beq a b = true → a = b
  | .non, b, h => by cases b <;> first | rfl | simp [D.beq] at h
  | .bl a, b, h => by cases b <;> simp [D.beq] at h; rw [h]
  | .int a, b, h => by cases b <;> simp [D.beq] at h; rw [h]
  | .str a, b, h => by cases b <;> simp [D.beq] at h; rw [h]
  | .tup a, b, h => by cases b <;> simp [D.beq] at h; rw [D.eqL_of _ _ h]
  | .lst a, b, h => by cases b <;> simp [D.beq] at h; rw [D.eqL_of _ _ h]
  | .loc a, b, h => by cases b <;> simp [D.beq] at h; rw [h]
  | .fn a l, b, h => by cases b <;> simp [D.beq] at h; rw [h.1, D.eqL_of _ _ h.2]
theorem D.eqL_of : ∀ a b : List D, D.beqL a b = true → a = b
  | [], b, h => by cases b <;> first | rfl | simp [D.beqL] at h
  | a :: as, b, h => by
    cases b with
    | nil => simp [D.beqL] at h
    | cons b bs =>
      simp [D.beqL] at h
      rw [D.eq_of _ _ h.1, D.eqL_of _ _ h.2]
end
instance : ReflBEq D := ⟨fun {a} => D.beq_refl a⟩
instance : LawfulBEq D := ⟨fun {a b} h => D.eq_of a b h⟩
instance : DecidableEq D := fun a b => if h : (a == b) = true then isTrue (eq_of_beq h) else isFalse fun e => h (by rw [e]; exact beq_self_eq_true b)

/-- a shared object: a list, a dict, an instance of the class c -/
inductive Cell where
  | lst (l : List D) | dct (l : List (D × D)) | dtt (l : List (D × D)) | obj (c : Nat) (fs : List (Nat × D))
deriving Inhabited, DecidableEq
abbrev Mu := List Cell

/-- an exception: its class, its one field's value -/
structure Ex where
  cls : Nat
  val : D
deriving Inhabited, DecidableEq

inductive Res (α : Type) where
  | ok (a : α) (μ : Mu) | ex (x : Ex) (μ : Mu) | no
deriving Inhabited
def Res.bind {α β : Type} (r : Res α) (f : α → Mu → Res β) : Res β := match r with
  | .ok a μ => f a μ
  | .ex x μ => .ex x μ
  | .no => .no
/-- nothing is let out of it -/
def Res.calm {α : Type} : Res α → Res α
  | .ok a μ => .ok a μ
  | _ => .no
def Res.of {α : Type} (o : Option α) (μ : Mu) : Res α := match o with
  | some a => .ok a μ
  | none => .no
@[simp] theorem Res.bind_ok {α β : Type} (a : α) (μ : Mu) (f : α → Mu → Res β) : (Res.ok a μ).bind f = f a μ := rfl
@[simp] theorem Res.bind_ex {α β : Type} (x : Ex) (μ : Mu) (f : α → Mu → Res β) : (Res.ex x μ).bind f = .ex x μ := rfl
@[simp] theorem Res.bind_no {α β : Type} (f : α → Mu → Res β) : (Res.no).bind f = .no := rfl
@[simp] theorem Res.of_some {α : Type} (a : α) (μ : Mu) : Res.of (some a) μ = .ok a μ := rfl
@[simp] theorem Res.of_none {α : Type} (μ : Mu) : Res.of (none : Option α) μ = .no := rfl

/-- the line of lengths -/
abbrev lim : Nat := 16777216

/-! ### what the operations give -/
/-- the dict at a shared place -/
def dctAt (μ : Mu) (o : D) : Option (Nat × List (D × D)) := match o with
  | .loc n => match μ[n]? with
    | some (.dct l) => some (n, l)
    | _ => none
  | _ => none
/-- what may be a key -/
def isKey : D → Bool
  | .int _ => true
  | .str _ => true
  | _ => false
/-- the dict at a shared place, its keys tuples (the empty one is both) -/
def dttAt (μ : Mu) (o : D) : Option (Nat × List (D × D)) := match o with
  | .loc n => match μ[n]? with
    | some (.dtt l) => some (n, l)
    | some (.dct []) => some (n, [])
    | _ => none
  | _ => none
/-- what stands at a key -/
def lookD (l : List (D × D)) (k : D) : Option D := (l.find? fun p => p.1 == k).map (·.2)
/-- in its stead, or at the end -/
def putD (l : List (D × D)) (k v : D) : List (D × D) := if (l.any fun p => p.1 == k) = true then l.map (fun p => if (p.1 == k) = true then (p.1, v) else p) else l ++ [(k, v)]
/-- pairs -/
def pairsD : List D → Option (List (D × D))
  | [] => some []
  | .tup [k, v] :: r => (pairsD r).map fun ps => (k, v) :: ps
  | _ => none
def mergeD (ps : List (D × D)) : List (D × D) := ps.foldl (fun acc p => putD acc p.1 p.2) []
/-- the items of a list or tuple -/
def seqOf (μ : Mu) : D → Option (List D)
  | .tup l => some l
  | .lst l => some l
  | .loc n => match μ[n]? with
    | some (.lst l) => some l
    | _ => none
  | _ => none
/-- the items of a list alone -/
def lstOf (μ : Mu) : D → Option (List D)
  | .lst l => some l
  | .loc n => match μ[n]? with
    | some (.lst l) => some l
    | _ => none
  | _ => none
def truthD (μ : Mu) : D → Option Bool
  | .non => some false
  | .bl b => some b
  | .int i => some (i != 0)
  | .str s => if s.length ≤ lim then some (!s.isEmpty) else none
  | .tup l => some (!l.isEmpty)
  | .lst l => some (!l.isEmpty)
  | .loc n => match μ[n]? with
    | some (.lst l) => some (!l.isEmpty)
    | some (.dct l) => some (!l.isEmpty)
    | _ => none
  | .fn _ _ => none
def lenD (μ : Mu) : D → Option Int
  | .str s => if s.length ≤ lim then some s.length else none
  | .tup l => some l.length
  | .lst l => some l.length
  | .loc n => match μ[n]? with
    | some (.lst l) => some l.length
    | some (.dct l) => some l.length
    | _ => none
  | _ => none

mutual
def D.depth : D → Nat
  | .tup l => D.depthL l + 1
  | .lst l => D.depthL l + 1
  | _ => 0
def D.depthL : List D → Nat
  | [] => 0
  | d :: ds => max d.depth (D.depthL ds)
end
mutual
/-- None, ints, texts, tuples of such -/
def isNK : D → Bool
  | .non => true
  | .int _ => true
  | .str _ => true
  | .tup l => isNKs l
  | _ => false
def isNKs : List D → Bool
  | [] => true
  | d :: r => isNK d && isNKs r
end
/-- a tuple that may be a key -/
def isKT : D → Bool
  | .tup l => isNKs l && decide ((D.tup l).depth ≤ 8)
  | _ => false
mutual
/-- data without shared objects and defs -/
def D.flat : D → Bool
  | .tup l => D.flatL l
  | .lst l => D.flatL l
  | .loc _ => false
  | .fn _ _ => false
  | _ => true
def D.flatL : List D → Bool
  | [] => true
  | d :: ds => d.flat && D.flatL ds
end
mutual
/-- == of data -/
def D.eqv : D → D → Bool
  | .non, .non => true
  | .bl a, .bl b => a == b
  | .bl a, .int j => (if a then 1 else 0) == j
  | .int i, .bl b => i == (if b then 1 else 0)
  | .int a, .int b => a == b
  | .str a, .str b => a == b
  | .tup a, .tup b => D.eqvL a b
  | .lst a, .lst b => D.eqvL a b
  | _, _ => false
def D.eqvL : List D → List D → Bool
  | [], [] => true
  | a :: as, b :: bs => D.eqv a b && D.eqvL as bs
  | _, _ => false
end
/-- a shared list as it stands -/
def seen (μ : Mu) : D → D
  | .loc n => match μ[n]? with
    | some (.lst l) => .lst l
    | _ => .loc n
  | d => d
/-- a list, a tuple or a dict -/
def isBox (μ : Mu) : D → Bool
  | .tup _ => true
  | .lst _ => true
  | .loc n => match μ[n]? with
    | some (.lst _) => true
    | some (.dct _) => true
    | _ => false
  | _ => false
def isTxt : D → Bool
  | .str _ => true
  | _ => false
def eqD (μ : Mu) (a b : D) : Option Bool :=
  if (seen μ a).flat && (seen μ b).flat && decide (min (seen μ a).depth (seen μ b).depth ≤ 64) then some ((seen μ a).eqv (seen μ b)) else if isBox μ a && isTxt b then some false else none

inductive BOp | add | sub | mul | fdiv | mod | pow
deriving DecidableEq, Inhabited
inductive COp | eq | ne | lt | le | gt | ge | isN | notN | in_ | nin
deriving DecidableEq, Inhabited

/-- two ints -/
def i2 {α : Type} (a b : D) (f : Int → Int → Option α) : Option α := match a, b with
  | .int i, .int j => f i j
  | _, _ => none
def addD (μ : Mu) (a b : D) : Option D := match a, b with
  | .int i, .int j => some (.int (i + j))
  | .str s, .str t => if s.length + t.length ≤ lim then some (.str (s ++ t)) else none
  | .tup s, .tup t => if s.length + t.length ≤ lim then some (.tup (s ++ t)) else none
  | a, b => match lstOf μ a, lstOf μ b with
    | some s, some t => if s.length + t.length ≤ lim then some (.lst (s ++ t)) else none
    | _, _ => none
/-- an int, or a text so many times -/
def mulD (a b : D) : Option D := match a, b with
  | .int i, .int j => if i.natAbs.log2 + j.natAbs.log2 < 1000000 then some (.int (i * j)) else none
  | .str s, .int j => if -(2 ^ 62) ≤ j ∧ j < 2 ^ 62 ∧ s.length * j.toNat ≤ lim then some (.str (List.replicate j.toNat s).flatten) else none
  | .tup l, .int j => if -(2 ^ 62) ≤ j ∧ j ≤ 1000 ∧ l.length ≤ 1000 then some (.tup (List.replicate j.toNat l).flatten) else none
  | _, _ => none
def binD (o : BOp) (μ : Mu) (a b : D) : Option D := match o with
  | .add => addD μ a b
  | .sub => i2 a b fun i j => some (.int (i - j))
  | .mul => mulD a b
  | .fdiv => i2 a b fun i j => if 0 < j ∧ j.natAbs.log2 < 9000 then some (.int (i / j)) else none
  | .mod => i2 a b fun i j => if 0 < j then some (.int (i % j)) else none
  | .pow => i2 a b fun i j => if 0 ≤ j ∧ j ≤ 1000000 ∧ i.natAbs < 2 ^ 64 then some (.int (i ^ j.toNat)) else none

/-- x in a row: x equals one of it; the first equal one ends the look -/
def inD (μ : Mu) (a b : D) : Option Bool := match b with
  | .str t => match a with
    | .str [c] => some (t.contains c)
    | _ => none
  | b => match seqOf μ b with
    | some l => if a.flat && D.flatL l && decide (a.depth ≤ 64) then some (l.any fun x => x.eqv a) else none
    | none => if isKT a then (dttAt μ b).map fun nl => (lookD nl.2 a).isSome else match dctAt μ b with
      | some nl => if isKey a then some (lookD nl.2 a).isSome else none
      | none => none
/-- two ints or two texts -/
def ordD (fi : Int → Int → Bool) (fs : Txt → Txt → Bool) (a b : D) : Option Bool := match a, b with
  | .int i, .int j => some (fi i j)
  | .str s, .str t => some (fs s t)
  | _, _ => none
/-- is None; is of two truths -/
def isD (a b : D) : Option Bool := match b, a with
  | .non, a => some (decide (a = .non))
  | .bl y, .bl x => some (decide (x = y))
  | _, _ => none
def cmpD (o : COp) (μ : Mu) (a b : D) : Option Bool := match o with
  | .eq => eqD μ a b
  | .ne => (eqD μ a b).map (!·)
  | .lt => ordD (fun i j => decide (i < j)) (fun s t => decide (s < t)) a b
  | .le => ordD (fun i j => decide (i ≤ j)) (fun s t => !decide (t < s)) a b
  | .gt => ordD (fun i j => decide (j < i)) (fun s t => decide (t < s)) a b
  | .ge => ordD (fun i j => decide (j ≤ i)) (fun s t => !decide (s < t)) a b
  | .isN => isD a b
  | .notN => (isD a b).map (!·)
  | .in_ => inD μ a b
  | .nin => (inD μ a b).map (!·)

/-- a place of a row, from the end where it is below 0 -/
def ixZ (n : Nat) (i : Int) : Option Nat := if 0 ≤ i then (if i < n then some i.toNat else none) else if -(n : Int) ≤ i then some (i + n).toNat else none
def atZ {α : Type} (l : List α) (i : Int) : Option α := (ixZ l.length i).bind fun k => l[k]?
def idxD (μ : Mu) (a i : D) : Option D := match a, i with
  | .str s, .int i => if s.length ≤ lim then (atZ s i).map fun c => .str [c] else none
  | a, .int i => match seqOf μ a with
    | some l => atZ l i
    | none => (dctAt μ a).bind fun nl => lookD nl.2 (.int i)
  | a, .str s => (dctAt μ a).bind fun nl => lookD nl.2 (.str s)
  | a, .tup k => if isKT (.tup k) then (dttAt μ a).bind fun nl => lookD nl.2 (.tup k) else none
  | _, _ => none
/-- a bound of a slice -/
def cutZ (n d : Nat) : Option Int → Nat
  | none => d
  | some v => if v < 0 then (v + (n : Int)).toNat else min v.toNat n
def cutL {α : Type} (l : List α) (lo hi : Option Int) : List α := (l.drop (cutZ l.length 0 lo)).take (cutZ l.length l.length hi - cutZ l.length 0 lo)
def slcD (μ : Mu) (a : D) (lo hi : Option Int) : Option D := match a with
  | .str s => if s.length ≤ lim then some (.str (cutL s lo hi)) else none
  | .tup l => some (.tup (cutL l lo hi))
  | a => match lstOf μ a with
    | some l => some (.lst (cutL l lo hi))
    | none => none

/-! ### built-ins and methods -/
inductive Ty | int | bool | str | tuple | list | dict | obj (c : Nat)
deriving DecidableEq, Inhabited
inductive Bi | len | tuple | list | min2 | max2 | int | str | all | any | sum | abs | isin (t : Ty) | lenset | divmod | tupRg | lstRg | maxL | isTL | ord
deriving DecidableEq, Inhabited
inductive Me | append | extend | pop | popAt | index | join | insert | reverse
deriving DecidableEq, Inhabited

def kindIs (μ : Mu) (t : Ty) : D → Option Bool
  | .non => some false
  | .bl _ => some (t == .bool || t == .int)
  | .int _ => some (t == .int)
  | .str _ => some (t == .str)
  | .tup _ => some (t == .tuple)
  | .lst _ => some (t == .list)
  | .loc n => match μ[n]? with
    | some (.lst _) => some (t == .list)
    | some (.dct _) => some (t == .dict)
    | _ => none
  | .fn _ _ => none
def boolsOf : List D → Option (List Bool)
  | [] => some []
  | .bl b :: r => (boolsOf r).map (b :: ·)
  | _ :: _ => none
def intsOf : List D → Option (List Int)
  | [] => some []
  | .int b :: r => (intsOf r).map (b :: ·)
  | _ :: _ => none
def strsOf : List D → Option (List Txt)
  | [] => some []
  | .str b :: r => (strsOf r).map (b :: ·)
  | _ :: _ => none
/-- the unlike ones, behind those that are there -/
def unl : List Txt → List Txt → List Txt
  | σ, [] => σ
  | σ, s :: r => unl (if σ.contains s then σ else σ ++ [s]) r
/-- how many unlike ones -/
def unlike (l : List Txt) : Nat := (unl [] l).length
def numT (n : Nat) : Txt := (Nat.toDigits 10 n).map Char.toNat
def joinT (s : Txt) : List Txt → Txt
  | [] => []
  | [p] => p
  | p :: q :: r => p ++ (s ++ joinT s (q :: r))
def d1 {α : Type} (args : List D) (f : D → Option α) : Option α := match args with
  | [a] => f a
  | _ => none
def d2 {α : Type} (args : List D) (f : D → D → Option α) : Option α := match args with
  | [a, b] => f a b
  | _ => none
def tupleD (μ : Mu) (a : D) : Option D := match a with
  | .tup l => some (.tup l)
  | a => (lstOf μ a).map .tup
/-- figures, and what they tell -/
def digB (s : Txt) : Bool := s.all fun c => decide (48 ≤ c) && decide (c ≤ 57)
def digV (s : Txt) : Nat := s.foldl (fun n c => n * 10 + (c - 48)) 0
def intD (a : D) : Option D := match a with
  | .int i => some (.int i)
  | .bl b => some (.int (if b then 1 else 0))
  | .str s => if digB s = true ∧ s ≠ [] ∧ s.length ≤ 640 then some (.int (digV s)) else none
  | _ => none
def strD (a : D) : Option D := match a with
  | .int i => if 0 ≤ i ∧ i.natAbs.log2 < 1920 then some (.str (numT i.toNat)) else none
  | _ => none
def absD (a : D) : Option D := match a with
  | .int i => some (.int (if i < 0 then -i else i))
  | _ => none
/-- the ints lo, lo + 1, .. -/
def rngL (lo : Int) (n : Nat) : List D := (List.range n).map fun (i : Nat) => D.int (lo + i)
def rgD (f : List D → D) (a : D) : Option D := match a with
  | .int j => if -(2 ^ 62) ≤ j ∧ j ≤ 16777216 then some (f (rngL 0 j.toNat)) else none
  | _ => none
def signOf (o : D) : Option Nat := match o with
  | .str [c] => some c
  | _ => none
def biD (b : Bi) (μ : Mu) (args : List D) : Option D := match b with
  | .len => d1 args fun a => (lenD μ a).map .int
  | .tuple => d1 args (tupleD μ)
  | .list => d1 args fun a => (seqOf μ a).map .lst
  | .min2 => d2 args fun a b => i2 a b fun i j => some (.int (if j < i then j else i))
  | .max2 => d2 args fun a b => i2 a b fun i j => some (.int (if j > i then j else i))
  | .int => d1 args intD
  | .str => d1 args strD
  | .all => d1 args fun a => (lstOf μ a).bind fun l => (boolsOf l).map fun bs => .bl (bs.all id)
  | .any => d1 args fun a => (lstOf μ a).bind fun l => (boolsOf l).map fun bs => .bl (bs.any id)
  | .sum => d1 args fun a => (lstOf μ a).bind fun l => (intsOf l).map fun bs => .int bs.sum
  | .abs => d1 args absD
  | .isin t => d1 args fun a => (kindIs μ t a).map .bl
  | .lenset => d1 args fun a => (seqOf μ a).bind fun l => (strsOf l).bind fun ss => if ss.length < 4000 then some (.int (unlike ss)) else none
  | .divmod => d2 args fun a b => i2 a b fun i j => if 0 < j ∧ j < 1073741824 then some (.tup [.int (i / j), .int (i % j)]) else none
  | .tupRg => d1 args (rgD .tup)
  | .lstRg => d1 args (rgD .lst)
  | .maxL => d1 args fun a => (lstOf μ a).bind fun l => (intsOf l).bind fun is => match is with
    | [] => none
    | i :: r => some (.int (r.foldl (fun m x => if m < x then x else m) i))
  | .isTL => d1 args fun a => (kindIs μ .tuple a).bind fun b => (kindIs μ .list a).map fun c => .bl (b || c)
  | .ord => d1 args fun a => (signOf a).map fun (c : Nat) => D.int (c : Int)

/-- where a text stands in another one first (one sign) -/
def indexT (t : Txt) (c : Nat) : Option Nat := t.findIdx? (· == c)
/-- what a method is called on -/
def meTy (m : Me) (μ : Mu) (o : D) : Bool := match m with
  | .index => (match o with | .str _ => true | _ => false)
  | .join => (match o with | .str _ => true | _ => false)
  | _ => (match o with | .loc n => (match μ[n]? with | some (.lst _) => true | _ => false) | _ => false)
/-- the list at a shared place -/
def lstAt (μ : Mu) (o : D) : Option (Nat × List D) := match o with
  | .loc n => match μ[n]? with
    | some (.lst l) => some (n, l)
    | _ => none
  | _ => none
def strOf (o : D) : Option Txt := match o with
  | .str s => some s
  | _ => none
def intOf (o : D) : Option Int := match o with
  | .int i => some i
  | _ => none
/-- an item of a dict is set -/
def setDD (μ : Mu) (x y v : D) : Option Mu := if isKT y = true then (dttAt μ x).bind fun nl => if nl.2.length < lim then some (μ.set nl.1 (.dtt (putD nl.2 y v))) else none
  else (dctAt μ x).bind fun nl => if isKey y = true ∧ nl.2.length < lim then some (μ.set nl.1 (.dct (putD nl.2 y v))) else none
/-- an item of a list, of a dict is set -/
def setD (μ : Mu) (x y v : D) : Option Mu := match lstAt μ x with
  | some nl => (intOf y).bind fun j => (ixZ nl.2.length j).map fun k => μ.set nl.1 (.lst (nl.2.set k v))
  | none => setDD μ x y v
/-- put in at a place, or at the end -/
def insL (l : List D) (i : Int) (x : D) : List D := l.take i.toNat ++ [x] ++ l.drop i.toNat
/-- a row in the stead of a part of a list -/
def setSl (l : List D) (lo hi : Option Int) (r : List D) : List D := l.take (cutZ l.length 0 lo) ++ r ++ l.drop (max (cutZ l.length 0 lo) (cutZ l.length l.length hi))
def setSlD (μ : Mu) (x : D) (lo hi : Option Int) (v : D) : Option Mu := (lstAt μ x).bind fun nl => (lstOf μ v).bind fun r => if nl.2.length + r.length ≤ lim then some (μ.set nl.1 (.lst (setSl nl.2 lo hi r))) else none
/-- what a method gives, and the list that it leaves -/
def meD (m : Me) (μ : Mu) (o : D) (args : List D) : Res D := match m with
  | .append => match lstAt μ o, args with
    | some (n, l), [x] => if l.length < lim then .ok .non (μ.set n (.lst (l ++ [x]))) else .no
    | _, _ => .no
  | .extend => match lstAt μ o, d1 args (seqOf μ) with
    | some (n, l), some r => if l.length + r.length ≤ lim then .ok .non (μ.set n (.lst (l ++ r))) else .no
    | _, _ => .no
  | .pop => match lstAt μ o, args with
    | some (n, l), [] => match l[l.length - 1]? with
      | some x => .ok x (μ.set n (.lst l.dropLast))
      | none => .no
    | _, _ => .no
  | .popAt => match lstAt μ o, d1 args intOf with
    | some (n, l), some i => match ixZ l.length i with
      | some k => match l[k]? with
        | some x => .ok x (μ.set n (.lst (l.eraseIdx k)))
        | none => .no
      | none => .no
    | _, _ => .no
  | .index => match strOf o, d1 args signOf with
    | some s, some c => Res.of ((indexT s c).map fun (k : Nat) => .int k) μ
    | _, _ => .no
  | .insert => match lstAt μ o, d2 args fun i x => (intOf i).map fun i => (i, x) with
    | some (n, l), some (i, x) => if l.length < lim ∧ 0 ≤ i ∧ i < 2 ^ 62 then .ok .non (μ.set n (.lst (insL l i x))) else .no
    | _, _ => .no
  | .reverse => match lstAt μ o, args with
    | some (n, l), [] => .ok .non (μ.set n (.lst l.reverse))
    | _, _ => .no
  | .join => match strOf o, (d1 args (seqOf μ)).bind strsOf with
    | some s, some ss => if (ss.map List.length).sum + ss.length * s.length ≤ lim then .ok (.str (joinT s ss)) μ else .no
    | _, _ => .no

/-! ### objects -/
/-- the object of the class c: its place, its fields -/
def objAt (μ : Mu) (c : Nat) (d : D) : Option (Nat × List (Nat × D)) := match d with
  | .loc n => match μ[n]? with
    | some (.obj c' fs) => if c' = c then some (n, fs) else none
    | _ => none
  | _ => none
/-- a field is set -/
def putFd (a : Nat) (d : D) : List (Nat × D) → List (Nat × D)
  | [] => [(a, d)]
  | (b, x) :: r => if b = a then (b, d) :: r else (b, x) :: putFd a d r
def fldD (μ : Mu) (c a : Nat) (d : D) : Option D := (objAt μ c d).bind fun p => p.2.lookup a
def setFd (μ : Mu) (c a : Nat) (o v : D) : Option Mu := (objAt μ c o).bind fun p => if p.2.length < 1000 then some (μ.set p.1 (.obj c (putFd a v p.2))) else none

/-- a dict of pairs -/
def dictPD (μ : Mu) (x : D) : Option Cell := (lstOf μ x).bind fun l => (pairsD l).bind fun ps => if l.length < 4000 then (if ps.all (fun p => isKey p.1) = true then some (.dct (mergeD ps)) else if ps.all (fun p => isKT p.1) = true then some (.dtt (mergeD ps)) else none) else none
/-! ### syntax -/
/-- a target -/
inductive T where
  | nm (i : Nat) | tp (l : List T)
deriving Inhabited
/-- what is walked -/
inductive IK | seq | rng1 | rng2 | rng3 | enum | zip2 | rev
deriving DecidableEq, Inhabited
inductive E where
  | var (i : Nat) | con (d : D) | glo (k : Nat)
  | bin (o : BOp) (a b : E) | neg (a : E)
  | cmp (o : COp) (a b : E) | cmp2 (o o' : COp) (a b c : E)
  | and_ (a b : E) | or_ (a b : E) | not_ (a : E) | ite (c a b : E)
  | tup (es : List E) | lst (m : Bool) (es : List E) | cat (a b : E) | lrep (es : List E) (n : E)
  | idx (a i : E) | slc (a : E) (lo hi : Option E)
  | call (f : Nat) (es : List E) | bi (b : Bi) (es : List E) | me (m : Me) (o : E) (es : List E)
  | comp (m : Bool) (own : List Nat) (elt : E) (t : T) (k : IK) (src : List E) (c : Option E)
  | dict0 | dictP (e : E) | dictL (ks : List D) (es : List E) | mlst (e : E)
  | zipL (a b : E) | fnv (k : Nat) | tget (nm : Nat) (tab : List (Txt × D)) (k : E) (d : E) | callv (i : Nat) (es : List E) | callL (f : Nat) (es : List E) (k : Nat) (caps : List Nat)
  | new (c f : Nat) (es : List E) | fld (c a : Nat) (o : E) | meth (c f : Nat) (o : E) (es : List E)
deriving Inhabited
inductive S where
  | expr (e : E) | ret (e : E) | retN | asg (t : T) (e : E) | setIdx (o i e : E)
  | setSlc (o : E) (lo hi : Option E) (e : E) | setFld (c a : Nat) (o e : E) | augFld (c a : Nat) (o e : E)
  | raise_ (c : Nat) | try_ (b : List S) (yes no : List Nat) (h : List S) | tryA (b : List S) (i c : Nat) (no : List Nat) (h : List S)
  | if_ (c : E) (a b : List S) | while_ (kill : List Nat) (c : E) (b : List S) | for_ (kill : List Nat) (t : T) (k : IK) (src : List E) (b : List S)
  | pass | brk | cont
deriving Inhabited

/-! ### the evaluator -/
abbrev Rho := List (Option D)
mutual
def T.put : T → D → Rho → Option Rho
  | .nm i, d, ρ => some (ρ.set i (some d))
  | .tp ts, d, ρ => match d with
    | .tup l => T.putL ts l ρ
    | _ => none
def T.putL : List T → List D → Rho → Option Rho
  | [], [], ρ => some ρ
  | t :: ts, d :: ds, ρ => (T.put t d ρ).bind fun ρ' => T.putL ts ds ρ'
  | _, _, _ => none
end
mutual
/-- the names of a target -/
def T.vars : T → List Nat
  | .nm i => [i]
  | .tp ts => T.varsL ts
def T.varsL : List T → List Nat
  | [] => []
  | t :: ts => T.vars t ++ T.varsL ts
end
def wipeR (ρ : Rho) : List Nat → Rho
  | [] => ρ
  | v :: vs => (wipeR ρ vs).set v none
/-- i, i + c, .. (n of them) -/
def stpL (i c : Int) (n : Nat) : List D := (List.range n).map fun k => .int (i + (k : Nat) * c)
def enumFrom : Nat → List D → List D
  | _, [] => []
  | i, d :: r => .tup [.int i, d] :: enumFrom (i + 1) r
/-- a shared list, as it is -/
def ownL (l : List D) : D → List (Nat × List D)
  | .loc n => [(n, l)]
  | _ => []
/-- what is walked, and the shared lists that must stay as they are -/
def itemsD (k : IK) (μ : Mu) (src : List D) : Option (List D × List (Nat × List D)) := match k, src with
  | .seq, [.tup l] => some (l, [])
  | .seq, [.lst l] => some (l, [])
  | .seq, [.str s] => some (s.map fun c => .str [c], [])
  | .seq, [.loc n] => match μ[n]? with
    | some (.lst l) => some (l, [(n, l)])
    | _ => none
  | .rng1, [.int j] => if -(2 ^ 62) ≤ j ∧ j < 2 ^ 62 then some (rngL 0 j.toNat, []) else none
  | .rng2, [.int i, .int j] => if -(2 ^ 62) ≤ i ∧ i < 2 ^ 62 ∧ -(2 ^ 62) ≤ j ∧ j < 2 ^ 62 then some (rngL i (j - i).toNat, []) else none
  | .rng3, [.int i, .int j, .int c] => if -(2 ^ 61) ≤ i ∧ i < 2 ^ 61 ∧ -(2 ^ 61) ≤ j ∧ j < 2 ^ 61 ∧ 1 ≤ c ∧ c < 1000000 then some (stpL i c (if i < j then ((j - i - 1) / c + 1).toNat else 0), []) else none
  | .enum, [.tup l] => some (enumFrom 0 l, [])
  | .enum, [.lst l] => some (enumFrom 0 l, [])
  | .enum, [.loc n] => match μ[n]? with
    | some (.lst l) => some (enumFrom 0 l, [(n, l)])
    | _ => none
  | .zip2, [a, b] => match lstOf μ a, lstOf μ b with
    | some l, some r => some ((l.zip r).map fun p => .tup [p.1, p.2], ownL l a ++ ownL r b)
    | _, _ => match a, b with
      | .tup l, .tup r => some ((l.zip r).map fun p => .tup [p.1, p.2], [])
      | _, _ => none
  | .rev, [a] => (seqOf μ a).map fun l => (l.reverse, ownL l a)
  | _, _ => none
def stays (μ : Mu) (g : List (Nat × List D)) : Bool := g.all fun p => decide (μ[p.1]? = some (.lst p.2))

/-- how a statement ends -/
inductive Out where
  | nx (ρ : Rho) (μ : Mu) | rt (d : D) (μ : Mu) | bk (ρ : Rho) (μ : Mu) | ct (ρ : Rho) (μ : Mu) | ex (x : Ex) (ρ : Rho) (μ : Mu) | no
deriving Inhabited
def Res.out {α : Type} (r : Res α) (ρ : Rho) (f : α → Mu → Out) : Out := match r with
  | .ok a μ => f a μ
  | .ex x μ => .ex x ρ μ
  | .no => .no
@[simp] theorem Res.out_ok {α : Type} (a : α) (μ : Mu) (ρ : Rho) (f : α → Mu → Out) : (Res.ok a μ).out ρ f = f a μ := rfl
@[simp] theorem Res.out_ex {α : Type} (x : Ex) (μ : Mu) (ρ : Rho) (f : α → Mu → Out) : (Res.ex x μ).out ρ f = .ex x ρ μ := rfl
@[simp] theorem Res.out_no {α : Type} (ρ : Rho) (f : α → Mu → Out) : (Res.no).out ρ f = .no := rfl
/-- a comprehension's turns -/
def compL (g : List (Nat × List D)) (turn : D → Mu → Res (Option D)) : List D → List D → Mu → Res (List D)
  | [], acc, μ => if stays μ g then .ok acc μ else .no
  | d :: r, acc, μ => if stays μ g && decide (acc.length < lim) then (turn d μ).bind fun o μ' => compL g turn r (match o with | some x => acc ++ [x] | none => acc) μ' else .no
/-- a for's turns -/
def forL (g : List (Nat × List D)) (kill : List Nat) (turn : D → Rho → Mu → Out) : List D → Rho → Mu → Out
  | [], ρ, μ => if stays μ g then .nx (wipeR ρ kill) μ else .no
  | d :: r, ρ, μ => if stays μ g then match turn d (wipeR ρ kill) μ with
    | .nx ρ' μ' => forL g kill turn r ρ' μ'
    | .ct ρ' μ' => forL g kill turn r ρ' μ'
    | .bk ρ' μ' => .nx ρ' μ'
    | o => o
    else .no
def whileL (kill : List Nat) (test : Rho → Mu → Res Bool) (body : Rho → Mu → Out) : Nat → Rho → Mu → Out
  | 0, _, _ => .no
  | n + 1, ρ, μ => (test (wipeR ρ kill) μ).out (wipeR ρ kill) fun b μ' => if b then match body (wipeR ρ kill) μ' with
    | .nx ρ2 μ2 => whileL kill test body n ρ2 μ2
    | .ct ρ2 μ2 => whileL kill test body n ρ2 μ2
    | .bk ρ2 μ2 => .nx ρ2 μ2
    | o => o
    else .nx (wipeR ρ kill) μ'
/-- more turns than any while here takes -/
def manyTurns : Nat := 10 ^ 9

/-- a new list so many times -/
def lrepD (l : List D) (y : D) : Option D := match y with
  | .int j => if -(2 ^ 62) ≤ j ∧ j < 2 ^ 62 ∧ l.length * j.toNat ≤ lim then some (.lst (List.replicate j.toNat l).flatten) else none
  | _ => none
/-- numbers of lambdas, and of calls with a lambda, stand above -/
def LB : Nat := 1000000
/-- at this number stands whether a lambda may be made -/
def LK : Nat := 999999
/-- what a lambda takes along -/
def capt (ρ : Rho) : List Nat → Option (List D)
  | [] => some []
  | i :: r => match ρ[i]? with
    | some (some d) => (capt ρ r).map (d :: ·)
    | _ => none
/-- an expression: as a value, as a test -/
abbrev EvP : Type := (Rho → Mu → Res D) × (Rho → Mu → Res Bool)
def truP (m : Rho → Mu → Res D) : EvP := (m, fun ρ μ => (m ρ μ).bind fun x μ => Res.of (truthD μ x) μ)
section
variable (G : Nat → Option D) (call : Nat → List D → Mu → Res D)
mutual
def evP : E → EvP
  | .var i => truP fun ρ μ => match ρ[i]? with
    | some (some d) => .ok d μ
    | _ => .no
  | .con d => truP fun _ μ => .ok d μ
  | .glo k => truP fun _ μ => Res.of (G k) μ
  | .bin o a b => truP fun ρ μ => ((evP a).1 ρ μ).bind fun x μ => ((evP b).1 ρ μ).bind fun y μ => Res.of (binD o μ x y) μ
  | .neg a => truP fun ρ μ => ((evP a).1 ρ μ).bind fun x μ => match x with
    | .int i => .ok (.int (-i)) μ
    | _ => .no
  | .cmp o a b => truP fun ρ μ => ((evP a).1 ρ μ).bind fun x μ => ((evP b).1 ρ μ).bind fun y μ => Res.of ((cmpD o μ x y).map .bl) μ
  | .cmp2 o o' a b c => truP fun ρ μ => ((evP a).1 ρ μ).bind fun x μ => ((evP b).1 ρ μ).bind fun y μ => (Res.of (cmpD o μ x y) μ).bind fun k μ =>
      if k then ((evP c).1 ρ μ).bind fun z μ => Res.of ((cmpD o' μ y z).map .bl) μ else .ok (.bl false) μ
  | .and_ a b => (fun ρ μ => ((evP a).1 ρ μ).bind fun x μ => (Res.of (truthD μ x) μ).bind fun k μ => if k then (evP b).1 ρ μ else .ok x μ,
      fun ρ μ => ((evP a).2 ρ μ).bind fun k μ => if k then (evP b).2 ρ μ else .ok false μ)
  | .or_ a b => (fun ρ μ => ((evP a).1 ρ μ).bind fun x μ => (Res.of (truthD μ x) μ).bind fun k μ => if k then .ok x μ else (evP b).1 ρ μ,
      fun ρ μ => ((evP a).2 ρ μ).bind fun k μ => if k then .ok true μ else (evP b).2 ρ μ)
  | .not_ a => (fun ρ μ => ((evP a).1 ρ μ).bind fun x μ => Res.of ((truthD μ x).map fun k => .bl (!k)) μ,
      fun ρ μ => ((evP a).2 ρ μ).bind fun k μ => .ok (!k) μ)
  | .ite c a b => truP fun ρ μ => ((evP c).2 ρ μ).bind fun k μ => if k then (evP a).1 ρ μ else (evP b).1 ρ μ
  | .tup es => truP fun ρ μ => (evEs es ρ μ).bind fun ds μ => if ds.length ≤ lim then .ok (.tup ds) μ else .no
  | .lst m es => truP fun ρ μ => (evEs es ρ μ).bind fun ds μ => if ds.length ≤ lim then (if m then .ok (.loc μ.length) (μ ++ [.lst ds]) else .ok (.lst ds) μ) else .no
  | .cat a b => truP fun ρ μ => ((evP a).1 ρ μ).bind fun x μ => ((evP b).1 ρ μ).bind fun y μ => match lstOf μ x, lstOf μ y with
    | some s, some t => if s.length + t.length ≤ lim then .ok (.loc μ.length) (μ ++ [.lst (s ++ t)]) else .no
    | _, _ => .no
  | .lrep es a => truP fun ρ μ => (evEs es ρ μ).bind fun ds μ => if ds.length ≤ lim then ((evP a).1 ρ μ).bind fun y μ => Res.of (lrepD ds y) μ else .no
  | .idx a i => truP fun ρ μ => ((evP a).1 ρ μ).bind fun x μ => ((evP i).1 ρ μ).bind fun y μ => Res.of (idxD μ x y) μ
  | .slc a lo hi => truP fun ρ μ => ((evP a).1 ρ μ).bind fun x μ => (evO lo ρ μ).bind fun l μ => (evO hi ρ μ).bind fun h μ => Res.of (slcD μ x l h) μ
  | .call f es => truP fun ρ μ => (evEs es ρ μ).bind fun ds μ => call f ds μ
  | .bi b es => truP fun ρ μ => (evEs es ρ μ).bind fun ds μ => Res.of (biD b μ ds) μ
  | .me m o es => truP fun ρ μ => ((evP o).1 ρ μ).bind fun x μ => if meTy m μ x then (evEs es ρ μ).bind fun ds μ => meD m μ x ds else .no
  | .comp m own elt t k src c => truP fun ρ μ => (evEs src ρ μ).bind fun ss μ => match itemsD k μ ss with
    | some (l, g) => (compL g (fun d μ => match t.put d (wipeR ρ own) with
        | some ρ' => (evC c ρ' μ).calm.bind fun b μ => if b then ((evP elt).1 ρ' μ).calm.bind fun x μ => .ok (some x) μ else .ok none μ
        | none => .no) l [] μ).bind fun xs μ => if m then .ok (.loc μ.length) (μ ++ [.lst xs]) else .ok (.lst xs) μ
    | none => .no
  | .dict0 => truP fun _ μ => .ok (.loc μ.length) (μ ++ [.dct []])
  | .dictP e => truP fun ρ μ => ((evP e).1 ρ μ).bind fun x μ => match dictPD μ x with
    | some c => .ok (.loc μ.length) (μ ++ [c])
    | none => .no
  | .dictL ks es => truP fun ρ μ => (evEs es ρ μ).bind fun ds μ => if ks.length = ds.length ∧ ks.all isKey = true ∧ ks.length < 100 then .ok (.loc μ.length) (μ ++ [.dct (mergeD (ks.zip ds))]) else .no
  | .mlst e => truP fun ρ μ => ((evP e).1 ρ μ).bind fun x μ => match seqOf μ x with
    | some l => .ok (.loc μ.length) (μ ++ [.lst l])
    | none => .no
  | .zipL a b => truP fun ρ μ => ((evP a).1 ρ μ).bind fun x μ => ((evP b).1 ρ μ).bind fun y μ => Res.of ((itemsD .zip2 μ [x, y]).map fun lg => .lst lg.1) μ
  | .fnv k => truP fun _ μ => .ok (.fn k []) μ
  | .tget _ tab k d => truP fun ρ μ => ((evP k).1 ρ μ).bind fun x μ => ((evP d).1 ρ μ).bind fun y μ => Res.of ((strOf x).map fun s => (tab.lookup s).getD y) μ
  | .callv i es => truP fun ρ μ => match ρ[i]? with
    | some (some (.fn k l)) => (evEs es ρ μ).bind fun ds μ => call k (ds ++ l) μ
    | _ => .no
  | .callL f es k caps => truP fun ρ μ => (evEs es ρ μ).bind fun ds μ => match capt ρ caps with
    | some cs => call (f + LB) (ds ++ [.fn k cs]) μ
    | none => .no
  | .new c f es => truP fun ρ μ => (evEs es ρ μ).bind fun ds μ => (call f (.loc μ.length :: ds) (μ ++ [.obj c []])).bind fun r μ' => if r = .non then .ok (.loc μ.length) μ' else .no
  | .fld c a o => truP fun ρ μ => ((evP o).1 ρ μ).bind fun x μ => Res.of (fldD μ c a x) μ
  | .meth c f o es => truP fun ρ μ => ((evP o).1 ρ μ).bind fun x μ => if (objAt μ c x).isSome then (evEs es ρ μ).bind fun ds μ => call f (x :: ds) μ else .no
def evEs : List E → Rho → Mu → Res (List D)
  | [] => fun _ μ => .ok [] μ
  | e :: es => fun ρ μ => ((evP e).1 ρ μ).bind fun x μ => (evEs es ρ μ).bind fun xs μ => .ok (x :: xs) μ
def evO : Option E → Rho → Mu → Res (Option Int)
  | none => fun _ μ => .ok none μ
  | some e => fun ρ μ => ((evP e).1 ρ μ).bind fun x μ => match x with
    | .int i => .ok (some i) μ
    | _ => .no
def evC : Option E → Rho → Mu → Res Bool
  | none => fun _ μ => .ok true μ
  | some e => (evP e).2
end
abbrev evE (e : E) : Rho → Mu → Res D := (evP G call e).1
abbrev evT (e : E) : Rho → Mu → Res Bool := (evP G call e).2
/-- slot i is gone -/
def Out.kill (i : Nat) : Out → Out
  | .nx ρ μ => .nx (ρ.set i none) μ
  | .bk ρ μ => .bk (ρ.set i none) μ
  | .ct ρ μ => .ct (ρ.set i none) μ
  | .rt d μ => .rt d μ
  | _ => .no
/-- try: .. except .. as i: ..; the suite for class c -/
def evTryA (i c : Nat) (no : List Nat) (ob oh : Rho → Mu → Out) : Rho → Mu → Out := fun ρ μ => match ob ρ μ with
  | .ex x ρ' μ' => if x.cls = c then (if i < ρ'.length then (oh (ρ'.set i none) μ').kill i else .no) else if x.cls ∈ no then .ex x ρ' μ' else .no
  | o => o
mutual
def exS : S → Rho → Mu → Out
  | .expr e, ρ, μ => (evE G call e ρ μ).out ρ fun _ μ => .nx ρ μ
  | .ret e, ρ, μ => (evE G call e ρ μ).out ρ fun d μ => .rt d μ
  | .retN, _, μ => .rt .non μ
  | .asg t e, ρ, μ => (evE G call e ρ μ).out ρ fun d μ => match t.put d ρ with
    | some ρ' => .nx ρ' μ
    | none => .no
  | .setIdx o i e, ρ, μ => (evE G call e ρ μ).out ρ fun v μ => (evE G call o ρ μ).out ρ fun x μ => (evE G call i ρ μ).out ρ fun y μ => match setD μ x y v with
    | some μ' => .nx ρ μ'
    | none => .no
  | .setSlc o lo hi e, ρ, μ => (evE G call e ρ μ).out ρ fun v μ => (evE G call o ρ μ).out ρ fun x μ => (evO G call lo ρ μ).out ρ fun l μ => (evO G call hi ρ μ).out ρ fun h μ => match setSlD μ x l h v with
    | some μ' => .nx ρ μ'
    | none => .no
  | .if_ c a b, ρ, μ => (evT G call c ρ μ).out ρ fun k μ => if k then exSs a ρ μ else exSs b ρ μ
  | .while_ kill c b, ρ, μ => whileL kill (fun ρ μ => evT G call c ρ μ) (fun ρ μ => exSs b ρ μ) manyTurns ρ μ
  | .for_ kill t k src b, ρ, μ => (evEs G call src ρ μ).out ρ fun ss μ => match itemsD k μ ss with
    | some (l, g) => forL g kill (fun d ρ μ => match t.put d ρ with
        | some ρ' => exSs b ρ' μ
        | none => .no) l ρ μ
    | none => .no
  | .pass, ρ, μ => .nx ρ μ
  | .brk, ρ, μ => .bk ρ μ
  | .cont, ρ, μ => .ct ρ μ
  | .setFld c a o e, ρ, μ => (evE G call e ρ μ).out ρ fun v μ => (evE G call o ρ μ).out ρ fun x μ => match setFd μ c a x v with
    | some μ' => .nx ρ μ'
    | none => .no
  | .augFld c a o e, ρ, μ => (evE G call o ρ μ).out ρ fun x μ => (Res.of (fldD μ c a x) μ).out ρ fun u μ => (evE G call e ρ μ).out ρ fun v μ => (Res.of (i2 u v fun i j => some (.int (i + j))) μ).out ρ fun z μ => match setFd μ c a x z with
    | some μ' => .nx ρ μ'
    | none => .no
  | .raise_ c, ρ, μ => .ex ⟨c, .non⟩ ρ μ
  | .try_ b yes no h, ρ, μ => match exSs b ρ μ with
    | .ex x ρ' μ' => if x.cls ∈ yes then exSs h ρ' μ' else if x.cls ∈ no then .ex x ρ' μ' else .no
    | o => o
  | .tryA b i c no h, ρ, μ => evTryA i c no (exSs b) (exSs h) ρ μ
def exSs : List S → Rho → Mu → Out
  | [], ρ, μ => .nx ρ μ
  | s :: ss, ρ, μ => match exS s ρ μ with
    | .nx ρ' μ' => exSs ss ρ' μ'
    | o => o
end
end

/-! ### calls -/
mutual
/-- no shared object from the k-th on -/
def D.closed (k : Nat) : D → Bool
  | .tup l => D.closedL k l
  | .lst l => D.closedL k l
  | .loc n => decide (n < k)
  | .fn _ l => D.closedL k l
  | _ => true
def D.closedL (k : Nat) : List D → Bool
  | [] => true
  | d :: ds => d.closed k && D.closedL k ds
end
def Cell.flat : Cell → Bool
  | .lst l => D.flatL l
  | .dct l => l.all fun p => p.1.flat && p.2.flat
  | .dtt l => l.all fun p => p.1.flat && p.2.flat
  | .obj _ fs => fs.all fun p => p.2.flat
/-- the first k shared objects stand as they stood, or hold plain data -/
def cutOk (k : Nat) (μ0 μ : Mu) : Bool := (List.range k).all fun i => decide (μ[i]? = μ0[i]?) || (match μ[i]? with
  | some c => c.flat
  | none => true)
/-- a def's end: what it made beside the answer goes -/
def fin (μ0 μ : Mu) (d : D) : Res D := if cutOk μ0.length μ0 μ then (match d with
  | .loc n => if n < μ0.length then .ok (.loc n) (μ.take μ0.length) else (match μ[n]? with
    | some (.lst l) => if D.closedL μ0.length l then .ok (.lst l) (μ.take μ0.length) else .no
    | _ => .no)
  | d => if d.closed μ0.length then .ok d (μ.take μ0.length) else .no) else .no
/-- a def: parameters, names, body; fz: what it made goes at its end -/
structure Fn where
  np : Nat
  nn : Nat
  body : List S
  fz : Bool
deriving Inhabited
def ends (fz : Bool) (μ0 : Mu) (o : Out) : Res D := match o with
  | .rt d μ => if fz then fin μ0 μ d else .ok d μ
  | .nx _ μ => if fz then fin μ0 μ .non else .ok .non μ
  | .ex x _ μ => if fz then (if cutOk μ0.length μ0 μ && x.val.closed μ0.length then .ex x (μ.take μ0.length) else .no) else .ex x μ
  | _ => .no
/-- no lambda is made within -/
def noLam (G : Nat → Option D) : Nat → Option D := fun k => if k = LK then none else G k
/-- a call with a lambda leaves all as it was -/
def within (μ0 : Mu) (r : Res D) : Res D := match r with
  | .ok d μ => if d.flat = true ∧ μ = μ0 then .ok d μ else .no
  | .ex x μ => if x.val.flat = true ∧ μ = μ0 then .ex x μ else .no
  | .no => .no
/-- a call of the f-th def, n calls deep at most -/
def run (G : Nat → Option D) (F : Nat → Option Fn) : Nat → Nat → List D → Mu → Res D
  | 0, _, _, _ => .no
  | n + 1, f, args, μ => match F f with
    | some fd => if args.length = fd.np then ends fd.fz μ (exSs G (run G F n) fd.body (args.map some ++ List.replicate (fd.nn - args.length) none) μ) else .no
    | none => if LB ≤ f ∧ (G LK).isSome = true then within μ (run (noLam G) F n (f - LB) args μ) else .no
mutual
theorem flat_closed (k : Nat) : ∀ d : D, d.flat = true → d.closed k = true
  | .non, _ => rfl
  | .bl _, _ => rfl
  | .int _, _ => rfl
  | .str _, _ => rfl
  | .tup l, h => by unfold D.flat at h; unfold D.closed; exact flat_closedL k l h
  | .lst l, h => by unfold D.flat at h; unfold D.closed; exact flat_closedL k l h
  | .loc _, h => by unfold D.flat at h; cases h
  | .fn _ _, h => by unfold D.flat at h; cases h
theorem flat_closedL (k : Nat) : ∀ l : List D, D.flatL l = true → D.closedL k l = true
  | [], _ => rfl
  | d :: ds, h => by
    unfold D.flatL at h
    unfold D.closedL
    rw [Bool.and_eq_true] at h ⊢
    exact ⟨flat_closed k d h.1, flat_closedL k ds h.2⟩
end
end Ev

set_option Elab.async false
set_option linter.all false
set_option maxRecDepth 100000
set_option maxHeartbeats 1000000
/-! How the machine's values and heap bear the evaluator's data and store. -/
namespace Ev
open PySem PySem.Spec PyProof.Rows L2

def sOf (t : Txt) : Str := ⟨t.toArray⟩
theorem sOf_inj {s t : Txt} : sOf s = sOf t ↔ s = t := by
  constructor
  · intro h
    have : s.toArray = t.toArray := congrArg Str.cps h
    simpa using this
  · intro h; rw [h]
theorem sOf_len (s : Txt) : (sOf s).length = s.length := by simp [sOf, Str.length]
theorem sOf_app (s t : Txt) : sOf s ++ sOf t = sOf (s ++ t) := by
  show (Str.append (sOf s) (sOf t)) = _
  simp [sOf, Str.append]
theorem sOf_cps (s : Txt) : (sOf s).cps.toList = s := by simp [sOf]
/-- signs that a text may have -/
def okT (s : Txt) : Bool := s.all fun c => decide (c < 0x110000)
theorem okT_app {s t : Txt} (hs : okT s = true) (ht : okT t = true) : okT (s ++ t) = true := by
  unfold okT at *; rw [List.all_append, hs, ht]; rfl
theorem okT_sub {s t : Txt} (hs : okT s = true) (h : ∀ c ∈ t, c ∈ s) : okT t = true := by
  unfold okT at *
  rw [List.all_eq_true] at *
  intro c hc; exact hs c (h c hc)

/-- a lambda that lives: where it lies, its code, its number, its name, what it took along -/
structure CloI where
  a : Addr
  c : Addr
  k : Nat
  q : Str
  vs : List V
/-- where defs and classes lie; the fields' names; the lambda that lives; the tables of code objects -/
structure Lay where
  w : World
  fn : Nat → Addr
  cl : Nat → Addr
  fld : Nat → Str
  okf : Nat → Bool
  inj : ∀ a b, okf a = true → okf b = true → fld a = fld b → a = b
  clo : Option CloI
  tabs : List (Addr × Str)
  keep : Option (Nat × V)
/-- a slot that the rest must leave alone, as in an except suite the exception's -/
def Lay.hot (fa : Lay) (k : Option (Nat × V)) : Lay := { fa with keep := k }
/-- i may be set -/
def Lay.may (fa : Lay) (i : Nat) : Prop := ∀ v, fa.keep ≠ some (i, v)
/-- what is wished of an exception; .. at slots -/
abbrev EZ := Ex → Hp → Prop
abbrev EW := L2.St → Ex → Hp → Prop
/-- a dict's key -/
def RK : D → L2.Key → Prop
  | .int i, k => k = .inl i
  | .str s, k => k = .inr (sOf s) ∧ okT s = true
  | _, _ => False
mutual
/-- a key as it is -/
def nk : D → NestedKey
  | .int i => .num i
  | .str s => .text (sOf s)
  | .tup l => .tup (nkL l)
  | _ => .none
def nkL : List D → List NestedKey
  | [] => []
  | d :: r => nk d :: nkL r
end
/-- a dict whose keys are tuples: its entries -/
def dtO (w : World) (a : Addr) (kx : List (NestedKey × Addr × Value)) : HO := .ext fun h => kx.length ≤ sizeLine ∧ (a == sysModules) = false ∧
  ∃ o es ep, h.get? a = some o ∧ o.ExactDict ∧ o.data = .dict es ep ∧ es.toList = kx.map (fun x => (⟨x.1.hash w, .ref x.2.1, x.2.2⟩ : DictEntry)) ∧ (kx.map (·.1)).Nodup
/-- where the shared objects lie; what is hidden for now -/
structure Ph where
  sh : List Addr
  hd : List Addr
def Ph.add (φ : Ph) (p : Addr) : Ph := ⟨φ.sh ++ [p], φ.hd⟩
instance : Membership Addr Ph := ⟨fun φ a => a ∈ φ.sh ∨ a ∈ φ.hd⟩
instance (a : Addr) (φ : Ph) : Decidable (a ∈ φ) := inferInstanceAs (Decidable (a ∈ φ.sh ∨ a ∈ φ.hd))
section
variable (K : PySem.W.Frag) (fa : Lay)
mutual
/-- v is d; G is the heap without the shared objects, which stand at φ -/
def RV (G : Hp) (φ : Ph) : D → V → Prop
  | .non, v => v = .non
  | .bl b, v => v = .bl b
  | .int i, v => v = .int i
  | .str s, v => v = .str (sOf s) ∧ okT s = true
  | .tup l, v => ∃ a vs, v = .ref a ∧ SqT K G a vs ∧ RVs G φ l vs
  | .lst l, v => ∃ a vs, v = .ref a ∧ SqL K G a vs ∧ RVs G φ l vs
  | .loc n, v => ∃ a, φ.sh[n]? = some a ∧ v = .ref a
  | .fn k l, v => if k < LB then l = [] ∧ v = .ref (fa.fn k) else ∃ ci, fa.clo = some ci ∧ k = ci.k ∧ v = .ref ci.a ∧ G ci.c = some (LamX.CodeO ci.c ci.q) ∧ RVs G φ l ci.vs
def RVs (G : Hp) (φ : Ph) : List D → List V → Prop
  | [], vs => vs = []
  | d :: ds, vs => ∃ v r, vs = v :: r ∧ RV G φ d v ∧ RVs G φ ds r
end
/-- the heap without the shared objects -/
def msk (H : Hp) (φ : Ph) : Hp := fun a => if a ∈ φ then none else H a
/-- an object's fields -/
def RFs (G : Hp) (φ : Ph) : List (Nat × D) → List (Str × V) → Prop
  | [], vs => vs = []
  | p :: r, vs => ∃ v q, vs = (fa.fld p.1, v) :: q ∧ fa.okf p.1 = true ∧ RV K fa G φ p.2 v ∧ RFs G φ r q
/-- a dict's pairs -/
def RDs (G : Hp) (φ : Ph) : List (D × D) → List (L2.Key × V) → Prop
  | [], vs => vs = []
  | p :: r, vs => ∃ k v q, vs = (k, v) :: q ∧ RK p.1 k ∧ RV K fa G φ p.2 v ∧ RDs G φ r q
/-- the entries of a dict whose keys are tuples -/
def RXs (G : Hp) (φ : Ph) : List (D × D) → List (NestedKey × Addr × Value) → Prop
  | [], xs => xs = []
  | p :: r, xs => ∃ b u v q, xs = (nk p.1, b, u) :: q ∧ isKT p.1 = true ∧ RV K fa G φ p.1 (.ref b) ∧ RelV v u ∧ RV K fa G φ p.2 v ∧ RXs G φ r q
def CellR (G : Hp) (φ : Ph) (H : Hp) (a : Addr) : Cell → Prop
  | .lst l => ∃ vs, H a = some (.lst vs) ∧ RVs K fa G φ l vs
  | .dct l => ∃ kvs, H a = some (.dK kvs) ∧ RDs K fa G φ l kvs
  | .dtt l => ∃ kx, H a = some (dtO fa.w a kx) ∧ RXs K fa G φ l kx
  | .obj c fs => ∃ dx vs, H a = some (.ins (fa.cl c) dx vs) ∧ RFs K fa G φ fs vs
/-- the tables lie hidden; the code objects that they tell -/
def TabM (φ : Ph) (H : Hp) : Prop := ∀ p ∈ fa.tabs, p.1 ∈ φ.hd ∧ ∃ ps : Array Value, H p.1 = some (.tbl ps) ∧ TriplesOk ps.toList ∧ ∀ (pos : Pos) (cv : Value), codeAmong pos ps.toList = some cv → ∃ c, cv = .ref c ∧ msk H φ c = some (LamX.CodeO c p.2)
structure Abs (φ : Ph) (μ : Mu) (H : Hp) : Prop where
  len : φ.sh.length = μ.length
  nd : φ.sh.Nodup
  hid : ∀ a ∈ φ.hd, a ∉ φ.sh ∧ ∃ o, H a = some o
  cell : ∀ (i : Nat) (a : Addr) (c : Cell), φ.sh[i]? = some a → μ[i]? = some c → CellR K fa (msk H φ) φ H a c
  tab : TabM fa φ H
/-- what stood stands; the shared objects are more -/
structure Ext (φ : Ph) (H : Hp) (φ' : Ph) (H' : Hp) : Prop where
  pre : ∃ t, φ'.sh = φ.sh ++ t
  hd : φ'.hd = φ.hd
  hold : ∀ a ∈ φ.hd, (∀ ps, H a ≠ some (.tbl ps)) → H' a = H a
  keep : ∀ a o, msk H φ a = some o → msk H' φ' a = some o
structure REnv (G : Hp) (φ : Ph) (ρ : Rho) (σ : L2.St) : Prop where
  len : ρ.length = σ.length
  at_ : ∀ (i : Nat) (d : D), ρ[i]? = some (some d) → ∃ v, σ[i]? = some (some v) ∧ RV K fa G φ d v
  kp : ∀ (i : Nat) (v : V), fa.keep = some (i, v) → σ[i]? = some (some v)
end

section
variable {K : PySem.W.Frag} {fa : Lay} {φ φ' φ'' : Ph} {H H' H'' G G' : Hp} {μ μ' : Mu} {σ : L2.St} {ρ : Rho}
theorem msk_in {a : Addr} (h : a ∈ φ) : msk H φ a = none := by unfold msk; rw [if_pos h]
theorem msk_out {a : Addr} (h : a ∉ φ) : msk H φ a = H a := by unfold msk; rw [if_neg h]
theorem msk_some {a : Addr} {o : HO} (h : msk H φ a = some o) : a ∉ φ ∧ H a = some o := by
  by_cases e : a ∈ φ
  · rw [msk_in e] at h; cases h
  · rw [msk_out e] at h; exact ⟨e, h⟩
theorem msk_same : Same (msk H φ) H := fun a o h => (msk_some h).2
theorem Ext.refl (φ : Ph) (H : Hp) : Ext φ H φ H := ⟨⟨[], by simp⟩, rfl, fun _ _ _ => rfl, fun _ _ h => h⟩
theorem Ext.trans (x : Ext φ H φ' H') (y : Ext φ' H' φ'' H'') : Ext φ H φ'' H'' := by
  obtain ⟨t, e⟩ := x.pre
  obtain ⟨u, e'⟩ := y.pre
  exact ⟨⟨t ++ u, by rw [e', e, List.append_assoc]⟩, y.hd.trans x.hd, fun a h n => (y.hold a (by rw [x.hd]; exact h) (by rw [x.hold a h n]; exact n)).trans (x.hold a h n), fun a o h => y.keep a o (x.keep a o h)⟩
theorem Ext.same (x : Ext φ H φ' H') : Same (msk H φ) (msk H' φ') := fun a o h => x.keep a o h
theorem Ext.phi (x : Ext φ H φ' H') {n : Nat} {a : Addr} (h : φ.sh[n]? = some a) : φ'.sh[n]? = some a := by
  obtain ⟨t, e⟩ := x.pre
  rw [e, List.getElem?_append_left (List.getElem?_eq_some_iff.mp h).1]
  exact h
theorem Same.seqT {a : Addr} {xs : List V} (e : Same H H') (h : SqT K H a xs) : SqT K H' a xs := by
  rcases h with (h | ⟨o, h⟩) | h
  · exact .inl (.inl (e _ _ h))
  · exact .inl (.inr ⟨o, e _ _ h⟩)
  · exact .inr h
theorem Same.rd {a : Addr} {u : HO} (e : Same H H') (h : Rd H a u) : Rd H' a u := by
  rcases h with h | ⟨o, h⟩
  · exact .inl (e _ _ h)
  · exact .inr ⟨o, e _ _ h⟩
theorem Same.sqL {a : Addr} {xs : List V} (e : Same H H') (h : SqL K H a xs) : SqL K H' a xs := by
  rcases h with h | h
  · exact .inl (Same.rd e h)
  · exact .inr h
mutual
theorem RV.mono (hG : Same G G') (hp : ∀ (n : Nat) (a : Addr), φ.sh[n]? = some a → φ'.sh[n]? = some a) : ∀ (d : D) (v : V), RV K fa G φ d v → RV K fa G' φ' d v
  | .non, _, h => by unfold RV at *; exact h
  | .bl _, _, h => by unfold RV at *; exact h
  | .int _, _, h => by unfold RV at *; exact h
  | .str _, _, h => by unfold RV at *; exact h
  | .fn k l, v, h => by
    unfold RV at *
    by_cases hk : k < LB
    · rw [if_pos hk] at *; exact h
    · rw [if_neg hk] at *
      obtain ⟨ci, e1, e2, e3, e4, e5⟩ := h
      exact ⟨ci, e1, e2, e3, hG _ _ e4, RVs.mono hG hp l _ e5⟩
  | .tup l, v, h => by
    unfold RV at *
    obtain ⟨a, vs, e, hs, hr⟩ := h
    exact ⟨a, vs, e, Same.seqT hG hs, RVs.mono hG hp l vs hr⟩
  | .lst l, v, h => by
    unfold RV at *
    obtain ⟨a, vs, e, hs, hr⟩ := h
    exact ⟨a, vs, e, Same.sqL hG hs, RVs.mono hG hp l vs hr⟩
  | .loc n, v, h => by
    unfold RV at *
    obtain ⟨a, ha, e⟩ := h
    exact ⟨a, hp n a ha, e⟩
theorem RVs.mono (hG : Same G G') (hp : ∀ (n : Nat) (a : Addr), φ.sh[n]? = some a → φ'.sh[n]? = some a) : ∀ (l : List D) (vs : List V), RVs K fa G φ l vs → RVs K fa G' φ' l vs
  | [], _, h => by unfold RVs at *; exact h
  | d :: ds, vs, h => by
    unfold RVs at *
    obtain ⟨v, r, e, h1, h2⟩ := h
    exact ⟨v, r, e, RV.mono hG hp d v h1, RVs.mono hG hp ds r h2⟩
end
theorem RV.ext (x : Ext φ H φ' H') {d : D} {v : V} (h : RV K fa (msk H φ) φ d v) : RV K fa (msk H' φ') φ' d v := RV.mono x.same (fun _ _ q => x.phi q) d v h
theorem RVs.ext (x : Ext φ H φ' H') {l : List D} {vs : List V} (h : RVs K fa (msk H φ) φ l vs) : RVs K fa (msk H' φ') φ' l vs := RVs.mono x.same (fun _ _ q => x.phi q) l vs h
theorem REnv.ext (x : Ext φ H φ' H') (h : REnv K fa (msk H φ) φ ρ σ) : REnv K fa (msk H' φ') φ' ρ σ :=
  ⟨h.len, fun i d e => let ⟨v, a, b⟩ := h.at_ i d e; ⟨v, a, b.ext x⟩, h.kp⟩
theorem REnv.set (h : REnv K fa G φ ρ σ) {i : Nat} {d : D} {v : V} (hm : fa.may i) (r : RV K fa G φ d v) : REnv K fa G φ (ρ.set i (some d)) (σ.set i (some v)) := by
  refine ⟨by rw [List.length_set, List.length_set]; exact h.len, fun j e hj => ?_, fun j w hk => by
    have : i ≠ j := fun q => hm w (by rw [q]; exact hk)
    rw [List.getElem?_set_ne this]
    exact h.kp j w hk⟩
  by_cases q : i = j
  · subst q
    by_cases hl : i < ρ.length
    · rw [List.getElem?_set_self hl] at hj
      cases hj
      exact ⟨v, List.getElem?_set_self (by rw [← h.len]; exact hl), r⟩
    · rw [List.getElem?_eq_none (by rw [List.length_set]; omega)] at hj; cases hj
  · rw [List.getElem?_set_ne q] at hj ⊢
    exact h.at_ j e hj
theorem REnv.kill (h : REnv K fa G φ ρ σ) (ks : List Nat) : REnv K fa G φ (wipeR ρ ks) σ := by
  have hl : ∀ ks : List Nat, (wipeR ρ ks).length = ρ.length := fun ks => by
    induction ks with
    | nil => rfl
    | cons k r ih => unfold wipeR; rw [List.length_set]; exact ih
  refine ⟨(hl ks).trans h.len, fun i d e => ?_, h.kp⟩
  have : ρ[i]? = some (some d) := by
    induction ks with
    | nil => exact e
    | cons k r ih =>
      unfold wipeR at e
      by_cases q : k = i
      · subst q
        by_cases hk : k < (wipeR ρ r).length
        · rw [List.getElem?_set_self hk] at e; cases e
        · rw [List.getElem?_eq_none (by rw [List.length_set]; omega)] at e; cases e
      · rw [List.getElem?_set_ne q] at e; exact ih e
  exact h.at_ i d this
theorem REnv.wipe (h : REnv K fa G φ ρ σ) (hn : fa.keep = none) (ks : List Nat) : REnv K fa G φ (wipeR ρ ks) (L2.wipe σ ks) := by
  have hl : ∀ ks : List Nat, (wipeR ρ ks).length = ρ.length := fun ks => by
    induction ks with
    | nil => rfl
    | cons k r ih => unfold wipeR; rw [List.length_set]; exact ih
  refine ⟨by rw [hl, L2.wipe_length]; exact h.len, ?_, fun i v e => by rw [hn] at e; cases e⟩
  induction ks with
  | nil => exact h.at_
  | cons k r ih =>
    intro i d e
    unfold wipeR at e
    unfold L2.wipe
    by_cases q : k = i
    · subst q
      by_cases hk : k < (wipeR ρ r).length
      · rw [List.getElem?_set_self hk] at e; cases e
      · rw [List.getElem?_eq_none (by rw [List.length_set]; omega)] at e; cases e
    · rw [List.getElem?_set_ne q] at e ⊢
      exact ih i d e
theorem RVs.length : ∀ {l : List D} {vs : List V}, RVs K fa G φ l vs → vs.length = l.length
  | [], _, h => by unfold RVs at h; rw [h]; rfl
  | d :: ds, vs, h => by
    unfold RVs at h
    obtain ⟨v, r, rfl, _, h2⟩ := h
    rw [List.length_cons, List.length_cons, RVs.length h2]
theorem RVs.get : ∀ {l : List D} {vs : List V} {i : Nat} {d : D}, RVs K fa G φ l vs → l[i]? = some d → ∃ v, vs[i]? = some v ∧ RV K fa G φ d v
  | [], _, _, _, _, e => by simp at e
  | d :: ds, vs, 0, x, h, e => by
    unfold RVs at h
    obtain ⟨v, r, rfl, h1, _⟩ := h
    simp at e; subst e
    exact ⟨v, rfl, h1⟩
  | d :: ds, vs, i + 1, x, h, e => by
    unfold RVs at h
    obtain ⟨v, r, rfl, _, h2⟩ := h
    obtain ⟨u, a, b⟩ := RVs.get (i := i) h2 (by simpa using e)
    exact ⟨u, by simpa using a, b⟩
theorem RVs.of_get : ∀ {l : List D} {vs : List V}, vs.length = l.length → (∀ (i : Nat) (d : D) (v : V), l[i]? = some d → vs[i]? = some v → RV K fa G φ d v) → RVs K fa G φ l vs
  | [], [], _, _ => by unfold RVs; rfl
  | d :: ds, v :: vs, hl, h => by
    unfold RVs
    exact ⟨v, vs, rfl, h 0 d v rfl rfl, RVs.of_get (by simpa using hl) fun i e u a b => h (i + 1) e u (by simpa using a) (by simpa using b)⟩
  | [], _ :: _, hl, _ => by simp at hl
  | _ :: _, [], hl, _ => by simp at hl
theorem RVs.append : ∀ {l r : List D} {vs us : List V}, RVs K fa G φ l vs → RVs K fa G φ r us → RVs K fa G φ (l ++ r) (vs ++ us)
  | [], _, _, _, h, q => by unfold RVs at h; subst h; exact q
  | d :: ds, r, vs, us, h, q => by
    unfold RVs at h
    obtain ⟨v, rr, rfl, h1, h2⟩ := h
    show RVs K fa G φ (d :: (ds ++ r)) (v :: (rr ++ us))
    unfold RVs
    exact ⟨v, rr ++ us, rfl, h1, RVs.append h2 q⟩
theorem RVs.one {d : D} {v : V} (h : RV K fa G φ d v) : RVs K fa G φ [d] [v] := by unfold RVs; exact ⟨v, [], rfl, h, by unfold RVs; rfl⟩
theorem RVs.nil : RVs K fa G φ [] [] := by unfold RVs; rfl
theorem RVs.cons {d : D} {v : V} {l : List D} {vs : List V} (h : RV K fa G φ d v) (r : RVs K fa G φ l vs) : RVs K fa G φ (d :: l) (v :: vs) := by unfold RVs; exact ⟨v, vs, rfl, h, r⟩
theorem RVs.take : ∀ {l : List D} {vs : List V} (n : Nat), RVs K fa G φ l vs → RVs K fa G φ (l.take n) (vs.take n)
  | _, _, 0, _ => by rw [List.take_zero, List.take_zero]; exact RVs.nil
  | [], _, n + 1, h => by unfold RVs at h; subst h; exact RVs.nil
  | d :: ds, vs, n + 1, h => by
    unfold RVs at h
    obtain ⟨v, r, rfl, h1, h2⟩ := h
    exact RVs.cons h1 (RVs.take n h2)
theorem RVs.drop : ∀ {l : List D} {vs : List V} (n : Nat), RVs K fa G φ l vs → RVs K fa G φ (l.drop n) (vs.drop n)
  | _, _, 0, h => h
  | [], _, n + 1, h => by unfold RVs at h; subst h; exact RVs.nil
  | d :: ds, vs, n + 1, h => by
    unfold RVs at h
    obtain ⟨v, r, rfl, h1, h2⟩ := h
    exact RVs.drop n h2
theorem RVs.set {d : D} {v : V} (q : RV K fa G φ d v) : ∀ {l : List D} {vs : List V} (n : Nat), RVs K fa G φ l vs → RVs K fa G φ (l.set n d) (vs.set n v)
  | [], _, n, h => by unfold RVs at h; subst h; exact RVs.nil
  | e :: ds, vs, 0, h => by
    unfold RVs at h
    obtain ⟨u, r, rfl, h1, h2⟩ := h
    exact RVs.cons q h2
  | e :: ds, vs, n + 1, h => by
    unfold RVs at h
    obtain ⟨u, r, rfl, h1, h2⟩ := h
    exact RVs.cons h1 (RVs.set q n h2)
theorem RVs.erase : ∀ {l : List D} {vs : List V} (n : Nat), RVs K fa G φ l vs → RVs K fa G φ (l.eraseIdx n) (vs.eraseIdx n)
  | [], _, n, h => by unfold RVs at h; subst h; exact RVs.nil
  | e :: ds, vs, 0, h => by
    unfold RVs at h
    obtain ⟨u, r, rfl, h1, h2⟩ := h
    exact h2
  | e :: ds, vs, n + 1, h => by
    unfold RVs at h
    obtain ⟨u, r, rfl, h1, h2⟩ := h
    exact RVs.cons h1 (RVs.erase n h2)
theorem RVs.dropLast : ∀ {l : List D} {vs : List V}, RVs K fa G φ l vs → RVs K fa G φ l.dropLast vs.dropLast := fun {l vs} h => by
  rw [List.dropLast_eq_take, List.dropLast_eq_take, RVs.length h]
  exact RVs.take _ h

theorem RFs.mono (hG : Same G G') (hp : ∀ (n : Nat) (a : Addr), φ.sh[n]? = some a → φ'.sh[n]? = some a) : ∀ (l : List (Nat × D)) (vs : List (Str × V)), RFs K fa G φ l vs → RFs K fa G' φ' l vs
  | [], _, h => h
  | p :: r, vs, h => by
    obtain ⟨v, q, e, h1, h2, h3⟩ := h
    exact ⟨v, q, e, h1, RV.mono hG hp _ v h2, RFs.mono hG hp r q h3⟩
theorem RDs.mono (hG : Same G G') (hp : ∀ (n : Nat) (a : Addr), φ.sh[n]? = some a → φ'.sh[n]? = some a) : ∀ (l : List (D × D)) (vs : List (L2.Key × V)), RDs K fa G φ l vs → RDs K fa G' φ' l vs
  | [], _, h => h
  | p :: r, vs, h => by
    obtain ⟨k, v, q, e, h1, h2, h3⟩ := h
    exact ⟨k, v, q, e, h1, RV.mono hG hp _ v h2, RDs.mono hG hp r q h3⟩
theorem RXs.mono (hG : Same G G') (hp : ∀ (n : Nat) (a : Addr), φ.sh[n]? = some a → φ'.sh[n]? = some a) : ∀ (l : List (D × D)) (xs : List (NestedKey × Addr × Value)), RXs K fa G φ l xs → RXs K fa G' φ' l xs
  | [], _, h => h
  | p :: r, _, h => by
    obtain ⟨b, u, v, q, e1, h1, h2, h3, h4, h5⟩ := h
    exact ⟨b, u, v, q, e1, h1, RV.mono hG hp _ _ h2, h3, RV.mono hG hp _ v h4, RXs.mono hG hp r q h5⟩
theorem RFs.len : ∀ {l : List (Nat × D)} {vs : List (Str × V)}, RFs K fa G φ l vs → vs.length = l.length
  | [], _, h => by cases (show _ = _ from h); rfl
  | p :: r, vs, h => by
    obtain ⟨v, q, rfl, h1, h2, h3⟩ := h
    rw [List.length_cons, List.length_cons, RFs.len h3]
theorem RFs.get {a : Nat} {d : D} : ∀ {l : List (Nat × D)} {vs : List (Str × V)}, RFs K fa G φ l vs → fa.okf a = true → l.lookup a = some d → ∃ v, vs.lookup (fa.fld a) = some v ∧ RV K fa G φ d v
  | [], _, h, _, e => by cases e
  | p :: r, vs, h, ha, e => by
    obtain ⟨v, q, rfl, h1, h2, h3⟩ := h
    obtain ⟨b, x⟩ := p
    rw [List.lookup_cons] at e
    by_cases hb : a = b
    · subst hb
      rw [show (a == a) = true from beq_self_eq_true a] at e
      cases e
      refine ⟨v, ?_, h2⟩
      rw [List.lookup_cons, show (fa.fld a == fa.fld a) = true from beq_self_eq_true _]
    · rw [show (a == b) = false from beq_eq_false_iff_ne.mpr hb] at e
      obtain ⟨w, e1, e2⟩ := RFs.get h3 ha e
      refine ⟨w, ?_, e2⟩
      rw [List.lookup_cons, show (fa.fld a == fa.fld b) = false from beq_eq_false_iff_ne.mpr fun q => hb (fa.inj a b ha h1 q)]
      exact e1
theorem RFs.no {x : Str} : ∀ {l : List (Nat × D)} {vs : List (Str × V)}, RFs K fa G φ l vs → (∀ a, fa.okf a = true → fa.fld a ≠ x) → vs.lookup x = none
  | [], _, h, _ => by cases (show _ = _ from h); rfl
  | p :: r, vs, h, hx => by
    obtain ⟨v, q, rfl, h1, h2, h3⟩ := h
    rw [List.lookup_cons, show (x == fa.fld p.1) = false from beq_eq_false_iff_ne.mpr fun q => hx p.1 h1 q.symm]
    exact RFs.no h3 hx
theorem RFs.put {a : Nat} {d : D} {v : V} (ha : fa.okf a = true) (rv : RV K fa G φ d v) : ∀ {l : List (Nat × D)} {vs : List (Str × V)}, RFs K fa G φ l vs → RFs K fa G φ (putFd a d l) (L2.putF (fa.fld a) v vs)
  | [], _, h => by cases (show _ = _ from h); exact ⟨v, [], rfl, ha, rv, rfl⟩
  | p :: r, vs, h => by
    obtain ⟨w, q, rfl, h1, h2, h3⟩ := h
    obtain ⟨b, x⟩ := p
    show RFs K fa G φ (if b = a then (b, d) :: r else (b, x) :: putFd a d r) (if fa.fld b = fa.fld a then (fa.fld b, v) :: q else (fa.fld b, w) :: L2.putF (fa.fld a) v q)
    by_cases hb : b = a
    · rw [if_pos hb, if_pos (by rw [hb])]
      exact ⟨v, q, rfl, h1, rv, h3⟩
    · rw [if_neg hb, if_neg fun e => hb (fa.inj b a h1 ha e)]
      exact ⟨w, _, rfl, h1, h2, RFs.put ha rv h3⟩

/-! ### the store -/
theorem Abs.at (A : Abs K fa φ μ H) {i : Nat} {c : Cell} (h : μ[i]? = some c) : ∃ a, φ.sh[i]? = some a ∧ CellR K fa (msk H φ) φ H a c := by
  have hi : i < φ.sh.length := by rw [A.len]; exact (List.getElem?_eq_some_iff.mp h).1
  exact ⟨φ.sh[i], List.getElem?_eq_getElem hi, A.cell i _ c (List.getElem?_eq_getElem hi) h⟩
theorem Abs.there (A : Abs K fa φ μ H) {a : Addr} (h : a ∈ φ) : ∃ o, H a = some o := by
  rcases h with h | h
  · obtain ⟨i, hi, e⟩ := List.mem_iff_getElem.mp h
    have hm : i < μ.length := by rw [← A.len]; exact hi
    have c := A.cell i a μ[i] (by rw [List.getElem?_eq_getElem hi, e]) (List.getElem?_eq_getElem hm)
    cases q : μ[i] with
    | lst l => rw [q] at c; obtain ⟨vs, e, _⟩ := c; exact ⟨_, e⟩
    | dct l => rw [q] at c; obtain ⟨vs, e, _⟩ := c; exact ⟨_, e⟩
    | dtt l => rw [q] at c; obtain ⟨vs, e, _⟩ := c; exact ⟨_, e⟩
    | obj c' fs => rw [q] at c; obtain ⟨dx, vs, e, _⟩ := c; exact ⟨_, e⟩
  · exact (A.hid a h).2
theorem Abs.notIn (A : Abs K fa φ μ H) {p : Addr} (hp : H p = none) : p ∉ φ := fun h => by
  obtain ⟨o, e⟩ := A.there h
  rw [hp] at e; cases e
theorem Abs.ne (A : Abs K fa φ μ H) {p a : Addr} (hp : H p = none) (h : a ∈ φ) : a ≠ p := fun e => A.notIn hp (e ▸ h)
theorem TabM.mono (T : TabM fa φ H) (hh : ∀ a ∈ φ.hd, a ∈ φ'.hd) (ht : ∀ a ∈ φ.hd, ∀ ps, H a = some (.tbl ps) → H' a = some (.tbl ps)) (hm : Same (msk H φ) (msk H' φ')) : TabM fa φ' H' := fun p hp => by
  obtain ⟨h1, ps, h2, h3, h4⟩ := T p hp
  refine ⟨hh _ h1, ps, ht _ h1 _ h2, h3, fun pos cv e => ?_⟩
  obtain ⟨c, e1, e2⟩ := h4 pos cv e
  exact ⟨c, e1, hm _ _ e2⟩
/-- a new object that nobody shares -/
theorem Ext.fresh (A : Abs K fa φ μ H) {p : Addr} {o : HO} (hp : H p = none) : Ext φ H φ (upd H p o) := by
  refine ⟨⟨[], by simp⟩, rfl, fun a h _ => upd_ne (A.ne hp (.inr h)), fun a u h => ?_⟩
  obtain ⟨h1, h2⟩ := msk_some h
  rw [msk_out h1, upd_ne (ne_of_none h2 hp)]
  exact h2
theorem CellR.mono {a : Addr} {c : Cell} (hG : Same G G') (hp : ∀ (n : Nat) (a : Addr), φ.sh[n]? = some a → φ'.sh[n]? = some a) (ha : ∀ o, H a = some o → H' a = some o) (h : CellR K fa G φ H a c) : CellR K fa G' φ' H' a c := by
  cases c with
  | lst l => obtain ⟨vs, e, r⟩ := h; exact ⟨vs, ha _ e, RVs.mono hG hp l vs r⟩
  | dct l => obtain ⟨vs, e, r⟩ := h; exact ⟨vs, ha _ e, RDs.mono hG hp l vs r⟩
  | dtt l => obtain ⟨vs, e, r⟩ := h; exact ⟨vs, ha _ e, RXs.mono hG hp l vs r⟩
  | obj c fs => obtain ⟨dx, vs, e, r⟩ := h; exact ⟨dx, vs, ha _ e, RFs.mono hG hp fs vs r⟩
theorem some_upd {a p : Addr} {o u : HO} (hp : H p = none) (h : H a = some u) : upd H p o a = some u := by
  rw [upd_ne (ne_of_none h hp)]; exact h
theorem Abs.fresh (A : Abs K fa φ μ H) {p : Addr} {o : HO} (hp : H p = none) : Abs K fa φ μ (upd H p o) := by
  refine ⟨A.len, A.nd, fun a h => ⟨(A.hid a h).1, let ⟨u, e⟩ := (A.hid a h).2; ⟨u, some_upd hp e⟩⟩, fun i a c h1 h2 => ?_, A.tab.mono (fun _ q => q) (fun _ _ _ q => some_upd hp q) (Ext.fresh (o := o) A hp).same⟩
  exact CellR.mono (c := c) (h := A.cell i a c h1 h2) (Ext.fresh (o := o) A hp).same (fun _ _ q => q) fun u q => some_upd hp q
theorem mem_add {a p : Addr} (h : a ∉ φ) (ne : a ≠ p) : a ∉ φ.add p := by
  rintro (q | q)
  · have q : a ∈ φ.sh ++ [p] := q
    rcases List.mem_append.mp q with q | q
    · exact h (.inl q)
    · exact ne (by simpa using q)
  · exact h (.inr q)
theorem Ext.add (A : Abs K fa φ μ H) {p : Addr} {o : HO} (hp : H p = none) : Ext φ H (φ.add p) (upd H p o) := by
  refine ⟨⟨[p], rfl⟩, rfl, fun a h _ => upd_ne (A.ne hp (.inr h)), fun a u h => ?_⟩
  obtain ⟨h1, h2⟩ := msk_some h
  have ne : a ≠ p := ne_of_none h2 hp
  rw [msk_out (mem_add h1 ne), upd_ne ne]
  exact h2
/-- a new object that is shared -/
theorem Abs.push (A : Abs K fa φ μ H) {p : Addr} {o : HO} {c : Cell} (hp : H p = none) (hc : CellR K fa (msk (upd H p o) (φ.add p)) (φ.add p) (upd H p o) p c) :
    Ext φ H (φ.add p) (upd H p o) ∧ Abs K fa (φ.add p) (μ ++ [c]) (upd H p o) := by
  have x : Ext φ H (φ.add p) (upd H p o) := Ext.add A hp
  have np := A.notIn hp
  refine ⟨x, ?_, ?_, fun a h => ⟨fun q => ?_, let ⟨u, e⟩ := (A.hid a h).2; ⟨u, some_upd hp e⟩⟩, fun i a c' h1 h2 => ?_, A.tab.mono (fun _ q => q) (fun _ _ _ q => some_upd hp q) x.same⟩
  · show (φ.sh ++ [p]).length = _
    rw [List.length_append, List.length_append, A.len]; rfl
  · show (φ.sh ++ [p]).Nodup
    rw [List.nodup_append]
    refine ⟨A.nd, by simp, fun a ha b hb e => ?_⟩
    have : b = p := by simpa using hb
    subst this; subst e
    exact np (.inl ha)
  · have q : a ∈ φ.sh ++ [p] := q
    rcases List.mem_append.mp q with q | q
    · exact (A.hid a h).1 q
    · exact A.ne hp (.inr h) (by simpa using q)
  · have h1 : (φ.sh ++ [p])[i]? = some a := h1
    by_cases hi : i < φ.sh.length
    · rw [List.getElem?_append_left hi] at h1
      rw [List.getElem?_append_left (by rw [← A.len]; exact hi)] at h2
      exact CellR.mono (c := c') (h := A.cell i a c' h1 h2) x.same (fun _ _ q => x.phi q) fun u q => some_upd hp q
    · have hl : i < (φ.sh ++ [p]).length := (List.getElem?_eq_some_iff.mp h1).1
      rw [List.length_append] at hl
      have e : i = φ.sh.length := by simp at hl; omega
      subst e
      rw [List.getElem?_append_right (Nat.le_refl _)] at h1
      rw [List.getElem?_append_right (by rw [A.len]; exact Nat.le_refl _)] at h2
      simp only [Nat.sub_self, List.getElem?_cons_zero, Option.some.injEq] at h1
      rw [A.len] at h2
      simp only [Nat.sub_self, List.getElem?_cons_zero, Option.some.injEq] at h2
      subst h1; subst h2
      exact hc
theorem msk_upd {a : Addr} {o : HO} (hm : a ∈ φ) : msk (upd H a o) φ = msk H φ := by
  funext b
  by_cases hb : b ∈ φ
  · rw [msk_in hb, msk_in hb]
  · rw [msk_out hb, msk_out hb, upd_ne (fun e => hb (by rw [e]; exact hm))]
/-- a shared object is written -/
theorem Abs.set (A : Abs K fa φ μ H) {n : Nat} {a : Addr} {o : HO} {c : Cell} (ha : φ.sh[n]? = some a) (hc : CellR K fa (msk H φ) φ (upd H a o) a c) :
    Ext φ H φ (upd H a o) ∧ Abs K fa φ (μ.set n c) (upd H a o) := by
  have hs : a ∈ φ.sh := List.mem_of_getElem? ha
  have em : msk (upd H a o) φ = msk H φ := msk_upd (.inl hs)
  have nh : ∀ b ∈ φ.hd, b ≠ a := fun b hb e => (A.hid b hb).1 (e ▸ hs)
  refine ⟨⟨⟨[], by simp⟩, rfl, fun b hb _ => upd_ne (nh b hb), fun b u h => by rw [em]; exact h⟩, by rw [List.length_set]; exact A.len, A.nd, fun b hb => ⟨(A.hid b hb).1, by rw [upd_ne (nh b hb)]; exact (A.hid b hb).2⟩, fun i b c' h1 h2 => ?_, A.tab.mono (fun _ q => q) (fun b hb _ q => by rw [upd_ne (nh b hb)]; exact q) (fun b u h => by rw [em]; exact h)⟩
  rw [em]
  by_cases q : n = i
  · subst q
    rw [ha] at h1; cases h1
    have hi : n < μ.length := by rw [← A.len]; exact (List.getElem?_eq_some_iff.mp ha).1
    rw [List.getElem?_set_self hi] at h2
    cases h2
    exact hc
  · rw [List.getElem?_set_ne q] at h2
    have hb : b ≠ a := fun e => by
      subst e
      have l1 := (List.getElem?_eq_some_iff.mp ha)
      have l2 := (List.getElem?_eq_some_iff.mp h1)
      obtain ⟨p1, e1⟩ := l1
      obtain ⟨p2, e2⟩ := l2
      exact q ((List.getElem_inj A.nd).mp (e1.trans e2.symm))
    refine CellR.mono (c := c') (h := A.cell i b c' h1 h2) (fun _ _ z => z) (fun _ _ z => z) fun u z => ?_
    rw [upd_ne hb]; exact z
end
section
variable {K : PySem.W.Frag} {fa : Lay} {k : Option (Nat × V)} {G : Hp} {φ : Ph} {H : Hp} {μ : Mu}
mutual
theorem RV.hot : ∀ (d : D) (v : V), RV K (fa.hot k) G φ d v = RV K fa G φ d v
  | .non, v => by unfold RV; rfl
  | .bl b, v => by unfold RV; rfl
  | .int b, v => by unfold RV; rfl
  | .str b, v => by unfold RV; rfl
  | .tup l, v => by
    unfold RV
    simp only [RVs.hot l]
  | .lst l, v => by
    unfold RV
    simp only [RVs.hot l]
  | .loc n, v => by unfold RV; rfl
  | .fn n l, v => by
    unfold RV
    simp only [RVs.hot l]
    rfl
theorem RVs.hot : ∀ (l : List D) (vs : List V), RVs K (fa.hot k) G φ l vs = RVs K fa G φ l vs
  | [], vs => by unfold RVs; rfl
  | d :: ds, vs => by
    unfold RVs
    simp only [RV.hot d, RVs.hot ds]
end
theorem RFs.hot : ∀ (l : List (Nat × D)) (vs : List (Str × V)), RFs K (fa.hot k) G φ l vs = RFs K fa G φ l vs
  | [], vs => by unfold RFs; rfl
  | p :: r, vs => by
    unfold RFs
    simp only [RV.hot, RFs.hot r]
    rfl
theorem RDs.hot : ∀ (l : List (D × D)) (vs : List (L2.Key × V)), RDs K (fa.hot k) G φ l vs = RDs K fa G φ l vs
  | [], vs => by unfold RDs; rfl
  | p :: r, vs => by
    unfold RDs
    simp only [RV.hot, RDs.hot r]
theorem RXs.hot : ∀ (l : List (D × D)) (vs : List (NestedKey × Addr × Value)), RXs K (fa.hot k) G φ l vs = RXs K fa G φ l vs
  | [], vs => by unfold RXs; rfl
  | p :: r, vs => by
    unfold RXs
    simp only [RV.hot, RXs.hot r]
theorem CellR.hot {a : Addr} : ∀ (c : Cell), CellR K (fa.hot k) G φ H a c = CellR K fa G φ H a c
  | .lst l => by unfold CellR; simp only [RVs.hot]
  | .dct l => by unfold CellR; simp only [RDs.hot]
  | .dtt l => by unfold CellR; simp only [RXs.hot]; rfl
  | .obj c l => by unfold CellR; simp only [RFs.hot]; rfl
theorem Abs.hot : Abs K (fa.hot k) φ μ H ↔ Abs K fa φ μ H :=
  ⟨fun A => ⟨A.len, A.nd, A.hid, fun i a c h1 h2 => by rw [← CellR.hot (k := k)]; exact A.cell i a c h1 h2, A.tab⟩, fun A => ⟨A.len, A.nd, A.hid, fun i a c h1 h2 => by rw [CellR.hot]; exact A.cell i a c h1 h2, A.tab⟩⟩
theorem REnv.heat {k : Option (Nat × V)} {ρ : Rho} {σ : L2.St} (R : REnv K fa G φ ρ σ) (h : ∀ i v, k = some (i, v) → σ[i]? = some (some v)) : REnv K (fa.hot k) G φ ρ σ :=
  ⟨R.len, fun i d e => let ⟨v, h1, h2⟩ := R.at_ i d e; ⟨v, h1, by rw [RV.hot]; exact h2⟩, h⟩
theorem REnv.cool {k : Option (Nat × V)} {ρ : Rho} {σ : L2.St} (R : REnv K (fa.hot k) G φ ρ σ) (h : fa.keep = none) : REnv K fa G φ ρ σ :=
  ⟨R.len, fun i d e => let ⟨v, h1, h2⟩ := R.at_ i d e; ⟨v, h1, by rw [← RV.hot (k := k)]; exact h2⟩, fun i v e => by rw [h] at e; cases e⟩
/-- a slot that is no more known -/
theorem REnv.drop {ρ : Rho} {σ : L2.St} (R : REnv K fa G φ ρ σ) (h : fa.keep = none) (i : Nat) (x : Option V) : REnv K fa G φ (ρ.set i none) (σ.set i x) := by
  refine ⟨by rw [List.length_set, List.length_set]; exact R.len, fun j d e => ?_, fun j v e => by rw [h] at e; cases e⟩
  by_cases q : i = j
  · subst q
    by_cases hl : i < ρ.length
    · rw [List.getElem?_set_self hl] at e; cases e
    · rw [List.getElem?_eq_none (by rw [List.length_set]; omega)] at e; cases e
  · rw [List.getElem?_set_ne q] at e ⊢
    exact R.at_ j d e
end
end Ev

set_option Elab.async false
set_option linter.all false
set_option maxRecDepth 100000
set_option maxHeartbeats 1000000
/-! A tuple so many times: once, and not at all. -/
namespace Ev
open PySem PySem.Spec PyProof.Rows L2
open AutoSeq1 (wpAny_loadPart')
theorem tuple_mul1 (l : Addr) (items : Array Value) (n : Nat) (dd : Option Addr) (sl : Array (Option Value)) (x : Int) (u : Tok) (c0 : (decide (x < -(2 ^ 63)) || decide (x ≥ 2 ^ 63)) = false) (c1 : (items.isEmpty || x == 1) = true) :
    Meets (Builtin.«tuple.__mul__» ⟨[.ref l, .int x u], []⟩) (fun _ R s => s.heap.get? l = some { cls := .type "tuple", dict := dd, data := .seq items n, slots := sl } ∧ R (.ok (.ret (.ref l))) s) :=
  .of_wp fun prog w A R s h => by
    obtain ⟨hp, g, d, tk, os⟩ := s
    obtain ⟨hl, h⟩ := h
    have f1 := AutoSeq1.idx_int
    wp_walk using wpAny_loadPart' hl
    repeat (first
      | (refine wpAny_ite_false (decide_eq_false (by rw [c0]; exact Bool.false_ne_true)) ?_; wp_walk using wpAny_loadPart' hl)
      | (refine wpAny_ite_true (decide_eq_true (by rw [c1])) ?_; wp_walk using wpAny_loadPart' hl))
    exact ⟨_, rfl, h⟩
theorem tuple_mul0 (l : Addr) (items : Array Value) (n : Nat) (dd : Option Addr) (sl : Array (Option Value)) (x : Int) (u : Tok) (c0 : (decide (x < -(2 ^ 63)) || decide (x ≥ 2 ^ 63)) = false) (c1 : (items.isEmpty || x == 1) = false) (c2 : (decide (x ≤ 0) || items.isEmpty) = true) :
    Meets (Builtin.«tuple.__mul__» ⟨[.ref l, .int x u], []⟩) (fun _ R s => s.heap.get? l = some { cls := .type "tuple", dict := dd, data := .seq items n, slots := sl } ∧ R (.ok (.ret (Value.ref s.heap.objs.size))) { s with heap := s.heap.push { cls := Value.type "tuple", data := Data.seq #[] }, toks := s.toks }) :=
  .of_wp fun prog w A R s h => by
    obtain ⟨hp, g, d, tk, os⟩ := s
    obtain ⟨hl, h⟩ := h
    have f1 := AutoSeq1.idx_int
    wp_walk using wpAny_loadPart' hl
    repeat (first
      | (refine wpAny_ite_false (decide_eq_false (by rw [c0]; exact Bool.false_ne_true)) ?_; wp_walk using wpAny_loadPart' hl)
      | (refine wpAny_ite_false (decide_eq_false (by rw [c1]; exact Bool.false_ne_true)) ?_; wp_walk using wpAny_loadPart' hl)
      | (refine wpAny_ite_true (decide_eq_true (by rw [c2])) ?_; wp_walk using wpAny_loadPart' hl))
    exact ⟨_, rfl, h⟩
/-- a tuple times an int -/
theorem op_repN {X : Cx} {pins : List (Addr × Obj)} {s : Shared} {σ : L2.St} {H : Hp} {l : Addr} {xs : List V} {k : Int} {t : Tok} {Q : VK} (I : Inv X pins σ H s) (hT : SqT X.K H l xs) (h1 : -(2 ^ 62) ≤ k) (h2 : k ≤ 1000) (hz : xs.length ≤ 1000)
    (same : (xs = [] ∨ k = 1) → Q (.ref l) H) (new : ∀ p, H p = none → Q (.ref p) (upd H p (.tup (List.replicate k.toNat xs).flatten))) : wpAny (model X.prog X.w) X.A (binaryOp .Mult (.ref l) (.int k t)) (EP X pins σ Q) X.xe s := by
  by_cases hsm : xs = [] ∨ k = 1
  · obtain ⟨its, r, ⟨⟨cls, dd, data, sl⟩, ho, hc, n, hd⟩, hs⟩ := I.tuple hT
    simp only at hc hd
    subst hc hd
    have hle : its.length = xs.length := r.length.symm
    have c0 : (decide (k < -(2 ^ 63)) || decide (k ≥ 2 ^ 63)) = false := by
      rw [decide_eq_false (by omega), decide_eq_false (by omega)] <;> rfl
    have c1 : (its.toArray.isEmpty || k == 1) = true := by
      rcases hsm with e | e
      · have : its = [] := List.eq_nil_of_length_eq_zero (by rw [hle, e]; rfl)
        rw [this]; rfl
      · rw [e]; simp
    exact wpAny_binaryOp_repeat_ref (T := "tuple") (U := "int") (by decide) ⟨_, ho, rfl⟩ (fun s' => typeIs_int s' k t) L2.noFill_tuple_mul F.fills_int_mul F.slot_int_rmul L2.repeat_tuple F.slot_int_index.lookup
      (call_meets F.slot_int_rmul (typeIs_int s k t) F.entry_int_rmul (F.args_int_rmul_2 _ _) (L2.int_rmul_tuple k t l its.toArray n dd sl)
        ⟨ho, rfl, ⟨_, ho, rfl⟩, call_meets F.slot_tuple_mul ⟨_, ho, rfl⟩ F.entry_tuple_mul (F.args_tuple_mul_2 _ _) (tuple_mul1 l its.toArray n dd sl k t c0 c1) ⟨ho, ⟨.ref l, H, I, rfl, same hsm⟩⟩⟩)
  · rw [not_or] at hsm
    by_cases hk : k ≤ 0
    · obtain ⟨its, r, ⟨⟨cls, dd, data, sl⟩, ho, hc, n, hd⟩, hs⟩ := I.tuple hT
      simp only at hc hd
      subst hc hd
      have hle : its.length = xs.length := r.length.symm
      have hn : its ≠ [] := fun e => hsm.1 (by
        rw [e] at hle
        exact List.eq_nil_of_length_eq_zero hle.symm)
      have hi : its.toArray.isEmpty = false := by
        cases its with
        | nil => exact absurd rfl hn
        | cons a b => rfl
      have c0 : (decide (k < -(2 ^ 63)) || decide (k ≥ 2 ^ 63)) = false := by
        rw [decide_eq_false (by omega), decide_eq_false (by omega)] <;> rfl
      have c1 : (its.toArray.isEmpty || k == 1) = false := by
        rw [hi, Bool.false_or]
        exact beq_eq_false_iff_ne.mpr (by omega)
      have c2 : (decide (k ≤ 0) || its.toArray.isEmpty) = true := by
        rw [decide_eq_true hk]; rfl
      have e0 : k.toNat = 0 := by omega
      refine wpAny_binaryOp_repeat_ref (T := "tuple") (U := "int") (by decide) ⟨_, ho, rfl⟩ (fun s' => typeIs_int s' k t) L2.noFill_tuple_mul F.fills_int_mul F.slot_int_rmul L2.repeat_tuple F.slot_int_index.lookup
        (call_meets F.slot_int_rmul (typeIs_int s k t) F.entry_int_rmul (F.args_int_rmul_2 _ _) (L2.int_rmul_tuple k t l its.toArray n dd sl)
          ⟨ho, rfl, ⟨_, ho, rfl⟩, call_meets F.slot_tuple_mul ⟨_, ho, rfl⟩ F.entry_tuple_mul (F.args_tuple_mul_2 _ _) (tuple_mul0 l its.toArray n dd sl k t c0 c1 c2) ⟨ho, ?_⟩⟩)
      have q := new s.heap.objs.size (I.hok.fresh (Nat.le_refl _))
      rw [e0] at q
      exact ⟨.ref s.heap.objs.size, _, I.laid (t' := s.toks) (o := .tup []) (fun b ob q => Heap.get?_push_of_some _ q) (Nat.le_refl _) ⟨Nat.zero_le _, [], .nil, IsTup.new _ _⟩, rfl, q⟩
    · exact L2.op_repT pins s σ H (.ref l) (.int k) _ _ Q I rfl ⟨t, rfl⟩ ⟨l, k, xs, rfl, rfl, hT, hsm.1, by omega, h2, hz, new⟩
end Ev

set_option Elab.async false
set_option linter.all false
set_option maxRecDepth 100000
set_option maxHeartbeats 1000000
/-! Operations: the machine's rule for each, read by the evaluator. -/
namespace Ev
open PySem PySem.Spec PyProof.Rows L2
section
variable (K : PySem.W.Frag) (fa : Lay)
/-- it gives a value, and what follows holds of it wherever it lies; or an exception, and what is wished of it holds -/
def Run {α : Type} (Z : EZ) (φ : Ph) (H : Hp) (r : Res α) (k : α → Mu → Ph → Hp → Prop) : Prop := match r with
  | .ok a μ' => ∀ φ' H', Ext φ H φ' H' → Abs K fa φ' μ' H' → k a μ' φ' H'
  | .ex x μ' => ∀ φ' H', Ext φ H φ' H' → Abs K fa φ' μ' H' → Z x H'
  | .no => False
/-- nothing is wished -/
abbrev ZT : EZ := fun _ _ => True
abbrev toV (Q : VK) : D → Mu → Ph → Hp → Prop := fun d _ φ' H' => ∀ v, RV K fa (msk H' φ') φ' d v → Q v H'
def tE (W : EW) (m : Rho → Mu → Res D) : TE := fun σ H Q => ∃ φ μ ρ, Abs K fa φ μ H ∧ REnv K fa (msk H φ) φ ρ σ ∧ Run K fa (W σ) φ H (m ρ μ) (toV K fa Q)
def tT (W : EW) (m : Rho → Mu → Res Bool) : TT := fun σ H Q => ∃ φ μ ρ, Abs K fa φ μ H ∧ REnv K fa (msk H φ) φ ρ σ ∧ Run K fa (W σ) φ H (m ρ μ) fun b _ _ H' => Q b H'
def tA (W : EW) (m : Rho → Mu → Res (List D)) : TA := fun σ H Q => ∃ φ μ ρ, Abs K fa φ μ H ∧ REnv K fa (msk H φ) φ ρ σ ∧ Run K fa (W σ) φ H (m ρ μ) fun ds _ φ' H' => ∀ vs, RVs K fa (msk H' φ') φ' ds vs → Q vs H'
def tI (W : EW) (m : Rho → Mu → Res (Option Int)) : TO := fun σ H Q => ∃ φ μ ρ, Abs K fa φ μ H ∧ REnv K fa (msk H φ) φ ρ σ ∧ Run K fa (W σ) φ H (m ρ μ) fun o _ _ H' => Q o H'
/-- what operations ask, by values -/
def rOp (f : Mu → D → D → Res D) : R2 := fun x y H Q => ∃ φ μ a b, Abs K fa φ μ H ∧ RV K fa (msk H φ) φ a x ∧ RV K fa (msk H φ) φ b y ∧ Run K fa ZT φ H (f μ a b) (toV K fa Q)
def rSl (f : Mu → D → Option Int → Option Int → Res D) : V → Option Int → Option Int → Hp → VK → Prop := fun x lo hi H Q => ∃ φ μ a, Abs K fa φ μ H ∧ RV K fa (msk H φ) φ a x ∧ Run K fa ZT φ H (f μ a lo hi) (toV K fa Q)
def rBi (f : Mu → List D → Res D) : List V → Hp → VK → Prop := fun vs H Q => ∃ φ μ ds, Abs K fa φ μ H ∧ RVs K fa (msk H φ) φ ds vs ∧ Run K fa ZT φ H (f μ ds) (toV K fa Q)
def rMe (f : Mu → D → List D → Res D) : V → List V → Hp → VK → Prop := fun x vs H Q => ∃ φ μ a ds, Abs K fa φ μ H ∧ RV K fa (msk H φ) φ a x ∧ RVs K fa (msk H φ) φ ds vs ∧ Run K fa ZT φ H (f μ a ds) (toV K fa Q)
end
section
variable {K : PySem.W.Frag} {fa : Lay} {W : EW} {Z : EZ} {φ φ' : Ph} {H H' : Hp} {μ : Mu}
theorem Run.imp {α : Type} {r : Res α} {k k' : α → Mu → Ph → Hp → Prop} (h : Run K fa Z φ H r k)
    (f : ∀ a μ' φ' H', Ext φ H φ' H' → Abs K fa φ' μ' H' → k a μ' φ' H' → k' a μ' φ' H') : Run K fa Z φ H r k' := by
  cases r with
  | ok a μ' => exact fun φ' H' x A => f a μ' φ' H' x A (h φ' H' x A)
  | ex _ _ => exact h
  | no => exact h
theorem Run.wish {α : Type} {Z' : EZ} {r : Res α} {k : α → Mu → Ph → Hp → Prop} (h : Run K fa Z φ H r k) (f : ∀ x H, Z x H → Z' x H) : Run K fa Z' φ H r k := by
  cases r with
  | ok a μ' => exact h
  | ex x _ => exact fun φ' H' y A => f x H' (h φ' H' y A)
  | no => exact h
theorem Run.any {α : Type} {r : Res α} {k : α → Mu → Ph → Hp → Prop} (h : Run K fa Z φ H r k) : Run K fa ZT φ H r k := by
  cases r with
  | ok a μ' => exact h
  | ex _ _ => exact fun _ _ _ _ => trivial
  | no => exact h
theorem Run.ext {α : Type} {r : Res α} {k : α → Mu → Ph → Hp → Prop} (x : Ext φ H φ' H') (h : Run K fa Z φ H r k) : Run K fa Z φ' H' r k := by
  cases r with
  | ok a μ' => exact fun φ2 H2 y A => h φ2 H2 (x.trans y) A
  | ex _ _ => exact fun φ2 H2 y A => h φ2 H2 (x.trans y) A
  | no => exact h
theorem Run.bind {α β : Type} {r : Res α} {f : α → Mu → Res β} {k : β → Mu → Ph → Hp → Prop} (h : Run K fa Z φ H (r.bind f) k) :
    Run K fa Z φ H r fun a μ' φ' H' => Run K fa Z φ' H' (f a μ') k := by
  cases r with
  | ok a μ' => exact fun φ' H' x A => Run.ext x h
  | ex _ _ => exact h
  | no => exact h
theorem Run.of {α : Type} {o : Option α} {k : α → Mu → Ph → Hp → Prop} (h : Run K fa Z φ H (Res.of o μ) k) : ∃ a, o = some a ∧ ∀ φ' H', Ext φ H φ' H' → Abs K fa φ' μ H' → k a μ φ' H' := by
  cases o with
  | some a => exact ⟨a, rfl, h⟩
  | none => exact False.elim h
theorem Run.here {α : Type} {a : α} {k : α → Mu → Ph → Hp → Prop} (h : Run K fa Z φ H (.ok a μ) k) (A : Abs K fa φ μ H) : k a μ φ H := h φ H (Ext.refl _ _) A
end
section
variable {X : Cx} {fa : Lay} {W : EW} {Z : EZ} {a b e : Expr} {ma mb : Rho → Mu → Res D} {pos : Pos}
theorem PE.imp {t t' : TE} (h : PE X e t) (f : ∀ σ H Q, t' σ H Q → t σ H Q) : PE X e t' := ⟨fun pins s σ H Q I q => h.run pins s σ H Q I (f σ H Q q)⟩
theorem PT.imp {t t' : TT} (h : PT X e t) (f : ∀ σ H Q, t' σ H Q → t σ H Q) : PT X e t' := ⟨fun pins s σ H Q I q => h.run pins s σ H Q I (f σ H Q q)⟩
theorem PA.imp {es : List Expr} {t t' : TA} (h : PA X es t) (f : ∀ σ H Q, t' σ H Q → t σ H Q) : PA X es t' := ⟨fun pos pins s σ H Q I q => h.run pos pins s σ H Q I (f σ H Q q)⟩
/-- two, then an operation -/
theorem two {f : Mu → D → D → Res D} (σ : L2.St) (H : Hp) (Q : VK) (h : tE X.K fa W (fun ρ μ => (ma ρ μ).bind fun x μ => (mb ρ μ).bind fun y μ => f μ x y) σ H Q) :
    tOp (rOp X.K fa f) (tE X.K fa W ma) (tE X.K fa W mb) σ H Q := by
  obtain ⟨φ, μ, ρ, A, R, h⟩ := h
  refine ⟨φ, μ, ρ, A, R, h.bind.imp fun x μ1 φ1 H1 e1 A1 h1 v rv => ?_⟩
  refine ⟨φ1, μ1, ρ, A1, R.ext e1, h1.bind.imp fun y μ2 φ2 H2 e2 A2 h2 u ru => ?_⟩
  exact ⟨φ2, μ2, x, y, A2, rv.ext e2, ru, h2.any⟩

/-! ### numbers, texts, rows -/
theorem i2_some {α : Type} {a b : D} {f : Int → Int → Option α} {d : α} (h : i2 a b f = some d) : ∃ i j, a = .int i ∧ b = .int j ∧ f i j = some d := by
  cases a <;> cases b <;> first | exact ⟨_, _, rfl, rfl, h⟩ | cases h
theorem ite_some {α : Type} {c : Prop} [Decidable c] {x : Option α} {d : α} (h : (if c then x else none) = some d) : c ∧ x = some d := by
  by_cases hc : c
  · rw [if_pos hc] at h; exact ⟨hc, h⟩
  · rw [if_neg hc] at h; cases h
theorem rv_int {K : PySem.W.Frag} {G : Hp} {φ : Ph} {i : Int} {v : V} (h : RV K fa G φ (.int i) v) : v = .int i := by unfold RV at h; exact h
theorem rv_bl {K : PySem.W.Frag} {G : Hp} {φ : Ph} {i : Bool} {v : V} (h : RV K fa G φ (.bl i) v) : v = .bl i := by unfold RV at h; exact h
theorem rv_non {K : PySem.W.Frag} {G : Hp} {φ : Ph} {v : V} (h : RV K fa G φ .non v) : v = .non := by unfold RV at h; exact h
theorem rv_str {K : PySem.W.Frag} {G : Hp} {φ : Ph} {s : Txt} {v : V} (h : RV K fa G φ (.str s) v) : v = .str (sOf s) ∧ okT s = true := by unfold RV at h; exact h
theorem rv_tup {K : PySem.W.Frag} {G : Hp} {φ : Ph} {l : List D} {v : V} (h : RV K fa G φ (.tup l) v) : ∃ a vs, v = .ref a ∧ SqT K G a vs ∧ RVs K fa G φ l vs := by unfold RV at h; exact h
theorem rv_lst {K : PySem.W.Frag} {G : Hp} {φ : Ph} {l : List D} {v : V} (h : RV K fa G φ (.lst l) v) : ∃ a vs, v = .ref a ∧ SqL K G a vs ∧ RVs K fa G φ l vs := by unfold RV at h; exact h
theorem rv_loc {K : PySem.W.Frag} {G : Hp} {φ : Ph} {n : Nat} {v : V} (h : RV K fa G φ (.loc n) v) : ∃ a, φ.sh[n]? = some a ∧ v = .ref a := by unfold RV at h; exact h
theorem rv_fn {K : PySem.W.Frag} {G : Hp} {φ : Ph} {k : Nat} {l : List D} {v : V} (h : RV K fa G φ (.fn k l) v) : ∃ a, v = .ref a := by
  unfold RV at h
  by_cases hk : k < LB
  · rw [if_pos hk] at h; exact ⟨_, h.2⟩
  · rw [if_neg hk] at h
    obtain ⟨ci, _, _, e, _⟩ := h
    exact ⟨_, e⟩
theorem mk_int {K : PySem.W.Frag} {G : Hp} {φ : Ph} {i : Int} : RV K fa G φ (.int i) (.int i) := by unfold RV; rfl
theorem mk_bl {K : PySem.W.Frag} {G : Hp} {φ : Ph} {i : Bool} : RV K fa G φ (.bl i) (.bl i) := by unfold RV; rfl
theorem mk_non {K : PySem.W.Frag} {G : Hp} {φ : Ph} : RV K fa G φ .non .non := by unfold RV; rfl
theorem mk_str {K : PySem.W.Frag} {G : Hp} {φ : Ph} {s : Txt} (h : okT s = true) : RV K fa G φ (.str s) (.str (sOf s)) := by unfold RV; exact ⟨rfl, h⟩
theorem mk_tup {K : PySem.W.Frag} {G : Hp} {φ : Ph} {l : List D} {vs : List V} {p : Addr} (h : SqT K G p vs) (r : RVs K fa G φ l vs) : RV K fa G φ (.tup l) (.ref p) := by unfold RV; exact ⟨p, vs, rfl, h, r⟩
theorem mk_lst {K : PySem.W.Frag} {G : Hp} {φ : Ph} {l : List D} {vs : List V} {p : Addr} (h : SqL K G p vs) (r : RVs K fa G φ l vs) : RV K fa G φ (.lst l) (.ref p) := by unfold RV; exact ⟨p, vs, rfl, h, r⟩
theorem mk_loc {K : PySem.W.Frag} {G : Hp} {φ : Ph} {n : Nat} {p : Addr} (h : φ.sh[n]? = some p) : RV K fa G φ (.loc n) (.ref p) := by unfold RV; exact ⟨p, h, rfl⟩
section
variable {K : PySem.W.Frag} {φ : Ph} {H : Hp} {μ : Mu}
/-- a new tuple, a new list of one's own -/
theorem new_tup (A : Abs K fa φ μ H) {l : List D} {vs : List V} (r : RVs K fa (msk H φ) φ l vs) {p : Addr} (hp : H p = none) :
    Ext φ H φ (upd H p (.tup vs)) ∧ Abs K fa φ μ (upd H p (.tup vs)) ∧ RV K fa (msk (upd H p (.tup vs)) φ) φ (.tup l) (.ref p) := by
  have x : Ext φ H φ (upd H p (.tup vs)) := Ext.fresh A hp
  exact ⟨x, Abs.fresh A hp, mk_tup (.inl (.inl (by rw [msk_out (A.notIn hp), upd_same]))) (r.ext x)⟩
theorem new_lst (A : Abs K fa φ μ H) {l : List D} {vs : List V} (r : RVs K fa (msk H φ) φ l vs) {p : Addr} (hp : H p = none) :
    Ext φ H φ (upd H p (.lst vs)) ∧ Abs K fa φ μ (upd H p (.lst vs)) ∧ RV K fa (msk (upd H p (.lst vs)) φ) φ (.lst l) (.ref p) := by
  have x : Ext φ H φ (upd H p (.lst vs)) := Ext.fresh A hp
  exact ⟨x, Abs.fresh A hp, mk_lst (.inl (.inl (by rw [msk_out (A.notIn hp), upd_same]))) (r.ext x)⟩
/-- a new list that is shared -/
theorem new_loc (A : Abs K fa φ μ H) {l : List D} {vs : List V} (r : RVs K fa (msk H φ) φ l vs) {p : Addr} (hp : H p = none) :
    Ext φ H (φ.add p) (upd H p (.lst vs)) ∧ Abs K fa (φ.add p) (μ ++ [.lst l]) (upd H p (.lst vs)) ∧ RV K fa (msk (upd H p (.lst vs)) (φ.add p)) (φ.add p) (.loc μ.length) (.ref p) := by
  obtain ⟨x1, A1⟩ := Abs.push (o := .lst vs) (c := .lst l) A hp ⟨vs, upd_same, r.ext (Ext.add A hp)⟩
  refine ⟨x1, A1, mk_loc ?_⟩
  show (φ.sh ++ [p])[μ.length]? = some p
  rw [← A.len, List.getElem?_append_right (Nat.le_refl _), Nat.sub_self]
  rfl
/-- the list that a list's data stands for -/
theorem lst_at (A : Abs K fa φ μ H) {d : D} {l : List D} {v : V} (r : RV K fa (msk H φ) φ d v) (h : lstOf μ d = some l) : ∃ a vs, v = .ref a ∧ SqL K H a vs ∧ RVs K fa (msk H φ) φ l vs := by
  cases d with
  | lst q =>
    cases h
    obtain ⟨a, vs, e, hr, rs⟩ := rv_lst r
    exact ⟨a, vs, e, Same.sqL msk_same hr, rs⟩
  | loc n =>
    obtain ⟨a, ha, e⟩ := rv_loc r
    have h' : (match μ[n]? with | some (.lst l) => some l | _ => none) = some l := h
    cases hm : μ[n]? with
    | none => rw [hm] at h'; cases h'
    | some c =>
      rw [hm] at h'
      cases c with
      | lst q =>
        cases h'
        obtain ⟨vs, e1, rs⟩ := A.cell n a _ ha hm
        exact ⟨a, vs, e, .inl (.inl e1), rs⟩
      | _ => cases h'
  | _ => cases h
/-- a list's or tuple's items -/
theorem seq_at (A : Abs K fa φ μ H) {d : D} {l : List D} {v : V} (r : RV K fa (msk H φ) φ d v) (h : seqOf μ d = some l) : ∃ a vs, v = .ref a ∧ (SqL K H a vs ∨ SqT K H a vs) ∧ RVs K fa (msk H φ) φ l vs := by
  cases d with
  | tup q =>
    cases h
    obtain ⟨a, vs, e, hr, rs⟩ := rv_tup r
    exact ⟨a, vs, e, .inr (Same.seqT msk_same hr), rs⟩
  | lst q =>
    obtain ⟨a, vs, e, hr, rs⟩ := lst_at A r (l := l) (by cases h; rfl)
    exact ⟨a, vs, e, .inl hr, rs⟩
  | loc n =>
    obtain ⟨a, vs, e, hr, rs⟩ := lst_at A r (l := l) h
    exact ⟨a, vs, e, .inl hr, rs⟩
  | _ => cases h
end
theorem SqL.rd {K : PySem.W.Frag} {H : Hp} {a : Addr} {xs : List V} (h : Rd H a (.lst xs)) : SqL K H a xs := .inl h
theorem op_sub' : OpR X (binaryOp .Sub) (rOp X.K fa fun μ a b => Res.of (binD .sub μ a b) μ) := by
  intro pins s σ H x y v u Q I rx ry h
  obtain ⟨φ, μ, a, b, A, ra, rb, h⟩ := h
  obtain ⟨d, e, k⟩ := h.of
  obtain ⟨i, j, rfl, rfl, e⟩ := i2_some e
  cases e
  cases rv_int ra; cases rv_int rb
  exact op_sub pins s σ H _ _ v u Q I rx ry ⟨i, j, rfl, rfl, k φ H (Ext.refl _ _) A _ mk_int⟩
theorem lim_eq0 : (sizeLine : Nat) = lim := sizeLine_eq
theorem reps_cps (s : Txt) : ∀ (k : Nat) (acc : Array Nat), (List.replicate k (sOf s).cps).foldl (· ++ ·) acc = acc ++ (List.replicate k s).flatten.toArray
  | 0, acc => by simp
  | k + 1, acc => by
    rw [List.replicate_succ, List.foldl_cons, reps_cps s k, List.replicate_succ, List.flatten_cons]
    simp [sOf]
theorem okT_reps {s : Txt} (h : okT s = true) (k : Nat) : okT (List.replicate k s).flatten = true := by
  induction k with
  | zero => rfl
  | succ k ih => rw [List.replicate_succ, List.flatten_cons]; exact okT_app h ih
theorem rep_rvs {K : PySem.W.Frag} {G : Hp} {φ : Ph} {l : List D} {vs : List V} (n : Nat) (r : RVs K fa G φ l vs) : RVs K fa G φ (List.replicate n l).flatten (List.replicate n vs).flatten := by
  induction n with
  | zero => exact RVs.nil
  | succ n ih => rw [List.replicate_succ, List.replicate_succ, List.flatten_cons, List.flatten_cons]; exact r.append ih
theorem op_mul' : OpR X (binaryOp .Mult) (rOp X.K fa fun μ a b => Res.of (binD .mul μ a b) μ) := by
  intro pins s σ H x y v u Q I rx ry h
  obtain ⟨φ, μ, a, b, A, ra, rb, h⟩ := h
  obtain ⟨d, e, k⟩ := h.of
  replace e : mulD a b = some d := e
  unfold mulD at e
  split at e
  · obtain ⟨c, e⟩ := ite_some e
    cases e
    cases rv_int ra; cases rv_int rb
    exact op_mulW pins s σ H _ _ v u Q I rx ry ⟨_, _, rfl, rfl, c, k φ H (Ext.refl _ _) A _ mk_int⟩
  · rename_i w j
    obtain ⟨⟨c1, c2, c3⟩, e⟩ := ite_some e
    cases e
    obtain ⟨rfl, ok⟩ := rv_str ra
    cases rv_int rb
    obtain ⟨t, rfl⟩ := rx
    obtain ⟨t', rfl⟩ := ry
    have hlen : (sOf w).length = w.length := sOf_len w
    have hz : Builtin.Str.tooLong ((sOf w).length * j.toNat) = false := by
      show decide ((sOf w).length * j.toNat > sizeLine) = false
      rw [hlen, lim_eq0]
      exact decide_eq_false (by omega)
    have fin : ∀ (x : Str) (tk : Tok) (n : Nat), x = sOf (List.replicate j.toNat w).flatten → EP X pins σ Q (.str x tk) { s with toks := n } := fun x tk n ex => by
      subst ex
      exact ⟨.str _, H, I.tok _, ⟨_, rfl⟩, k φ H (Ext.refl _ _) A _ (mk_str (okT_reps ok _))⟩
    refine PySem.P.mul_str (by
        rw [decide_eq_false (by omega), decide_eq_false (by omega)]; rfl) (fun h1 _ h2 => ?_) (fun _ _ => hz) ?_
    · have h3 : ((sOf w).length : Int) * j ≤ 2 ^ 63 - 1 := by
        rw [hlen]
        have : ((w.length * j.toNat : Nat) : Int) = (w.length : Int) * j := by
          rw [Int.natCast_mul, Int.toNat_of_nonneg (by omega)]
        rw [← this]
        have hl : lim = 16777216 := rfl
        rw [hl] at c3
        omega
      have h4 := Int.le_ediv_of_mul_le (by omega : 0 < j) h3
      omega
    · by_cases h1 : j < 1
      · rw [if_pos h1]
        refine ⟨by decide, fin _ _ _ ?_⟩
        have : j.toNat = 0 := by omega
        rw [this]
        rfl
      · rw [if_neg h1]
        by_cases h2 : (j == 1 || (sOf w).length == 0) = true
        · rw [if_pos h2]
          refine ⟨.str _, H, I, ⟨_, rfl⟩, ?_⟩
          have ew : w = (List.replicate j.toNat w).flatten := by
            rw [Bool.or_eq_true, beq_iff_eq, beq_iff_eq, hlen] at h2
            rcases h2 with h2 | h2
            · subst h2; simp
            · have : w = [] := List.length_eq_zero_iff.mp h2
              subst this
              simp
          have := k φ H (Ext.refl _ _) A _ (mk_str (okT_reps ok j.toNat))
          rw [← ew] at this
          exact this
        · rw [if_neg h2]
          refine ⟨PySem.fits_reps hz, fin _ _ _ ?_⟩
          rw [reps_cps]
          simp [sOf]
  · rename_i l j
    obtain ⟨⟨c1, c2, c3⟩, e⟩ := ite_some e
    cases e
    obtain ⟨p, vs, rfl, hs, rs⟩ := rv_tup ra
    cases rv_int rb
    cases rx
    obtain ⟨t', rfl⟩ := ry
    have hl := rs.length
    refine op_repN I (Same.seqT (msk_same (φ := φ)) hs) c1 c2 (by omega) (fun hsm => ?_) fun q hq => ?_
    · have ew : (List.replicate j.toNat l).flatten = l := by
        rcases hsm with e | e
        · have : l = [] := List.length_eq_zero_iff.mp (by rw [← hl, e]; rfl)
          subst this; simp
        · subst e; simp
      have := k φ H (Ext.refl _ _) A _ (mk_tup (l := (List.replicate j.toNat l).flatten) hs (by rw [ew]; exact rs))
      exact this
    · obtain ⟨x1, A1, r1⟩ := new_tup A (rep_rvs j.toNat rs) hq
      exact k φ _ x1 A1 _ r1
  · cases e
theorem op_fdiv' : OpR X (binaryOp .FloorDiv) (rOp X.K fa fun μ a b => Res.of (binD .fdiv μ a b) μ) := by
  intro pins s σ H x y v u Q I rx ry h
  obtain ⟨φ, μ, a, b, A, ra, rb, h⟩ := h
  obtain ⟨d, e, k⟩ := h.of
  obtain ⟨i, j, rfl, rfl, e⟩ := i2_some e
  obtain ⟨c, e⟩ := ite_some e
  cases e
  cases rv_int ra; cases rv_int rb
  exact op_fdivW pins s σ H _ _ v u Q I rx ry ⟨i, j, rfl, rfl, c, k φ H (Ext.refl _ _) A _ mk_int⟩
theorem op_mod' : OpR X (binaryOp .Mod) (rOp X.K fa fun μ a b => Res.of (binD .mod μ a b) μ) := by
  intro pins s σ H x y v u Q I rx ry h
  obtain ⟨φ, μ, a, b, A, ra, rb, h⟩ := h
  obtain ⟨d, e, k⟩ := h.of
  obtain ⟨i, j, rfl, rfl, e⟩ := i2_some e
  obtain ⟨c, e⟩ := ite_some e
  cases e
  cases rv_int ra; cases rv_int rb
  exact op_mod pins s σ H _ _ v u Q I rx ry ⟨i, j, rfl, rfl, c, k φ H (Ext.refl _ _) A _ mk_int⟩
theorem op_pow' : OpR X (binaryOp .Pow) (rOp X.K fa fun μ a b => Res.of (binD .pow μ a b) μ) := by
  intro pins s σ H x y v u Q I rx ry h
  obtain ⟨φ, μ, a, b, A, ra, rb, h⟩ := h
  obtain ⟨d, e, k⟩ := h.of
  obtain ⟨i, j, rfl, rfl, e⟩ := i2_some e
  obtain ⟨c, e⟩ := ite_some e
  cases e
  cases rv_int ra; cases rv_int rb
  exact op_pow pins s σ H _ _ v u Q I rx ry ⟨i, j, rfl, rfl, c, k φ H (Ext.refl _ _) A _ mk_int⟩
/-- list + list, as they are read -/
def rCatR (K : PySem.W.Frag) : R2 := fun x y H Q => ∃ l b xs zs, x = .ref l ∧ y = .ref b ∧ SqL K H l xs ∧ SqL K H b zs ∧ xs.length + zs.length ≤ sizeLine ∧ ∀ p, H p = none → Q (.ref p) (upd H p (.lst (xs ++ zs)))
theorem op_catR : OpR X (binaryOp .Add) (rCatR X.K) := by
  intro pins s σ H x y v u Q I rx ry h
  obtain ⟨l, b, xs, zs, rfl, rfl, hH, hB, hz, q⟩ := h
  cases rx
  cases ry
  obtain ⟨its, r, ⟨⟨c1, dd1, da1, sl1⟩, n1, e1, hc1, hd1, hs1⟩, z⟩ := I.list hH
  obtain ⟨its2, r2, ⟨⟨c2, dd2, da2, sl2⟩, n2, e2, hc2, hd2, hs2⟩, z2⟩ := I.list hB
  simp only at hc1 hd1 hs1 hc2 hd2 hs2
  subst hc1 hd1 hs1 hc2 hd2 hs2
  have hl := r.length
  have hl2 := r2.length
  refine PySem.concat_meets ⟨_, e1, rfl⟩ ⟨_, e2, rfl⟩ PySem.noFill_list_add PySem.seq_list_add PySem.F.slot_list_add PySem.F.entry_list_add (PySem.F.args_list_add_2 _ _) (list_addW l b its.toArray its2.toArray n1 n2 none none sl1 sl2 (by simp; omega)) ⟨e1, e2, ?_⟩
  have ea : its.toArray ++ its2.toArray = (its ++ its2).toArray := by simp
  rw [ea]
  exact ⟨.ref _, _, I.lnew (t' := s.toks) (r.append r2) (by rw [List.length_append]; omega), rfl, q _ I.fresh⟩
theorem lim_eq : (sizeLine : Nat) = lim := sizeLine_eq
theorem add_lists {pins : List (Addr × Obj)} {s : Shared} {σ : L2.St} {H : Hp} {x y : V} {v u : Value} {Q : VK} (I : Inv X pins σ H s) (rx : RelV x v) (ry : RelV y u) {φ : Ph} {μ : Mu} {a b : D} {l r : List D}
    (A : Abs X.K fa φ μ H) (ra : RV X.K fa (msk H φ) φ a x) (rb : RV X.K fa (msk H φ) φ b y) (ha : lstOf μ a = some l) (hb : lstOf μ b = some r) (hl : l.length + r.length ≤ lim)
    (k : ∀ p vs, RVs X.K fa (msk H φ) φ (l ++ r) vs → H p = none → Q (.ref p) (upd H p (.lst vs))) : wpAny (model X.prog X.w) X.A (binaryOp .Add v u) (EP X pins σ Q) X.xe s := by
  obtain ⟨p, vs, rfl, h1, r1⟩ := lst_at A ra ha
  obtain ⟨q, us, rfl, h2, r2⟩ := lst_at A rb hb
  exact op_catR pins s σ H _ _ v u Q I rx ry ⟨p, q, vs, us, rfl, rfl, h1, h2, by rw [r1.length, r2.length, lim_eq]; exact hl, fun z hz => k z _ (r1.append r2) hz⟩
theorem op_add' : OpR X (binaryOp .Add) (rOp X.K fa fun μ a b => Res.of (binD .add μ a b) μ) := by
  intro pins s σ H x y v u Q I rx ry h
  obtain ⟨φ, μ, a, b, A, ra, rb, h⟩ := h
  obtain ⟨d, e, k⟩ := h.of
  have lists : ∀ l r, lstOf μ a = some l → lstOf μ b = some r → l.length + r.length ≤ lim → d = .lst (l ++ r) → wpAny (model X.prog X.w) X.A (binaryOp .Add v u) (EP X pins σ Q) X.xe s := fun l r ha hb hl ed => by
    subst ed
    refine add_lists I rx ry A ra rb ha hb hl fun p vs rs hp => ?_
    obtain ⟨x1, A1, r1⟩ := new_lst A rs hp
    exact k φ _ x1 A1 _ r1
  have e : addD μ a b = some d := e
  unfold addD at e
  split at e
  · cases e
    cases rv_int ra; cases rv_int rb
    exact op_add pins s σ H _ _ v u Q I rx ry ⟨_, _, rfl, rfl, k φ H (Ext.refl _ _) A _ mk_int⟩
  · obtain ⟨c, e⟩ := ite_some e
    cases e
    obtain ⟨rfl, o1⟩ := rv_str ra
    obtain ⟨rfl, o2⟩ := rv_str rb
    refine op_add_str pins s σ H _ _ v u Q I rx ry ⟨_, _, rfl, rfl, by rw [sOf_len, sOf_len, lim_eq]; exact c, ?_⟩
    rw [sOf_app]
    exact k φ H (Ext.refl _ _) A _ (mk_str (okT_app o1 o2))
  · rename_i s1 t1 _
    obtain ⟨c, e⟩ := ite_some e
    cases e
    obtain ⟨p, vs, rfl, h1, r1⟩ := rv_tup ra
    obtain ⟨q, us, rfl, h2, r2⟩ := rv_tup rb
    have h1' := Same.seqT (msk_same (φ := φ)) h1
    have h2' := Same.seqT (msk_same (φ := φ)) h2
    refine op_catA pins s σ H _ _ v u Q I rx ry ⟨p, q, vs, us, rfl, rfl, h1', h2', by rw [r1.length, r2.length, lim_eq]; exact c, fun e0 => ?_, fun _ e0 => ?_, fun _ _ z hz => ?_⟩
    · have e1 : s1 = [] := List.length_eq_zero_iff.mp (by rw [← r1.length, e0]; rfl)
      subst e1
      exact k φ H (Ext.refl _ _) A _ (mk_tup h2 r2)
    · have e1 : t1 = [] := List.length_eq_zero_iff.mp (by rw [← r2.length, e0]; rfl)
      subst e1
      exact k φ H (Ext.refl _ _) A _ (mk_tup h1 (by rw [List.append_nil]; exact r1))
    · obtain ⟨x1, A1, r3⟩ := new_tup A (r1.append r2) hz
      exact k φ _ x1 A1 _ r3
  · split at e
    · rename_i l r ha hb
      obtain ⟨c, e⟩ := ite_some e
      cases e
      exact lists l r ha hb c rfl
    · cases e
/-- list + list that is to be shared -/
def catD (μ : Mu) (x y : D) : Res D := match lstOf μ x, lstOf μ y with
  | some s, some t => if s.length + t.length ≤ lim then .ok (.loc μ.length) (μ ++ [.lst (s ++ t)]) else .no
  | _, _ => .no
theorem op_catM : OpR X (binaryOp .Add) (rOp X.K fa catD) := by
  intro pins s σ H x y v u Q I rx ry h
  obtain ⟨φ, μ, a, b, A, ra, rb, h⟩ := h
  unfold catD at h
  split at h
  · rename_i l r ha hb
    by_cases c : l.length + r.length ≤ lim
    · rw [if_pos c] at h
      refine add_lists I rx ry A ra rb ha hb c fun p vs rs hp => ?_
      obtain ⟨x1, A1, r1⟩ := new_loc A rs hp
      exact h _ _ x1 A1 _ r1
    · rw [if_neg c] at h; exact False.elim h
  · exact False.elim h
theorem un_neg' : UnR X (unaryOp .USub) (fun x H Q => ∃ φ μ a, Abs X.K fa φ μ H ∧ RV X.K fa (msk H φ) φ a x ∧ Run X.K fa Z φ H (match a with | .int i => .ok (.int (-i)) μ | _ => .no) (toV X.K fa Q)) := by
  intro pins s σ H x v Q I rx h
  obtain ⟨φ, μ, a, A, ra, h⟩ := h
  cases a with
  | int i =>
    cases rv_int ra
    exact un_neg pins s σ H _ v Q I rx ⟨i, rfl, h.here A _ mk_int⟩
  | _ => exact False.elim h
end
end Ev

set_option Elab.async false
set_option linter.all false
set_option maxRecDepth 100000
set_option maxHeartbeats 1000000
/-! A dict is no text. -/
namespace Ev
open PySem PySem.Spec PyProof.Rows L2 PySem.SeqAt MeetsSeq MeetsSeq2 MeetsSeq3 SeqRoads2 AutoSeq1
section
variable {es : Array DictEntry} {ep : Nat} {dd : Option Addr} {sl : Array (Option Value)} {l : Addr} {b : Str} {u : Tok}
abbrev dOb (es : Array DictEntry) (ep : Nat) (dd : Option Addr) (sl : Array (Option Value)) : Obj := { cls := .type "dict", dict := dd, data := .dict es ep, slots := sl }
theorem dict_eq_no : Meets (Builtin.«dict.__eq__» ⟨[.ref l, .str b u], []⟩) (fun _ R s => s.heap.get? l = some (dOb es ep dd sl) ∧ R (.ok (.ret .notImplemented)) s) :=
  .of_wp fun prog w A R s h => by
    obtain ⟨hp, g, d, tk, os⟩ := s
    obtain ⟨hl, h⟩ := h
    have f1 : isSubtype (.type "str") (.type "dict") = pure false := by rw [isSubtype_type]; kernel_rfl
    wp_walk using wpAny_loadPart' hl, wpAny_load hl
    exact ⟨_, rfl, h⟩
theorem dict_ne_no : Meets (Builtin.«dict.__ne__» ⟨[.ref l, .str b u], []⟩) (fun _ R s => s.heap.get? l = some (dOb es ep dd sl) ∧ R (.ok (.ret .notImplemented)) s) :=
  .of_wp fun prog w A R s h => by
    obtain ⟨hp, g, d, tk, os⟩ := s
    obtain ⟨hl, h⟩ := h
    have f1 : isSubtype (.type "str") (.type "dict") = pure false := by rw [isSubtype_type]; kernel_rfl
    wp_walk using wpAny_loadPart' hl, wpAny_load hl
    exact ⟨_, rfl, h⟩
theorem str_eq_no : Meets (Builtin.«str.__eq__» ⟨[.str b u, .ref l], []⟩) (fun _ R s => s.heap.get? l = some (dOb es ep dd sl) ∧ R (.ok (.ret .notImplemented)) s) :=
  .of_wp fun prog w A R s h => by
    obtain ⟨hp, g, d, tk, os⟩ := s
    obtain ⟨hl, h⟩ := h
    wp_walk using wpAny_loadPart' hl, wpAny_load hl
    exact ⟨_, rfl, h⟩
theorem str_ne_no : Meets (Builtin.«str.__ne__» ⟨[.str b u, .ref l], []⟩) (fun _ R s => s.heap.get? l = some (dOb es ep dd sl) ∧ R (.ok (.ret .notImplemented)) s) :=
  .of_wp fun prog w A R s h => by
    obtain ⟨hp, g, d, tk, os⟩ := s
    obtain ⟨hl, h⟩ := h
    wp_walk using wpAny_loadPart' hl, wpAny_load hl
    exact ⟨_, rfl, h⟩
theorem dict_str {A : Around} {s : Shared} (ho : s.heap.get? l = some (dOb es ep dd sl)) (hu : A.units < cLine) : RcAt A s (.ref l) (.str b u) false := fun prog w E Q h =>
  rc_eq_decline_or (k := false) ⟨_, ho, rfl⟩ (typeIs_str s b u) (by decide) (by rw [isSubtype_type]; kernel_rfl) F.slot_dict_eq F.slot_str_eq_refl
    (fun _ q => call_meets F.slot_dict_eq ⟨_, ho, rfl⟩ F.entry_dict_eq (F.args_dict_eq_2 _ _) dict_eq_no ⟨ho, q⟩)
    (fun _ q => call_meets F.slot_str_eq_refl (typeIs_str s b u) F.entry_str_eq (F.args_str_eq_2 _ _) str_eq_no ⟨ho, q⟩)
    (fun _ q => wpAny_of_eq (rfl : isSame (.ref l) (.str b u) = pure false) q) (.inr hu) h
theorem dict_strN {A : Around} {s : Shared} (ho : s.heap.get? l = some (dOb es ep dd sl)) (hu : A.units < cLine) : RcNeAt A s (.ref l) (.str b u) true := fun prog w E Q h =>
  rc_ne_decline_or (k := false) ⟨_, ho, rfl⟩ (typeIs_str s b u) (by decide) (by rw [isSubtype_type]; kernel_rfl) F.slot_dict_ne F.slot_str_ne_refl
    (fun _ q => call_meets F.slot_dict_ne ⟨_, ho, rfl⟩ F.entry_dict_ne (F.args_dict_ne_2 _ _) dict_ne_no ⟨ho, q⟩)
    (fun _ q => call_meets F.slot_str_ne_refl (typeIs_str s b u) F.entry_str_ne (F.args_str_ne_2 _ _) str_ne_no ⟨ho, q⟩)
    (fun _ q => wpAny_of_eq (rfl : isSame (.ref l) (.str b u) = pure false) q) (.inr hu) h
end
end Ev

set_option Elab.async false
set_option linter.all false
set_option maxRecDepth 100000
set_option maxHeartbeats 1000000
/-! Dicts whose keys are ints and texts. -/
namespace Ev
open PySem PySem.Spec PyProof.Rows L2
section
variable {K : PySem.W.Frag} {fa : Lay} {φ : Ph} {H G : Hp} {μ : Mu}
theorem key_rv {d : D} {v : V} (c : isKey d = true) (r : RV K fa G φ d v) : ∃ k, RK d k ∧ v = kV k := by
  cases d with
  | int i => cases rv_int r; exact ⟨.inl i, rfl, rfl⟩
  | str s => obtain ⟨rfl, o⟩ := rv_str r; exact ⟨.inr (sOf s), ⟨rfl, o⟩, rfl⟩
  | _ => cases c
theorem rk_eq {a b : D} {x y : L2.Key} (h1 : RK a x) (h2 : RK b y) : (a == b) = decide (x = y) := by
  cases a with
  | int i =>
    cases (show x = .inl i from h1)
    cases b with
    | int j =>
      cases (show y = .inl j from h2)
      by_cases e : i = j
      · subst e; rw [decide_eq_true rfl]; exact beq_self_eq_true _
      · rw [decide_eq_false (fun z => e (Sum.inl.inj z))]; exact beq_eq_false_iff_ne.mpr fun z => e (by injection z)
    | str t =>
      obtain ⟨rfl, _⟩ := (show y = .inr (sOf t) ∧ okT t = true from h2)
      rw [decide_eq_false (fun z => by cases z)]; rfl
    | _ => exact False.elim h2
  | str s =>
    obtain ⟨rfl, _⟩ := (show x = .inr (sOf s) ∧ okT s = true from h1)
    cases b with
    | int j =>
      cases (show y = .inl j from h2)
      rw [decide_eq_false (fun z => by cases z)]; rfl
    | str t =>
      obtain ⟨rfl, _⟩ := (show y = .inr (sOf t) ∧ okT t = true from h2)
      by_cases e : s = t
      · subst e; rw [decide_eq_true rfl]; exact beq_self_eq_true _
      · rw [decide_eq_false (fun z => e (sOf_inj.mp (Sum.inr.inj z)))]; exact beq_eq_false_iff_ne.mpr fun z => e (by injection z)
    | _ => exact False.elim h2
  | _ => exact False.elim h1
theorem RDs.nil : RDs K fa G φ [] [] := rfl
theorem RDs.cons {p : D × D} {k : L2.Key} {v : V} {l : List (D × D)} {q : List (L2.Key × V)} (hk : RK p.1 k) (hv : RV K fa G φ p.2 v) (h : RDs K fa G φ l q) : RDs K fa G φ (p :: l) ((k, v) :: q) := ⟨k, v, q, rfl, hk, hv, h⟩
theorem RDs.len : ∀ {l : List (D × D)} {kvs : List (L2.Key × V)}, RDs K fa G φ l kvs → kvs.length = l.length
  | [], _, h => by cases (show _ = _ from h); rfl
  | p :: r, _, h => by
    obtain ⟨k, v, q, rfl, h1, h2, h3⟩ := h
    rw [List.length_cons, List.length_cons, RDs.len h3]
theorem lookD_cons {p : D × D} {l : List (D × D)} {k : D} : lookD (p :: l) k = if (p.1 == k) = true then some p.2 else lookD l k := by
  unfold lookD
  rw [List.find?_cons]
  cases p.1 == k <;> rfl
theorem RDs.look {k : D} {kk : L2.Key} (hk : RK k kk) : ∀ {l : List (D × D)} {kvs : List (L2.Key × V)}, RDs K fa G φ l kvs → (lookD l k).isSome = (valV kvs kk).isSome ∧ ∀ d, lookD l k = some d → ∃ v, valV kvs kk = some v ∧ RV K fa G φ d v
  | [], _, h => by cases (show _ = _ from h); exact ⟨rfl, fun d e => by cases e⟩
  | p :: r, _, h => by
    obtain ⟨j, v, q, rfl, h1, h2, h3⟩ := h
    rw [lookD_cons, rk_eq h1 hk]
    by_cases e : j = kk
    · rw [valV_pos (p := (j, v)) e, decide_eq_true e, if_pos rfl]
      exact ⟨rfl, fun d e => by cases e; exact ⟨v, rfl, h2⟩⟩
    · rw [valV_neg (p := (j, v)) e, decide_eq_false e, if_neg (by simp)]
      exact RDs.look hk h3
theorem RDs.any {k : D} {kk : L2.Key} (hk : RK k kk) : ∀ {l : List (D × D)} {kvs : List (L2.Key × V)}, RDs K fa G φ l kvs → (l.any fun p => p.1 == k) = kvs.any fun p => decide (p.1 = kk)
  | [], _, h => by cases (show _ = _ from h); rfl
  | p :: r, _, h => by
    obtain ⟨j, v, q, rfl, h1, h2, h3⟩ := h
    rw [List.any_cons, List.any_cons, RDs.any hk h3, rk_eq h1 hk]
theorem RDs.repl {k d : D} {kk : L2.Key} {v : V} (hk : RK k kk) (hv : RV K fa G φ d v) : ∀ {l : List (D × D)} {kvs : List (L2.Key × V)}, RDs K fa G φ l kvs → RDs K fa G φ (l.map fun p => if (p.1 == k) = true then (p.1, d) else p) (kvs.map fun p => if p.1 = kk then (p.1, v) else p)
  | [], _, h => by cases (show _ = _ from h); rfl
  | p :: r, _, h => by
    obtain ⟨j, u, q, rfl, h1, h2, h3⟩ := h
    rw [List.map_cons, List.map_cons, rk_eq h1 hk]
    by_cases e : j = kk
    · rw [decide_eq_true e, if_pos rfl, if_pos e]
      exact RDs.cons h1 hv (RDs.repl hk hv h3)
    · rw [decide_eq_false e, if_neg (by simp), if_neg e]
      exact RDs.cons h1 h2 (RDs.repl hk hv h3)
theorem RDs.snoc {k d : D} {kk : L2.Key} {v : V} (hk : RK k kk) (hv : RV K fa G φ d v) : ∀ {l : List (D × D)} {kvs : List (L2.Key × V)}, RDs K fa G φ l kvs → RDs K fa G φ (l ++ [(k, d)]) (kvs ++ [(kk, v)])
  | [], _, h => by cases (show _ = _ from h); exact RDs.cons hk hv RDs.nil
  | p :: r, _, h => by
    obtain ⟨j, u, q, rfl, h1, h2, h3⟩ := h
    exact RDs.cons h1 h2 (RDs.snoc hk hv h3)
theorem RDs.put {k d : D} {kk : L2.Key} {v : V} (hk : RK k kk) (hv : RV K fa G φ d v) {l : List (D × D)} {kvs : List (L2.Key × V)} (h : RDs K fa G φ l kvs) : RDs K fa G φ (putD l k d) (putK kvs kk v) := by
  unfold putD putK
  rw [RDs.any hk h]
  split
  · exact RDs.repl hk hv h
  · exact RDs.snoc hk hv h
theorem dct_at (A : Abs K fa φ μ H) {d : D} {v : V} {n : Nat} {l : List (D × D)} (h : dctAt μ d = some (n, l)) (r : RV K fa (msk H φ) φ d v) :
    ∃ a kvs, d = .loc n ∧ φ.sh[n]? = some a ∧ v = .ref a ∧ H a = some (.dK kvs) ∧ RDs K fa (msk H φ) φ l kvs := by
  cases d with
  | loc j =>
    unfold dctAt at h
    dsimp only at h
    cases hm : μ[j]? with
    | none => rw [hm] at h; cases h
    | some c =>
      rw [hm] at h
      cases c with
      | dct q =>
        cases h
        obtain ⟨a, ha, e⟩ := rv_loc r
        obtain ⟨kvs, e1, e2⟩ := A.cell n a _ ha hm
        exact ⟨a, kvs, rfl, ha, e, e1, e2⟩
      | _ => cases h
  | _ => cases h
end
end Ev

set_option Elab.async false
set_option linter.all false
set_option maxRecDepth 100000
set_option maxHeartbeats 1000000
/-! Dicts whose keys are tuples. -/
namespace Ev
open PySem PySem.Spec PyProof.Rows L2
mutual
theorem nk_inj : ∀ a b : D, isNK a = true → isNK b = true → nk a = nk b → a = b
  | .non, b, _, h, e => by cases b <;> simp [isNK, nk] at h e ⊢
  | .int i, b, _, h, e => by cases b <;> simp [isNK, nk] at h e ⊢; exact e
  | .str s, b, _, h, e => by cases b <;> simp [isNK, nk] at h e ⊢; exact sOf_inj.mp e
  | .tup l, b, h0, h, e => by
    cases b with
    | tup m =>
      unfold nk at e
      injection e with e
      unfold isNK at h0 h
      rw [nkL_inj l m h0 h e]
    | _ => simp [isNK, nk] at h e
  | .bl _, _, h, _, _ => by unfold isNK at h; cases h
  | .lst _, _, h, _, _ => by unfold isNK at h; cases h
  | .loc _, _, h, _, _ => by unfold isNK at h; cases h
  | .fn _ _, _, h, _, _ => by unfold isNK at h; cases h
theorem nkL_inj : ∀ a b : List D, isNKs a = true → isNKs b = true → nkL a = nkL b → a = b
  | [], b, _, _, e => by cases b <;> first | rfl | (unfold nkL at e; cases e)
  | x :: a, b, h0, h, e => by
    cases b with
    | nil => unfold nkL at e; cases e
    | cons y b =>
      unfold nkL at e
      injection e with e1 e2
      unfold isNKs at h0 h
      rw [Bool.and_eq_true] at h0 h
      rw [nk_inj x y h0.1 h.1 e1, nkL_inj a b h0.2 h.2 e2]
end
theorem kt_nk {d : D} (h : isKT d = true) : isNK d = true ∧ d.depth ≤ 8 := by
  cases d with
  | tup l =>
    unfold isKT at h
    rw [Bool.and_eq_true] at h
    exact ⟨by unfold isNK; exact h.1, of_decide_eq_true h.2⟩
  | _ => cases h
theorem nk_eq {a b : D} (ha : isNK a = true) (hb : isNK b = true) : (a == b) = decide (nk a = nk b) := by
  by_cases e : nk a = nk b
  · rw [decide_eq_true e, nk_inj a b ha hb e]; exact beq_self_eq_true _
  · rw [decide_eq_false e]
    exact beq_eq_false_iff_ne.mpr fun z => e (by rw [z])
mutual
theorem nk_depth : ∀ d : D, isNK d = true → (nk d).depth = d.depth
  | .non, _ => rfl
  | .int _, _ => rfl
  | .str _, _ => rfl
  | .tup l, h => by
    unfold isNK at h
    unfold nk NestedKey.depth D.depth
    rw [nkL_depth l h]
  | .bl _, h => by unfold isNK at h; cases h
  | .lst _, h => by unfold isNK at h; cases h
  | .loc _, h => by unfold isNK at h; cases h
  | .fn _ _, h => by unfold isNK at h; cases h
theorem nkL_depth : ∀ l : List D, isNKs l = true → NestedKey.depthAll (nkL l) = D.depthL l
  | [], _ => rfl
  | d :: r, h => by
    unfold isNKs at h
    rw [Bool.and_eq_true] at h
    unfold nkL NestedKey.depthAll D.depthL
    rw [nk_depth d h.1, nkL_depth r h.2]
end
section
variable {K : PySem.W.Frag} {fa : Lay} {φ : Ph} {H G : Hp} {μ : Mu}
theorem RXs.nil : RXs K fa G φ [] [] := rfl
theorem RXs.len : ∀ {l : List (D × D)} {kx : List (NestedKey × Addr × Value)}, RXs K fa G φ l kx → kx.length = l.length
  | [], _, h => by cases (show _ = _ from h); rfl
  | p :: r, _, h => by
    obtain ⟨b, u, v, q, rfl, h1, h2, h3, h4, h5⟩ := h
    rw [List.length_cons, List.length_cons, RXs.len h5]
theorem RXs.look {k : D} (hk : isKT k = true) : ∀ {l : List (D × D)} {kx : List (NestedKey × Addr × Value)}, RXs K fa G φ l kx → (lookD l k).isSome = (atKey kx (nk k)).isSome ∧ ∀ d, lookD l k = some d → ∃ b u v, atKey kx (nk k) = some (b, u) ∧ RelV v u ∧ RV K fa G φ d v
  | [], _, h => by cases (show _ = _ from h); exact ⟨rfl, fun d e => by cases e⟩
  | p :: r, _, h => by
    obtain ⟨b, u, v, q, rfl, h1, h2, h3, h4, h5⟩ := h
    rw [lookD_cons, nk_eq (kt_nk h1).1 (kt_nk hk).1]
    by_cases e : nk p.1 = nk k
    · have e2 : atKey ((nk p.1, b, u) :: q) (nk k) = some (b, u) := by
        unfold atKey
        rw [List.find?_cons]
        dsimp only
        rw [decide_eq_true e]
        rfl
      rw [e2, decide_eq_true e, if_pos rfl]
      exact ⟨rfl, fun d e => by cases e; exact ⟨b, u, v, rfl, h3, h4⟩⟩
    · have e2 : atKey ((nk p.1, b, u) :: q) (nk k) = atKey q (nk k) := by
        unfold atKey
        rw [List.find?_cons]
        dsimp only
        rw [decide_eq_false e]
      rw [e2, decide_eq_false e, if_neg (by simp)]
      exact RXs.look hk h5
theorem lookD_some {l : List (D × D)} {k : D} : (lookD l k).isSome = l.any fun p => p.1 == k := by
  unfold lookD
  rw [Option.isSome_map]
  induction l with
  | nil => rfl
  | cons p r ih =>
    rw [List.find?_cons, List.any_cons]
    cases p.1 == k with
    | true => rfl
    | false => rw [Bool.false_or]; exact ih
theorem RXs.repl {k d : D} {v : V} {u : Value} (hk : isKT k = true) (hu : RelV v u) (hv : RV K fa G φ d v) : ∀ {l : List (D × D)} {kx : List (NestedKey × Addr × Value)}, RXs K fa G φ l kx → RXs K fa G φ (l.map fun p => if (p.1 == k) = true then (p.1, d) else p) (kx.map (putAt (nk k) u))
  | [], _, h => by cases (show _ = _ from h); rfl
  | p :: r, _, h => by
    obtain ⟨b, u', v', q, rfl, h1, h2, h3, h4, h5⟩ := h
    rw [List.map_cons, List.map_cons, nk_eq (kt_nk h1).1 (kt_nk hk).1]
    by_cases e : nk p.1 = nk k
    · rw [decide_eq_true e, if_pos rfl]
      exact ⟨b, u, v, _, by unfold putAt; dsimp only; rw [if_pos e], h1, h2, hu, hv, RXs.repl hk hu hv h5⟩
    · rw [decide_eq_false e, if_neg (by simp)]
      exact ⟨b, u', v', _, by unfold putAt; dsimp only; rw [if_neg e], h1, h2, h3, h4, RXs.repl hk hu hv h5⟩
theorem RXs.snoc {k d : D} {b : Addr} {v : V} {u : Value} (hk : isKT k = true) (hb : RV K fa G φ k (.ref b)) (hu : RelV v u) (hv : RV K fa G φ d v) : ∀ {l : List (D × D)} {kx : List (NestedKey × Addr × Value)}, RXs K fa G φ l kx → RXs K fa G φ (l ++ [(k, d)]) (kx ++ [(nk k, b, u)])
  | [], _, h => by cases (show _ = _ from h); exact ⟨b, u, v, [], rfl, hk, hb, hu, hv, rfl⟩
  | p :: r, _, h => by
    obtain ⟨b', u', v', q, rfl, h1, h2, h3, h4, h5⟩ := h
    exact ⟨b', u', v', _, rfl, h1, h2, h3, h4, RXs.snoc hk hb hu hv h5⟩
theorem RXs.put {k d : D} {b : Addr} {v : V} {u : Value} (hk : isKT k = true) (hb : RV K fa G φ k (.ref b)) (hu : RelV v u) (hv : RV K fa G φ d v) {l : List (D × D)} {kx : List (NestedKey × Addr × Value)} (h : RXs K fa G φ l kx) : RXs K fa G φ (putD l k d) (storedH kx (nk k) b u) := by
  unfold putD storedH
  rw [← lookD_some, (RXs.look hk h).1]
  split
  · exact RXs.repl hk hu hv h
  · exact RXs.snoc hk hb hu hv h
/-- a dict whose keys are tuples, or the empty one -/
def IsDT (K : PySem.W.Frag) (fa : Lay) (G : Hp) (φ : Ph) (H : Hp) (a : Addr) (l : List (D × D)) (kx : List (NestedKey × Addr × Value)) : Prop := (H a = some (dtO fa.w a kx) ∧ RXs K fa G φ l kx) ∨ (H a = some (.dK []) ∧ l = [] ∧ kx = [])
theorem IsDT.rx {a : Addr} {l : List (D × D)} {kx : List (NestedKey × Addr × Value)} (h : IsDT K fa G φ H a l kx) : RXs K fa G φ l kx := by
  rcases h with ⟨_, h⟩ | ⟨_, rfl, rfl⟩
  · exact h
  · exact RXs.nil
theorem dtt_at (A : Abs K fa φ μ H) {d : D} {v : V} {n : Nat} {l : List (D × D)} (h : dttAt μ d = some (n, l)) (r : RV K fa (msk H φ) φ d v) :
    ∃ a kx, d = .loc n ∧ φ.sh[n]? = some a ∧ v = .ref a ∧ IsDT K fa (msk H φ) φ H a l kx := by
  cases d with
  | loc j =>
    unfold dttAt at h
    dsimp only at h
    cases hm : μ[j]? with
    | none => rw [hm] at h; cases h
    | some c =>
      rw [hm] at h
      cases c with
      | dtt q =>
        cases h
        obtain ⟨a, ha, e⟩ := rv_loc r
        obtain ⟨kx, e1, e2⟩ := A.cell n a _ ha hm
        exact ⟨a, kx, rfl, ha, e, .inl ⟨e1, e2⟩⟩
      | dct q =>
        cases q with
        | nil =>
          cases h
          obtain ⟨a, ha, e⟩ := rv_loc r
          obtain ⟨kvs, e1, e2⟩ := A.cell n a _ ha hm
          cases (show _ = _ from e2)
          exact ⟨a, [], rfl, ha, e, .inr ⟨e1, rfl, rfl⟩⟩
        | cons _ _ => cases h
      | _ => cases h
  | _ => cases h
end
section
variable {X : Cx} {fa : Lay} {φ : Ph} {H G : Hp} {μ : Mu} {pins : List (Addr × Obj)} {σ : L2.St} {s : Shared}
mutual
theorem nested_is (I : Inv X pins σ H s) (hG : Same G H) : ∀ (d : D) (v : V) (u : Value), isNK d = true → RV X.K fa G φ d v → RelV v u → NestedIs s.heap (nk d) u
  | .non, v, u, _, r, q => by cases rv_non r; cases q; exact .none
  | .int i, v, u, _, r, q => by cases rv_int r; obtain ⟨t, rfl⟩ := q; exact .int i t
  | .str x, v, u, _, r, q => by obtain ⟨rfl, _⟩ := rv_str r; obtain ⟨t, rfl⟩ := q; exact .text _ t
  | .tup l, v, u, h, r, q => by
    obtain ⟨a, vs, rfl, hs, rs⟩ := rv_tup r
    cases q
    obtain ⟨its, r2, ⟨o, h1, h2, n, h3⟩, _⟩ := I.tuple (Same.seqT hG hs)
    unfold isNK at h
    unfold nk
    exact .tup h1 h2 h3 (by simpa using nested_all I hG l vs its h rs r2)
  | .bl _, _, _, h, _, _ => by unfold isNK at h; cases h
  | .lst _, _, _, h, _, _ => by unfold isNK at h; cases h
  | .loc _, _, _, h, _, _ => by unfold isNK at h; cases h
  | .fn _ _, _, _, h, _, _ => by unfold isNK at h; cases h
theorem nested_all (I : Inv X pins σ H s) (hG : Same G H) : ∀ (l : List D) (vs : List V) (us : List Value), isNKs l = true → RVs X.K fa G φ l vs → Vals vs us → NestedAll s.heap (nkL l) us
  | [], vs, us, _, r, q => by unfold RVs at r; subst r; cases q; unfold nkL; exact .nil
  | d :: l, vs, us, h, r, q => by
    unfold RVs at r
    obtain ⟨v, vs', rfl, r1, r2⟩ := r
    cases q with
    | cons q1 q2 =>
      unfold isNKs at h
      rw [Bool.and_eq_true] at h
      unfold nkL
      exact .cons (nested_is I hG d v _ h.1 r1 q1) (nested_all I hG l vs' _ h.2 r2 q2)
end
theorem is_key (I : Inv X pins σ H s) (hG : Same G H) {d : D} {b : Addr} (hk : isKT d = true) (r : RV X.K fa G φ d (.ref b)) : (nestedKind X.prog X.w).is s.heap (nk d) b :=
  ⟨nested_is I hG d _ _ (kt_nk hk).1 r rfl, by rw [nk_depth d (kt_nk hk).1]; exact (kt_nk hk).2⟩
theorem kt_ref {d : D} {v : V} (hk : isKT d = true) (r : RV X.K fa G φ d v) : ∃ b, v = .ref b := by
  cases d with
  | tup l => obtain ⟨a, vs, rfl, _, _⟩ := rv_tup r; exact ⟨a, rfl⟩
  | _ => cases hk
theorem RXs.keys : ∀ {l : List (D × D)} {kx : List (NestedKey × Addr × Value)}, RXs X.K fa G φ l kx → ∀ x ∈ kx, ∃ d, x.1 = nk d ∧ isKT d = true ∧ RV X.K fa G φ d (.ref x.2.1)
  | [], _, h, x, hx => by cases (show _ = _ from h); cases hx
  | p :: r, _, h, x, hx => by
    obtain ⟨b, u', v', q, rfl, h1, h2, h3, h4, h5⟩ := h
    rcases List.mem_cons.mp hx with rfl | hx
    · exact ⟨p.1, rfl, h1, h2⟩
    · exact RXs.keys h5 x hx
theorem dtt_have (I : Inv X pins σ H s) (hw : fa.w = X.w) {a : Addr} {l : List (D × D)} {kx : List (NestedKey × Addr × Value)} (r : IsDT X.K fa (msk H φ) φ H a l kx) : kx.length ≤ sizeLine ∧ (a == sysModules) = false ∧ s.heap.DictOfH (nestedKind X.prog X.w) a kx := by
  rcases r with ⟨e, r⟩ | ⟨e, rfl, rfl⟩
  · obtain ⟨⟨h1, h2, o, es, ep, h3, h4, h5, h6, h7⟩, _⟩ := (show ObjOk X.prog X.w H s.heap a (dtO fa.w a kx) from I.hok a _ e)
    rw [hw] at h6
    exact ⟨h1, h2, o, es, ep, h3, h4, h5, h6, fun x hx => by
      obtain ⟨d, e1, e2, e3⟩ := r.keys x hx
      rw [e1]
      exact is_key I msk_same e2 e3, h7⟩
  · obtain ⟨h1, h2, vs, hv, o, es, ep, h3, h4, h5, h6, h7, h8⟩ := (show ObjOk X.prog X.w H s.heap a (.dK []) from I.hok a _ e)
    cases hv
    have h9 : es.toList = [] := by
      generalize es.toList = q at h7
      cases h7
      rfl
    exact ⟨h1, h2, o, es, ep, h3, h4, h5, h9, fun x hx => (by cases hx), List.nodup_nil⟩
/-- a dict as it stands is tracked -/
theorem dtt_obj {h : Heap} {a : Addr} {kx : List (NestedKey × Addr × Value)} (hl : kx.length ≤ sizeLine) (hs : (a == sysModules) = false) (d : h.DictOfH (nestedKind X.prog X.w) a kx) {H' : Hp} : ObjOk X.prog X.w H' h a (dtO X.w a kx) := by
  obtain ⟨o, es, ep, h3, h4, h5, h6, _, h7⟩ := d
  exact ⟨⟨hl, hs, o, es, ep, h3, h4, h5, h6, h7⟩, ⟨o, h3⟩, fun h1 h2 ⟨q1, q2, o, es, ep, q3, q4, q5, q6, q7⟩ st => ⟨q1, q2, o, es, ep, st o q3, q4, q5, q6, q7⟩⟩
theorem room_nk {A : Around} (hu : A.units + 64 < cLine) : (nestedKind X.prog X.w).room A.in1.in1 := by
  show A.units + 1 + 1 + 8 < cLine
  omega
theorem room_nk1 {A : Around} (hu : A.units + 64 < cLine) : (nestedKind X.prog X.w).room A.in1 := by
  show A.units + 1 + 8 < cLine
  omega
/-- d[(..)] -/
theorem dtt_get {AA : Around} (hu : AA.units + 64 < cLine) (hw : fa.w = X.w) (I : Inv X pins σ H s) {a : Addr} {l : List (D × D)} {kx : List (NestedKey × Addr × Value)} (r : IsDT X.K fa (msk H φ) φ H a l kx)
    {b : Addr} {k : D} (hk : isKT k = true) (hb : RV X.K fa (msk H φ) φ k (.ref b)) {d : D} (hd : lookD l k = some d) {E : Value → Shared → Prop} {Q : Value → Shared → Prop}
    (h : ∀ v u s', Inv X pins σ H s' → RelV v u → RV X.K fa (msk H φ) φ d v → Q u s') : wpAny (model X.prog X.w) AA (getItem (.ref a) (.ref b)) Q E s := by
  obtain ⟨_, _, dd⟩ := dtt_have I hw r
  obtain ⟨b', u, v, e1, e2, e3⟩ := (r.rx.look hk).2 d hd
  refine wpAny_getItem_heap (room_nk1 hu) (is_key I msk_same hk hb) dd e1 ?_
  exact h v u _ (I.tok _) e2 e3
/-- (..) in d -/
theorem dtt_in {AA : Around} (hu : AA.units + 64 < cLine) (hw : fa.w = X.w) (I : Inv X pins σ H s) {a : Addr} {l : List (D × D)} {kx : List (NestedKey × Addr × Value)} (r : IsDT X.K fa (msk H φ) φ H a l kx)
    {b : Addr} {k : D} (hk : isKT k = true) (hb : RV X.K fa (msk H φ) φ k (.ref b)) {E : Value → Shared → Prop} {Q : Bool → Shared → Prop}
    (h : ∀ s', Inv X pins σ H s' → Q (lookD l k).isSome s') : wpAny (model X.prog X.w) AA (contains (.ref a) (.ref b)) Q E s := by
  obtain ⟨_, hs, dd⟩ := dtt_have I hw r
  refine wpAny_contains_heap (room_nk1 hu) (is_key I msk_same hk hb) hs dd ?_
  rw [← (r.rx.look hk).1]
  exact h _ (I.tok _)
theorem dt_in {AA : Around} (hu : AA.units + 64 < cLine) (hw : fa.w = X.w) (I : Inv X pins σ H s) {a : Addr} {l : List (D × D)} {kx : List (NestedKey × Addr × Value)} (r : IsDT X.K fa (msk H φ) φ H a l kx)
    {b : Addr} {k : D} (hk : isKT k = true) (hb : RV X.K fa (msk H φ) φ k (.ref b)) {E : Value → Shared → Prop} {Q : Value → Shared → Prop}
    (h : ∀ s', Inv X pins σ H s' → Q (.bool (lookD l k).isSome) s') : wpAny (model X.prog X.w) AA (compareOp .In (.ref b) (.ref a)) Q E s := by
  show wpAny _ _ (do return .bool (← contains (.ref a) (.ref b))) Q E s
  exact wpAny_bind (dtt_in hu hw I r hk hb fun s' I' => wpAny_pure (h s' I'))
theorem dt_nin {AA : Around} (hu : AA.units + 64 < cLine) (hw : fa.w = X.w) (I : Inv X pins σ H s) {a : Addr} {l : List (D × D)} {kx : List (NestedKey × Addr × Value)} (r : IsDT X.K fa (msk H φ) φ H a l kx)
    {b : Addr} {k : D} (hk : isKT k = true) (hb : RV X.K fa (msk H φ) φ k (.ref b)) {E : Value → Shared → Prop} {Q : Value → Shared → Prop}
    (h : ∀ s', Inv X pins σ H s' → Q (.bool (!(lookD l k).isSome)) s') : wpAny (model X.prog X.w) AA (compareOp .NotIn (.ref b) (.ref a)) Q E s := by
  show wpAny _ _ (do return .bool (!(← contains (.ref a) (.ref b)))) Q E s
  exact wpAny_bind (dtt_in hu hw I r hk hb fun s' I' => wpAny_pure (h s' I'))
theorem dt_type {a : Addr} {l : List (D × D)} {kx : List (NestedKey × Addr × Value)} (hw : fa.w = X.w) (I : Inv X pins σ H s) (r : IsDT X.K fa (msk H φ) φ H a l kx) : s.TypeIs (.ref a) "dict" := (dtt_have I hw r).2.2.typeIs
/-- d[(..)] = v -/
theorem dtt_put {AA : Around} (hu : AA.units + 64 < cLine) (hw : fa.w = X.w) (I : Inv X pins σ H s) {a : Addr} {l : List (D × D)} {kx : List (NestedKey × Addr × Value)} (r : IsDT X.K fa (msk H φ) φ H a l kx) (hl : l.length < lim)
    {b : Addr} {k : D} (hk : isKT k = true) (hb : RV X.K fa (msk H φ) φ k (.ref b)) {u : Value} {E : Value → Shared → Prop} {Q : Unit → Shared → Prop}
    (h : ∀ s', Inv X pins σ (upd H a (dtO fa.w a (storedH kx (nk k) b u))) s' → Q () s') : wpAny (model X.prog X.w) AA (setItem (.ref a) (.ref b) u) Q E s := by
  obtain ⟨hz, hs, dd⟩ := dtt_have I hw r
  have hkl : kx.length = l.length := r.rx.len
  refine wpAny_setItem_heap (hsz := hz) (room_nk1 hu) (is_key I msk_same hk hb) dd fun h' hm' sb => ?_
  have mu : Mut (H a) := by
    rcases r with ⟨e, _⟩ | ⟨e, _, _⟩
    · rw [e]; exact trivial
    · rw [e]; exact trivial
  refine h _ (I.write (t' := _) (e := a) mu (.inl rfl) (fun c o hc e => sb.extBut c o hc e) ?_ ?_)
  · obtain ⟨o, _, _, e, _⟩ := hm'
    exact ⟨o, e⟩
  · have hle := storedH_length kx (nk k) b u
    have hlm : lim = 16777216 := rfl
    rw [hw]
    exact dtt_obj (by rw [sizeLine_eq]; omega) hs hm'
end
end Ev

set_option Elab.async false
set_option linter.all false
set_option maxRecDepth 100000
set_option maxHeartbeats 1000000
/-! Comparisons, places, slices. -/
namespace Ev
open PySem PySem.Spec PyProof.Rows L2
/-! ### == over data -/
mutual
def toP : D → PyData
  | .non => .none
  | .bl b => .bool b
  | .int i => .int i
  | .str s => .str (sOf s)
  | .tup l => .tuple (toPs l)
  | .lst l => .list (toPs l)
  | .loc _ => .none
  | .fn _ _ => .none
def toPs : List D → List PyData
  | [] => []
  | d :: ds => toP d :: toPs ds
end
mutual
theorem toP_depth : ∀ d : D, (toP d).depth = d.depth
  | .non => rfl
  | .bl _ => rfl
  | .int _ => rfl
  | .str _ => rfl
  | .loc _ => rfl
  | .fn _ _ => rfl
  | .tup l => by simp only [toP, PyData.depth, D.depth, toPs_depth l]
  | .lst l => by simp only [toP, PyData.depth, D.depth, toPs_depth l]
theorem toPs_depth : ∀ l : List D, PyData.depthAll (toPs l) = D.depthL l
  | [] => rfl
  | d :: ds => by simp only [toPs, PyData.depthAll, D.depthL, toP_depth d, toPs_depth ds]
end
theorem sOf_beq (s t : Txt) : (sOf s == sOf t) = (s == t) := by
  rw [Bool.eq_iff_iff, beq_iff_eq, beq_iff_eq]
  exact sOf_inj
mutual
theorem toP_eqv : ∀ a b : D, a.flat = true → b.flat = true → PyData.eqv (toP a) (toP b) = D.eqv a b
  | .non, b, _, _ => by cases b <;> simp_all [toP, PyData.eqv, D.eqv, D.flat]
  | .bl _, b, _, _ => by cases b <;> simp_all [toP, PyData.eqv, D.eqv, D.flat]
  | .int _, b, _, _ => by cases b <;> simp_all [toP, PyData.eqv, D.eqv, D.flat]
  | .str s, b, _, hb => by
    cases b with
    | str t => simp only [toP, PyData.eqv, D.eqv]; exact sOf_beq s t
    | _ => simp_all [toP, PyData.eqv, D.eqv, D.flat]
  | .loc _, _, h, _ => by simp [D.flat] at h
  | .fn _ _, _, h, _ => by simp [D.flat] at h
  | .tup l, b, ha, hb => by
    cases b with
    | tup r => simp only [toP, PyData.eqv, D.eqv]; exact toPs_eqv l r (by simpa [D.flat] using ha) (by simpa [D.flat] using hb)
    | _ => simp_all [toP, PyData.eqv, D.eqv, D.flat]
  | .lst l, b, ha, hb => by
    cases b with
    | lst r => simp only [toP, PyData.eqv, D.eqv]; exact toPs_eqv l r (by simpa [D.flat] using ha) (by simpa [D.flat] using hb)
    | _ => simp_all [toP, PyData.eqv, D.eqv, D.flat]
theorem toPs_eqv : ∀ a b : List D, D.flatL a = true → D.flatL b = true → PyData.eqvAll (toPs a) (toPs b) = D.eqvL a b
  | [], b, _, _ => by cases b <;> simp [toPs, PyData.eqvAll, D.eqvL]
  | a :: as, b, ha, hb => by
    cases b with
    | nil => simp [toPs, PyData.eqvAll, D.eqvL]
    | cons b bs =>
      simp only [D.flatL, Bool.and_eq_true] at ha hb
      simp only [toPs, PyData.eqvAll, D.eqvL, toP_eqv a b ha.1 hb.1, toPs_eqv as bs ha.2 hb.2]
end
section
variable {K : PySem.W.Frag} {fa : Lay} {W : EW} {Z : EZ} {G H : Hp} {φ : Ph} {μ : Mu}
theorem okT_strOk {s : Txt} (h : okT s = true) : PyData.strOk (sOf s) = true := by
  unfold PyData.strOk sOf
  unfold okT at h
  simpa using h
mutual
theorem RV.dp (hG : Same G H) : ∀ (d : D) (v : V), d.flat = true → RV K fa G φ d v → Dp K H v (toP d) ∧ (toP d).canLay0 = true
  | .non, v, _, h => by cases rv_non h; exact ⟨.non, rfl⟩
  | .bl b, v, _, h => by cases rv_bl h; exact ⟨.bl b, rfl⟩
  | .int i, v, _, h => by cases rv_int h; exact ⟨.int i, rfl⟩
  | .str s, v, _, h => by
    obtain ⟨rfl, o⟩ := rv_str h
    exact ⟨.str _, by simp only [toP, PyData.canLay0]; exact okT_strOk o⟩
  | .loc _, _, f, _ => by simp [D.flat] at f
  | .fn _ _, _, f, _ => by simp [D.flat] at f
  | .tup l, v, f, h => by
    obtain ⟨a, vs, rfl, hs, r⟩ := rv_tup h
    obtain ⟨h1, h2⟩ := RVs.dp hG l vs (by simpa [D.flat] using f) r
    exact ⟨.tup (Same.seqT hG hs) h1, by simp only [toP, PyData.canLay0]; exact h2⟩
  | .lst l, v, f, h => by
    obtain ⟨a, vs, rfl, hs, r⟩ := rv_lst h
    obtain ⟨h1, h2⟩ := RVs.dp hG l vs (by simpa [D.flat] using f) r
    exact ⟨.lst (Same.sqL hG hs) h1, by simp only [toP, PyData.canLay0]; exact h2⟩
theorem RVs.dp (hG : Same G H) : ∀ (l : List D) (vs : List V), D.flatL l = true → RVs K fa G φ l vs → DpAll K H vs (toPs l) ∧ PyData.canLayAll0 (toPs l) = true
  | [], vs, _, h => by unfold RVs at h; subst h; exact ⟨.nil, rfl⟩
  | d :: ds, vs, f, h => by
    unfold RVs at h
    obtain ⟨v, r, rfl, h1, h2⟩ := h
    simp only [D.flatL, Bool.and_eq_true] at f
    obtain ⟨a1, a2⟩ := RV.dp hG d v f.1 h1
    obtain ⟨b1, b2⟩ := RVs.dp hG ds r f.2 h2
    exact ⟨.cons a1 b1, by simp only [toPs, PyData.canLayAll0, a2, b2, Bool.and_self]⟩
end
/-- a shared list is read as a list -/
theorem seen_dp (A : Abs K fa φ μ H) {d : D} {v : V} (f : (seen μ d).flat = true) (r : RV K fa (msk H φ) φ d v) : Dp K H v (toP (seen μ d)) ∧ (toP (seen μ d)).canLay0 = true := by
  cases d with
  | loc n =>
    unfold seen at f ⊢
    cases hm : μ[n]? with
    | none => simp [hm, D.flat] at f
    | some c =>
      cases c with
      | lst l =>
        simp only [hm] at f ⊢
        obtain ⟨a, ha, rfl⟩ := rv_loc r
        obtain ⟨vs, e, rs⟩ := A.cell n a _ ha hm
        obtain ⟨h1, h2⟩ := RVs.dp msk_same l vs (by simpa [D.flat] using f) rs
        exact ⟨.lst (.inl (.inl e)) h1, by simp only [toP, PyData.canLay0]; exact h2⟩
      | _ => simp [hm, D.flat] at f
  | _ => exact RV.dp msk_same _ _ f r
end
section
variable {X : Cx} {fa : Lay} {W : EW} {Z : EZ}
/-- a list, tuple or dict is no text -/
theorem box_no {pins : List (Addr × Obj)} {s : Shared} {σ : L2.St} {H : Hp} {x y : V} {v u : Value} (I : Inv X pins σ H s) (rx : RelV x v) (ry : RelV y u) (hu : X.A.units + 64 < cLine) {φ : Ph} {μ : Mu} {a b : D}
    (A : Abs X.K fa φ μ H) (ra : RV X.K fa (msk H φ) φ a x) (rb : RV X.K fa (msk H φ) φ b y) (ha : isBox μ a = true) (hb : isTxt b = true) : SeqAt.RcAt X.A s v u false ∧ SeqAt.RcNeAt X.A s v u true := by
  have hu1 : X.A.units < cLine := by omega
  cases b with
  | str t =>
    obtain ⟨rfl, _⟩ := rv_str rb
    obtain ⟨k, rfl⟩ := ry
    have lists : ∀ (p : Addr) (vs : List V), SqL X.K H p vs → x = .ref p → SeqAt.RcAt X.A s v (.str (sOf t) k) false ∧ SeqAt.RcNeAt X.A s v (.str (sOf t) k) true := fun p vs h e => by
      subst e
      cases rx
      obtain ⟨its, r, pl, hz⟩ := I.list h
      exact ⟨SeqAt.RcAt.list_str _ _ pl.isList hu1, SeqAt.RcNeAt.list_str _ _ pl.isList hu1⟩
    cases a with
    | tup l =>
      obtain ⟨p, vs, e, h, _⟩ := rv_tup ra
      subst e
      cases rx
      obtain ⟨its, r, pl, hz⟩ := I.tuple (Same.seqT msk_same h)
      exact ⟨SeqAt.RcAt.tuple_str _ _ pl hu1, SeqAt.RcNeAt.tuple_str _ _ pl hu1⟩
    | lst l =>
      obtain ⟨p, vs, e, h, _⟩ := rv_lst ra
      exact lists p vs (Same.sqL msk_same h) e
    | loc n =>
      obtain ⟨p, hp, e⟩ := rv_loc ra
      unfold isBox at ha
      dsimp only at ha
      cases hm : μ[n]? with
      | none => rw [hm] at ha; cases ha
      | some c =>
        rw [hm] at ha
        cases c with
        | lst l =>
          obtain ⟨vs, e1, _⟩ := A.cell n p _ hp hm
          exact lists p vs (.inl (.inl e1)) e
        | dct l =>
          subst e
          cases rx
          obtain ⟨kvs, e1, _⟩ := A.cell n p _ hp hm
          obtain ⟨_, _, _, _, o, es, ep, ho, hex, hd, _⟩ := dk_of I.hok e1
          obtain ⟨oc, od, oa, os⟩ := o
          obtain ⟨hc, hd2, hs2⟩ := hex
          dsimp only at hc hd hd2 hs2
          subst hc; subst hd; subst hd2; subst hs2
          exact ⟨dict_str ho hu1, dict_strN ho hu1⟩
        | _ => cases ha
    | _ => cases ha
  | _ => cases hb
theorem eq_core {pins : List (Addr × Obj)} {s : Shared} {σ : L2.St} {H : Hp} {x y : V} {v u : Value} (I : Inv X pins σ H s) (rx : RelV x v) (ry : RelV y u) (hu : X.A.units + 64 < cLine) {φ : Ph} {μ : Mu} {a b : D} {k : Bool}
    (A : Abs X.K fa φ μ H) (ra : RV X.K fa (msk H φ) φ a x) (rb : RV X.K fa (msk H φ) φ b y) (e : eqD μ a b = some k) :
    (∀ {Q : VK}, Q (.bl k) H → wpAny (model X.prog X.w) X.A (compareOp .Eq v u) (EP X pins σ Q) X.xe s) ∧ (∀ {Q : VK}, Q (.bl (!k)) H → wpAny (model X.prog X.w) X.A (compareOp .NotEq v u) (EP X pins σ Q) X.xe s) := by
  unfold eqD at e
  by_cases c : ((seen μ a).flat && (seen μ b).flat && decide (min (seen μ a).depth (seen μ b).depth ≤ 64)) = true
  case neg =>
    rw [if_neg c] at e
    obtain ⟨c2, e⟩ := ite_some e
    cases e
    simp only [Bool.and_eq_true] at c2
    obtain ⟨h1, h2⟩ := box_no I rx ry hu A ra rb c2.1 c2.2
    exact ⟨fun {Q} q => h1 _ _ _ _ ⟨.bl _, H, I, rfl, q⟩, fun {Q} q => h2 _ _ _ _ ⟨.bl _, H, I, rfl, q⟩⟩
  rw [if_pos c] at e
  cases e
  simp only [Bool.and_eq_true, decide_eq_true_eq] at c
  obtain ⟨⟨f1, f2⟩, hd⟩ := c
  obtain ⟨p1, q1⟩ := seen_dp A f1 ra
  obtain ⟨p2, q2⟩ := seen_dp A f2 rb
  obtain ⟨as, r1⟩ := Dp.reads I _ x v p1 rx
  obtain ⟨bs, r2⟩ := Dp.reads I _ y u p2 ry
  have room : X.A.units + min (toP (seen μ a)).depth (toP (seen μ b)).depth < cLine := by
    rw [toP_depth, toP_depth]; omega
  refine ⟨fun {Q} q => SeqAt.compareEq_reads r1 r2 q1 q2 room ⟨.bl _, H, I, rfl, ?_⟩, fun {Q} q => SeqAt.compareNe_reads r1 r2 q1 q2 room ⟨.bl _, H, I, rfl, ?_⟩⟩
  · rw [toP_eqv _ _ f1 f2]; exact q
  · rw [toP_eqv _ _ f1 f2]; exact q
abbrev cmpR (o : COp) : Mu → D → D → Res D := fun μ a b => Res.of ((cmpD o μ a b).map .bl) μ
theorem map_bl {o : Option Bool} {d : D} (h : o.map D.bl = some d) : ∃ k, o = some k ∧ d = .bl k := by
  cases o with
  | none => cases h
  | some k => exact ⟨k, rfl, (Option.some.inj h).symm⟩
theorem op_eqM (hu : X.A.units + 64 < cLine) : OpR X (compareOp .Eq) (rOp X.K fa (cmpR .eq)) := by
  intro pins s σ H x y v u Q I rx ry h
  obtain ⟨φ, μ, a, b, A, ra, rb, h⟩ := h
  obtain ⟨d, e, k⟩ := h.of
  obtain ⟨t, e2, rfl⟩ := map_bl e
  exact (eq_core I rx ry hu A ra rb e2).1 (k φ H (Ext.refl _ _) A _ mk_bl)
theorem op_neM (hu : X.A.units + 64 < cLine) : OpR X (compareOp .NotEq) (rOp X.K fa (cmpR .ne)) := by
  intro pins s σ H x y v u Q I rx ry h
  obtain ⟨φ, μ, a, b, A, ra, rb, h⟩ := h
  obtain ⟨d, e, k⟩ := h.of
  obtain ⟨t, e2, rfl⟩ := map_bl e
  have e : (eqD μ a b).map (!·) = some t := e2
  cases q : eqD μ a b with
  | none => rw [q] at e; cases e
  | some t' =>
    rw [q] at e
    cases e
    exact (eq_core I rx ry hu A ra rb q).2 (k φ H (Ext.refl _ _) A _ mk_bl)
theorem ord_cases {fi : Int → Int → Bool} {fs : Txt → Txt → Bool} {a b : D} {k : Bool} (h : ordD fi fs a b = some k) : (∃ i j, a = .int i ∧ b = .int j ∧ fi i j = k) ∨ ∃ s t, a = .str s ∧ b = .str t ∧ fs s t = k := by
  unfold ordD at h
  split at h
  · exact .inl ⟨_, _, rfl, rfl, Option.some.inj h⟩
  · exact .inr ⟨_, _, rfl, rfl, Option.some.inj h⟩
  · cases h
theorem op_ord {op : CmpOp} {co : COp} {fi : Int → Int → Bool} {fs : Txt → Txt → Bool} (hc : ∀ μ a b, cmpD co μ a b = ordD fi fs a b)
    (hi : OpR X (compareOp op) (rI0 fun i j => .bl (fi i j))) (hs : OpR X (compareOp op) (fun x y H Q => ∃ i j, x = .str i ∧ y = .str j ∧ Q (.bl (fs i.cps.toList j.cps.toList)) H)) :
    OpR X (compareOp op) (rOp X.K fa (cmpR co)) := by
  intro pins s σ H x y v u Q I rx ry h
  obtain ⟨φ, μ, a, b, A, ra, rb, h⟩ := h
  obtain ⟨d, e, k⟩ := h.of
  obtain ⟨t, e2, rfl⟩ := map_bl e
  rw [hc] at e2
  rcases ord_cases e2 with ⟨i, j, rfl, rfl, rfl⟩ | ⟨p, q, rfl, rfl, rfl⟩
  · cases rv_int ra; cases rv_int rb
    exact hi pins s σ H _ _ v u Q I rx ry ⟨i, j, rfl, rfl, k φ H (Ext.refl _ _) A _ mk_bl⟩
  · obtain ⟨rfl, _⟩ := rv_str ra
    obtain ⟨rfl, _⟩ := rv_str rb
    refine hs pins s σ H _ _ v u Q I rx ry ⟨_, _, rfl, rfl, ?_⟩
    rw [sOf_cps, sOf_cps]
    exact k φ H (Ext.refl _ _) A _ mk_bl
theorem op_ltM : OpR X (compareOp .Lt) (rOp X.K fa (cmpR .lt)) := op_ord (fun _ _ _ => rfl) op_lt op_lt_str
theorem op_leM : OpR X (compareOp .LtE) (rOp X.K fa (cmpR .le)) := op_ord (fun _ _ _ => rfl) op_le op_le_str
theorem op_gtM : OpR X (compareOp .Gt) (rOp X.K fa (cmpR .gt)) := op_ord (fun _ _ _ => rfl) op_gt op_gt_str
theorem op_geM : OpR X (compareOp .GtE) (rOp X.K fa (cmpR .ge)) := op_ord (fun _ _ _ => rfl) op_ge op_ge_str
theorem non_iff {K : PySem.W.Frag} {G : Hp} {φ : Ph} {d : D} {v : V} (r : RV K fa G φ d v) : decide (v = .non) = decide (d = .non) := by
  cases d with
  | non => cases rv_non r; rfl
  | bl b => cases rv_bl r; rfl
  | int i => cases rv_int r; rfl
  | str s => obtain ⟨rfl, _⟩ := rv_str r; rfl
  | tup l => obtain ⟨a, vs, rfl, _⟩ := rv_tup r; rfl
  | lst l => obtain ⟨a, vs, rfl, _⟩ := rv_lst r; rfl
  | loc n => obtain ⟨a, _, rfl⟩ := rv_loc r; rfl
  | fn k l => obtain ⟨a, rfl⟩ := rv_fn r; rfl
theorem isD_some {a b : D} {t : Bool} (h : isD a b = some t) : (b = .non ∧ t = decide (a = .non)) ∨ ∃ x y, a = .bl x ∧ b = .bl y ∧ t = decide (x = y) := by
  unfold isD at h
  split at h
  · cases h; exact .inl ⟨rfl, rfl⟩
  · cases h; exact .inr ⟨_, _, rfl, rfl, rfl⟩
  · cases h
theorem op_isNM : OpR X (compareOp .Is) (rOp X.K fa (cmpR .isN)) := by
  intro pins s σ H x y v u Q I rx ry h
  obtain ⟨φ, μ, a, b, A, ra, rb, h⟩ := h
  obtain ⟨d, e, k⟩ := h.of
  obtain ⟨t, e2, rfl⟩ := map_bl e
  rcases isD_some (show isD a b = some t from e2) with ⟨rfl, rfl⟩ | ⟨x', y', rfl, rfl, rfl⟩
  · cases rv_non rb
    refine op_isN pins s σ H _ _ v u Q I rx ry ⟨rfl, ?_⟩
    rw [non_iff ra]
    exact k φ H (Ext.refl _ _) A _ mk_bl
  · cases rv_bl ra; cases rv_bl rb
    exact op_is_bl pins s σ H _ _ v u Q I rx ry ⟨_, _, rfl, rfl, k φ H (Ext.refl _ _) A _ mk_bl⟩
theorem op_notNM : OpR X (compareOp .IsNot) (rOp X.K fa (cmpR .notN)) := by
  intro pins s σ H x y v u Q I rx ry h
  obtain ⟨φ, μ, a, b, A, ra, rb, h⟩ := h
  obtain ⟨d, e, k⟩ := h.of
  obtain ⟨t, e2, rfl⟩ := map_bl e
  obtain ⟨t', e3, rfl⟩ : ∃ t', isD a b = some t' ∧ (!t') = t := by
    have e2 : (isD a b).map (!·) = some t := e2
    cases hq : isD a b with
    | none => rw [hq] at e2; cases e2
    | some t' => rw [hq] at e2; exact ⟨t', rfl, Option.some.inj e2⟩
  rcases isD_some e3 with ⟨rfl, rfl⟩ | ⟨x', y', rfl, rfl, rfl⟩
  · cases rv_non rb
    refine op_notN pins s σ H _ _ v u Q I rx ry ⟨rfl, ?_⟩
    rw [non_iff ra]
    exact k φ H (Ext.refl _ _) A _ mk_bl
  · cases rv_bl ra; cases rv_bl rb
    exact op_isnot_bl pins s σ H _ _ v u Q I rx ry ⟨_, _, rfl, rfl, k φ H (Ext.refl _ _) A _ mk_bl⟩
theorem any_eqv {a : D} (ha : a.flat = true) : ∀ l : List D, D.flatL l = true → (toPs l).any (fun z => PyData.eqv z (toP a)) = l.any fun x => x.eqv a
  | [], _ => rfl
  | d :: ds, h => by
    simp only [D.flatL, Bool.and_eq_true] at h
    simp only [toPs, List.any_cons, toP_eqv d a h.1 ha, any_eqv ha ds h.2]
theorem in_core {pins : List (Addr × Obj)} {s : Shared} {σ : L2.St} {H : Hp} {x y : V} {v u : Value} (I : Inv X pins σ H s) (rx : RelV x v) (ry : RelV y u) (hw : fa.w = X.w) (hu : X.A.units + 65 < cLine) {φ : Ph} {μ : Mu} {a b : D} {k : Bool}
    (A : Abs X.K fa φ μ H) (ra : RV X.K fa (msk H φ) φ a x) (rb : RV X.K fa (msk H φ) φ b y) (e : inD μ a b = some k) :
    (∀ {Q : VK}, Q (.bl k) H → wpAny (model X.prog X.w) X.A (compareOp .In v u) (EP X pins σ Q) X.xe s) ∧ (∀ {Q : VK}, Q (.bl (!k)) H → wpAny (model X.prog X.w) X.A (compareOp .NotIn v u) (EP X pins σ Q) X.xe s) := by
  have seqs : ∀ l, seqOf μ b = some l → (a.flat && D.flatL l && decide (a.depth ≤ 64)) = true → k = (l.any fun x => x.eqv a) →
      (∀ {Q : VK}, Q (.bl k) H → wpAny (model X.prog X.w) X.A (compareOp .In v u) (EP X pins σ Q) X.xe s) ∧ (∀ {Q : VK}, Q (.bl (!k)) H → wpAny (model X.prog X.w) X.A (compareOp .NotIn v u) (EP X pins σ Q) X.xe s) := fun l hl c ek => by
    subst ek
    simp only [Bool.and_eq_true, decide_eq_true_eq] at c
    obtain ⟨⟨f1, f2⟩, hd⟩ := c
    obtain ⟨p, vs, rfl, hs, rs⟩ := seq_at A rb hl
    obtain ⟨p1, q1⟩ := RV.dp msk_same a x f1 ra
    obtain ⟨p2, q2⟩ := RVs.dp msk_same l vs f2 rs
    obtain ⟨as, r1⟩ := Dp.reads I _ x v p1 rx
    have room : X.A.units + 1 + min (PyData.depthAll (toPs l)) (toP a).depth < cLine := by
      rw [toP_depth]; omega
    rcases hs with hs | hs
    · obtain ⟨bs, r2⟩ := Dp.reads I (.list (toPs l)) (.ref p) u (.lst hs p2) ry
      refine ⟨fun {Q} q => SeqAt.in_list_reads r2 r1 q2 q1 room ⟨.bl _, H, I, rfl, ?_⟩, fun {Q} q => SeqAt.notIn_list_reads r2 r1 q2 q1 room ⟨.bl _, H, I, rfl, ?_⟩⟩
      · rw [any_eqv f1 l f2]; exact q
      · rw [any_eqv f1 l f2]; exact q
    · obtain ⟨bs, r2⟩ := Dp.reads I (.tuple (toPs l)) (.ref p) u (.tup hs p2) ry
      refine ⟨fun {Q} q => SeqAt.in_tuple_reads r2 r1 q2 q1 room ⟨.bl _, H, I, rfl, ?_⟩, fun {Q} q => SeqAt.notIn_tuple_reads r2 r1 q2 q1 room ⟨.bl _, H, I, rfl, ?_⟩⟩
      · rw [any_eqv f1 l f2]; exact q
      · rw [any_eqv f1 l f2]; exact q
  unfold inD at e
  split at e
  · rename_i t
    split at e
    · rename_i c
      cases e
      obtain ⟨rfl, _⟩ := rv_str ra
      obtain ⟨rfl, _⟩ := rv_str rb
      have ec : decide (c ∈ (sOf t).cps.toList) = t.contains c := by rw [sOf_cps]; simp
      refine ⟨fun {Q} q => op_in_sign pins s σ H _ _ v u Q I rx ry ⟨c, sOf t, rfl, rfl, by rw [ec]; exact q⟩, fun {Q} q => op_notIn_sign pins s σ H _ _ v u Q I rx ry ⟨c, sOf t, rfl, rfl, by rw [ec]; exact q⟩⟩
    · cases e
  · split at e
    · rename_i l hl
      obtain ⟨c, e⟩ := ite_some e
      exact seqs l hl c (Option.some.inj e).symm
    · by_cases hkt : isKT a = true
      · rw [if_pos hkt] at e
        cases hd : dttAt μ b with
        | none => rw [hd] at e; cases e
        | some nl =>
          rw [hd] at e
          obtain ⟨n, l⟩ := nl
          cases e
          obtain ⟨p, kx, rfl, hp, rfl, rs⟩ := dtt_at A hd rb
          obtain ⟨q, rfl⟩ := kt_ref hkt ra
          cases (show u = Value.ref p from ry)
          cases (show v = Value.ref q from rx)
          exact ⟨fun {Q} hq => dt_in (by omega) hw I rs hkt ra fun s' I' => ⟨.bl _, H, I', rfl, hq⟩, fun {Q} hq => dt_nin (by omega) hw I rs hkt ra fun s' I' => ⟨.bl _, H, I', rfl, hq⟩⟩
      rw [if_neg hkt] at e
      split at e
      · rename_i nl hd
        obtain ⟨n, l⟩ := nl
        obtain ⟨c, e⟩ := ite_some e
        cases e
        obtain ⟨p, kvs, rfl, hp, rfl, hH, rs⟩ := dct_at A hd rb
        obtain ⟨kk, hk, rfl⟩ := key_rv c ra
        cases (show u = Value.ref p from ry)
        have e1 := (rs.look hk).1
        refine ⟨fun {Q} q => d_in (by omega) I (DGet.k hH) rx fun s' I' => ⟨.bl _, H, I', rfl, ?_⟩, fun {Q} q => d_notIn (by omega) I (DGet.k hH) rx fun s' I' => ⟨.bl _, H, I', rfl, ?_⟩⟩
        · rw [← e1]; exact q
        · rw [← e1]; exact q
      · cases e
theorem op_inM (hw : fa.w = X.w) (hu : X.A.units + 65 < cLine) : OpR X (compareOp .In) (rOp X.K fa (cmpR .in_)) := by
  intro pins s σ H x y v u Q I rx ry h
  obtain ⟨φ, μ, a, b, A, ra, rb, h⟩ := h
  obtain ⟨d, e, k⟩ := h.of
  obtain ⟨t, e2, rfl⟩ := map_bl e
  exact (in_core I rx ry hw hu A ra rb e2).1 (k φ H (Ext.refl _ _) A _ mk_bl)
theorem op_ninM (hw : fa.w = X.w) (hu : X.A.units + 65 < cLine) : OpR X (compareOp .NotIn) (rOp X.K fa (cmpR .nin)) := by
  intro pins s σ H x y v u Q I rx ry h
  obtain ⟨φ, μ, a, b, A, ra, rb, h⟩ := h
  obtain ⟨d, e, k⟩ := h.of
  obtain ⟨t, e2, rfl⟩ := map_bl e
  have e : (inD μ a b).map (!·) = some t := e2
  cases q : inD μ a b with
  | none => rw [q] at e; cases e
  | some t' =>
    rw [q] at e
    cases e
    exact (in_core I rx ry hw hu A ra rb q).2 (k φ H (Ext.refl _ _) A _ mk_bl)

/-! ### places, slices -/
theorem ixZ_eq (n : Nat) (i : Int) : ixZ n i = ixN n i := rfl
theorem atZ_eq {α : Type} (l : List α) (i : Int) : atZ l i = atI l i := rfl
theorem RVs.atI {K : PySem.W.Frag} {G : Hp} {φ : Ph} {l : List D} {vs : List V} {i : Int} {d : D} (r : RVs K fa G φ l vs) (h : atZ l i = some d) : ∃ v, L2.atI vs i = some v ∧ RV K fa G φ d v := by
  unfold atZ at h
  unfold L2.atI
  rw [r.length]
  cases e : ixZ l.length i with
  | none => rw [e] at h; cases h
  | some k =>
    rw [e] at h
    obtain ⟨v, a, b⟩ := RVs.get (i := k) r h
    exact ⟨v, by rw [← ixZ_eq, e]; exact a, b⟩
theorem ix_M (hw : fa.w = X.w) (hu0 : X.A.units + 64 < cLine) : IxR X (rOp X.K fa fun μ a b => Res.of (idxD μ a b) μ) := by
  intro value slice pins s σ H x y v u Q I rx ry h hs0
  have hu : X.A.units + 1 < cLine := by omega
  obtain ⟨φ, μ, a, b, A, ra, rb, h⟩ := h
  obtain ⟨d, e, k⟩ := h.of
  have dcts : isKey b = true → ((dctAt μ a).bind fun nl => lookD nl.2 b) = some d → wpAny (model X.prog X.w) X.A (subscriptTail value slice v u) (EP X pins σ Q) X.xe s := fun c e9 => by
    cases hd : dctAt μ a with
    | none => rw [hd] at e9; cases e9
    | some nl =>
      rw [hd] at e9
      obtain ⟨n, l⟩ := nl
      obtain ⟨p, kvs, rfl, hp, rfl, hH, rs⟩ := dct_at A hd ra
      obtain ⟨kk, hk, rfl⟩ := key_rv c rb
      obtain ⟨w, hw, rw'⟩ := (rs.look hk).2 d e9
      cases (show v = Value.ref p from rx)
      have g : DGet H p (kV kk) (some w) := by rw [← hw]; exact DGet.k hH
      exact tail_any (dict_typeIs I g) slot_dict_getitem.lookup (d_getItem hu I g ry fun w' s3 I3 r3 => ⟨w, H, I3, r3, k φ H (Ext.refl _ _) A w rw'⟩) hs0
  unfold idxD at e
  split at e
  · rename_i t i
    obtain ⟨c, e⟩ := ite_some e
    obtain ⟨rfl, o⟩ := rv_str ra
    cases rv_int rb
    cases q : atZ t i with
    | none => rw [q] at e; cases e
    | some z =>
      rw [q] at e
      cases e
      refine ix_str value slice pins s σ H _ _ v u Q I rx ry ⟨sOf t, i, z, rfl, rfl, by rw [sOf_len, lim_eq]; exact c, by rw [sOf_cps]; exact q, ?_⟩ hs0
      refine k φ H (Ext.refl _ _) A _ (mk_str (s := [z]) (okT_sub o fun c hc => ?_))
      have : c = z := by simpa using hc
      subst this
      unfold atZ at q
      cases e : ixZ t.length i with
      | none => rw [e] at q; cases q
      | some j => rw [e] at q; exact List.mem_of_getElem? q
  · rename_i i _ _
    split at e
    · rename_i l hl
      cases rv_int rb
      obtain ⟨p, vs, rfl, hs, rs⟩ := seq_at A ra hl
      obtain ⟨w, hw, rw'⟩ := RVs.atI rs e
      have q := k φ H (Ext.refl _ _) A w rw'
      rcases hs with hs | hs
      · exact ix_list value slice pins s σ H _ _ v u Q I rx ry ⟨p, vs, _, w, rfl, rfl, hs, hw, q⟩ hs0
      · exact ix_tup value slice pins s σ H _ _ v u Q I rx ry ⟨p, vs, _, w, rfl, rfl, hs, hw, q⟩ hs0
    · exact dcts rfl e
  · exact dcts rfl e
  · rename_i kk _
    obtain ⟨c, e2⟩ := ite_some e
    cases hd : dttAt μ a with
    | none => rw [hd] at e2; cases e2
    | some nl =>
      rw [hd] at e2
      obtain ⟨n, l⟩ := nl
      obtain ⟨p, kx, rfl, hp, rfl, rs⟩ := dtt_at A hd ra
      obtain ⟨q, rfl⟩ := kt_ref c rb
      cases (show u = Value.ref q from ry)
      cases (show v = Value.ref p from rx)
      exact tail_any (dt_type hw I rs) slot_dict_getitem.lookup (dtt_get hu0 hw I rs c rb e2 fun v' u' s' I' r1 r2 => ⟨v', H, I', r1, k φ H (Ext.refl _ _) A v' r2⟩) hs0
  · cases e
theorem cutL_eq {α : Type} (l : List α) (lo hi : Option Int) : cutL l lo hi = (l.drop (HT.sIx l.length 0 lo)).take (HT.sIx l.length l.length hi - HT.sIx l.length 0 lo) := rfl
theorem RVs.cut {K : PySem.W.Frag} {G : Hp} {φ : Ph} {l : List D} {vs : List V} {lo hi : Option Int} (r : RVs K fa G φ l vs) : RVs K fa G φ (cutL l lo hi) (cutV vs lo hi) := by
  unfold cutV
  rw [cutL_eq, r.length]
  exact (r.drop _).take _
theorem sl_M : SlR X (rSl X.K fa fun μ a lo hi => Res.of (slcD μ a lo hi) μ) := by
  intro pins s σ H x v vl vu lo hi sl Q I rx hs pl pu h
  obtain ⟨φ, μ, a, A, ra, h⟩ := h
  obtain ⟨d, e, k⟩ := h.of
  unfold slcD at e
  split at e
  · rename_i t
    obtain ⟨c, e⟩ := ite_some e
    cases e
    obtain ⟨rfl, o⟩ := rv_str ra
    refine sl_str pins s σ H _ v vl vu lo hi sl Q I rx hs pl pu ⟨sOf t, rfl, by rw [sOf_len, lim_eq]; exact c, ?_⟩
    have ec : L2.cutS (sOf t) lo hi = sOf (cutL t lo hi) := by
      show (⟨_⟩ : Str) = _
      unfold sOf cutL
      simp only [Str.length]
      rfl
    rw [ec]
    exact k φ H (Ext.refl _ _) A _ (mk_str (okT_sub o fun c hc => List.mem_of_mem_drop (List.mem_of_mem_take hc)))
  · rename_i l
    cases e
    obtain ⟨p, vs, rfl, h1, r1⟩ := rv_tup ra
    refine sl_tupA pins s σ H _ v vl vu lo hi sl Q I rx hs pl pu ⟨p, vs, rfl, Same.seqT msk_same h1, fun hw => ?_, fun _ z hz => ?_⟩
    · refine k φ H (Ext.refl _ _) A _ (mk_tup h1 ?_)
      have ec : cutL l lo hi = l := by
        rw [cutL_eq]
        rw [r1.length] at hw
        rw [hw.1, hw.2, List.drop_zero, Nat.sub_zero, List.take_length]
      rw [ec]; exact r1
    · obtain ⟨x1, A1, r3⟩ := new_tup A (r1.cut (lo := lo) (hi := hi)) hz
      exact k φ _ x1 A1 _ r3
  · split at e
    · rename_i l hl
      cases e
      obtain ⟨p, vs, rfl, h1, r1⟩ := lst_at A ra hl
      refine sl_list pins s σ H _ v vl vu lo hi sl Q I rx hs pl pu ⟨p, vs, rfl, h1, fun z hz => ?_⟩
      obtain ⟨x1, A1, r3⟩ := new_lst A (r1.cut (lo := lo) (hi := hi)) hz
      exact k φ _ x1 A1 _ r3
    · cases e
end
end Ev

set_option Elab.async false
set_option linter.all false
set_option maxRecDepth 100000
set_option maxHeartbeats 1000000
/-! Built-ins and methods. -/
namespace Ev
open PySem PySem.Spec PyProof.Rows L2
section
variable {X : Cx} {fa : Lay} {W : EW} {Z : EZ}
abbrev biR (b : Bi) : Mu → List D → Res D := fun μ ds => Res.of (biD b μ ds) μ
theorem rvs0 {K : PySem.W.Frag} {G : Hp} {φ : Ph} {vs : List V} (h : RVs K fa G φ [] vs) : vs = [] := by unfold RVs at h; exact h
theorem rvs1 {K : PySem.W.Frag} {G : Hp} {φ : Ph} {d : D} {vs : List V} (h : RVs K fa G φ [d] vs) : ∃ v, vs = [v] ∧ RV K fa G φ d v := by
  unfold RVs at h
  obtain ⟨v, r, rfl, h1, h2⟩ := h
  unfold RVs at h2
  subst h2
  exact ⟨v, rfl, h1⟩
theorem rvs2 {K : PySem.W.Frag} {G : Hp} {φ : Ph} {d e : D} {vs : List V} (h : RVs K fa G φ [d, e] vs) : ∃ v u, vs = [v, u] ∧ RV K fa G φ d v ∧ RV K fa G φ e u := by
  unfold RVs at h
  obtain ⟨v, r, rfl, h1, h2⟩ := h
  obtain ⟨u, rfl, h3⟩ := rvs1 h2
  exact ⟨v, u, rfl, h1, h3⟩
theorem ofmap {α β : Type} {o : Option α} {f : α → β} {d : β} (h : o.map f = some d) : ∃ k, o = some k ∧ f k = d := by
  cases o with
  | none => cases h
  | some k => exact ⟨k, rfl, Option.some.inj h⟩
theorem ofbind {α β : Type} {o : Option α} {f : α → Option β} {d : β} (h : o.bind f = some d) : ∃ k, o = some k ∧ f k = some d := by
  cases o with
  | none => cases h
  | some k => exact ⟨k, rfl, h⟩
theorem of_d1 {α : Type} {args : List D} {f : D → Option α} {d : α} (h : d1 args f = some d) : ∃ a, args = [a] ∧ f a = some d := by
  unfold d1 at h
  split at h
  · exact ⟨_, rfl, h⟩
  · cases h
theorem of_d2 {α : Type} {args : List D} {f : D → D → Option α} {d : α} (h : d2 args f = some d) : ∃ a b, args = [a, b] ∧ f a b = some d := by
  unfold d2 at h
  split at h
  · exact ⟨_, _, rfl, h⟩
  · cases h
/-- a built-in of one argument -/
theorem bi1 {f : Value} {b : Bi} {g : Mu → D → Option D} (hb : ∀ μ ds, biD b μ ds = d1 ds (g μ))
    (h : ∀ (pins : List (Addr × Obj)) (s : Shared) (σ : L2.St) (H : Hp) (v : V) (us : List Value) (Q : VK) (φ : Ph) (μ : Mu) (a d : D), Inv X pins σ H s → Vals [v] us → Abs X.K fa φ μ H → RV X.K fa (msk H φ) φ a v →
      g μ a = some d → (∀ φ' H', Ext φ H φ' H' → Abs X.K fa φ' μ H' → toV X.K fa Q d μ φ' H') → wpAny (model X.prog X.w) X.A (call f us) (EP X pins σ Q) X.xe s) : CallR X f (rBi X.K fa (biR b)) := by
  intro pins s σ H xs us Q I r q
  obtain ⟨φ, μ, ds, A, rs, q⟩ := q
  obtain ⟨d, e, k⟩ := q.of
  rw [hb] at e
  obtain ⟨a, rfl, e⟩ := of_d1 e
  obtain ⟨v, rfl, ra⟩ := rvs1 rs
  exact h pins s σ H v us Q φ μ a d I r A ra e k
theorem bi2 {f : Value} {b : Bi} {g : Mu → D → D → Option D} (hb : ∀ μ ds, biD b μ ds = d2 ds (g μ))
    (h : ∀ (pins : List (Addr × Obj)) (s : Shared) (σ : L2.St) (H : Hp) (v u : V) (us : List Value) (Q : VK) (φ : Ph) (μ : Mu) (a a2 d : D), Inv X pins σ H s → Vals [v, u] us → Abs X.K fa φ μ H → RV X.K fa (msk H φ) φ a v → RV X.K fa (msk H φ) φ a2 u →
      g μ a a2 = some d → (∀ φ' H', Ext φ H φ' H' → Abs X.K fa φ' μ H' → toV X.K fa Q d μ φ' H') → wpAny (model X.prog X.w) X.A (call f us) (EP X pins σ Q) X.xe s) : CallR X f (rBi X.K fa (biR b)) := by
  intro pins s σ H xs us Q I r q
  obtain ⟨φ, μ, ds, A, rs, q⟩ := q
  obtain ⟨d, e, k⟩ := q.of
  rw [hb] at e
  obtain ⟨a, a2, rfl, e⟩ := of_d2 e
  obtain ⟨v, u, rfl, ra, rb⟩ := rvs2 rs
  exact h pins s σ H v u us Q φ μ a a2 d I r A ra rb e k
theorem len_seq {μ : Mu} {a : D} {n : Int} (h : lenD μ a = some n) : (∃ t, a = .str t ∧ t.length ≤ lim ∧ n = t.length) ∨ (∃ l, seqOf μ a = some l ∧ n = l.length) ∨ ∃ k l, dctAt μ a = some (k, l) ∧ n = l.length := by
  cases a with
  | str t =>
    obtain ⟨c, e⟩ := ite_some (show (if t.length ≤ lim then some (t.length : Int) else none) = some n from h)
    exact .inl ⟨t, rfl, c, (Option.some.inj e).symm⟩
  | tup l => exact .inr (.inl ⟨l, rfl, (Option.some.inj h).symm⟩)
  | lst l => exact .inr (.inl ⟨l, rfl, (Option.some.inj h).symm⟩)
  | loc j =>
    unfold lenD at h
    unfold seqOf dctAt
    dsimp only at h ⊢
    cases hm : μ[j]? with
    | none => rw [hm] at h; cases h
    | some c =>
      rw [hm] at h
      cases c with
      | lst l => exact .inr (.inl ⟨l, rfl, (Option.some.inj h).symm⟩)
      | dct l => exact .inr (.inr ⟨j, l, rfl, (Option.some.inj h).symm⟩)
      | _ => cases h
  | _ => cases h
theorem bi_len : CallR X (.builtin "len") (rBi X.K fa (biR .len)) := bi1 (fun _ _ => rfl) fun pins s σ H v us Q φ μ a d I r A ra e k => by
  obtain ⟨n, e2, rfl⟩ := ofmap e
  have q := k φ H (Ext.refl _ _) A _ mk_int
  rcases len_seq e2 with ⟨t, rfl, c, rfl⟩ | ⟨l, hl, rfl⟩ | ⟨j, l, hd, rfl⟩
  · obtain ⟨rfl, _⟩ := rv_str ra
    exact call_len pins s σ H _ us Q I r ⟨.str (sOf t), t.length, rfl, ⟨by rw [sOf_len, lim_eq]; exact c, (sOf_len t).symm⟩, q⟩
  · obtain ⟨p, vs, rfl, hs, rs⟩ := seq_at A ra hl
    refine call_len pins s σ H _ us Q I r ⟨.ref p, l.length, rfl, ?_, q⟩
    rcases hs with hs | hs
    · exact .inl ⟨vs, hs, rs.length.symm⟩
    · exact .inr ⟨vs, hs, rs.length.symm⟩
  · obtain ⟨p, kvs, rfl, hp, rfl, hH, rs⟩ := dct_at A hd ra
    obtain rfl := Vals.ref1 r
    exact d_len I (.inl hH) fun t s' I' => ⟨.int _, H, I', ⟨t, by rw [rs.len]⟩, q⟩
theorem bi_tuple : CallR X (.type "tuple") (rBi X.K fa (biR .tuple)) := bi1 (fun _ _ => rfl) fun pins s σ H v us Q φ μ a d I r A ra e k => by
  unfold tupleD at e
  split at e
  · cases e
    obtain ⟨p, vs, rfl, hs, rs⟩ := rv_tup ra
    exact call_tuple_of pins s σ H _ us Q I r ⟨p, vs, rfl, .inr ⟨Same.seqT msk_same hs, k φ H (Ext.refl _ _) A _ ra⟩⟩
  · obtain ⟨l, hl, rfl⟩ := ofmap e
    obtain ⟨p, vs, rfl, hs, rs⟩ := lst_at A ra hl
    refine call_tuple_of pins s σ H _ us Q I r ⟨p, vs, rfl, .inl ⟨hs, fun z hz => ?_⟩⟩
    obtain ⟨x1, A1, r1⟩ := new_tup A rs hz
    exact k φ _ x1 A1 _ r1
theorem bi_list : CallR X (.type "list") (rBi X.K fa (biR .list)) := bi1 (fun _ _ => rfl) fun pins s σ H v us Q φ μ a d I r A ra e k => by
  obtain ⟨l, hl, rfl⟩ := ofmap e
  obtain ⟨p, vs, rfl, hs, rs⟩ := seq_at A ra hl
  refine call_list_of pins s σ H _ us Q I r ⟨p, vs, rfl, ?_, fun z hz => ?_⟩
  · rcases hs with hs | hs
    · exact .inl hs
    · exact .inr hs
  · obtain ⟨x1, A1, r1⟩ := new_lst A rs hz
    exact k φ _ x1 A1 _ r1
theorem bi_min2 (hc : X.calm = true) : CallR X (.builtin "min") (rBi X.K fa (biR .min2)) := bi2 (fun _ _ => rfl) fun pins s σ H v u us Q φ μ a b d I r A ra rb e k => by
  obtain ⟨i, j, rfl, rfl, e⟩ := i2_some e
  cases e
  cases rv_int ra; cases rv_int rb
  exact call_min2 hc pins s σ H _ us Q I r ⟨i, j, rfl, k φ H (Ext.refl _ _) A _ mk_int⟩
theorem bi_max2 (hc : X.calm = true) : CallR X (.builtin "max") (rBi X.K fa (biR .max2)) := bi2 (fun _ _ => rfl) fun pins s σ H v u us Q φ μ a b d I r A ra rb e k => by
  obtain ⟨i, j, rfl, rfl, e⟩ := i2_some e
  cases e
  cases rv_int ra; cases rv_int rb
  exact call_max2 hc pins s σ H _ us Q I r ⟨i, j, rfl, k φ H (Ext.refl _ _) A _ mk_int⟩
theorem bi_int : CallR X (.type "int") (rBi X.K fa (biR .int)) := bi1 (fun _ _ => rfl) fun pins s σ H v us Q φ μ a d I r A ra e k => by
  unfold intD at e
  split at e
  · cases e
    cases rv_int ra
    exact call_int1 pins s σ H _ us Q I r (.inl ⟨_, rfl, k φ H (Ext.refl _ _) A _ mk_int⟩)
  · cases e
    cases rv_bl ra
    exact call_int1 pins s σ H _ us Q I r (.inr ⟨_, rfl, k φ H (Ext.refl _ _) A _ mk_int⟩)
  · rename_i t
    obtain ⟨⟨h1, h2, h3⟩, e⟩ := ite_some e
    cases e
    obtain ⟨rfl, _⟩ := rv_str ra
    have hd : NumText.AllDigits (sOf t).cps.toList := fun c hc => by
      rw [sOf_cps] at hc
      have := List.all_eq_true.mp (show (t.all fun c => decide (48 ≤ c) && decide (c ≤ 57)) = true from h1) c hc
      rw [Bool.and_eq_true, decide_eq_true_iff, decide_eq_true_iff] at this
      exact this
    have e2 := PySem.intText_digits hd (by rw [sOf_cps]; exact h2) (by rw [sOf_len]; omega)
    rw [sOf_cps] at e2
    exact call_int_str pins s σ H _ us Q I r ⟨sOf t, _, rfl, e2, by rw [sOf_len]; exact h3, k φ H (Ext.refl _ _) A _ mk_int⟩
  · cases e
theorem okT_num (n : Nat) : okT (numT n) = true := by
  unfold okT
  rw [List.all_eq_true]
  intro c hc
  refine decide_eq_true ?_
  have h : ¬ (57 < c) := fun h => TL.numL_free (n := n) (s := c) (.inr h) hc
  omega
theorem sOf_num {i : Int} (h : 0 ≤ i) : Str.ofString (toString i) = sOf (numT i.toNat) := by
  obtain ⟨n, rfl⟩ := Int.eq_ofNat_of_zero_le h
  refine TL.ext_tl ?_
  rw [TL.tl_num]
  show numT n = (sOf (numT ((n : Int).toNat))).cps.toList
  rw [sOf_cps, Int.toNat_natCast]
theorem bi_str : CallR X (.type "str") (rBi X.K fa (biR .str)) := bi1 (fun _ _ => rfl) fun pins s σ H v us Q φ μ a d I r A ra e k => by
  unfold strD at e
  split at e
  · obtain ⟨c, e⟩ := ite_some e
    cases e
    cases rv_int ra
    refine call_str_int pins s σ H _ us Q I r ⟨_, rfl, c.2, ?_⟩
    rw [sOf_num c.1]
    exact k φ H (Ext.refl _ _) A _ (mk_str (okT_num _))
  · cases e
theorem bi_abs : CallR X (.builtin "abs") (rBi X.K fa (biR .abs)) := bi1 (fun _ _ => rfl) fun pins s σ H v us Q φ μ a d I r A ra e k => by
  unfold absD at e
  split at e
  · cases e
    cases rv_int ra
    exact call_abs pins s σ H _ us Q I r ⟨_, rfl, k φ H (Ext.refl _ _) A _ mk_int⟩
  · cases e
theorem bools_rvs {K : PySem.W.Frag} {G : Hp} {φ : Ph} : ∀ {l : List D} {vs : List V} {bs : List Bool}, RVs K fa G φ l vs → boolsOf l = some bs → vs = bs.map V.bl
  | [], _, _, h, e => by cases e; exact rvs0 h
  | d :: ds, vs, bs, h, e => by
    unfold RVs at h
    obtain ⟨v, r, rfl, h1, h2⟩ := h
    cases d with
    | bl b =>
      obtain ⟨cs, e1, rfl⟩ := ofmap (show (boolsOf ds).map (b :: ·) = some bs from e)
      cases rv_bl h1
      rw [bools_rvs h2 e1]
      rfl
    | _ => cases e
theorem ints_rvs {K : PySem.W.Frag} {G : Hp} {φ : Ph} : ∀ {l : List D} {vs : List V} {bs : List Int}, RVs K fa G φ l vs → intsOf l = some bs → vs = bs.map V.int
  | [], _, _, h, e => by cases e; exact rvs0 h
  | d :: ds, vs, bs, h, e => by
    unfold RVs at h
    obtain ⟨v, r, rfl, h1, h2⟩ := h
    cases d with
    | int b =>
      obtain ⟨cs, e1, rfl⟩ := ofmap (show (intsOf ds).map (b :: ·) = some bs from e)
      cases rv_int h1
      rw [ints_rvs h2 e1]
      rfl
    | _ => cases e
theorem strs_rvs {K : PySem.W.Frag} {G : Hp} {φ : Ph} : ∀ {l : List D} {vs : List V} {bs : List Txt}, RVs K fa G φ l vs → strsOf l = some bs → vs = (bs.map sOf).map V.str ∧ ∀ t ∈ bs, okT t = true
  | [], _, _, h, e => by cases e; exact ⟨rvs0 h, fun _ h => nomatch h⟩
  | d :: ds, vs, bs, h, e => by
    unfold RVs at h
    obtain ⟨v, r, rfl, h1, h2⟩ := h
    cases d with
    | str b =>
      obtain ⟨cs, e1, rfl⟩ := ofmap (show (strsOf ds).map (b :: ·) = some bs from e)
      obtain ⟨rfl, o⟩ := rv_str h1
      obtain ⟨e2, o2⟩ := strs_rvs h2 e1
      rw [e2]
      refine ⟨rfl, fun t ht => ?_⟩
      rcases List.mem_cons.mp ht with rfl | ht
      · exact o
      · exact o2 t ht
    | _ => cases e
theorem bi_all (hc : X.calm = true) : CallR X (.builtin "all") (rBi X.K fa (biR .all)) := bi1 (fun _ _ => rfl) fun pins s σ H v us Q φ μ a d I r A ra e k => by
  obtain ⟨l, hl, e⟩ := ofbind e
  obtain ⟨bs, hb, rfl⟩ := ofmap e
  obtain ⟨p, vs, rfl, hs, rs⟩ := lst_at A ra hl
  have ev := bools_rvs rs hb
  subst ev
  exact cr_all hc pins s σ H _ us Q I r ⟨p, bs, rfl, hs, k φ H (Ext.refl _ _) A _ mk_bl⟩
theorem bi_any (hc : X.calm = true) : CallR X (.builtin "any") (rBi X.K fa (biR .any)) := bi1 (fun _ _ => rfl) fun pins s σ H v us Q φ μ a d I r A ra e k => by
  obtain ⟨l, hl, e⟩ := ofbind e
  obtain ⟨bs, hb, rfl⟩ := ofmap e
  obtain ⟨p, vs, rfl, hs, rs⟩ := lst_at A ra hl
  have ev := bools_rvs rs hb
  subst ev
  exact cr_any hc pins s σ H _ us Q I r ⟨p, bs, rfl, hs, k φ H (Ext.refl _ _) A _ mk_bl⟩
theorem bi_sum (hc : X.calm = true) : CallR X (.builtin "sum") (rBi X.K fa (biR .sum)) := bi1 (fun _ _ => rfl) fun pins s σ H v us Q φ μ a d I r A ra e k => by
  obtain ⟨l, hl, e⟩ := ofbind e
  obtain ⟨bs, hb, rfl⟩ := ofmap e
  obtain ⟨p, vs, rfl, hs, rs⟩ := lst_at A ra hl
  have ev := ints_rvs rs hb
  subst ev
  exact cr_sum hc pins s σ H _ us Q I r ⟨p, bs, rfl, hs, k φ H (Ext.refl _ _) A _ mk_int⟩
theorem bi_divmod : CallR X (.builtin "divmod") (rBi X.K fa (biR .divmod)) := bi2 (fun _ _ => rfl) fun pins s σ H v u us Q φ μ a b d I r A ra rb e k => by
  obtain ⟨i, j, rfl, rfl, e⟩ := i2_some e
  obtain ⟨c, e⟩ := ite_some e
  cases e
  cases rv_int ra; cases rv_int rb
  refine call_divmod pins s σ H _ us Q I r ⟨i, j, rfl, c, fun z hz => ?_⟩
  obtain ⟨x1, A1, r1⟩ := new_tup A (RVs.cons mk_int (RVs.one mk_int)) hz
  exact k φ _ x1 A1 _ r1

theorem bi_ord : CallR X (.builtin "ord") (rBi X.K fa (biR .ord)) := bi1 (fun _ _ => rfl) fun pins s σ H v us Q φ μ a d I r A ra e k => by
  obtain ⟨c, hc, rfl⟩ := ofmap e
  have ha : a = .str [c] := by
    unfold signOf at hc
    split at hc
    · cases hc; rfl
    · cases hc
  subst ha
  obtain ⟨rfl, _⟩ := rv_str ra
  exact call_ord pins s σ H _ us Q I r ⟨sOf [c], rfl, rfl, k φ H (Ext.refl _ _) A _ mk_int⟩
theorem fold_max : ∀ (l : List Int) (i : Int), (l.foldl (fun m x => if m < x then x else m) i) ∈ i :: l ∧ ∀ y ∈ i :: l, y ≤ l.foldl (fun m x => if m < x then x else m) i
  | [], i => ⟨List.mem_cons_self, fun y hy => by
    have : y = i := by simpa using hy
    rw [this]
    exact Int.le_refl _⟩
  | x :: r, i => by
    obtain ⟨h1, h2⟩ := fold_max r (if i < x then x else i)
    rw [List.foldl_cons]
    have hi : i ≤ (if i < x then x else i) ∧ x ≤ (if i < x then x else i) := by split <;> omega
    have h0 := h2 _ List.mem_cons_self
    refine ⟨?_, fun y hy => ?_⟩
    · rcases List.mem_cons.mp h1 with h | h
      · rw [h]
        split
        · exact List.mem_cons_of_mem _ List.mem_cons_self
        · exact List.mem_cons_self
      · exact List.mem_cons_of_mem _ (List.mem_cons_of_mem _ h)
    · rcases List.mem_cons.mp hy with rfl | hy
      · omega
      · rcases List.mem_cons.mp hy with rfl | hy
        · omega
        · exact h2 y (List.mem_cons_of_mem _ hy)
theorem bi_maxL (hc : X.calm = true) : CallR X (.builtin "max") (rBi X.K fa (biR .maxL)) := bi1 (fun _ _ => rfl) fun pins s σ H v us Q φ μ a d I r A ra e k => by
  obtain ⟨l, hl, e⟩ := ofbind e
  obtain ⟨is, hb, e⟩ := ofbind e
  obtain ⟨p, vs, rfl, hs, rs⟩ := lst_at A ra hl
  have ev := ints_rvs rs hb
  subst ev
  cases is with
  | nil => cases e
  | cons i r' =>
    cases e
    refine cr_max hc pins s σ H _ us Q I r ⟨p, i :: r', rfl, hs, Nat.succ_pos _, fun m h1 h2 => ?_⟩
    obtain ⟨q1, q2⟩ := fold_max r' i
    have : m = r'.foldl (fun m x => if m < x then x else m) i := Int.le_antisymm (q2 m h1) (h2 _ q1)
    subst this
    exact k φ H (Ext.refl _ _) A _ mk_int

/-! ### isinstance -/
def Ty.nm : Ty → String
  | .int => "int"
  | .bool => "bool"
  | .str => "str"
  | .tuple => "tuple"
  | .list => "list"
  | .dict => "dict"
  | .obj _ => "object"
def Ty.own : Ty → Bool
  | .obj _ => true
  | _ => false
theorem kind_core {K : PySem.W.Frag} {H : Hp} {φ : Ph} {μ : Mu} {a : D} {v : V} {t : Ty} {b : Bool} (ht : t.own = false) (A : Abs K fa φ μ H) (ra : RV K fa (msk H φ) φ a v) (e : kindIs μ t a = some b) :
    ∃ T : String, TyX K H v (.type T) ∧ kitB T t.nm = some b := by
  have seqs : ∀ (p : Addr) (vs : List V), SqL K H p vs → TyX K H (.ref p) (.type "list") := fun p vs h => by
    rcases h with (h | ⟨o, h⟩) | ⟨o, _, _, h, c, _⟩
    · exact .base (.lst h)
    · exact .base (.frz h)
    · exact .kList h c
  cases a with
  | non => cases e; cases rv_non ra; exact ⟨"NoneType", .base .non, by cases t <;> first | decide +kernel | cases ht⟩
  | bl k => cases e; cases rv_bl ra; exact ⟨"bool", .base (.bl k), by cases t <;> first | decide +kernel | cases ht⟩
  | int i => cases e; cases rv_int ra; exact ⟨"int", .base (.int i), by cases t <;> first | decide +kernel | cases ht⟩
  | str s => cases e; obtain ⟨rfl, _⟩ := rv_str ra; exact ⟨"str", .base (.str _), by cases t <;> first | decide +kernel | cases ht⟩
  | tup l =>
    cases e
    obtain ⟨p, vs, rfl, h, _⟩ := rv_tup ra
    refine ⟨"tuple", ?_, by cases t <;> first | decide +kernel | cases ht⟩
    rcases Same.seqT msk_same h with (h | ⟨o, h⟩) | ⟨o, its, n, hk, hc, _⟩
    · exact .base (.tup h)
    · exact .fTuple h
    · exact .kTuple hk hc
  | lst l =>
    cases e
    obtain ⟨p, vs, rfl, h, _⟩ := rv_lst ra
    exact ⟨"list", seqs p vs (Same.sqL msk_same h), by cases t <;> first | decide +kernel | cases ht⟩
  | loc n =>
    obtain ⟨p, hp, rfl⟩ := rv_loc ra
    unfold kindIs at e
    dsimp only at e
    cases hm : μ[n]? with
    | none => rw [hm] at e; cases e
    | some c =>
      rw [hm] at e
      cases c with
      | lst l =>
        cases e
        obtain ⟨vs, e1, _⟩ := A.cell n p _ hp hm
        exact ⟨"list", seqs p vs (.inl (.inl e1)), by cases t <;> first | decide +kernel | cases ht⟩
      | dct l =>
        cases e
        obtain ⟨kvs, e1, _⟩ := A.cell n p _ hp hm
        exact ⟨"dict", .base (.dK e1), by cases t <;> first | decide +kernel | cases ht⟩
      | _ => cases e
  | fn k => cases e
/-- isinstance(e, T): T's name gives the type -/
theorem pe_isin {t : Ty} {a : Expr} {ma : Rho → Mu → Res D} {x y : Str} {p p2 pos : Pos} (ht : t.own = false) (hg : Gl X x) (hm : X.mg x = none) (hv : bootBuiltins x = some (.builtin "isinstance"))
    (hg2 : Gl X y) (hm2 : X.mg y = none) (hv2 : bootBuiltins y = some (.type t.nm)) (ha : PE X a (tE X.K fa W ma)) (hn : x ≠ "__name__") (hdb : (x == ("__debug__" : Str)) = false) (hn2 : y ≠ "__name__") (hdb2 : (y == ("__debug__" : Str)) = false)
    (he : starEach [a, .Name y p2] X.env = (false, eval a X.env) :: starEach [.Name y p2] X.env) :
    PE X (.Call (.Name x p) [a, .Name y p2] [] pos) (tE X.K fa W fun ρ μ => (ma ρ μ).bind fun v μ => Res.of ((kindIs μ t v).map .bl) μ) := by
  refine PE.imp (pe_callB call_isi hg hm hv (pa_cons ha (pa_cons (pe_bltn (v := .ty t.nm) hg2 hm2 hv2 rfl hn2 hdb2) pa_nil) he) hn hdb he) fun σ H Q h => ?_
  obtain ⟨φ, μ, ρ, A, R, h⟩ := h
  refine ⟨φ, μ, ρ, A, R, h.bind.imp fun d μ1 φ1 H1 e1 A1 h1 v rv => ?_⟩
  obtain ⟨k, e, q⟩ := h1.of
  obtain ⟨b, e2, rfl⟩ := map_bl e
  obtain ⟨T, ty, kt⟩ := kind_core ht A1 rv e2
  exact ⟨v, .ty t.nm, _, _, b, rfl, .ty _, ty, kit_ty kt, q φ1 H1 (Ext.refl _ _) A1 _ mk_bl⟩

/-! ### methods -/
abbrev meR (m : Me) : Mu → D → List D → Res D := fun μ o ds => meD m μ o ds
theorem lst_at2 {K : PySem.W.Frag} {φ : Ph} {H : Hp} {μ : Mu} (A : Abs K fa φ μ H) {d : D} {v : V} {n : Nat} {l : List D} (h : lstAt μ d = some (n, l)) (r : RV K fa (msk H φ) φ d v) :
    ∃ a vs, d = .loc n ∧ φ.sh[n]? = some a ∧ v = .ref a ∧ H a = some (.lst vs) ∧ RVs K fa (msk H φ) φ l vs := by
  cases d with
  | loc j =>
    unfold lstAt at h
    dsimp only at h
    cases hm : μ[j]? with
    | none => rw [hm] at h; cases h
    | some c =>
      rw [hm] at h
      cases c with
      | lst q =>
        cases h
        obtain ⟨a, ha, e⟩ := rv_loc r
        obtain ⟨vs, e1, rs⟩ := A.cell _ a _ ha hm
        exact ⟨a, vs, rfl, ha, e, e1, rs⟩
      | _ => cases h
  | _ => cases h
/-- a shared list is written -/
theorem set_lst {K : PySem.W.Frag} {φ : Ph} {H : Hp} {μ : Mu} (A : Abs K fa φ μ H) {n : Nat} {a : Addr} {l : List D} {vs : List V} (ha : φ.sh[n]? = some a) (r : RVs K fa (msk H φ) φ l vs) :
    Ext φ H φ (upd H a (.lst vs)) ∧ Abs K fa φ (μ.set n (.lst l)) (upd H a (.lst vs)) := Abs.set A ha ⟨vs, upd_same, r⟩
theorem set_dct {K : PySem.W.Frag} {φ : Ph} {H : Hp} {μ : Mu} (A : Abs K fa φ μ H) {n : Nat} {a : Addr} {l : List (D × D)} {kvs : List (L2.Key × V)} (ha : φ.sh[n]? = some a) (r : RDs K fa (msk H φ) φ l kvs) :
    Ext φ H φ (upd H a (.dK kvs)) ∧ Abs K fa φ (μ.set n (.dct l)) (upd H a (.dK kvs)) := Abs.set A ha ⟨kvs, upd_same, r⟩
theorem me_append : MtR X "list.append" (rMe X.K fa (meR .append)) := by
  intro pins s σ H x xs v us Q I rx rxs h
  obtain ⟨φ, μ, o, ds, A, ro, rs, h⟩ := h
  unfold meR meD at h
  dsimp only at h
  split at h
  · rename_i n l y hl
    by_cases c : l.length < lim
    · rw [if_pos c] at h
      obtain ⟨a, vs, rfl, ha, rfl, hH, rl⟩ := lst_at2 A hl ro
      obtain ⟨w, rfl, rw'⟩ := rvs1 rs
      obtain ⟨x1, A1⟩ := set_lst A ha (rl.append (.one rw'))
      exact mt_append pins s σ H _ _ v us Q I rx rxs ⟨a, vs, w, rfl, rfl, hH, by rw [rl.length, lim_eq]; exact c, h _ _ x1 A1 _ mk_non⟩
    · rw [if_neg c] at h; exact False.elim h
  · exact False.elim h
theorem me_insert : MtR X "list.insert" (rMe X.K fa (meR .insert)) := by
  intro pins s σ H x xs v us Q I rx rxs h
  obtain ⟨φ, μ, o, ds, A, ro, rs, h⟩ := h
  unfold meR meD at h
  dsimp only at h
  split at h
  · rename_i n l i y hl he
    obtain ⟨a1, a2, rfl, e⟩ := of_d2 he
    obtain ⟨i', hi, e⟩ := ofmap e
    cases e
    have ha : a1 = .int i := by cases a1 <;> first | (cases hi; rfl) | cases hi
    subst ha
    by_cases c : l.length < lim ∧ 0 ≤ i ∧ i < 2 ^ 62
    · rw [if_pos c] at h
      obtain ⟨a, vs, rfl, ha, rfl, hH, rl⟩ := lst_at2 A hl ro
      obtain ⟨w1, w2, rfl, r1, r2⟩ := rvs2 rs
      cases rv_int r1
      obtain ⟨x1, A1⟩ := set_lst A ha (((rl.take i.toNat).append (.one r2)).append (rl.drop i.toNat))
      refine mt_insert pins s σ H _ _ v us Q I rx rxs ⟨a, vs, i, w2, rfl, rfl, hH, by rw [rl.length, lim_eq]; exact c.1, c.2.1, by omega, h _ _ x1 A1 _ mk_non⟩
    · rw [if_neg c] at h; exact False.elim h
  · exact False.elim h
theorem RVs.rev {K : PySem.W.Frag} {G : Hp} {φ : Ph} : ∀ {l : List D} {vs : List V}, RVs K fa G φ l vs → RVs K fa G φ l.reverse vs.reverse
  | [], _, h => by cases rvs0 h; exact RVs.nil
  | d :: r, _, h => by
    unfold RVs at h
    obtain ⟨v, q, rfl, h1, h2⟩ := h
    rw [List.reverse_cons, List.reverse_cons]
    exact (RVs.rev h2).append (.one h1)
theorem me_reverse : MtR X "list.reverse" (rMe X.K fa (meR .reverse)) := by
  intro pins s σ H x xs v us Q I rx rxs h
  obtain ⟨φ, μ, o, ds, A, ro, rs, h⟩ := h
  unfold meR meD at h
  dsimp only at h
  split at h
  · rename_i n l hl
    obtain ⟨a, vs, rfl, ha, rfl, hH, rl⟩ := lst_at2 A hl ro
    cases rvs0 rs
    obtain ⟨x1, A1⟩ := set_lst A ha (RVs.rev rl)
    exact mt_reverse pins s σ H _ _ v us Q I rx rxs ⟨a, vs, rfl, rfl, hH, h _ _ x1 A1 _ mk_non⟩
  · exact False.elim h
open PySem in
theorem extend_tuple (l : Addr) (items : Array Value) (n : Nat) (b : Addr) (items2 : Array Value) (n2 : Nat) (dd : Option Addr) (sl : Array (Option Value)) (hs0 : ¬(!items.isEmpty && Builtin.List.listTooLong (items.size + items2.size)) = true) (hs1 : items.size ≤ sizeLine) (hs2 : items.size + items2.size ≤ sizeLine + 1) :
    Meets (Builtin.«list.extend» ⟨[.ref l, .ref b], []⟩) (fun _ R s => s.heap.get? l = some { cls := .type "list", dict := none, data := .seq items n, slots := #[] } ∧ s.heap.get? b = some { cls := .type "tuple", dict := dd, data := .seq items2 n2, slots := sl } ∧ R (.ok (.ret Value.none)) { s with heap := s.heap.update l (Obj.mapSeq fun x => x ++ items2), toks := s.toks }) :=
  .of_wp fun prog w A R s h => by
    obtain ⟨hp, g, d, tk, os⟩ := s; obtain ⟨hl, hb, h⟩ := h; have f1 := AutoSeq1.idx_int; have f2 := AutoSeq1.sub_tuple_tuple; have f3 := AutoSeq1.sub_list_list; have f4 := AutoSeq1.sub_tuple_list; have f5 := AutoSeq1.sub_list_tuple;
    have hz' : (items ++ items2).size ≤ sizeLine + 1 := by rw [Array.size_append]; exact hs2
    wp_walk using (wpAny_updateSeq hl rfl (hz := hs1) (_hz' := hz')), wpAny_loadPart' hl, wpAny_loadPart' hb; exact ⟨_, rfl, h⟩
theorem extend_list (l : Addr) (items : Array Value) (n : Nat) (b : Addr) (items2 : Array Value) (n2 : Nat) (dd : Option Addr) (sl : Array (Option Value)) (hs0 : ¬(!items.isEmpty && Builtin.List.listTooLong (items.size + items2.size)) = true) (hs1 : items.size ≤ sizeLine) (hs2 : items.size + items2.size ≤ sizeLine + 1) :
    Meets (Builtin.«list.extend» ⟨[.ref l, .ref b], []⟩) (fun _ R s => s.heap.get? l = some { cls := .type "list", dict := none, data := .seq items n, slots := #[] } ∧ s.heap.get? b = some { cls := .type "list", dict := dd, data := .seq items2 n2, slots := sl } ∧ R (.ok (.ret Value.none)) { s with heap := s.heap.update l (Obj.mapSeq fun x => x ++ items2), toks := s.toks }) :=
  .of_wp fun prog w A R s h => by
    obtain ⟨hp, g, d, tk, os⟩ := s; obtain ⟨hl, hb, h⟩ := h; have f1 := AutoSeq1.idx_int; have f2 := AutoSeq1.sub_tuple_tuple; have f3 := AutoSeq1.sub_list_list; have f4 := AutoSeq1.sub_tuple_list; have f5 := AutoSeq1.sub_list_tuple;
    have hz' : (items ++ items2).size ≤ sizeLine + 1 := by rw [Array.size_append]; exact hs2
    wp_walk using (wpAny_updateSeq hl rfl (hz := hs1) (_hz' := hz')), wpAny_loadPart' hl, wpAny_loadPart' hb; exact ⟨_, rfl, h⟩
/-- l.extend(list or tuple) -/
def rExt (K : PySem.W.Frag) : V → List V → Hp → VK → Prop := fun x vs H Q => ∃ l b xs zs, x = .ref l ∧ vs = [.ref b] ∧ H l = some (.lst xs) ∧ (SqL K H b zs ∨ SqT K H b zs) ∧ xs.length + zs.length ≤ sizeLine ∧ Q .non (upd H l (.lst (xs ++ zs)))
theorem mt_ext : MtR X "list.extend" (rExt X.K) := by
  intro pins s σ H x vs v us Q I rx rv h
  obtain ⟨l, b, xs, zs, rfl, rfl, hH, hB, hz, q⟩ := h
  cases rx
  obtain ⟨u, rfl, ru⟩ := rv.one
  cases ru
  obtain ⟨z, its, n, r, hl, e⟩ := I.lstM hH
  have go : ∀ its2 : List Value, Vals zs its2 → Inv X pins σ (upd H l (.lst (xs ++ zs))) { s with heap := s.heap.update l (Obj.mapSeq fun a => a ++ its2.toArray) } := fun its2 r2 => by
    exact I.lset (t' := s.toks) (its' := its ++ its2) hH e (by simp) (r.append r2) (by rw [List.length_append]; omega)
  rcases hB with hB | hB
  · obtain ⟨its2, r2, ⟨⟨cls, dd, data, sl⟩, n2, ho, hc, hdd, hd⟩, hz2⟩ := I.list hB
    simp only at hc hd hdd
    subst hc hd hdd
    have hl2 := r2.length
    have hsz : its.toArray.size + its2.toArray.size ≤ sizeLine := by rw [List.size_toArray, List.size_toArray]; omega
    have hlong : ¬ (!its.toArray.isEmpty && Builtin.List.listTooLong (its.toArray.size + its2.toArray.size)) = true := by
      rw [notLongL hsz, Bool.and_false]
      exact Bool.false_ne_true
    exact call_meets PySem.F.slot_list_extend ⟨_, e, rfl⟩ PySem.F.entry_list_extend (PySem.F.args_list_extend_2 _ _)
      (extend_list l its.toArray n b its2.toArray n2 none sl hlong (by rw [List.size_toArray]; omega) (by omega)) ⟨e, ho, ⟨.non, _, go its2 r2, rfl, q⟩⟩
  · obtain ⟨its2, r2, ⟨⟨cls, dd, data, sl⟩, ho, hc, n2, hd⟩, hz2⟩ := I.tuple hB
    simp only at hc hd
    subst hc hd
    have hl2 := r2.length
    have hsz : its.toArray.size + its2.toArray.size ≤ sizeLine := by rw [List.size_toArray, List.size_toArray]; omega
    have hlong : ¬ (!its.toArray.isEmpty && Builtin.List.listTooLong (its.toArray.size + its2.toArray.size)) = true := by
      rw [notLongL hsz, Bool.and_false]
      exact Bool.false_ne_true
    exact call_meets PySem.F.slot_list_extend ⟨_, e, rfl⟩ PySem.F.entry_list_extend (PySem.F.args_list_extend_2 _ _)
      (extend_tuple l its.toArray n b its2.toArray n2 dd sl hlong (by rw [List.size_toArray]; omega) (by omega)) ⟨e, ho, ⟨.non, _, go its2 r2, rfl, q⟩⟩
theorem me_extend : MtR X "list.extend" (rMe X.K fa (meR .extend)) := by
  intro pins s σ H x xs v us Q I rx rxs h
  obtain ⟨φ, μ, o, ds, A, ro, rs, h⟩ := h
  unfold meR meD at h
  dsimp only at h
  split at h
  · rename_i n l y hl hy
    obtain ⟨d, rfl, hd⟩ := of_d1 hy
    by_cases c : l.length + y.length ≤ lim
    · rw [if_pos c] at h
      obtain ⟨a, vs, rfl, ha, rfl, hH, rl⟩ := lst_at2 A hl ro
      obtain ⟨w, rfl, rw'⟩ := rvs1 rs
      obtain ⟨b, zs, rfl, hb, rz⟩ := seq_at A rw' hd
      obtain ⟨x1, A1⟩ := set_lst A ha (rl.append rz)
      exact mt_ext pins s σ H _ _ v us Q I rx rxs ⟨a, b, vs, zs, rfl, rfl, hH, hb, by rw [rl.length, rz.length, lim_eq]; exact c, h _ _ x1 A1 _ mk_non⟩
    · rw [if_neg c] at h; exact False.elim h
  · exact False.elim h
theorem me_pop : MtR X "list.pop" (rMe X.K fa (meR .pop)) := by
  intro pins s σ H x xs v us Q I rx rxs h
  obtain ⟨φ, μ, o, ds, A, ro, rs, h⟩ := h
  unfold meR meD at h
  dsimp only at h
  split at h
  · rename_i n l hl
    split at h
    · rename_i d hd
      obtain ⟨a, vs, rfl, ha, rfl, hH, rl⟩ := lst_at2 A hl ro
      cases rvs0 rs
      obtain ⟨w, hw, rw'⟩ := rl.get hd
      obtain ⟨x1, A1⟩ := set_lst A ha rl.dropLast
      exact mt_pop pins s σ H _ _ v us Q I rx rxs ⟨a, vs, w, rfl, rfl, hH, by rw [rl.length]; exact hw, h _ _ x1 A1 _ (rw'.ext x1)⟩
    · exact False.elim h
  · exact False.elim h
theorem ixZ_some {n : Nat} {i : Int} {k : Nat} (h : ixZ n i = some k) : seqIndex? i n = some k ∧ k < n ∧ -(n : Int) ≤ i ∧ i < n := L2.ixN_seq h
theorem me_popAt : MtR X "list.pop" (rMe X.K fa (meR .popAt)) := by
  intro pins s σ H x xs v us Q I rx rxs h
  obtain ⟨φ, μ, o, ds, A, ro, rs, h⟩ := h
  unfold meR meD at h
  dsimp only at h
  split at h
  · rename_i n l i hl hi
    split at h
    · rename_i k hk
      split at h
      · rename_i d hd
        obtain ⟨di, rfl, hi⟩ := of_d1 hi
        cases di with
        | int j =>
          cases hi
          obtain ⟨a, vs, rfl, ha, rfl, hH, rl⟩ := lst_at2 A hl ro
          obtain ⟨w0, rfl, rw0⟩ := rvs1 rs
          cases rv_int rw0
          obtain ⟨w, hw, rw'⟩ := rl.get hd
          obtain ⟨x1, A1⟩ := set_lst A ha (rl.erase k)
          obtain ⟨k1, k2, k3, k4⟩ := ixZ_some hk
          have hz : vs.length ≤ sizeLine := (I.hok a _ hH).1
          have hs : sizeLine = 16777216 := sizeLine_eq
          have e1 := rl.length
          exact mt_popAt pins s σ H _ _ v us Q I rx rxs ⟨a, vs, _, k, w, rfl, rfl, hH, by omega, by omega, by rw [e1]; exact k1, hw, h _ _ x1 A1 _ (rw'.ext x1)⟩
        | _ => cases hi
      · exact False.elim h
    · exact False.elim h
  · exact False.elim h
theorem index_occ {t : Txt} {c k : Nat} (h : indexT t c = some k) : ∃ rest, Builtin.Str.occurrences (sOf t) (sOf [c]) 0 (sOf t).length 1 = k :: rest := by
  unfold indexT at h
  rw [List.findIdx?_eq_some_iff_getElem] at h
  obtain ⟨hk, he, hn⟩ := h
  have sub : ∀ i, PySem.StrLaws.At (sOf t) (sOf [c]) (sOf t).length i ↔ t[i]? = some c := fun i => by
    have := PySem.StrLaws.subAt_one (sOf t) c i
    rw [sOf_cps] at this
    exact this
  rcases PySem.StrLaws.occ_head (sOf t) (sOf [c]) 1 (Nat.le_refl _) with ⟨_, h0⟩ | ⟨i, r, h1, h2, h3⟩
  · exact absurd ((sub k).mpr (by rw [List.getElem?_eq_getElem hk]; exact congrArg some (beq_iff_eq.mp he))) (h0 k)
  · have e2 := (sub i).mp h2
    have : i = k := by
      rcases Nat.lt_trichotomy i k with q | q | q
      · have := hn i q
        obtain ⟨hi, ei⟩ := List.getElem?_eq_some_iff.mp e2
        rw [ei] at this
        simp at this
      · exact q
      · exact absurd ((sub k).mpr (by rw [List.getElem?_eq_getElem hk]; exact congrArg some (beq_iff_eq.mp he))) (h3 k q)
    subst this
    exact ⟨r, h1⟩
theorem me_index : MtR X "str.index" (rMe X.K fa (meR .index)) := by
  intro pins s σ H x xs v us Q I rx rxs h
  obtain ⟨φ, μ, o, ds, A, ro, rs, h⟩ := h
  unfold meR meD at h
  dsimp only at h
  split at h
  · rename_i t c ht hc
    obtain ⟨d, e, q⟩ := h.of
    obtain ⟨k, e2, rfl⟩ := ofmap e
    obtain ⟨dc, rfl, hc2⟩ := of_d1 hc
    obtain ⟨w, rfl, rw'⟩ := rvs1 rs
    have eo : o = .str t := by
      cases o with
      | str z => exact congrArg D.str (Option.some.inj ht)
      | _ => cases ht
    subst eo
    have ed : dc = .str [c] := by
      unfold signOf at hc2
      split at hc2
      · rw [Option.some.inj hc2]
      · cases hc2
    subst ed
    obtain ⟨rfl, _⟩ := rv_str ro
    obtain ⟨rfl, _⟩ := rv_str rw'
    obtain ⟨rest, ho⟩ := index_occ e2
    exact mt_sindex pins s σ H _ _ v us Q I rx rxs ⟨sOf t, sOf [c], k, rest, rfl, rfl, ho, q φ H (Ext.refl _ _) A _ mk_int⟩
  · exact False.elim h
theorem okT_join {s : Txt} (hs : okT s = true) : ∀ {ss : List Txt}, (∀ t ∈ ss, okT t = true) → okT (joinT s ss) = true
  | [], _ => rfl
  | [p], h => h p (List.mem_singleton.mpr rfl)
  | p :: q :: r, h => okT_app (h p (List.mem_cons_self ..)) (okT_app hs (okT_join hs fun t ht => h t (List.mem_cons_of_mem _ ht)))
theorem sOf_join (s : Txt) (ss : List Txt) : Txt.join (sOf s) (ss.map sOf) = sOf (joinT s ss) := by
  refine TL.ext_tl ?_
  rw [TL.join_eq, TL.tl_join]
  have e : (ss.map sOf).map TL.tl = ss := by
    rw [List.map_map]
    conv => rhs; rw [← List.map_id ss]
    exact List.map_congr_left fun t _ => sOf_cps t
  rw [e]
  have : ∀ ss : List Txt, TL.joinL (TL.tl (sOf s)) ss = joinT s ss := fun ss => by
    induction ss with
    | nil => rfl
    | cons p r ih =>
      cases r with
      | nil => rfl
      | cons q r => 
        show p ++ (TL.tl (sOf s) ++ TL.joinL (TL.tl (sOf s)) (q :: r)) = p ++ (s ++ joinT s (q :: r))
        rw [ih]
        rw [show TL.tl (sOf s) = s from sOf_cps s]
  rw [this]
  exact (sOf_cps _).symm
theorem me_join : MtR X "str.join" (rMe X.K fa (meR .join)) := by
  intro pins s σ H x xs v us Q I rx rxs h
  obtain ⟨φ, μ, o, ds, A, ro, rs, h⟩ := h
  unfold meR meD at h
  dsimp only at h
  split at h
  · rename_i t ss ht hc
    obtain ⟨l, hc, hs⟩ := ofbind hc
    obtain ⟨dc, rfl, hc⟩ := of_d1 hc
    obtain ⟨w, rfl, rw'⟩ := rvs1 rs
    have eo : o = .str t := by
      cases o with
      | str z => exact congrArg D.str (Option.some.inj ht)
      | _ => cases ht
    subst eo
    by_cases c : (ss.map List.length).sum + ss.length * t.length ≤ lim
    · rw [if_pos c] at h
      obtain ⟨rfl, o1⟩ := rv_str ro
      obtain ⟨p, vs, rfl, hp, rp⟩ := seq_at A rw' hc
      obtain ⟨rfl, o2⟩ := strs_rvs rp hs
      refine mt_join pins s σ H _ _ v us Q I rx rxs ⟨sOf t, p, ss.map sOf, rfl, rfl, ?_, ?_, ?_⟩
      · rcases hp with hp | hp
        · exact .inl hp
        · exact .inr hp
      · have e1 : (ss.map sOf).map (·.length) = ss.map List.length := by
          rw [List.map_map]
          exact List.map_congr_left fun z _ => sOf_len z
        rw [e1, List.length_map, sOf_len]
        exact c
      · rw [sOf_join]
        exact h _ _ (Ext.refl _ _) A _ (mk_str (okT_join o1 o2))
    · rw [if_neg c] at h; exact False.elim h
  · exact False.elim h
end
end Ev

set_option Elab.async false
set_option linter.all false
set_option maxRecDepth 100000
set_option maxHeartbeats 3200000
/-! How many unlike texts: len(set(..)). -/
namespace Ev
open PySem PySem.Spec PyProof.Rows L2
abbrev tk (prog : Program) (w : World) : KeyKind prog w Str := PySem.strKind prog w
abbrev inT (σ : List Txt) : Str → Bool := fun k => (σ.map sOf).any (· == k)
theorem inT_sOf (σ : List Txt) (t : Txt) : inT σ (sOf t) = σ.contains t := by
  unfold inT
  induction σ with
  | nil => rfl
  | cons a r ih =>
    rw [List.map_cons, List.any_cons, List.contains_cons, ih]
    congr 1
    by_cases e : a = t
    · subst e; simp
    · rw [beq_eq_false_iff_ne.mpr (fun q => e (sOf_inj.mp q)), beq_eq_false_iff_ne.mpr (fun q => e q.symm)]
theorem inT_more (σ : List Txt) (t : Txt) (k : Str) : (inT σ k || decide (k = sOf t)) = inT (if σ.contains t then σ else σ ++ [t]) k := by
  by_cases c : σ.contains t = true
  · rw [if_pos c]
    by_cases e : k = sOf t
    · subst e; rw [inT_sOf, c]; rfl
    · rw [decide_eq_false e, Bool.or_false]
  · rw [if_neg c]
    unfold inT
    rw [List.map_append, List.any_append]
    congr 1
    by_cases e : k = sOf t
    · subst e; simp
    · have : (sOf t == k) = false := beq_eq_false_iff_ne.mpr fun q => e q.symm
      simp [this, e]
section
variable {prog : Program} {w : World} {A : Around} {R : Result → Shared → Prop} {I : Addr} {fp wr : List Addr} {G : Array GenState → Array GenState → Prop} {n : Nat} {P : Nat → Value → Prop} {St : Nat → Shared → Prop}
theorem fillT (W : WalksS prog w A.in1 I fp wr G n P St) (S : Addr) (nS : S ∉ fp) (ts : List Txt) (hv : ∀ i v, P i v → ∃ t, ts[i]? = some t ∧ ∃ k, v = .str (sOf t) k) :
    ∀ (r σ : List Txt) (i : Nat) (s : Shared), ts.drop i = r → i + r.length = n → σ.length + r.length + 1 < scanBound → St i s → s.heap.SetOf (tk prog w) S (inT σ) σ.length →
      (∀ s', Moved (S :: wr) G s s' → s'.heap.SetOf (tk prog w) S (inT (unl σ r)) (unl σ r).length → R (.ok (.ret .none)) s') →
      codeAny (model prog w) A (.builtin "set.update.loop" ⟨[.ref S, .ref I], []⟩) R s := by
  have nw : S ∉ wr := fun h => nS (W.sub _ h)
  have up : ∀ b ∈ wr, b ∈ S :: wr := fun b hb => List.mem_cons_of_mem _ hb
  have stay : ∀ {s s' : Shared} {σ : List Txt}, Moved wr G s s' → s.heap.SetOf (tk prog w) S (inT σ) σ.length → s'.heap.SetOf (tk prog w) S (inT σ) σ.length := fun m ⟨o, es, ep, t, ho, q⟩ => ⟨o, es, ep, t, m.heap S _ nw ho, q⟩
  have enter : ∀ {s : Shared}, wpAny (model prog w) A.in1 (Builtin.«set.update.loop» ⟨[.ref S, .ref I], []⟩) (fun fin s' => match fin with | .done f => R (.ok f) s' | .again c' => c'.quiet = true ∧ codeAny (model prog w) A c' R s') (fun e s' => R (.error e) s') s →
      codeAny (model prog w) A (.builtin "set.update.loop" ⟨[.ref S, .ref I], []⟩) R s := fun h => codeAny_builtin PyProof.Rows.F.entry_set_update_loop (by rw [Around.under_plainId PyProof.Rows.F.plain_set_update_loop _]; exact h)
  intro r
  induction r with
  | nil =>
    intro σ i s hd hi hb st hS hR
    have e : i = n := by simpa using hi
    subst e
    refine enter ?_
    show wpAny _ A.in1 (pyNext (.ref I) >>= _) _ _ s
    refine wpAny_bind (W.done s _ _ st fun s' m => ?_)
    exact wpAny_pure (hR s' (m.mono up) (stay m hS))
  | cons t r ih =>
    intro σ i s hd hi hb st hS hR
    rw [List.length_cons] at hi hb
    have ht : ts[i]? = some t := by
      have : (ts.drop i)[0]? = some t := by rw [hd]; rfl
      rwa [List.getElem?_drop, Nat.add_zero] at this
    have hd2 : ts.drop (i + 1) = r := by rw [← List.tail_drop, hd]; rfl
    refine enter ?_
    show wpAny _ A.in1 (pyNext (.ref I) >>= _) _ _ s
    refine wpAny_bind (W.item i s _ _ (by omega) st fun v s' hp st' m => ?_)
    obtain ⟨t', e, k, rfl⟩ := hv i v hp
    rw [ht] at e
    cases e
    have S1 : ({ s' with toks := s'.toks + 1 } : Shared).heap.SetOf (tk prog w) S (inT σ) σ.length := (stay m hS : s'.heap.SetOf _ _ _ _)
    show wpAny _ A.in1 (holding [Value.str (sOf t) k] (setAdd S (.str (sOf t) k)) >>= _) _ _ s'
    refine wpAny_bind (wpAny_holding ?_)
    unfold setAdd
    refine wpAny_holding (wpAny_bind ((tk prog w).pyHash (k := sOf t) (strKind_is _ _ _ _) ?_))
    refine wpAny_setAddHashed_of (knd := tk prog w) (s := { s' with toks := s'.toks + 1 }) (strKind_is _ _ _ _) rfl S1 (by omega) fun h' same new => ?_
    have new2 : h'.SetOf (tk prog w) S (inT (if σ.contains t then σ else σ ++ [t])) (if σ.contains t then σ else σ ++ [t]).length := SetOf_congr new (fun k => inT_more σ t k) (by
      rw [inT_sOf]
      by_cases c : σ.contains t = true
      · rw [if_pos c, if_pos c]
      · rw [if_neg c, if_neg c, List.length_append]; rfl)
    have len : (if σ.contains t then σ else σ ++ [t]).length ≤ σ.length + 1 := by
      split
      · omega
      · rw [List.length_append]; exact Nat.le_refl _
    refine wpAny_pure ⟨plainId_quiet PyProof.Rows.F.plain_set_update_loop _, ih _ (i + 1) _ hd2 (by omega) (by omega) (W.frame _ s' _ _ st' (Nat.le_succ _) fun b hb o e => ?_) new2 fun s2 m2 S2 => ?_⟩
    · rw [same.2 b fun q => nS (q ▸ hb)]; exact e
    · refine hR s2 (Moved.trans W.gtrans ((m.mono up).then_heap (Nat.le_succ _) fun b o hb e => ?_) m2) S2
      rw [same.2 b fun q => hb (q ▸ List.mem_cons_self)]; exact e
end
/-- what a set made of them is -/
def MadeT (prog : Program) (w : World) (s : Shared) (ts : List Txt) (Q : Value → Shared → Prop) : Prop := ∀ (h' : Heap) (k : Nat), h'.SetOf (tk prog w) s.heap.objs.size (inT (unl [] ts)) (unl [] ts).length →
  (∀ b o, b < s.heap.objs.size → s.heap.get? b = some o → h'.get? b = some o) → Q (.ref s.heap.objs.size) { s with heap := h', toks := k }
section
variable {prog : Program} {w : World} {A : Around} {E : Value → Shared → Prop} {s : Shared} {l : Addr} {items : Array Value} {ts : List Txt} {Q : Value → Shared → Prop}
theorem made_lst (hh : A.handled = none) (hl : s.heap.IsList l items) (hn : ts.length = items.size) (hb : ts.length + 1 < scanBound) (hv : ∀ (i : Nat) (v : Value), items[i]? = some v → ∃ t, ts[i]? = some t ∧ ∃ k, v = .str (sOf t) k)
    (h : MadeT prog w s ts Q) : wpAny (model prog w) A (call (.type "set") [.ref l]) Q E s := by
  obtain ⟨mc, mt, hm⟩ := PySem.F.called_set.mro; have m1 := PySem.F.called_set.made; have m2 := PySem.F.called_set.sub
  refine wpAny_call (codeAny_of_tree ?_); show wpAny _ _ (callAny (.type "set") _) _ _ _
  refine wpAny_pure ⟨Code.quiet_builtin _ (by decide +kernel), codeAny_builtin PySem.F.entry_type_call ?_⟩; rw [Around.under_plain (weight_type_call_type "set" [.ref l] []) rfl]
  have m3 := PySem.F.called_set.notType; have m4 := PySem.F.called_set.canCreate; have m5 := PySem.F.typeCall_set_1 (.ref l)
  (repeat (any_goals (first | assumption | wp_step)))
  let ob : Bool → Obj := fun led => { cls := .type "set", dict := none, data := .set #[] 0 (.fresh 0 0 led) }
  refine codeAny_mono (code_set_new_1 (.ref l) (E := E) (Q₁ := fun z s₁ => ∃ led : Bool, z = .ref s.heap.objs.size ∧ s₁ = { s with heap := s.heap.push (ob led) }) fun led => ⟨led, rfl, rfl⟩) fun r s₁ hr => ?_
  rcases r with e | fl
  · exact hr
  cases fl with
  | ret z =>
    obtain ⟨led, rfl, rfl⟩ := hr
    have g0 : (s.heap.push (ob led)).get? s.heap.objs.size = some (ob led) := Heap.get?_push_size _ rfl
    have ty : Shared.TypeIs { s with heap := s.heap.push (ob led) } (.ref s.heap.objs.size) "set" := ⟨_, g0, rfl⟩
    have m6 := PySem.F.called_set.init.lookup; have m7 := PySem.F.called_set.init.bind (.ref s.heap.objs.size)
    (repeat (any_goals (first | assumption | wp_step)))
    refine codeAny_mono (codeAny_call_builtin (R := wants (fun r s₂ => r = .none ∧ ∃ h' k, s₂ = { s with heap := h', toks := k } ∧ h'.SetOf (tk prog w) s.heap.objs.size (inT (unl [] ts)) (unl [] ts).length ∧
        (∀ b o, b < s.heap.objs.size → s.heap.get? b = some o → h'.get? b = some o)) E) PySem.F.called_set.init.plain PySem.F.entry_set_init (check_set_init_1 ty ?_)) fun r₂ s₂ hr₂ => ?_
    · obtain ⟨⟨oc, od, oa, os⟩, g1, hc, nl, hd⟩ := hl
      dsimp only at hc hd; subst hc; subst hd
      have g2 : (s.heap.push (ob led)).get? l = some { cls := .type "list", dict := od, data := .seq items nl, slots := os } := Heap.get?_push_of_some _ g1
      have n1 := PySem.F.sub_list_set; have n2 := PySem.F.sub_list_frozenset; have n3 : (Value.type "list" == Value.type "dict") = false := by decide
      have hl1 : Heap.IsList (s.heap.push (ob led)) l items := ⟨_, g2, rfl, nl, rfl⟩
      unfold Builtin.«set.__init__» noKeywords Builtin.Frozenset.updateFrom
      generalize hPI : pyIter = PI; wp_walk; subst hPI
      refine wpAny_pyIter_list (s := { s with heap := s.heap.push (ob led) }) hl1 (wpAny_bind (wpAny_runValue ?_))
      have lt : l < s.heap.objs.size := Heap.lt_size g1
      have sz : (s.heap.push (ob led)).objs.size = s.heap.objs.size + 1 := Heap.size_push ..
      have a3 : A.in1.in1.in1.handled = none := by simp [hh]
      have ne : l ≠ (s.heap.push (ob led)).objs.size := sz ▸ Nat.ne_of_lt (Nat.lt_succ_of_lt lt)
      have nS : s.heap.objs.size ∉ [(s.heap.push (ob led)).objs.size, l] := by
        rw [sz]; simp only [List.mem_cons, List.not_mem_nil, or_false, not_or]; exact ⟨Nat.ne_of_lt (Nat.lt_succ_self _), Nat.ne_of_gt lt⟩
      refine fillT ((Walks.list a3 _ l ne items).toS) s.heap.objs.size nS ts hv ts [] 0 _ rfl (by rw [Nat.zero_add]; exact hn) (by rw [List.length_nil, Nat.zero_add]; exact hb) ⟨⟨_, Heap.get?_push_size _ rfl, rfl, rfl⟩, hl1.push _⟩ ?_ ?_
      · have g3 : ((s.heap.push (ob led)).push { cls := .type "list_iterator", data := .fields #[.ref l, .int 0 0] }).get? s.heap.objs.size = some (ob led) := Heap.get?_push_of_some _ g0
        exact SetOf_congr ((setObjOf_fresh (knd := tk prog w) led).setOf g3 (by unfold scanBound; omega)) (fun _ => rfl) rfl
      · rintro ⟨h', g', d', k', os'⟩ m hS'
        obtain rfl : g' = s.gens := m.gens
        obtain rfl : d' = s.drawn := m.drawn
        obtain rfl : os' = s.os := m.os
        show wpAny _ _ _ _ _ _
        refine wpAny_pure ?_; show wpAny _ _ (ret Value.none) _ _ _
        refine wpAny_pure ⟨rfl, h', k', rfl, hS', fun b o hb e => m.heap b o ?_ (Heap.get?_push_of_some _ (Heap.get?_push_of_some _ e))⟩
        rw [sz]; simp only [List.mem_cons, List.not_mem_nil, or_false, not_or]; exact ⟨Nat.ne_of_lt hb, Nat.ne_of_lt (Nat.lt_succ_of_lt hb)⟩
    · rcases r₂ with e | fl₂
      · exact hr₂
      cases fl₂ with
      | ret r =>
        obtain ⟨rfl, h', k, rfl, hS', hk'⟩ := hr₂
        (repeat (any_goals (first | assumption | wp_step)))
        exact h _ _ hS' hk'
      | _ => exact hr₂.elim
  | _ => exact hr.elim
theorem made_tup (hh : A.handled = none) (hl : s.heap.IsTuple l items) (hn : ts.length = items.size) (hb : ts.length + 1 < scanBound) (hv : ∀ (i : Nat) (v : Value), items[i]? = some v → ∃ t, ts[i]? = some t ∧ ∃ k, v = .str (sOf t) k)
    (h : MadeT prog w s ts Q) : wpAny (model prog w) A (call (.type "set") [.ref l]) Q E s := by
  obtain ⟨mc, mt, hm⟩ := PySem.F.called_set.mro; have m1 := PySem.F.called_set.made; have m2 := PySem.F.called_set.sub
  refine wpAny_call (codeAny_of_tree ?_); show wpAny _ _ (callAny (.type "set") _) _ _ _
  refine wpAny_pure ⟨Code.quiet_builtin _ (by decide +kernel), codeAny_builtin PySem.F.entry_type_call ?_⟩; rw [Around.under_plain (weight_type_call_type "set" [.ref l] []) rfl]
  have m3 := PySem.F.called_set.notType; have m4 := PySem.F.called_set.canCreate; have m5 := PySem.F.typeCall_set_1 (.ref l)
  (repeat (any_goals (first | assumption | wp_step)))
  let ob : Bool → Obj := fun led => { cls := .type "set", dict := none, data := .set #[] 0 (.fresh 0 0 led) }
  refine codeAny_mono (code_set_new_1 (.ref l) (E := E) (Q₁ := fun z s₁ => ∃ led : Bool, z = .ref s.heap.objs.size ∧ s₁ = { s with heap := s.heap.push (ob led) }) fun led => ⟨led, rfl, rfl⟩) fun r s₁ hr => ?_
  rcases r with e | fl
  · exact hr
  cases fl with
  | ret z =>
    obtain ⟨led, rfl, rfl⟩ := hr
    have g0 : (s.heap.push (ob led)).get? s.heap.objs.size = some (ob led) := Heap.get?_push_size _ rfl
    have ty : Shared.TypeIs { s with heap := s.heap.push (ob led) } (.ref s.heap.objs.size) "set" := ⟨_, g0, rfl⟩
    have m6 := PySem.F.called_set.init.lookup; have m7 := PySem.F.called_set.init.bind (.ref s.heap.objs.size)
    (repeat (any_goals (first | assumption | wp_step)))
    refine codeAny_mono (codeAny_call_builtin (R := wants (fun r s₂ => r = .none ∧ ∃ h' k, s₂ = { s with heap := h', toks := k } ∧ h'.SetOf (tk prog w) s.heap.objs.size (inT (unl [] ts)) (unl [] ts).length ∧
        (∀ b o, b < s.heap.objs.size → s.heap.get? b = some o → h'.get? b = some o)) E) PySem.F.called_set.init.plain PySem.F.entry_set_init (check_set_init_1 ty ?_)) fun r₂ s₂ hr₂ => ?_
    · obtain ⟨⟨oc, od, oa, os⟩, g1, hc, nl, hd⟩ := hl
      dsimp only at hc hd; subst hc; subst hd
      have g2 : (s.heap.push (ob led)).get? l = some { cls := .type "tuple", dict := od, data := .seq items nl, slots := os } := Heap.get?_push_of_some _ g1
      have n1 := PySem.F.sub_tuple_set; have n2 := PySem.F.sub_tuple_frozenset; have n3 : (Value.type "tuple" == Value.type "dict") = false := by decide
      have hl1 : Heap.IsTuple (s.heap.push (ob led)) l items := ⟨_, g2, rfl, nl, rfl⟩
      unfold Builtin.«set.__init__» noKeywords Builtin.Frozenset.updateFrom
      generalize hPI : pyIter = PI; wp_walk; subst hPI
      refine wpAny_pyIter_tuple (s := { s with heap := s.heap.push (ob led) }) hl1 (wpAny_bind (wpAny_runValue ?_))
      have lt : l < s.heap.objs.size := Heap.lt_size g1
      have sz : (s.heap.push (ob led)).objs.size = s.heap.objs.size + 1 := Heap.size_push ..
      have a3 : A.in1.in1.in1.handled = none := by simp [hh]
      have ne : l ≠ (s.heap.push (ob led)).objs.size := sz ▸ Nat.ne_of_lt (Nat.lt_succ_of_lt lt)
      have nS : s.heap.objs.size ∉ [(s.heap.push (ob led)).objs.size, l] := by
        rw [sz]; simp only [List.mem_cons, List.not_mem_nil, or_false, not_or]; exact ⟨Nat.ne_of_lt (Nat.lt_succ_self _), Nat.ne_of_gt lt⟩
      refine fillT ((Walks.tuple a3 _ l ne items).toS) s.heap.objs.size nS ts hv ts [] 0 _ rfl (by rw [Nat.zero_add]; exact hn) (by rw [List.length_nil, Nat.zero_add]; exact hb) ⟨⟨_, Heap.get?_push_size _ rfl, rfl, rfl⟩, hl1.push _⟩ ?_ ?_
      · have g3 : ((s.heap.push (ob led)).push { cls := .type "tuple_iterator", data := .fields #[.ref l, .int 0 0] }).get? s.heap.objs.size = some (ob led) := Heap.get?_push_of_some _ g0
        exact SetOf_congr ((setObjOf_fresh (knd := tk prog w) led).setOf g3 (by unfold scanBound; omega)) (fun _ => rfl) rfl
      · rintro ⟨h', g', d', k', os'⟩ m hS'
        obtain rfl : g' = s.gens := m.gens
        obtain rfl : d' = s.drawn := m.drawn
        obtain rfl : os' = s.os := m.os
        show wpAny _ _ _ _ _ _
        refine wpAny_pure ?_; show wpAny _ _ (ret Value.none) _ _ _
        refine wpAny_pure ⟨rfl, h', k', rfl, hS', fun b o hb e => m.heap b o ?_ (Heap.get?_push_of_some _ (Heap.get?_push_of_some _ e))⟩
        rw [sz]; simp only [List.mem_cons, List.not_mem_nil, or_false, not_or]; exact ⟨Nat.ne_of_lt hb, Nat.ne_of_lt (Nat.lt_succ_of_lt hb)⟩
    · rcases r₂ with e | fl₂
      · exact hr₂
      cases fl₂ with
      | ret r =>
        obtain ⟨rfl, h', k, rfl, hS', hk'⟩ := hr₂
        (repeat (any_goals (first | assumption | wp_step)))
        exact h _ _ hS' hk'
      | _ => exact hr₂.elim
  | _ => exact hr.elim
end
end Ev

set_option Elab.async false
set_option linter.all false
set_option maxRecDepth 100000
set_option maxHeartbeats 1000000
namespace Ev
open PySem PySem.Spec PyProof.Rows L2
theorem unl_len : ∀ (r σ : List Txt), (unl σ r).length ≤ σ.length + r.length
  | [], σ => Nat.le_refl _
  | t :: r, σ => by
    have h := unl_len r (if σ.contains t then σ else σ ++ [t])
    have h2 : (if σ.contains t then σ else σ ++ [t]).length ≤ σ.length + 1 := by
      split
      · omega
      · rw [List.length_append]; exact Nat.le_refl _
    rw [List.length_cons]
    show (unl (if σ.contains t then σ else σ ++ [t]) r).length ≤ _
    omega
/-- how many unlike texts a list or tuple has -/
def tLenT (K : PySem.W.Frag) (ta : TE) : TE := fun σ H Q => ta σ H fun x H1 => ∃ (l : Addr) (ts : List Txt), x = .ref l ∧ (SqL K H1 l ((ts.map sOf).map V.str) ∨ SqT K H1 l ((ts.map sOf).map V.str)) ∧ ts.length < 4000 ∧ Q (.int (unlike ts)) H1
section
variable {X : Cx}
theorem pe_lenT {a : Expr} {ta : TE} {p p2 q pos : Pos} (hc : X.calm = true) (gl : Gl X "len") (ml : X.mg "len" = none) (gs : Gl X "set") (ms : X.mg "set" = none) (ha : PE X a ta) (na : starEach [a] X.env = (false, eval a X.env) :: starEach [] X.env) :
    PE X (.Call (.Name "len" p) [.Call (.Name "set" p2) [a] [] q] [] pos) (tLenT X.K ta) := by
  refine ⟨fun pins s σ H Q I h => Call_ (ld_blt I gl ml boot_len (callWith_builtin1 (args_cons (Call_ (ld_blt I gs ms boot_set (callWith_type1 (args_cons (thn (ha.run pins s σ H _ I h) fun v s1 hv => args_nil ?_) na) na rfl))) rfl) rfl rfl))⟩
  obtain ⟨x, H1, I1, r1, l, ts, rfl, hs, hb, k⟩ := hv
  cases r1
  have at' : ∀ {its : List Value}, Vals ((ts.map sOf).map V.str) its → ts.length = its.toArray.size ∧ ∀ (i : Nat) (v : Value), its.toArray[i]? = some v → ∃ t, ts[i]? = some t ∧ ∃ k, v = .str (sOf t) k := fun {its} r => by
    have el : ts.length = its.toArray.size := by rw [List.size_toArray, ← r.length, List.length_map, List.length_map]
    refine ⟨el, fun i v hv => ?_⟩
    rw [List.getElem?_toArray] at hv
    obtain ⟨t, e⟩ := SS.strs_at (strsAre_of r) i v hv
    have hi : i < ts.length := by rw [el, List.size_toArray]; exact (List.getElem?_eq_some_iff.mp hv).1
    refine ⟨ts[i], List.getElem?_eq_getElem hi, t, ?_⟩
    rw [e, List.getD_eq_getElem?_getD, List.getElem?_map, List.getElem?_eq_getElem hi]
    rfl
  have fin : MadeT X.prog X.w s1 ts fun u s₂ => wpAny (model X.prog X.w) X.A (spliced (backTo pos (starEach [] X.env))) (fun vs s₃ => wpAny (model X.prog X.w) X.A (call (.builtin "len") (u :: vs)) (EP X pins σ Q) X.xe s₃) X.xe s₂ := fun h' tk2 hS old => by
    have hu := unl_len ts []
    rw [List.length_nil, Nat.zero_add] at hu
    refine args_nil ?_
    obtain ⟨o, es, ep, t, ho, hex, hd, _, _, _, hf, hn⟩ := hS
    have I2 : Inv X pins σ H1 { s1 with heap := h', toks := tk2 } := I1.kept fun b o e => old b o (Heap.lt_size e) e
    exact call_len_set ho hex hd hf (by rw [hn]; omega) ⟨.int (unlike ts), H1, I2.tok _, ⟨_, by rw [hn]; rfl⟩, k⟩
  rcases hs with hs | hs
  · obtain ⟨its, r, pl, _⟩ := I1.list hs
    exact made_lst (I1.ok.hd hc) pl.isList (at' r).1 (by unfold scanBound; omega) (at' r).2 fin
  · obtain ⟨its, r, pl, _⟩ := I1.tuple hs
    exact made_tup (I1.ok.hd hc) pl (at' r).1 (by unfold scanBound; omega) (at' r).2 fin
end
end Ev

set_option Elab.async false
set_option linter.all false
set_option maxRecDepth 100000
set_option maxHeartbeats 1000000
/-! Expressions' and statements' rules, read by the evaluator. -/
namespace Ev
open PySem PySem.Spec PyProof.Rows L2
section
variable (K : PySem.W.Frag) (fa : Lay)
/-- it ends so, and what is wanted there holds -/
def RunO (W : EW) (φ : Ph) (H : Hp) (o : Out) (D : Ends) : Prop := match o with
  | .nx ρ' μ' => ∀ φ' H' σ', Ext φ H φ' H' → Abs K fa φ' μ' H' → REnv K fa (msk H' φ') φ' ρ' σ' → D.nx σ' H'
  | .bk ρ' μ' => ∀ φ' H' σ', Ext φ H φ' H' → Abs K fa φ' μ' H' → REnv K fa (msk H' φ') φ' ρ' σ' → D.bk σ' H'
  | .ct ρ' μ' => ∀ φ' H' σ', Ext φ H φ' H' → Abs K fa φ' μ' H' → REnv K fa (msk H' φ') φ' ρ' σ' → D.ct σ' H'
  | .rt d μ' => ∀ φ' H' v, Ext φ H φ' H' → Abs K fa φ' μ' H' → RV K fa (msk H' φ') φ' d v → D.rt v H'
  | .ex x ρ' μ' => ∀ φ' H' σ', Ext φ H φ' H' → Abs K fa φ' μ' H' → REnv K fa (msk H' φ') φ' ρ' σ' → W σ' x H'
  | .no => False
def tS (W : EW) (m : Rho → Mu → Out) : TS := fun D σ H => ∃ φ μ ρ, Abs K fa φ μ H ∧ REnv K fa (msk H φ) φ ρ σ ∧ RunO K fa W φ H (m ρ μ) D
/-- alike beside vs -/
def Like (vs : List Nat) (σ σ' : L2.St) : Prop := σ'.length = σ.length ∧ ∀ j : Nat, j ∉ vs → σ'[j]? = σ[j]?
/-- a target -/
def tG (t : T) : TG := fun v σ H Q => ∃ φ μ ρ d ρ', Abs K fa φ μ H ∧ REnv K fa (msk H φ) φ ρ σ ∧ RV K fa (msk H φ) φ d v ∧ t.put d ρ = some ρ' ∧ ∀ σ', Like t.vars σ σ' → REnv K fa (msk H φ) φ ρ' σ' → Q σ' H
def tGs (ts : List T) : TGs := fun vs σ H Q => ∃ φ μ ρ ds ρ', Abs K fa φ μ H ∧ REnv K fa (msk H φ) φ ρ σ ∧ RVs K fa (msk H φ) φ ds vs ∧ T.putL ts ds ρ = some ρ' ∧ ∀ σ', Like (T.varsL ts) σ σ' → REnv K fa (msk H φ) φ ρ' σ' → Q σ' H
end
section
variable {K : PySem.W.Frag} {fa : Lay} {W : EW} {Z : EZ} {φ φ' : Ph} {H H' : Hp} {μ : Mu} {σ : L2.St} {ρ : Rho} {D : Ends}
theorem RunO.ext {o : Out} (x : Ext φ H φ' H') (h : RunO K fa W φ H o D) : RunO K fa W φ' H' o D := by
  cases o with
  | nx ρ' μ' => exact fun φ2 H2 σ' y A R => h φ2 H2 σ' (x.trans y) A R
  | bk ρ' μ' => exact fun φ2 H2 σ' y A R => h φ2 H2 σ' (x.trans y) A R
  | ct ρ' μ' => exact fun φ2 H2 σ' y A R => h φ2 H2 σ' (x.trans y) A R
  | rt d μ' => exact fun φ2 H2 v y A R => h φ2 H2 v (x.trans y) A R
  | ex _ _ _ => exact fun φ2 H2 σ' y A R => h φ2 H2 σ' (x.trans y) A R
  | no => exact h
theorem RunO.out {α : Type} {r : Res α} {f : α → Mu → Out} (R : REnv K fa (msk H φ) φ ρ σ) (h : RunO K fa W φ H (r.out ρ f) D) : Run K fa (W σ) φ H r fun a μ' φ' H' => RunO K fa W φ' H' (f a μ') D := by
  cases r with
  | ok a μ' => exact fun φ' H' x A => RunO.ext x h
  | ex _ _ => exact fun φ' H' x A => h φ' H' σ x A (R.ext x)
  | no => exact h
theorem REnv.len2 {G : Hp} {ρ : Rho} {σ : L2.St} (h : REnv K fa G φ ρ σ) : ρ.length = σ.length := h.len
end
section
variable {X : Cx} {fa : Lay} {W : EW} {Z : EZ} {a b c e : Expr} {ma mb mc m : Rho → Mu → Res D} {pos : Pos}
theorem PS.imp {st : Stmt} {t t' : TS} (h : PS X st t) (f : ∀ D σ H, t' D σ H → t D σ H) : PS X st t' := ⟨fun pins s σ H D I q => h.run pins s σ H D I (f D σ H q)⟩
theorem PSs.imp {st : List Stmt} {t t' : TS} (h : PSs X st t) (f : ∀ D σ H, t' D σ H → t D σ H) : PSs X st t' := ⟨fun pins s σ H D I q => h.run pins s σ H D I (f D σ H q)⟩
theorem PG.imp {tg : Expr} {t t' : TG} (h : PG X tg t) (f : ∀ v σ H Q, t' v σ H Q → t v σ H Q) : PG X tg t' := ⟨fun pins s σ H v u Q I r q => h.run pins s σ H v u Q I r (f v σ H Q q)⟩
theorem PGs.imp {tg : List Expr} {t t' : TGs} (h : PGs X tg t) (f : ∀ v σ H Q, t' v σ H Q → t v σ H Q) : PGs X tg t' := ⟨fun pins s σ H v u Q I r q => h.run pins s σ H v u Q I r (f v σ H Q q)⟩
theorem PI.imp {tg it : Expr} {t t' : TI} (h : PI X tg it t) (f : ∀ σ H R, t' σ H R → t σ H R) : PI X tg it t' := ⟨fun pins s σ H R I q => h.run pins s σ H R I (f σ H R q)⟩
theorem PO.imp {e : Option Expr} {t t' : TO} (h : PO X e t) (f : ∀ σ H Q, t' σ H Q → t σ H Q) : PO X e t' := ⟨fun pins s σ H Q I q => h.run pins s σ H Q I (f σ H Q q)⟩

/-! ### names and constants -/
def evVar (i : Nat) : Rho → Mu → Res D := fun ρ μ => match ρ[i]? with
  | some (some d) => .ok d μ
  | _ => .no
theorem e_var {i : Nat} {x : Str} (hN : X.N[i]? = some x) (hv : Vis X.env.scope x) (hd : (x == ("__debug__" : Str)) = false) (hcd : (x == ("__classdict__" : Str)) = false) : PE X (.Name x pos) (tE X.K fa W (evVar i)) :=
  PE.imp (pe_var hN hv hd hcd) fun σ H Q h => by
    obtain ⟨φ, μ, ρ, A, R, h⟩ := h
    unfold evVar at h
    split at h
    · rename_i d hd
      obtain ⟨v, e, rv⟩ := R.at_ i d hd
      exact ⟨v, e, h.here A v rv⟩
    · exact False.elim h
/-- a value that is d in every heap -/
theorem e_tc {v : V} {d : D} (h : PE X e (tC v)) (hv : ∀ G φ, RV X.K fa G φ d v) : PE X e (tE X.K fa W fun _ μ => .ok d μ) := PE.imp h fun σ H Q q => by
  obtain ⟨φ, μ, ρ, A, R, q⟩ := q
  exact q.here A v (hv _ _)

/-! ### operations -/
theorem e_bin {op : Operator} {o : BOp} (ho : OpR X (binaryOp op) (rOp X.K fa fun μ x y => Res.of (binD o μ x y) μ)) (ha : PE X a (tE X.K fa W ma)) (hb : PE X b (tE X.K fa W mb)) :
    PE X (.BinOp a op b pos) (tE X.K fa W fun ρ μ => (ma ρ μ).bind fun x μ => (mb ρ μ).bind fun y μ => Res.of (binD o μ x y) μ) := PE.imp (pe_op ho ha hb) fun σ H Q h => two σ H Q h
theorem e_cat (ha : PE X a (tE X.K fa W ma)) (hb : PE X b (tE X.K fa W mb)) : PE X (.BinOp a .Add b pos) (tE X.K fa W fun ρ μ => (ma ρ μ).bind fun x μ => (mb ρ μ).bind fun y μ => catD μ x y) := PE.imp (pe_op op_catM ha hb) fun σ H Q h => two σ H Q h
theorem e_neg (ha : PE X a (tE X.K fa W ma)) : PE X (.UnaryOp .USub a pos) (tE X.K fa W fun ρ μ => (ma ρ μ).bind fun x μ => match x with
    | .int i => .ok (.int (-i)) μ
    | _ => .no) := PE.imp (pe_un un_neg' ha) fun σ H Q h => by
  obtain ⟨φ, μ, ρ, A, R, h⟩ := h
  exact ⟨φ, μ, ρ, A, R, h.bind.imp fun x μ1 φ1 H1 e1 A1 h1 v rv => ⟨φ1, μ1, x, A1, rv, h1.any⟩⟩
theorem e_cmp {op : CmpOp} {o : COp} (ho : OpR X (compareOp op) (rOp X.K fa (cmpR o))) (ha : PE X a (tE X.K fa W ma)) (hb : PE X b (tE X.K fa W mb)) (hm : behindInMarks op b = false) :
    PE X (.Compare a [op] [b] pos) (tE X.K fa W fun ρ μ => (ma ρ μ).bind fun x μ => (mb ρ μ).bind fun y μ => Res.of ((cmpD o μ x y).map .bl) μ) := PE.imp (pe_cmpR ho ha hb hm) fun σ H Q h => two σ H Q h
theorem Run.imp2 {K : PySem.W.Frag} {φ : Ph} {H : Hp} {α : Type} {r : Res α} {k k' : α → Mu → Ph → Hp → Prop} (h : Run K fa Z φ H r k)
    (f : ∀ a μ', r = .ok a μ' → ∀ φ' H', Ext φ H φ' H' → Abs K fa φ' μ' H' → k a μ' φ' H' → k' a μ' φ' H') : Run K fa Z φ H r k' := by
  cases r with
  | ok a μ' => exact fun φ' H' x A => f a μ' rfl φ' H' x A (h φ' H' x A)
  | ex _ _ => exact h
  | no => exact h
theorem bind_ok {α β : Type} {r : Res α} {f : α → Mu → Res β} {b : β} {μ : Mu} (h : r.bind f = .ok b μ) : ∃ a μ', r = .ok a μ' ∧ f a μ' = .ok b μ := by
  cases r with
  | ok a μ' => exact ⟨a, μ', rfl, h⟩
  | ex _ _ => cases h
  | no => cases h
theorem of_ok {α : Type} {o : Option α} {a : α} {μ μ' : Mu} (h : Res.of o μ = .ok a μ') : o = some a ∧ μ' = μ := by
  cases o with
  | none => cases h
  | some b => cases h; exact ⟨rfl, rfl⟩
/-- a truth value, as a test -/
theorem tst {K : PySem.W.Frag} {r : Res D} {φ : Ph} {H : Hp} {Q : Bool → Hp → Prop} (hr : ∀ d μ, r = .ok d μ → ∃ k, d = .bl k) (h : Run K fa Z φ H (r.bind fun d μ => Res.of (truthD μ d) μ) fun b _ _ H' => Q b H') :
    Run K fa Z φ H r (toV K fa fun x H' => ∃ k, x = V.bl k ∧ Q k H') := by
  refine Run.imp2 h.bind fun d μ1 er φ1 H1 e1 A1 h1 v rv => ?_
  obtain ⟨k, rfl⟩ := hr d μ1 er
  exact ⟨k, rv_bl rv, h1.here A1⟩
theorem cmp_bl {o : COp} {μ μ' : Mu} {x y d : D} (h : Res.of ((cmpD o μ x y).map D.bl) μ = .ok d μ') : ∃ k, d = .bl k := by
  obtain ⟨h1, _⟩ := of_ok h
  obtain ⟨k, _, rfl⟩ := map_bl h1
  exact ⟨k, rfl⟩
theorem t_cmp {op : CmpOp} {o : COp} (ho : OpR X (compareOp op) (rOp X.K fa (cmpR o))) (ha : PE X a (tE X.K fa W ma)) (hb : PE X b (tE X.K fa W mb)) (hm : behindInMarks op b = false) :
    PT X (.Compare a [op] [b] pos) (tT X.K fa W fun ρ μ => ((ma ρ μ).bind fun x μ => (mb ρ μ).bind fun y μ => Res.of ((cmpD o μ x y).map .bl) μ).bind fun d μ => Res.of (truthD μ d) μ) := PT.imp (pt_cmpR ho ha hb hm) fun σ H Q h => by
  obtain ⟨φ, μ, ρ, A, R, h⟩ := h
  refine two σ H _ ⟨φ, μ, ρ, A, R, tst (fun d μ1 er => ?_) h⟩
  obtain ⟨_, _, _, er⟩ := bind_ok er
  obtain ⟨_, _, _, er⟩ := bind_ok er
  exact cmp_bl er
/-- a op b op' c -/
def evChain (o o' : COp) (ma mb mc : Rho → Mu → Res D) : Rho → Mu → Res D := fun ρ μ => (ma ρ μ).bind fun x μ => (mb ρ μ).bind fun y μ => (Res.of (cmpD o μ x y) μ).bind fun k μ =>
  if k then (mc ρ μ).bind fun z μ => Res.of ((cmpD o' μ y z).map .bl) μ else .ok (.bl false) μ
theorem chain_core {o o' : COp} (σ : L2.St) (H : Hp) (Q : VK) (h : tE X.K fa W (evChain o o' ma mb mc) σ H Q) : tChain (rOp X.K fa (cmpR o)) (rOp X.K fa (cmpR o')) (tE X.K fa W ma) (tE X.K fa W mb) (tE X.K fa W mc) σ H Q := by
  obtain ⟨φ, μ, ρ, A, R, h⟩ := h
  refine ⟨φ, μ, ρ, A, R, h.bind.imp fun x μ1 φ1 H1 e1 A1 h1 v rv => ?_⟩
  refine ⟨φ1, μ1, ρ, A1, R.ext e1, h1.bind.imp fun y μ2 φ2 H2 e2 A2 h2 u ru => ?_⟩
  have R2 := (R.ext e1).ext e2
  obtain ⟨k, ek, h3⟩ := h2.bind.of
  refine ⟨φ2, μ2, x, y, A2, rv.ext e2, ru, ?_⟩
  show Run X.K fa _ φ2 H2 (Res.of ((cmpD o μ2 x y).map D.bl) μ2) _
  rw [ek]
  refine fun φ3 H3 e3 A3 w rw' => ⟨k, rv_bl rw', ?_⟩
  have h3 := h3 φ3 H3 e3 A3
  cases k with
  | false => exact h3.here A3 _ mk_bl
  | true =>
    refine ⟨φ3, μ2, ρ, A3, R2.ext e3, ?_⟩
    refine (show Run X.K fa (W σ) φ3 H3 (mc ρ μ2) _ from h3.bind).imp fun z μ4 φ4 H4 e4 A4 h4 z' rz => ?_
    exact ⟨φ4, μ4, y, z, A4, (ru.ext e3).ext e4, rz, h4.any⟩
theorem e_cmp2 {op op' : CmpOp} {o o' : COp} (ho : OpR X (compareOp op) (rOp X.K fa (cmpR o))) (ho' : OpR X (compareOp op') (rOp X.K fa (cmpR o'))) (ha : PE X a (tE X.K fa W ma)) (hb : PE X b (tE X.K fa W mb)) (hc : PE X c (tE X.K fa W mc))
    (hm : lastMarks [op, op'] [b, c] = false) : PE X (.Compare a [op, op'] [b, c] pos) (tE X.K fa W (evChain o o' ma mb mc)) := PE.imp (pe_chain ho ho' ha hb hc hm) fun σ H Q h => chain_core σ H Q h
theorem t_cmp2 {op op' : CmpOp} {o o' : COp} (ho : OpR X (compareOp op) (rOp X.K fa (cmpR o))) (ho' : OpR X (compareOp op') (rOp X.K fa (cmpR o'))) (ha : PE X a (tE X.K fa W ma)) (hb : PE X b (tE X.K fa W mb)) (hc : PE X c (tE X.K fa W mc))
    (hm : lastMarks [op, op'] [b, c] = false) : PT X (.Compare a [op, op'] [b, c] pos) (tT X.K fa W fun ρ μ => (evChain o o' ma mb mc ρ μ).bind fun d μ => Res.of (truthD μ d) μ) := PT.imp (pt_chain ho ho' ha hb hc hm) fun σ H Q h => by
  obtain ⟨φ, μ, ρ, A, R, h⟩ := h
  refine chain_core σ H _ ⟨φ, μ, ρ, A, R, tst (fun d μ1 er => ?_) h⟩
  unfold evChain at er
  obtain ⟨_, _, _, er⟩ := bind_ok er
  obtain ⟨_, _, _, er⟩ := bind_ok er
  obtain ⟨k, _, _, er⟩ := bind_ok er
  cases k with
  | false => cases er; exact ⟨false, rfl⟩
  | true =>
    obtain ⟨_, _, _, er⟩ := bind_ok (show (mc ρ _).bind _ = _ from er)
    exact cmp_bl er

/-! ### truth -/
theorem tru_rv {K : PySem.W.Frag} {φ : Ph} {H : Hp} {μ : Mu} (A : Abs K fa φ μ H) {d : D} {v : V} {k : Bool} (r : RV K fa (msk H φ) φ d v) (h : truthD μ d = some k) : TruV K v H k := by
  have seqs : ∀ (p : Addr) (l : List D) (vs : List V), RVs K fa (msk H φ) φ l vs → (!l.isEmpty) = !vs.isEmpty := fun p l vs rs => by
    have := rs.length
    cases l <;> cases vs <;> first | rfl | simp at this
  cases d with
  | non => cases rv_non r; cases h; rfl
  | bl b => cases rv_bl r; cases h; rfl
  | int i => cases rv_int r; cases h; rfl
  | str s =>
    obtain ⟨rfl, _⟩ := rv_str r
    obtain ⟨c, e⟩ := ite_some (show (if s.length ≤ lim then some (!s.isEmpty) else none) = some k from h)
    refine ⟨by rw [sOf_len, lim_eq]; exact c, ?_⟩
    cases e
    rw [sOf_len]
    cases s with
    | nil => rfl
    | cons c s => simp; omega
  | tup l =>
    cases h
    obtain ⟨p, vs, rfl, hs, rs⟩ := rv_tup r
    exact .inr (.inl ⟨vs, Same.seqT msk_same hs, seqs p l vs rs⟩)
  | lst l =>
    cases h
    obtain ⟨p, vs, rfl, hs, rs⟩ := rv_lst r
    exact .inl ⟨vs, Same.sqL msk_same hs, seqs p l vs rs⟩
  | loc n =>
    obtain ⟨p, hp, rfl⟩ := rv_loc r
    unfold truthD at h
    dsimp only at h
    cases hm : μ[n]? with
    | none => rw [hm] at h; cases h
    | some c =>
      rw [hm] at h
      cases c with
      | lst l =>
        cases h
        obtain ⟨vs, e, rs⟩ := A.cell n p _ hp hm
        exact .inl ⟨vs, .inl (.inl e), seqs p l vs rs⟩
      | dct l =>
        cases h
        obtain ⟨kvs, e2, e3⟩ := A.cell n p _ hp hm
        refine .inr (.inr ⟨kvs, e2, ?_⟩)
        cases l with
        | nil => cases (show kvs = [] from e3); rfl
        | cons _ _ => obtain ⟨_, _, _, rfl, _⟩ := e3; rfl
      | _ => cases h
  | fn k => cases h
/-- any expression whose test is its value's truth -/
theorem t_truth (ha : PE X a (tE X.K fa W ma)) (he : ∀ whole, isTrue a X.env whole = (do let v ← whole; standAt a.pos; holding [v] (truthy v))) :
    PT X a (tT X.K fa W fun ρ μ => (ma ρ μ).bind fun d μ => Res.of (truthD μ d) μ) := PT.imp (pt_truth ha he) fun σ H Q h => by
  obtain ⟨φ, μ, ρ, A, R, h⟩ := h
  refine ⟨φ, μ, ρ, A, R, h.bind.imp fun d μ1 φ1 H1 e1 A1 h1 v rv => ?_⟩
  obtain ⟨k, ek, q⟩ := h1.of
  exact ⟨k, tru_rv A1 rv ek, q φ1 H1 (Ext.refl _ _) A1⟩

/-! ### and, or, not, if -/
variable {rest : List Expr} {ta tb : Rho → Mu → Res Bool}
theorem t_and (ha : PT X a (tT X.K fa W ta)) (hb : PW X (.BoolOp .And (b :: rest) pos) (tT X.K fa W tb)) : PW X (.BoolOp .And (a :: b :: rest) pos) (tT X.K fa W fun ρ μ => (ta ρ μ).bind fun k μ => if k then tb ρ μ else .ok false μ) := by
  refine ⟨fun wh pins s σ H Q I h => (pw_and ha hb).run wh pins s σ H Q I ?_⟩
  obtain ⟨φ, μ, ρ, A, R, h⟩ := h
  refine ⟨φ, μ, ρ, A, R, h.bind.imp fun k μ1 φ1 H1 e1 A1 h1 => ?_⟩
  cases k with
  | true => exact ⟨φ1, μ1, ρ, A1, R.ext e1, h1⟩
  | false => exact h1.here A1
theorem t_or (ha : PT X a (tT X.K fa W ta)) (hb : PW X (.BoolOp .Or (b :: rest) pos) (tT X.K fa W tb)) : PW X (.BoolOp .Or (a :: b :: rest) pos) (tT X.K fa W fun ρ μ => (ta ρ μ).bind fun k μ => if k then .ok true μ else tb ρ μ) := by
  refine ⟨fun wh pins s σ H Q I h => (pw_or ha hb).run wh pins s σ H Q I ?_⟩
  obtain ⟨φ, μ, ρ, A, R, h⟩ := h
  refine ⟨φ, μ, ρ, A, R, h.bind.imp fun k μ1 φ1 H1 e1 A1 h1 => ?_⟩
  cases k with
  | true => exact h1.here A1
  | false => exact ⟨φ1, μ1, ρ, A1, R.ext e1, h1⟩
theorem t_not (ha : PT X a (tT X.K fa W ta)) : PT X (.UnaryOp .Not a pos) (tT X.K fa W fun ρ μ => (ta ρ μ).bind fun k μ => .ok (!k) μ) := PT.imp (L2.pt_not ha) fun σ H Q h => by
  obtain ⟨φ, μ, ρ, A, R, h⟩ := h
  exact ⟨φ, μ, ρ, A, R, h.bind.imp fun k μ1 φ1 H1 e1 A1 h1 => h1.here A1⟩
theorem e_and (ha : PE X a (tE X.K fa W ma)) (hb : PE X (.BoolOp .And (b :: rest) pos) (tE X.K fa W mb)) :
    PE X (.BoolOp .And (a :: b :: rest) pos) (tE X.K fa W fun ρ μ => (ma ρ μ).bind fun x μ => (Res.of (truthD μ x) μ).bind fun k μ => if k then mb ρ μ else .ok x μ) := PE.imp (pe_andT ha hb) fun σ H Q h => by
  obtain ⟨φ, μ, ρ, A, R, h⟩ := h
  refine ⟨φ, μ, ρ, A, R, h.bind.imp fun d μ1 φ1 H1 e1 A1 h1 v rv => ?_⟩
  obtain ⟨k, ek, q⟩ := h1.bind.of
  have q := q φ1 H1 (Ext.refl _ _) A1
  refine ⟨k, tru_rv A1 rv ek, ?_⟩
  cases k with
  | true => exact ⟨φ1, μ1, ρ, A1, R.ext e1, q⟩
  | false => exact q.here A1 v rv
theorem e_or (ha : PE X a (tE X.K fa W ma)) (hb : PE X (.BoolOp .Or (b :: rest) pos) (tE X.K fa W mb)) :
    PE X (.BoolOp .Or (a :: b :: rest) pos) (tE X.K fa W fun ρ μ => (ma ρ μ).bind fun x μ => (Res.of (truthD μ x) μ).bind fun k μ => if k then .ok x μ else mb ρ μ) := PE.imp (pe_orT ha hb) fun σ H Q h => by
  obtain ⟨φ, μ, ρ, A, R, h⟩ := h
  refine ⟨φ, μ, ρ, A, R, h.bind.imp fun d μ1 φ1 H1 e1 A1 h1 v rv => ?_⟩
  obtain ⟨k, ek, q⟩ := h1.bind.of
  have q := q φ1 H1 (Ext.refl _ _) A1
  refine ⟨k, tru_rv A1 rv ek, ?_⟩
  cases k with
  | true => exact q.here A1 v rv
  | false => exact ⟨φ1, μ1, ρ, A1, R.ext e1, q⟩
theorem e_not (ha : PE X a (tE X.K fa W ma)) : PE X (.UnaryOp .Not a pos) (tE X.K fa W fun ρ μ => (ma ρ μ).bind fun x μ => Res.of ((truthD μ x).map fun k => .bl (!k)) μ) := PE.imp (pe_notT ha) fun σ H Q h => by
  obtain ⟨φ, μ, ρ, A, R, h⟩ := h
  refine ⟨φ, μ, ρ, A, R, h.bind.imp fun d μ1 φ1 H1 e1 A1 h1 v rv => ?_⟩
  obtain ⟨x, ex, q⟩ := h1.of
  obtain ⟨k, ek, rfl⟩ := ofmap ex
  exact ⟨k, tru_rv A1 rv ek, q φ1 H1 (Ext.refl _ _) A1 _ mk_bl⟩
theorem e_ite (hc : PT X c (tT X.K fa W ta)) (ha : PE X a (tE X.K fa W ma)) (hb : PE X b (tE X.K fa W mb)) : PE X (.IfExp c a b pos) (tE X.K fa W fun ρ μ => (ta ρ μ).bind fun k μ => if k then ma ρ μ else mb ρ μ) := PE.imp (pe_ifExp hc ha hb) fun σ H Q h => by
  obtain ⟨φ, μ, ρ, A, R, h⟩ := h
  refine ⟨φ, μ, ρ, A, R, h.bind.imp fun k μ1 φ1 H1 e1 A1 h1 => ?_⟩
  cases k with
  | true => exact ⟨φ1, μ1, ρ, A1, R.ext e1, h1⟩
  | false => exact ⟨φ1, μ1, ρ, A1, R.ext e1, h1⟩

/-! ### argument lists, displays, places, slices, calls -/
variable {es : List Expr} {ms : Rho → Mu → Res (List D)} {mo mo' : Rho → Mu → Res (Option Int)}
theorem a_nil : PA X [] (tA X.K fa W fun _ μ => .ok [] μ) := PA.imp pa_nil fun σ H Q h => by
  obtain ⟨φ, μ, ρ, A, R, h⟩ := h
  exact h.here A [] RVs.nil
theorem a_cons (ha : PE X e (tE X.K fa W ma)) (hb : PA X es (tA X.K fa W ms)) (hs : starEach (e :: es) X.env = (false, eval e X.env) :: starEach es X.env) :
    PA X (e :: es) (tA X.K fa W fun ρ μ => (ma ρ μ).bind fun x μ => (ms ρ μ).bind fun xs μ => .ok (x :: xs) μ) := PA.imp (pa_cons ha hb hs) fun σ H Q h => by
  obtain ⟨φ, μ, ρ, A, R, h⟩ := h
  refine ⟨φ, μ, ρ, A, R, h.bind.imp fun d μ1 φ1 H1 e1 A1 h1 v rv => ?_⟩
  refine ⟨φ1, μ1, ρ, A1, R.ext e1, h1.bind.imp fun ds μ2 φ2 H2 e2 A2 h2 vs rs => ?_⟩
  exact h2.here A2 (v :: vs) (RVs.cons (rv.ext e2) rs)
theorem e_tup {x1} (h : PA X es (tA X.K fa W ms)) : PE X (.Tuple es x1 pos) (tE X.K fa W fun ρ μ => (ms ρ μ).bind fun ds μ => if ds.length ≤ lim then .ok (.tup ds) μ else .no) := PE.imp (pe_tup h) fun σ H Q h => by
  obtain ⟨φ, μ, ρ, A, R, h⟩ := h
  refine ⟨φ, μ, ρ, A, R, h.bind.imp fun ds μ1 φ1 H1 e1 A1 h1 vs rs => ?_⟩
  by_cases hl : ds.length ≤ lim
  · rw [if_pos hl] at h1
    refine ⟨by rw [rs.length, lim_eq]; exact hl, fun p hp => ?_⟩
    obtain ⟨x1, A2, r2⟩ := new_tup A1 rs hp
    exact h1 _ _ x1 A2 _ r2
  · rw [if_neg hl] at h1; exact False.elim h1
theorem e_lst (m : Bool) (h : PA X es (tA X.K fa W ms)) : PE X (.List es pos) (tE X.K fa W fun ρ μ => (ms ρ μ).bind fun ds μ => if ds.length ≤ lim then (if m then .ok (.loc μ.length) (μ ++ [.lst ds]) else .ok (.lst ds) μ) else .no) := PE.imp (pe_lst h) fun σ H Q h => by
  obtain ⟨φ, μ, ρ, A, R, h⟩ := h
  refine ⟨φ, μ, ρ, A, R, h.bind.imp fun ds μ1 φ1 H1 e1 A1 h1 vs rs => ?_⟩
  by_cases hl : ds.length ≤ lim
  · rw [if_pos hl] at h1
    refine ⟨by rw [rs.length, lim_eq]; exact hl, fun p hp => ?_⟩
    cases m with
    | true =>
      obtain ⟨x1, A2, r2⟩ := new_loc A1 rs hp
      exact h1 _ _ x1 A2 _ r2
    | false =>
      obtain ⟨x1, A2, r2⟩ := new_lst A1 rs hp
      exact h1 _ _ x1 A2 _ r2
  · rw [if_neg hl] at h1; exact False.elim h1
theorem lrep_some {l : List D} {y d : D} (h : lrepD l y = some d) : ∃ j : Int, y = .int j ∧ -(2 ^ 62) ≤ j ∧ j < 2 ^ 62 ∧ l.length * j.toNat ≤ lim ∧ d = .lst (List.replicate j.toNat l).flatten := by
  cases y with
  | int j =>
    obtain ⟨c, e⟩ := ite_some (show (if -(2 ^ 62) ≤ j ∧ j < 2 ^ 62 ∧ l.length * j.toNat ≤ lim then some (D.lst (List.replicate j.toNat l).flatten) else none) = some d from h)
    cases e
    exact ⟨j, rfl, c.1, c.2.1, c.2.2, rfl⟩
  | _ => cases h
theorem e_lrep {p2 : Pos} (ha : PA X es (tA X.K fa W ms)) (hb : PE X b (tE X.K fa W mb)) :
    PE X (.BinOp (.List es p2) .Mult b pos) (tE X.K fa W fun ρ μ => (ms ρ μ).bind fun ds μ => if ds.length ≤ lim then (mb ρ μ).bind fun y μ => Res.of (lrepD ds y) μ else .no) := PE.imp (pe_op op_rep (pe_lst ha) hb) fun σ H Q h => by
  obtain ⟨φ, μ, ρ, A, R, h⟩ := h
  refine ⟨φ, μ, ρ, A, R, h.bind.imp fun ds μ1 φ1 H1 e1 A1 h1 vs rs => ?_⟩
  by_cases hl : ds.length ≤ lim
  · rw [if_pos hl] at h1
    refine ⟨by rw [rs.length, lim_eq]; exact hl, fun p hp => ?_⟩
    obtain ⟨x1, A2, r2⟩ := new_lst A1 rs hp
    have hm : msk (upd H1 p (.lst vs)) φ1 p = some (.lst vs) := by rw [msk_out (A1.notIn hp), upd_same]
    refine ⟨φ1, μ1, ρ, A2, (R.ext e1).ext x1, (h1.ext x1).bind.imp fun y μ3 φ3 H3 e3 A3 h3 v rv => ?_⟩
    obtain ⟨d, e, q⟩ := h3.of
    obtain ⟨j, rfl, c1, c2, c3, rfl⟩ := lrep_some e
    cases rv_int rv
    have hH := (msk_some (e3.keep p _ hm)).2
    refine ⟨p, j, vs, rfl, rfl, hH, by omega, by omega, by rw [rs.length, lim_eq]; exact c3, fun z hz => ?_⟩
    obtain ⟨x4, A4, r4⟩ := new_lst A3 (rep_rvs j.toNat ((rs.ext x1).ext e3)) hz
    exact q φ3 _ x4 A4 _ r4
  · rw [if_neg hl] at h1; exact False.elim h1
theorem e_ix (hw : fa.w = X.w) (hu : X.A.units + 64 < cLine) (ha : PE X a (tE X.K fa W ma)) (hb : PE X b (tE X.K fa W mb)) (hs : PlainIx b) : PE X (.Subscript a b pos) (tE X.K fa W fun ρ μ => (ma ρ μ).bind fun x μ => (mb ρ μ).bind fun y μ => Res.of (idxD μ x y) μ) :=
  PE.imp (pe_ix (ix_M hw hu) ha hb hs) fun σ H Q h => two σ H Q h
theorem o_none : PO X none (tI X.K fa W fun _ μ => .ok none μ) := PO.imp po_none fun σ H Q h => by
  obtain ⟨φ, μ, ρ, A, R, h⟩ := h
  exact h.here A
theorem o_some (h : PE X e (tE X.K fa W ma)) : PO X (some e) (tI X.K fa W fun ρ μ => (ma ρ μ).bind fun x μ => match x with
    | .int i => .ok (some i) μ
    | _ => .no) := PO.imp (po_some h) fun σ H Q h => by
  obtain ⟨φ, μ, ρ, A, R, h⟩ := h
  refine ⟨φ, μ, ρ, A, R, h.bind.imp fun d μ1 φ1 H1 e1 A1 h1 v rv => ?_⟩
  cases d with
  | int i => exact ⟨i, rv_int rv, h1.here A1⟩
  | _ => exact False.elim h1
theorem e_slc {lo hi : Option Expr} {p2 : Pos} (ha : PE X a (tE X.K fa W ma)) (hl : PO X lo (tI X.K fa W mo)) (hh : PO X hi (tI X.K fa W mo')) :
    PE X (.Subscript a (.Slice lo hi none p2) pos) (tE X.K fa W fun ρ μ => (ma ρ μ).bind fun x μ => (mo ρ μ).bind fun l μ => (mo' ρ μ).bind fun h μ => Res.of (slcD μ x l h) μ) := PE.imp (pe_slice sl_M ha hl hh) fun σ H Q h => by
  obtain ⟨φ, μ, ρ, A, R, h⟩ := h
  refine ⟨φ, μ, ρ, A, R, h.bind.imp fun x μ1 φ1 H1 e1 A1 h1 v rv => ?_⟩
  refine ⟨φ1, μ1, ρ, A1, R.ext e1, h1.bind.imp fun l μ2 φ2 H2 e2 A2 h2 => ?_⟩
  refine ⟨φ2, μ2, ρ, A2, (R.ext e1).ext e2, h2.bind.imp fun u μ3 φ3 H3 e3 A3 h3 => ?_⟩
  exact ⟨φ3, μ3, x, A3, (rv.ext e2).ext e3, h3.any⟩
/-- a built-in's call -/
theorem bi_run {f : Mu → List D → Res D} (σ : L2.St) (H : Hp) (Q : VK) (h : tE X.K fa W (fun ρ μ => (ms ρ μ).bind fun ds μ => f μ ds) σ H Q) : tCB (rBi X.K fa f) (tA X.K fa W ms) σ H Q := by
  obtain ⟨φ, μ, ρ, A, R, h⟩ := h
  exact ⟨φ, μ, ρ, A, R, h.bind.imp fun ds μ1 φ1 H1 e1 A1 h1 vs rs => ⟨φ1, μ1, ds, A1, rs, h1.any⟩⟩
theorem e_biB {id : String} {x : Str} {p : Pos} {bi : Bi} (hc : CallR X (.builtin id) (rBi X.K fa (biR bi))) (hg : Gl X x) (hm : X.mg x = none) (hv : bootBuiltins x = some (.builtin id)) (ha : PA X (e :: es) (tA X.K fa W ms)) (hn : x ≠ "__name__") (hdb : (x == ("__debug__" : Str)) = false)
    (he : starEach (e :: es) X.env = (false, eval e X.env) :: starEach es X.env) (hpl : (backTo pos (starEach es X.env)).any (·.1) = false) :
    PE X (.Call (.Name x p) (e :: es) [] pos) (tE X.K fa W fun ρ μ => (ms ρ μ).bind fun ds μ => Res.of (biD bi μ ds) μ) := PE.imp (pe_callB hc hg hm hv ha hn hdb he hpl) fun σ H Q h => bi_run σ H Q h
theorem e_biT {T : String} {x : Str} {p : Pos} {bi : Bi} (hc : CallR X (.type T) (rBi X.K fa (biR bi))) (hg : Gl X x) (hm : X.mg x = none) (hv : bootBuiltins x = some (.type T)) (ha : PA X (e :: es) (tA X.K fa W ms)) (hn : x ≠ "__name__") (hdb : (x == ("__debug__" : Str)) = false)
    (he : starEach (e :: es) X.env = (false, eval e X.env) :: starEach es X.env) (hpl : (backTo pos (starEach es X.env)).any (·.1) = false) :
    PE X (.Call (.Name x p) (e :: es) [] pos) (tE X.K fa W fun ρ μ => (ms ρ μ).bind fun ds μ => Res.of (biD bi μ ds) μ) := PE.imp (pe_callTy hc hg hm hv ha hn hdb he hpl) fun σ H Q h => bi_run σ H Q h
end
end Ev

set_option Elab.async false
set_option linter.all false
set_option maxRecDepth 100000
set_option maxHeartbeats 1000000
/-! Methods, targets, what is walked, loops, comprehensions. -/
namespace Ev
open PySem PySem.Spec PyProof.Rows L2
def Me.ty : Me → String
  | .index => "str"
  | .join => "str"
  | _ => "list"
section
variable {X : Cx} {fa : Lay} {W : EW} {Z : EZ} {a b c e o : Expr} {es : List Expr} {ma mb mc m : Rho → Mu → Res D} {ms : Rho → Mu → Res (List D)} {pos apos cpos : Pos} {name : Str} {id : String}
theorem ty_me {m : Me} {K : PySem.W.Frag} {φ : Ph} {H : Hp} {μ : Mu} (A : Abs K fa φ μ H) {d : D} {v : V} (r : RV K fa (msk H φ) φ d v) (h : meTy m μ d = true) : tyV K m.ty v H := by
  have lsts : ∀ (hm : m.ty = "list"), (match (generalizing := false) d with | .loc n => (match μ[n]? with | some (.lst _) => true | _ => false) | _ => false) = true → tyV K m.ty v H := fun hm h => by
    cases d with
    | loc n =>
      obtain ⟨p, hp, rfl⟩ := rv_loc r
      dsimp only at h
      cases hn : μ[n]? with
      | none => rw [hn] at h; cases h
      | some c =>
        rw [hn] at h
        cases c with
        | lst l =>
          obtain ⟨vs, e1, _⟩ := A.cell n p _ hp hn
          exact .inl ⟨hm, vs, .inl (.inl e1)⟩
        | _ => cases h
    | _ => cases h
  have stx : ∀ (hm : m.ty = "str"), (match (generalizing := false) d with | .str _ => true | _ => false) = true → tyV K m.ty v H := fun hm h => by
    cases d with
    | str s =>
      obtain ⟨rfl, _⟩ := rv_str r
      exact hm
    | _ => cases h
  cases m <;> first | exact lsts rfl h | exact stx rfl h
theorem e_me {m : Me} (pa : PlainAttrs m.ty) (slot : Slot m.ty name id) (hty : typeOf (.builtin id) = pure (.type "method_descriptor")) (hm : MtR X id (rMe X.K fa (meR m))) (ho : PE X o (tE X.K fa W ma)) (ha : PA X (e :: es) (tA X.K fa W ms))
    (hbase : attributeBase o name X.env (eval o X.env) = eval o X.env)
    (hfew : ((backTo cpos (starEach (e :: es) X.env)).all (fun x => !x.1) && (backToKw cpos (keywordEach [] X.env)).all (fun x => x.1.isSome)
      && decide ((e :: es).length + ([] : List Keyword).length + (if ([] : List Keyword).isEmpty then 0 else 1) < 30)) = true)
    (hline : (apos.endLine == cpos.line) = true) (hs : starEach (e :: es) X.env = (false, eval e X.env) :: starEach es X.env) (hplain : (backTo cpos (starEach es X.env)).any (·.1) = false) :
    PE X (.Call (.Attribute o name apos) (e :: es) [] cpos) (tE X.K fa W fun ρ μ => (ma ρ μ).bind fun x μ => if meTy m μ x then (ms ρ μ).bind fun ds μ => meD m μ x ds else .no) :=
  PE.imp (pe_bm pa slot hty hm ho ha hbase hfew hline hs hplain) fun σ H Q h => by
    obtain ⟨φ, μ, ρ, A, R, h⟩ := h
    refine ⟨φ, μ, ρ, A, R, h.bind.imp fun x μ1 φ1 H1 e1 A1 h1 v rv => ?_⟩
    by_cases ht : meTy m μ1 x = true
    · rw [if_pos ht] at h1
      refine ⟨ty_me A1 rv ht, φ1, μ1, ρ, A1, R.ext e1, h1.bind.imp fun ds μ2 φ2 H2 e2 A2 h2 vs rs => ?_⟩
      exact ⟨φ2, μ2, x, ds, A2, rv.ext e2, rs, h2.any⟩
    · rw [if_neg ht] at h1; exact False.elim h1
theorem e_me0 {m : Me} (pa : PlainAttrs m.ty) (slot : Slot m.ty name id) (hty : typeOf (.builtin id) = pure (.type "method_descriptor")) (hm : MtR X id (rMe X.K fa (meR m))) (ho : PE X o (tE X.K fa W ma))
    (hbase : attributeBase o name X.env (eval o X.env) = eval o X.env) (hline : (apos.endLine == cpos.line) = true) :
    PE X (.Call (.Attribute o name apos) [] [] cpos) (tE X.K fa W fun ρ μ => (ma ρ μ).bind fun x μ => if meTy m μ x then (Res.ok [] μ).bind fun ds μ => meD m μ x ds else .no) :=
  PE.imp (pe_bm0 pa slot hty hm ho hbase hline) fun σ H Q h => by
    obtain ⟨φ, μ, ρ, A, R, h⟩ := h
    refine ⟨φ, μ, ρ, A, R, h.bind.imp fun x μ1 φ1 H1 e1 A1 h1 v rv => ?_⟩
    by_cases ht : meTy m μ1 x = true
    · rw [if_pos ht] at h1
      exact ⟨ty_me A1 rv ht, φ1, μ1, x, [], A1, rv, RVs.nil, h1.any⟩
    · rw [if_neg ht] at h1; exact False.elim h1

/-! ### targets -/
theorem g_name {i : Nat} {x : Str} (hm : fa.may i) (hN : X.N.Nodup) (hi : X.N[i]? = some x) (hx : Loc X.env.scope x) (hf : X.fn x = true ∨ X.env.scope.names.lookup x = some .local) : PG X (.Name x pos) (tG X.K fa (.nm i)) := PG.imp (pg_name hN hi hx hf) fun v σ H Q h => by
  obtain ⟨φ, μ, ρ, d, ρ', A, R, rv, e, q⟩ := h
  unfold T.put at e
  cases e
  refine q _ ⟨by rw [List.length_set], fun j hj => ?_⟩ (R.set hm rv)
  rw [List.getElem?_set_ne (fun e => hj (by unfold T.vars; simp [e]))]
theorem g_nil : PGs X [] (tGs X.K fa []) := PGs.imp pgs_nil fun v σ H Q h => by
  obtain ⟨φ, μ, ρ, ds, ρ', A, R, rs, e, q⟩ := h
  cases ds with
  | nil =>
    unfold T.putL at e
    cases e
    exact ⟨rvs0 rs, q _ ⟨rfl, fun _ _ => rfl⟩ R⟩
  | cons d ds => unfold T.putL at e; cases e
theorem g_cons {t : T} {ts : List T} (h1 : PG X e (tG X.K fa t)) (h2 : PGs X es (tGs X.K fa ts)) (hs : (assignEach (e :: es) X.env).map (·.2) = assign e X.env :: (assignEach es X.env).map (·.2)) : PGs X (e :: es) (tGs X.K fa (t :: ts)) := PGs.imp (pgs_cons h1 h2 hs) fun v σ H Q h => by
  obtain ⟨φ, μ, ρ, ds, ρ', A, R, rs, e, q⟩ := h
  cases ds with
  | nil => unfold T.putL at e; cases e
  | cons d ds =>
    unfold T.putL at e
    obtain ⟨ρ1, e1, e2⟩ := ofbind e
    unfold RVs at rs
    obtain ⟨w, r, rfl, rw', rr⟩ := rs
    refine ⟨w, r, rfl, φ, μ, ρ, d, ρ1, A, R, rw', e1, fun σ1 l1 R1 => ⟨φ, μ, ρ1, ds, ρ', A, R1, rr, e2, fun σ2 l2 R2 => q σ2 ⟨l2.1.trans l1.1, fun j hj => ?_⟩ R2⟩⟩
    unfold T.varsL at hj
    rw [List.mem_append, not_or] at hj
    exact (l2.2 j hj.2).trans (l1.2 j hj.1)
theorem putL_length : ∀ {ts : List T} {ds : List D} {ρ ρ' : Rho}, T.putL ts ds ρ = some ρ' → ds.length = ts.length
  | [], [], _, _, _ => rfl
  | [], _ :: _, _, _, h => by unfold T.putL at h; cases h
  | _ :: _, [], _, _, h => by unfold T.putL at h; cases h
  | t :: ts, d :: ds, ρ, ρ', h => by
    unfold T.putL at h
    obtain ⟨ρ1, _, h⟩ := ofbind h
    rw [List.length_cons, List.length_cons, putL_length h]
theorem g_tup {k n : Nat} {ts : List T} (hc : X.calm = true) (h : PGs X es (tGs X.K fa ts)) (hl : ts.length = n) (hn : (assignEach es X.env).length = n) (hst : (assignEach es X.env).findIdx? (·.1) = none) :
    PG X (.Tuple es k pos) (tG X.K fa (.tp ts)) := PG.imp (pg_tup hc h hn hst) fun v σ H Q h => by
  obtain ⟨φ, μ, ρ, d, ρ', A, R, rv, e, q⟩ := h
  unfold T.put at e
  split at e
  · obtain ⟨p, vs, rfl, hs, rs⟩ := rv_tup rv
    exact ⟨p, vs, rfl, Same.seqT msk_same hs, by rw [rs.length, putL_length e, hl], φ, μ, ρ, _, ρ', A, R, rs, e, fun σ' l R' => q σ' (by unfold T.vars; exact l) R'⟩
  · cases e

/-! ### small statements -/
theorem s_expr (he : PE X e (tE X.K fa W m)) (hs : swapsWith e none pos.line X.env = pure false) : PS X (.Expr e pos) (tS X.K fa W fun ρ μ => (m ρ μ).out ρ fun _ μ => .nx ρ μ) := PS.imp (ps_expr he hs) fun D σ H h => by
  obtain ⟨φ, μ, ρ, A, R, h⟩ := h
  exact ⟨φ, μ, ρ, A, R, (h.out R).imp fun x μ1 φ1 H1 e1 A1 h1 v rv => h1 φ1 H1 σ (Ext.refl _ _) A1 (R.ext e1)⟩
theorem s_doc {x j p p'} : PS X (.Expr (.Constant (.str x) j p) p') (tS X.K fa W fun ρ μ => .nx ρ μ) := PS.imp ps_doc fun D σ H h => by
  obtain ⟨φ, μ, ρ, A, R, h⟩ := h
  exact h φ H σ (Ext.refl _ _) A R
theorem s_ret (he : PE X e (tE X.K fa W m)) : PS X (.Return (some e) pos) (tS X.K fa W fun ρ μ => (m ρ μ).out ρ fun d μ => .rt d μ) := PS.imp (ps_ret he) fun D σ H h => by
  obtain ⟨φ, μ, ρ, A, R, h⟩ := h
  exact ⟨φ, μ, ρ, A, R, (h.out R).imp fun x μ1 φ1 H1 e1 A1 h1 v rv => h1 φ1 H1 v (Ext.refl _ _) A1 rv⟩
theorem s_retN : PS X (.Return none pos) (tS X.K fa W fun _ μ => .rt .non μ) := PS.imp ps_retN fun D σ H h => by
  obtain ⟨φ, μ, ρ, A, R, h⟩ := h
  exact h φ H _ (Ext.refl _ _) A mk_non
theorem s_pass : PS X (.Pass pos) (tS X.K fa W fun ρ μ => .nx ρ μ) := PS.imp ps_pass fun D σ H h => by
  obtain ⟨φ, μ, ρ, A, R, h⟩ := h
  exact h φ H σ (Ext.refl _ _) A R
theorem s_brk : PS X (.Break pos) (tS X.K fa W fun ρ μ => .bk ρ μ) := PS.imp ps_break fun D σ H h => by
  obtain ⟨φ, μ, ρ, A, R, h⟩ := h
  exact h φ H σ (Ext.refl _ _) A R
theorem s_cont : PS X (.Continue pos) (tS X.K fa W fun ρ μ => .ct ρ μ) := PS.imp ps_continue fun D σ H h => by
  obtain ⟨φ, μ, ρ, A, R, h⟩ := h
  exact h φ H σ (Ext.refl _ _) A R
def evAsg (t : T) (m : Rho → Mu → Res D) : Rho → Mu → Out := fun ρ μ => (m ρ μ).out ρ fun d μ => match t.put d ρ with
  | some ρ' => .nx ρ' μ
  | none => .no
theorem asg_core {te : TE} {t : T} (D : Ends) (σ : L2.St) (H : Hp) (hm : ∀ Q, tE X.K fa W m σ H Q → te σ H Q) (h : tS X.K fa W (evAsg t m) D σ H) : te σ H fun x H1 => tG X.K fa t x σ H1 D.nx := by
  obtain ⟨φ, μ, ρ, A, R, h⟩ := h
  refine hm _ ⟨φ, μ, ρ, A, R, (h.out R).imp fun d μ1 φ1 H1 e1 A1 h1 v rv => ?_⟩
  split at h1
  · rename_i ρ' e
    exact ⟨φ1, μ1, ρ, d, ρ', A1, R.ext e1, rv, e, fun σ' _ R' => h1 φ1 H1 σ' (Ext.refl _ _) A1 R'⟩
  · exact False.elim h1
theorem s_asg {tg : Expr} {t : T} (he : PE X e (tE X.K fa W m)) (hg : PG X tg (tG X.K fa t)) (hs : swapsWithSole [tg] e pos.line X.env = pure false) (hw : swappedStores [tg] e X.env = pure none)
    (h1 : (assignEach [tg] X.env).map (·.2) = [assign tg X.env]) : PS X (.Assign [tg] e pos) (tS X.K fa W (evAsg t m)) := PS.imp (ps_asg he hg hs hw h1) fun D σ H h => asg_core D σ H (fun _ q => q) h
def evSetIdx (mv mo mi : Rho → Mu → Res D) : Rho → Mu → Out := fun ρ μ => (mv ρ μ).out ρ fun v μ => (mo ρ μ).out ρ fun x μ => (mi ρ μ).out ρ fun y μ => match setD μ x y v with
  | some μ' => .nx ρ μ'
  | none => .no
theorem pset_or {t t' : TSet} (h : PSet X t) (h' : PSet X t') : PSet X (fun o i v H Q => t o i v H Q ∨ t' o i v H Q) := by
  intro pins s σ H o i v ov iv u Q I ro ri rv q
  rcases q with q | q
  · exact h pins s σ H o i v ov iv u Q I ro ri rv q
  · exact h' pins s σ H o i v ov iv u Q I ro ri rv q
def tDT (K : PySem.W.Frag) (fa : Lay) : TSet := fun o i v H Q => ∃ φ a b k l kx, o = .ref a ∧ i = .ref b ∧ isKT k = true ∧ l.length < lim ∧ IsDT K fa (msk H φ) φ H a l kx ∧ RV K fa (msk H φ) φ k (.ref b) ∧ ∀ u, RelV v u → Q (upd H a (dtO fa.w a (storedH kx (nk k) b u)))
theorem pset_dt (hw : fa.w = X.w) (hu : X.A.units + 64 < cLine) : PSet X (tDT X.K fa) := by
  intro pins s σ H o i v ov iv u Q I ro ri rv h
  obtain ⟨φ, a, b, k, l, kx, rfl, rfl, hk, hl, r, hb, q⟩ := h
  cases ro
  cases ri
  exact dtt_put hu hw I r hl hk hb fun s' I' => ⟨_, I', q u rv⟩
theorem set_dtt {K : PySem.W.Frag} {φ : Ph} {H : Hp} {μ : Mu} (A : Abs K fa φ μ H) {n : Nat} {a : Addr} {l : List (D × D)} {kx : List (NestedKey × Addr × Value)} (ha : φ.sh[n]? = some a) (r : RXs K fa (msk H φ) φ l kx) :
    Ext φ H φ (upd H a (dtO fa.w a kx)) ∧ Abs K fa φ (μ.set n (.dtt l)) (upd H a (dtO fa.w a kx)) := Abs.set A ha ⟨kx, upd_same, r⟩
theorem s_setIdx {o i : Expr} {mv mo mi : Rho → Mu → Res D} {tpos : Pos} (hwd : fa.w = X.w) (hu : X.A.units + 64 < cLine) (he : PE X e (tE X.K fa W mv)) (ho : PE X o (tE X.K fa W mo)) (hi : PE X i (tE X.K fa W mi))
    (ha : ∀ v, assign (.Subscript o i tpos) X.env v = (do
      let ov ← holding [v] (eval o X.env)
      let iv ← holding [v, ov] (eval i X.env)
      standAt tpos
      holding [v, ov, iv] (setItem ov iv v)
      release [v, ov, iv] [])) (hs : swapsWithSole [.Subscript o i tpos] e pos.line X.env = pure false) (hw : swappedStores [.Subscript o i tpos] e X.env = pure none)
    (h1 : (assignEach [.Subscript o i tpos] X.env).map (·.2) = [assign (.Subscript o i tpos) X.env]) : PS X (.Assign [.Subscript o i tpos] e pos) (tS X.K fa W (evSetIdx mv mo mi)) :=
  PS.imp (ps_asg he (pg_sub ho hi (pset_or set_list (pset_or (set_dict (by omega)) (pset_dt hwd hu))) ha) hs hw h1) fun D σ H h => by
    obtain ⟨φ, μ, ρ, A, R, h⟩ := h
    refine ⟨φ, μ, ρ, A, R, (h.out R).imp fun d μ1 φ1 H1 e1 A1 h1 v rv => ?_⟩
    refine ⟨φ1, μ1, ρ, A1, R.ext e1, (h1.out (R.ext e1)).imp fun x μ2 φ2 H2 e2 A2 h2 w rx => ?_⟩
    refine ⟨φ2, μ2, ρ, A2, (R.ext e1).ext e2, (h2.out ((R.ext e1).ext e2)).imp fun y μ3 φ3 H3 e3 A3 h3 u ry => ?_⟩
    have rx := rx.ext e3
    cases hs : setD μ3 x y d with
    | none => rw [hs] at h3; exact False.elim h3
    | some μ4 =>
      rw [hs] at h3
      unfold setD at hs
      split at hs
      · rename_i nl hl
        obtain ⟨n, l⟩ := nl
        obtain ⟨p, vs, rfl, hp, rfl, hH, rs⟩ := lst_at2 A3 hl rx
        cases y with
        | int j =>
          obtain ⟨k, hk, rfl⟩ := ofmap (show (ixZ l.length j).map (fun k => μ3.set n (.lst (l.set k d))) = some μ4 from hs)
          cases rv_int ry
          obtain ⟨x1, A4⟩ := set_lst A3 hp (rs.set ((rv.ext e2).ext e3) k)
          refine .inl ⟨p, vs, j, k, rfl, rfl, hH, by rw [rs.length]; exact hk, ?_⟩
          exact h3 φ3 _ σ x1 A4 ((((R.ext e1).ext e2).ext e3).ext x1)
        | _ => cases hs
      · unfold setDD at hs
        by_cases hkt : isKT y = true
        · rw [if_pos hkt] at hs
          cases hd : dttAt μ3 x with
          | none => rw [hd] at hs; cases hs
          | some nl =>
            rw [hd] at hs
            obtain ⟨n, l⟩ := nl
            obtain ⟨c2, e⟩ := ite_some (show (if l.length < lim then some (μ3.set n (.dtt (putD l y d))) else none) = some μ4 from hs)
            cases e
            obtain ⟨p, kx, rfl, hp, rfl, rs⟩ := dtt_at A3 hd rx
            obtain ⟨b, rfl⟩ := kt_ref hkt ry
            refine .inr (.inr ⟨φ3, p, b, y, l, kx, rfl, rfl, hkt, c2, rs, ry, fun u ru => ?_⟩)
            obtain ⟨x1, A4⟩ := set_dtt A3 hp (rs.rx.put hkt ry ru ((rv.ext e2).ext e3))
            exact h3 φ3 _ σ x1 A4 ((((R.ext e1).ext e2).ext e3).ext x1)
        · rw [if_neg hkt] at hs
          cases hd : dctAt μ3 x with
          | none => rw [hd] at hs; cases hs
          | some nl =>
            rw [hd] at hs
            obtain ⟨n, l⟩ := nl
            obtain ⟨⟨c1, c2⟩, e⟩ := ite_some (show (if isKey y = true ∧ l.length < lim then some (μ3.set n (.dct (putD l y d))) else none) = some μ4 from hs)
            cases e
            obtain ⟨p, kvs, rfl, hp, rfl, hH, rs⟩ := dct_at A3 hd rx
            obtain ⟨kk, hk, rfl⟩ := key_rv c1 ry
            obtain ⟨x1, A4⟩ := set_dct A3 hp (rs.put hk ((rv.ext e2).ext e3))
            refine .inr (.inl ⟨p, _, rfl, DPut.k hH (by rw [rs.len, lim_eq]; exact c2), ?_⟩)
            exact h3 φ3 _ σ x1 A4 ((((R.ext e1).ext e2).ext e3).ext x1)
variable {c : Expr} {A B : List Stmt} {tc : Rho → Mu → Res Bool} {oa ob : Rho → Mu → Out}
theorem s_if (hc : PT X c (tT X.K fa W tc)) (ha : PSs X A (tS X.K fa W oa)) (hb : PSs X B (tS X.K fa W ob)) : PS X (.If c A B pos) (tS X.K fa W fun ρ μ => (tc ρ μ).out ρ fun k μ => if k then oa ρ μ else ob ρ μ) := PS.imp (ps_if hc ha hb) fun D σ H h => by
  obtain ⟨φ, μ, ρ, A, R, h⟩ := h
  refine ⟨φ, μ, ρ, A, R, (h.out R).imp fun k μ1 φ1 H1 e1 A1 h1 => ?_⟩
  cases k with
  | true => exact ⟨φ1, μ1, ρ, A1, R.ext e1, h1⟩
  | false => exact ⟨φ1, μ1, ρ, A1, R.ext e1, h1⟩
theorem ss_nil : PSs X [] (tS X.K fa W fun ρ μ => .nx ρ μ) := PSs.imp pss_nil fun D σ H h => by
  obtain ⟨φ, μ, ρ, A, R, h⟩ := h
  exact h φ H σ (Ext.refl _ _) A R
def evSeq (o1 o2 : Rho → Mu → Out) : Rho → Mu → Out := fun ρ μ => match o1 ρ μ with
  | .nx ρ' μ' => o2 ρ' μ'
  | o => o
theorem ss_cons {st : Stmt} {rest : List Stmt} {o1 o2 : Rho → Mu → Out} (h1 : PS X st (tS X.K fa W o1)) (h2 : PSs X rest (tS X.K fa W o2)) : PSs X (st :: rest) (tS X.K fa W (evSeq o1 o2)) := PSs.imp (pss_cons h1 h2) fun D σ H h => by
  obtain ⟨φ, μ, ρ, A, R, h⟩ := h
  refine ⟨φ, μ, ρ, A, R, ?_⟩
  unfold evSeq at h
  split at h
  · rename_i ρ' μ' eq
    rw [eq]
    exact fun φ' H' σ' x A' R' => ⟨φ', μ', ρ', A', R', h.ext x⟩
  · rename_i hn
    cases q : o1 ρ μ with
    | nx ρ' μ' => exact absurd q (hn ρ' μ')
    | _ => rw [q] at h; exact h

/-! ### while -/
theorem s_while {body : List Stmt} {kill : List Nat} {N : Nat} (hp : PassesOwn (model X.prog X.w) X.A X.env X.xe) (hc : PT X c (tT X.K fa W tc)) (hb : PSs X body (tS X.K fa W oa)) :
    PS X (.While c body [] pos) (tS X.K fa W fun ρ μ => whileL kill tc oa N ρ μ) := PS.imp (ps_while hp hc hb) fun D σ H h => by
  obtain ⟨φ, μ, ρ, A, R, h⟩ := h
  refine ⟨fun n σ H => ∃ φ μ ρ, Abs X.K fa φ μ H ∧ REnv X.K fa (msk H φ) φ ρ σ ∧ RunO X.K fa W φ H (whileL kill tc oa n ρ μ) D, ⟨N, φ, μ, ρ, A, R, h⟩, ?_⟩
  rintro n σ H ⟨φ, μ, ρ, A, R, h⟩
  cases n with
  | zero => exact False.elim h
  | succ n =>
    unfold whileL at h
    refine ⟨φ, μ, wipeR ρ kill, A, R.kill kill, (h.out (R.kill kill)).imp fun k μ1 φ1 H1 e1 A1 h1 => ?_⟩
    have R1 := (R.kill kill).ext e1
    cases k with
    | false => exact h1 φ1 H1 σ (Ext.refl _ _) A1 R1
    | true =>
      refine ⟨fun σ' H' => ∃ φ μ ρ, Abs X.K fa φ μ H' ∧ REnv X.K fa (msk H' φ) φ ρ σ' ∧ RunO X.K fa W φ H' (whileL kill tc oa n ρ μ) D, fun σ' H' q => ⟨n, Nat.lt_succ_self n, q⟩, φ1, μ1, _, A1, R1, ?_⟩
      have h1 : RunO X.K fa W φ1 H1 (match oa (wipeR ρ kill) μ1 with
        | .nx ρ2 μ2 => whileL kill tc oa n ρ2 μ2
        | .ct ρ2 μ2 => whileL kill tc oa n ρ2 μ2
        | .bk ρ2 μ2 => .nx ρ2 μ2
        | o => o) D := h1
      cases q : oa (wipeR ρ kill) μ1 with
      | nx ρ2 μ2 => rw [q] at h1; exact fun φ' H' σ' x A' R' => ⟨φ', μ2, ρ2, A', R', h1.ext x⟩
      | ct ρ2 μ2 => rw [q] at h1; exact fun φ' H' σ' x A' R' => ⟨φ', μ2, ρ2, A', R', h1.ext x⟩
      | bk ρ2 μ2 => rw [q] at h1; exact h1
      | rt d μ2 => rw [q] at h1; exact h1
      | ex _ _ _ => rw [q] at h1; exact h1
      | no => rw [q] at h1; exact h1

end
end Ev

set_option Elab.async false
set_option linter.all false
set_option maxRecDepth 100000
set_option maxHeartbeats 1000000
/-! What is walked. -/
namespace Ev
open PySem PySem.Spec PyProof.Rows L2
abbrev Grd := List (Nat × List D)
section
variable (K : PySem.W.Frag) (fa : Lay)
/-- a state behind (φ0, H0) in which the lists of g stand -/
structure Std (g : Grd) (φ0 : Ph) (H0 : Hp) (φ : Ph) (μ : Mu) (H : Hp) : Prop where
  pre : ∃ t, φ.sh = φ0.sh ++ t
  same : Same (msk H0 φ0) (msk H φ)
  abs : Abs K fa φ μ H
  st : stays μ g = true
/-- the walker J gives the items l -/
def WalkD (J : It) (l : List D) (g : Grd) (φ0 : Ph) (H0 : Hp) : Prop :=
  Walk J l.length (fun H => ∃ φ μ, Std K fa g φ0 H0 φ μ H) fun i H x H' => ∀ φ μ, Std K fa g φ0 H0 φ μ H → ∃ d, l[i]? = some d ∧ Ext φ H φ H' ∧ Abs K fa φ μ H' ∧ RV K fa (msk H' φ) φ d x
def iD (W : EW) (k : IK) (ms : Rho → Mu → Res (List D)) : TI := fun σ H R => ∃ φ μ ρ, Abs K fa φ μ H ∧ REnv K fa (msk H φ) φ ρ σ ∧ Run K fa (W σ) φ H (ms ρ μ) fun ss μ1 φ1 H1 => ∃ l g, itemsD k μ1 ss = some (l, g) ∧ ∀ J, WalkD K fa J l g φ1 H1 → R J H1
end
section
variable {K : PySem.W.Frag} {fa : Lay} {W : EW} {Z : EZ} {φ φ0 : Ph} {H H0 : Hp} {μ μ0 : Mu} {g : Grd} {l l2 : List D} {a b : Addr}
theorem pre_get {φ φ0 : Ph} (h : ∃ t, φ.sh = φ0.sh ++ t) {n : Nat} {a : Addr} (e : φ0.sh[n]? = some a) : φ.sh[n]? = some a := by
  obtain ⟨t, q⟩ := h
  rw [q, List.getElem?_append_left (List.getElem?_eq_some_iff.mp e).1]
  exact e
theorem Std.rv (s : Std K fa g φ0 H0 φ μ H) {d : D} {v : V} (r : RV K fa (msk H0 φ0) φ0 d v) : RV K fa (msk H φ) φ d v := RV.mono s.same (fun _ _ q => pre_get s.pre q) d v r
theorem Std.rvs (s : Std K fa g φ0 H0 φ μ H) {d : List D} {v : List V} (r : RVs K fa (msk H0 φ0) φ0 d v) : RVs K fa (msk H φ) φ d v := RVs.mono s.same (fun _ _ q => pre_get s.pre q) d v r
def HasL (K : PySem.W.Frag) (fa : Lay) (g : Grd) (φ0 : Ph) (H0 : Hp) (a : Addr) (l : List D) : Prop := ∀ φ μ H, Std K fa g φ0 H0 φ μ H → ∃ vs, SqL K H a vs ∧ RVs K fa (msk H φ) φ l vs
def HasT (K : PySem.W.Frag) (fa : Lay) (g : Grd) (φ0 : Ph) (H0 : Hp) (a : Addr) (l : List D) : Prop := ∀ φ μ H, Std K fa g φ0 H0 φ μ H → ∃ vs, SqT K H a vs ∧ RVs K fa (msk H φ) φ l vs
theorem has_tup {v : V} (r : RV K fa (msk H0 φ0) φ0 (.tup l) v) : ∃ a, v = .ref a ∧ HasT K fa g φ0 H0 a l := by
  obtain ⟨a, vs, rfl, hs, rs⟩ := rv_tup r
  exact ⟨a, rfl, fun φ μ H s => ⟨vs, Same.seqT (fun p o q => msk_same _ _ (s.same p o q)) hs, s.rvs rs⟩⟩
theorem has_lst {v : V} (r : RV K fa (msk H0 φ0) φ0 (.lst l) v) : ∃ a, v = .ref a ∧ HasL K fa g φ0 H0 a l := by
  obtain ⟨a, vs, rfl, hs, rs⟩ := rv_lst r
  exact ⟨a, rfl, fun φ μ H s => ⟨vs, Same.sqL (fun p o q => msk_same _ _ (s.same p o q)) hs, s.rvs rs⟩⟩
theorem stays_mem {n : Nat} (h : stays μ g = true) (hm : (n, l) ∈ g) : μ[n]? = some (.lst l) := by
  unfold stays at h
  rw [List.all_eq_true] at h
  exact of_decide_eq_true (h (n, l) hm)
theorem has_loc {v : V} {n : Nat} (hm : (n, l) ∈ g) (r : RV K fa (msk H0 φ0) φ0 (.loc n) v) : ∃ a, v = .ref a ∧ HasL K fa g φ0 H0 a l := by
  obtain ⟨a, ha, rfl⟩ := rv_loc r
  refine ⟨a, rfl, fun φ μ H s => ?_⟩
  obtain ⟨vs, e, rs⟩ := s.abs.cell n a _ (pre_get s.pre ha) (stays_mem s.st hm)
  exact ⟨vs, .inl (.inl e), rs⟩
theorem get_of {i : Nat} (h : i < l.length) : ∃ d, l[i]? = some d := ⟨l[i], List.getElem?_eq_getElem h⟩
theorem walk_ofL (h : HasL K fa g φ0 H0 a l) : WalkD K fa (Itl K a) l g φ0 H0 := by
  refine ⟨fun i H hi ⟨φ, μ, s⟩ => ?_, fun H ⟨φ, μ, s⟩ => ?_, fun i H x H' hi _ y φ μ s => ?_⟩
  · obtain ⟨vs, hq, rs⟩ := h φ μ H s
    obtain ⟨d, hd⟩ := get_of hi
    obtain ⟨v, hv, _⟩ := rs.get hd
    exact ⟨vs, v, hq, hv⟩
  · obtain ⟨vs, hq, rs⟩ := h φ μ H s
    exact ⟨vs, hq, by rw [rs.length]; exact Nat.le_refl _⟩
  · obtain ⟨rfl, y⟩ := y
    obtain ⟨vs, hq, rs⟩ := h φ μ _ s
    obtain ⟨d, hd⟩ := get_of hi
    obtain ⟨v, hv, rv⟩ := rs.get hd
    have := y vs hq
    rw [hv] at this
    cases this
    exact ⟨d, hd, Ext.refl _ _, s.abs, rv⟩
theorem walk_ofT (h : HasT K fa g φ0 H0 a l) : WalkD K fa (Itt K a) l g φ0 H0 := by
  refine ⟨fun i H hi ⟨φ, μ, s⟩ => ?_, fun H ⟨φ, μ, s⟩ => ?_, fun i H x H' hi _ y φ μ s => ?_⟩
  · obtain ⟨vs, hq, rs⟩ := h φ μ H s
    obtain ⟨d, hd⟩ := get_of hi
    obtain ⟨v, hv, _⟩ := rs.get hd
    exact ⟨vs, v, hq, hv⟩
  · obtain ⟨vs, hq, rs⟩ := h φ μ H s
    exact ⟨vs, hq, by rw [rs.length]; exact Nat.le_refl _⟩
  · obtain ⟨rfl, y⟩ := y
    obtain ⟨vs, hq, rs⟩ := h φ μ _ s
    obtain ⟨d, hd⟩ := get_of hi
    obtain ⟨v, hv, rv⟩ := rs.get hd
    have := y vs hq
    rw [hv] at this
    cases this
    exact ⟨d, hd, Ext.refl _ _, s.abs, rv⟩
theorem walk_ofS {t : Txt} (ht : okT t = true) : WalkD K fa (Its (sOf t)) (t.map fun c => .str [c]) g φ0 H0 := by
  have hz : (sOf t).cps.size = t.length := by simp [sOf]
  refine ⟨fun i H hi _ => ?_, fun H _ => ?_, fun i H x H' hi _ y φ μ s => ?_⟩
  · show i < (sOf t).cps.size
    rw [hz]; simpa using hi
  · show (sOf t).cps.size ≤ _
    rw [hz, List.length_map]; exact Nat.le_refl _
  · obtain ⟨rfl, c, hc, rfl⟩ := y
    have hc : t[i]? = some c := by simpa [sOf] using hc
    refine ⟨.str [c], by rw [List.getElem?_map, hc]; rfl, Ext.refl _ _, s.abs, ?_⟩
    exact mk_str (s := [c]) (okT_sub ht fun z hz => by
      have : z = c := by simpa using hz
      subst this
      exact List.mem_of_getElem? hc)
theorem walk_ofR {lo : Int} {n : Nat} : WalkD K fa (Itr lo n) (rngL lo n) g φ0 H0 := by
  have hz : (rngL lo n).length = n := by simp [rngL]
  refine ⟨fun i H hi _ => ?_, fun H _ => ?_, fun i H x H' hi _ y φ μ s => ?_⟩
  · show i < n
    rw [hz] at hi; exact hi
  · show n ≤ _
    rw [hz]; exact Nat.le_refl _
  · obtain ⟨rfl, rfl⟩ := y
    rw [hz] at hi
    refine ⟨.int (lo + (i : Nat)), ?_, Ext.refl _ _, s.abs, mk_int⟩
    unfold rngL
    rw [List.getElem?_map, List.getElem?_range hi]
    rfl
theorem enumFrom_length : ∀ (k : Nat) (l : List D), (enumFrom k l).length = l.length
  | _, [] => rfl
  | k, d :: r => by unfold enumFrom; rw [List.length_cons, List.length_cons, enumFrom_length (k + 1) r]
theorem enumFrom_get : ∀ (k : Nat) (l : List D) (i : Nat) (d : D), l[i]? = some d → (enumFrom k l)[i]? = some (.tup [.int ((k + i : Nat) : Int), d])
  | _, [], _, _, h => by simp at h
  | k, e :: r, 0, d, h => by simp at h; subst h; unfold enumFrom; simp
  | k, e :: r, i + 1, d, h => by
    unfold enumFrom
    rw [List.getElem?_cons_succ, enumFrom_get (k + 1) r i d (by simpa using h)]
    have : k + 1 + i = k + (i + 1) := by omega
    rw [this]
theorem pair_ok (A : Abs K fa φ μ H) {d e : D} {v u : V} (rd : RV K fa (msk H φ) φ d v) (re : RV K fa (msk H φ) φ e u) {T : Addr} (hT : H T = none) :
    Ext φ H φ (upd H T (.tup [v, u])) ∧ Abs K fa φ μ (upd H T (.tup [v, u])) ∧ RV K fa (msk (upd H T (.tup [v, u])) φ) φ (.tup [d, e]) (.ref T) := new_tup A (RVs.cons rd (RVs.one re)) hT
theorem walk_ofE (h : HasL K fa g φ0 H0 a l) : WalkD K fa (Ite K a) (enumFrom 0 l) g φ0 H0 := by
  refine ⟨fun i H hi ⟨φ, μ, s⟩ => ?_, fun H ⟨φ, μ, s⟩ => ?_, fun i H x H' hi _ y φ μ s => ?_⟩
  · rw [enumFrom_length] at hi
    obtain ⟨vs, hq, rs⟩ := h φ μ H s
    obtain ⟨d, hd⟩ := get_of hi
    obtain ⟨v, hv, _⟩ := rs.get hd
    exact ⟨vs, v, hq, hv⟩
  · obtain ⟨vs, hq, rs⟩ := h φ μ H s
    exact ⟨vs, hq, by rw [rs.length, enumFrom_length]; exact Nat.le_refl _⟩
  · rw [enumFrom_length] at hi
    obtain ⟨T, w, rfl, hT, rfl, y⟩ := y
    obtain ⟨vs, hq, rs⟩ := h φ μ _ s
    obtain ⟨d, hd⟩ := get_of hi
    obtain ⟨v, hv, rv⟩ := rs.get hd
    have := y vs hq
    rw [hv] at this
    cases this
    obtain ⟨x1, A1, r1⟩ := pair_ok s.abs (mk_int (i := ((i : Nat) : Int))) rv hT
    exact ⟨_, by rw [enumFrom_get 0 l i d hd, Nat.zero_add], x1, A1, r1⟩
/-- enumerate over a tuple -/
def IteT (K : PySem.W.Frag) (a : Addr) : It :=
  ⟨fun i H => ∃ (xs : List V) (x : V), SqT K H a xs ∧ xs[i]? = some x, fun i H v H' => ∃ T x, v = .ref T ∧ H T = none ∧ H' = upd H T (.tup [.int (i : Nat), x]) ∧ ∀ xs, SqT K H a xs → xs[i]? = some x, fun i H => ∃ xs : List V, SqT K H a xs ∧ xs.length ≤ i⟩
theorem walk_ofET (h : HasT K fa g φ0 H0 a l) : WalkD K fa (IteT K a) (enumFrom 0 l) g φ0 H0 := by
  refine ⟨fun i H hi ⟨φ, μ, s⟩ => ?_, fun H ⟨φ, μ, s⟩ => ?_, fun i H x H' hi _ y φ μ s => ?_⟩
  · rw [enumFrom_length] at hi
    obtain ⟨vs, hq, rs⟩ := h φ μ H s
    obtain ⟨d, hd⟩ := get_of hi
    obtain ⟨v, hv, _⟩ := rs.get hd
    exact ⟨vs, v, hq, hv⟩
  · obtain ⟨vs, hq, rs⟩ := h φ μ H s
    exact ⟨vs, hq, by rw [rs.length, enumFrom_length]; exact Nat.le_refl _⟩
  · rw [enumFrom_length] at hi
    obtain ⟨T, w, rfl, hT, rfl, y⟩ := y
    obtain ⟨vs, hq, rs⟩ := h φ μ _ s
    obtain ⟨d, hd⟩ := get_of hi
    obtain ⟨v, hv, rv⟩ := rs.get hd
    have := y vs hq
    rw [hv] at this
    cases this
    obtain ⟨x1, A1, r1⟩ := pair_ok s.abs (mk_int (i := ((i : Nat) : Int))) rv hT
    exact ⟨_, by rw [enumFrom_get 0 l i d hd, Nat.zero_add], x1, A1, r1⟩
theorem zip_get {l l2 : List D} {i : Nat} (hi : i < ((l.zip l2).map fun p => D.tup [p.1, p.2]).length) : ∃ d e, l[i]? = some d ∧ l2[i]? = some e ∧ ((l.zip l2).map fun p => D.tup [p.1, p.2])[i]? = some (.tup [d, e]) := by
  rw [List.length_map, List.length_zip] at hi
  have h1 : i < l.length := by omega
  have h2 : i < l2.length := by omega
  refine ⟨l[i], l2[i], List.getElem?_eq_getElem h1, List.getElem?_eq_getElem h2, ?_⟩
  rw [List.getElem?_map]
  have : (l.zip l2)[i]? = some (l[i], l2[i]) := by
    rw [List.getElem?_eq_getElem (by rw [List.length_zip]; omega), List.getElem_zip]
  rw [this]
  rfl
theorem walk_ofZ (h : HasL K fa g φ0 H0 a l) (h2 : HasL K fa g φ0 H0 b l2) : WalkD K fa (Itz K a b) ((l.zip l2).map fun p => .tup [p.1, p.2]) g φ0 H0 := by
  refine ⟨fun i H hi ⟨φ, μ, s⟩ => ?_, fun H ⟨φ, μ, s⟩ => ?_, fun i H x H' hi _ y φ μ s => ?_⟩
  · obtain ⟨vs, hq, rs⟩ := h φ μ H s
    obtain ⟨us, hq2, rs2⟩ := h2 φ μ H s
    obtain ⟨d, e, hd, he, _⟩ := zip_get hi
    obtain ⟨v, hv, _⟩ := rs.get hd
    obtain ⟨u, hu, _⟩ := rs2.get he
    exact ⟨vs, us, v, u, hq, hq2, hv, hu⟩
  · obtain ⟨vs, hq, rs⟩ := h φ μ H s
    obtain ⟨us, hq2, rs2⟩ := h2 φ μ H s
    refine ⟨vs, us, hq, hq2, ?_⟩
    rw [List.length_map, List.length_zip, rs.length, rs2.length]
    omega
  · obtain ⟨T, w, w2, rfl, hT, rfl, y, y2⟩ := y
    obtain ⟨vs, hq, rs⟩ := h φ μ _ s
    obtain ⟨us, hq2, rs2⟩ := h2 φ μ _ s
    obtain ⟨d, e, hd, he, hz⟩ := zip_get hi
    obtain ⟨v, hv, rv⟩ := rs.get hd
    obtain ⟨u, hu, ru⟩ := rs2.get he
    have := y vs hq
    rw [hv] at this
    cases this
    have := y2 us hq2
    rw [hu] at this
    cases this
    obtain ⟨x1, A1, r1⟩ := pair_ok s.abs rv ru hT
    exact ⟨_, hz, x1, A1, r1⟩
theorem walk_ofZT (h : HasT K fa g φ0 H0 a l) (h2 : HasT K fa g φ0 H0 b l2) : WalkD K fa (RZ.ItzT K a b) ((l.zip l2).map fun p => .tup [p.1, p.2]) g φ0 H0 := by
  refine ⟨fun i H hi ⟨φ, μ, s⟩ => ?_, fun H ⟨φ, μ, s⟩ => ?_, fun i H x H' hi _ y φ μ s => ?_⟩
  · obtain ⟨vs, hq, rs⟩ := h φ μ H s
    obtain ⟨us, hq2, rs2⟩ := h2 φ μ H s
    obtain ⟨d, e, hd, he, _⟩ := zip_get hi
    obtain ⟨v, hv, _⟩ := rs.get hd
    obtain ⟨u, hu, _⟩ := rs2.get he
    exact ⟨vs, us, v, u, hq, hq2, hv, hu⟩
  · obtain ⟨vs, hq, rs⟩ := h φ μ H s
    obtain ⟨us, hq2, rs2⟩ := h2 φ μ H s
    refine ⟨vs, us, hq, hq2, ?_⟩
    rw [List.length_map, List.length_zip, rs.length, rs2.length]
    omega
  · obtain ⟨T, w, w2, rfl, hT, rfl, y, y2⟩ := y
    obtain ⟨vs, hq, rs⟩ := h φ μ _ s
    obtain ⟨us, hq2, rs2⟩ := h2 φ μ _ s
    obtain ⟨d, e, hd, he, hz⟩ := zip_get hi
    obtain ⟨v, hv, rv⟩ := rs.get hd
    obtain ⟨u, hu, ru⟩ := rs2.get he
    have := y vs hq
    rw [hv] at this
    cases this
    have := y2 us hq2
    rw [hu] at this
    cases this
    obtain ⟨x1, A1, r1⟩ := pair_ok s.abs rv ru hT
    exact ⟨_, hz, x1, A1, r1⟩
end
end Ev

set_option Elab.async false
set_option linter.all false
set_option maxRecDepth 100000
set_option maxHeartbeats 1000000
/-! enumerate over a tuple; what is walked, by its source. -/
namespace Ev
open PySem PySem.Spec PyProof.Rows L2
open AutoSeq1 (wpAny_loadPart')
theorem meets_enumT (l : Addr) (items : Array Value) (n : Nat) (dct : Option Addr) (sl : Array (Option Value)) :
    Meets (Builtin.«enumerate.__new__» ⟨[.type "enumerate", .ref l], []⟩) (fun _ R s => s.heap.get? l = some { cls := .type "tuple", dict := dct, data := .seq items n, slots := sl } ∧
      R (.ok (.ret (.ref (s.heap.push { cls := .type "tuple_iterator", data := .fields #[.ref l, .int 0 0] }).objs.size)))
        { s with heap := (s.heap.push { cls := .type "tuple_iterator", data := .fields #[.ref l, .int 0 0] }).push { cls := .type "enumerate", data := .fields #[.none, .bool false, .ref s.heap.objs.size, rawInt 0, .none, .none] } }) :=
  .of_wp fun prog w A R s h => by
    obtain ⟨hp, g, d, tk, os⟩ := s; obtain ⟨hl, h⟩ := h
    have hsub := sub_enumerate
    have hL : Heap.IsTuple (Shared.heap ⟨hp, g, d, tk, os⟩) l items := ⟨_, hl, rfl, n, rfl⟩
    wp_walk using wpAny_loadPart' hl
    refine wpAny_stack_any fun st => wpAny_pure ?_
    split
    · rename_i c _ _ _ _ _
      cases (c == Value.type "enumerate")
      · wp_walk using wpAny_loadPart' hl, wpAny_pyIter_tuple hL
        exact ⟨_, rfl, h⟩
      · wp_walk using wpAny_loadPart' hl, wpAny_pyIter_tuple hL
        exact ⟨_, rfl, h⟩
    · wp_walk using wpAny_loadPart' hl, wpAny_pyIter_tuple hL
      exact ⟨_, rfl, h⟩
theorem call_enumT {prog : Program} {w : World} {A : Around} {E : Value → Shared → Prop} {s : Shared} {l : Addr} {items : Array Value} {Q : Value → Shared → Prop} (hL : s.heap.IsTuple l items)
    (h : ∀ h', IsEnum h' (s.heap.objs.size + 1) s.heap.objs.size 0 .none → h'.IsTupleIter s.heap.objs.size l 0 → h'.objs.size = s.heap.objs.size + 2 →
      (∀ b o, s.heap.get? b = some o → h'.get? b = some o) → Q (.ref (s.heap.objs.size + 1)) { s with heap := h' }) :
    wpAny (model prog w) A (call (.type "enumerate") [.ref l]) Q E s := by
  obtain ⟨⟨c, dct, dt, sl⟩, hl, hc, n, hd⟩ := hL
  replace hc : c = .type "tuple" := hc
  replace hd : dt = .seq items n := hd
  subst hc hd
  refine callType_new F.called_enumerate (by decide) (F.typeCall_enumerate_1 _) (F.newCall_enumerate_1 _) (fun obj => F.args_object_init_2 obj _) F.entry_enumerate_new
    (meets_enumT l items n dct sl) ⟨hl, ?_⟩
  have hz : (s.heap.push { cls := .type "tuple_iterator", data := .fields #[.ref l, .int 0 0] }).objs.size = s.heap.objs.size + 1 := Heap.size_push ..
  show _ ∧ _
  rw [hz]
  have he : IsEnum ((s.heap.push { cls := .type "tuple_iterator", data := .fields #[.ref l, .int 0 0] }).push
      { cls := .type "enumerate", data := .fields #[.none, .bool false, .ref s.heap.objs.size, rawInt 0, .none, .none] }) (s.heap.objs.size + 1) s.heap.objs.size 0 .none := by
    have := Heap.get?_push_size (s.heap.push { cls := .type "tuple_iterator", data := .fields #[.ref l, .int 0 0] })
      (o := { cls := .type "enumerate", data := .fields #[.none, .bool false, .ref s.heap.objs.size, rawInt 0, .none, .none] }) rfl
    rw [hz] at this; exact this
  refine ⟨⟨_, he, rfl⟩, h _ he ⟨_, Heap.get?_push_of_some _ (Heap.get?_push_size _ rfl), rfl, rfl⟩ (by rw [Heap.size_push, hz]) fun b o x => Heap.get?_push_of_some _ (Heap.get?_push_of_some _ x)⟩
theorem turn_enumT {P : Program} {w : World} {K : PySem.W.Frag} {elts : List Expr} {kk : Nat} {tpos : Pos} (a e it : Addr) :
    Turn P w K (.Tuple elts kk tpos) (IteT K a) [e, it] e (fun i h => (∃ old, IsEnum h e it ((i : Nat) : Int) old) ∧ h.IsTupleIter it a i ∧ e ≠ it) where
  mem := by simp
  obj := fun i h st b hb => by
    obtain ⟨⟨old, he⟩, ⟨o, ho, hc, hd⟩, _⟩ := st
    have e' : b = e ∨ b = it := by simpa using hb
    rcases e' with z | z
    · rw [z]; exact ⟨_, he, fun v q => nomatch q⟩
    · rw [z]; exact ⟨o, ho, fun v q => by rw [hd] at q; cases q⟩
  keep := fun i h h' st k => let ⟨⟨old, he⟩, hi, hne⟩ := st; ⟨⟨old, k e (by simp) _ he⟩, hi.at fun o q => k it (by simp) o q, hne⟩
  item := by
    intro X hP hw hK hc i pins s σ H E I hf st hg
    subst hP hw hK
    obtain ⟨⟨old, he⟩, hit, hne⟩ := st
    obtain ⟨xs, x, hq, hx⟩ := hg
    obtain ⟨its, rv, p, hz⟩ := I.tuple hq
    obtain ⟨u, hu, ru⟩ := rv.get hx
    have hel : e < s.heap.objs.size := Heap.lt_size he
    have hil : it < s.heap.objs.size := by obtain ⟨_, q, _⟩ := hit; exact Heap.lt_size q
    have hit2 := hit
    obtain ⟨oi, hoi, hci, _⟩ := hit2
    have hta : a ≠ it := fun q => by
      obtain ⟨o, ho, hoc, _⟩ := p
      rw [q, hoi] at ho; cases ho
      rw [hci] at hoc; exact absurd (by injection hoc) (show ¬ ("tuple_iterator" = "tuple") by decide)
    have hte : e ≠ a := fun q => by
      obtain ⟨o, ho, hoc, _⟩ := p
      rw [← q, he] at ho; cases ho
      exact absurd (by injection hoc) (show ¬ ("enumerate" = "tuple") by decide)
    have hlt : i < its.toArray.size := by
      have := (List.getElem?_eq_some_iff.mp hu).1
      simpa using this
    refine wpAny_pyNext_enum_itemD (Draws.tuple (A := X.A.in1) (I.ok.hd hc) it a hta its.toArray) he ⟨hit, (show s.heap.IsTuple a its.toArray from p)⟩ hlt hne (by simp [hne, hte]) fun x' h' tk hPx ho hst hT hsz hk => ?_
    have ex : x' = u := by
      have : its[i]? = some x' := by simpa using hPx
      rw [hu] at this; exact (Option.some.inj this).symm
    subst ex
    refine ⟨_, rfl, wpAny_letOwnedTupleGo_enum (s := { s with heap := h', toks := tk + 1 }) ho fun h'' he' sb => ?_⟩
    have hT2 : h''.get? s.heap.objs.size = some { cls := .type "tuple", data := .seq #[.int i tk, x'] } := (sb.2 _ (Nat.ne_of_gt hel)).trans hT
    have new : ObjOk X.prog X.w (upd H s.heap.objs.size (.tup [.int (i : Nat), x])) h'' s.heap.objs.size (.tup [.int (i : Nat), x]) :=
      ⟨by show 2 ≤ sizeLine; decide, [.int i tk, x'], .cons ⟨_, rfl⟩ (.cons ru .nil), ⟨_, hT2, rfl, _, rfl⟩⟩
    have I1 : Inv X pins σ (upd H s.heap.objs.size (.tup [.int (i : Nat), x])) { s with heap := h'', toks := tk + 1 } :=
      I.turnedNew (ch := [e, it]) (fun b ob hb q => (sb.2 b (fun z => hb (by simp [z]))).trans (hk b ob (fun z => hb (by simp [z])) (fun z => hb (by simp [z])) q)) hf (Nat.le_refl _) new
    refine ⟨.ref s.heap.objs.size, _, I1, rfl, ⟨_, x, rfl, I.hok.fresh (Nat.le_refl _), rfl, fun ys hy => by rw [I.tuple_inj hy hq]; exact hx⟩, ⟨⟨x', ?_⟩, hst.1.at fun o q => (sb.2 it (Ne.symm hne)).trans q, hne⟩, fun b hb => ?_⟩
    · have e1 : ((i + 1 : Nat) : Int) = (i : Int) + 1 := by omega
      rw [e1]; exact he'
    · have hb' : b < s.heap.objs.size := by
        have e' : b = e ∨ b = it := by simpa using hb
        rcases e' with z | z
        · rw [z]; exact hel
        · rw [z]; exact hil
      rw [upd_ne (Nat.ne_of_lt hb')]
      exact (hf b hb).1
  done := by
    intro X hP hw hK hc i pins s σ H E I hf st hg
    subst hP hw hK
    obtain ⟨⟨old, he⟩, hit, hne⟩ := st
    obtain ⟨xs, hq, hx⟩ := hg
    obtain ⟨its, rv, p, hz⟩ := I.tuple hq
    obtain ⟨f0, f1, f2, f3, f4, f5⟩ := hf it (by simp)
    have hl := rv.length
    have hT : s.TypeIs (.ref e) "enumerate" := ⟨_, he, rfl⟩
    unfold pyNext
    refine wpAny_bind (wpAny_attempt (wpAny_callSpecial?_slot (name := Str.ofString "__next__") hT F.slot_enumerate_next
      (wpAny_call_entry F.slot_enumerate_next hT F.entry_enumerate_next ?_ (F.args_enumerate_next_1 _))))
    show wpAny _ _ (field (.ref e) 2 >>= _) _ _ _
    refine wpAny_bind (wpAny_field he rfl (x := .ref it) rfl ?_)
    refine wpAny_bind (wpAny_nextOf_tuple_end (A := X.A.in1) (I.ok.hd hc) hit (show s.heap.IsTuple a its.toArray from p) (by simp; omega) fun h' x he' hx' => ?_)
    obtain ⟨o, ho, hc⟩ := hx'
    refine wpAny_bind (wpAny_isInstance (T := "StopIteration") (b := true) ⟨o, ho, hc⟩ isSubtype_stop ?_)
    exact wpAny_pure ⟨rfl, I.turned (t' := s.toks) (fun b o hb q => he' b o hb q) f0 f1 f3 f4 f5⟩
  self := fun A i s Q E st h => let ⟨⟨_, he⟩, _⟩ := st; wpAny_pyIter_enum he h
def iEnumT (K : PySem.W.Frag) (ta : TA) : TI := fun σ H R => ta σ H fun vs H1 => ∃ a xs, vs = [.ref a] ∧ SqT K H1 a xs ∧ R (IteT K a) H1
theorem pi_enumT {X : Cx} {e : Expr} {ta : TA} {p pos tpos : Pos} {elts : List Expr} {kk : Nat} (hg : Gl X "enumerate") (hm : X.mg "enumerate" = none) (ha : PA X [e] ta) (hs : starEach [e] X.env = [(false, eval e X.env)]) :
    PI X (.Tuple elts kk tpos) (.Call (.Name "enumerate" p) [e] [] pos) (iEnumT X.K ta) := by
  refine ⟨fun pins s σ H R I h => ?_⟩
  refine Call_ (ld_blt I hg hm boot_enumerate (PyProof.Rows.callWith_type1 (thn (ha.run pos pins s σ H _ I h) fun us s1 ⟨vs, H1, I1, r1, q1⟩ => ?_) hs rfl))
  obtain ⟨a, xs, ex, hq, q⟩ := q1
  subst ex
  cases r1 with
  | cons r rr =>
    cases rr
    cases r
    obtain ⟨its, rv, p', hz⟩ := I1.tuple hq
    refine call_enumT (show s1.heap.IsTuple a its.toArray from p') fun h' he hit hsz hk => wpAny_pyIter_enum he ?_
    have I2 : Inv X pins σ H1 { s1 with heap := h' } := I1.kept (t' := s1.toks) hk
    refine ⟨s1.heap.objs.size + 1, [s1.heap.objs.size + 1, s1.heap.objs.size], _, _, H1, rfl, I2, turn_enumT a (s1.heap.objs.size + 1) s1.heap.objs.size, ⟨⟨.none, he⟩, hit, Nat.succ_ne_self _⟩, fun b hb => ?_, q⟩
    have e' : b = s1.heap.objs.size + 1 ∨ b = s1.heap.objs.size := by simpa using hb
    have hle : s1.heap.objs.size ≤ b := by
      rcases e' with z | z
      · rw [z]; exact Nat.le_add_right _ _
      · rw [z]; exact Nat.le_refl _
    exact I1.fpOk hle (I1.hok.fresh hle)
end Ev

set_option Elab.async false
set_option linter.all false
set_option maxRecDepth 100000
set_option maxHeartbeats 1000000
/-! Loops and comprehensions. -/
namespace Ev
open PySem PySem.Spec PyProof.Rows L2
section
variable {K : PySem.W.Frag} {fa : Lay} {W : EW} {Z : EZ} {φ φ0 : Ph} {H H0 : Hp} {μ : Mu} {g : Grd} {l : List D}
theorem Std.self (A : Abs K fa φ μ H) (h : stays μ g = true) : Std K fa g φ H φ μ H := ⟨⟨[], by simp⟩, fun _ _ q => q, A, h⟩
theorem stays_nil : stays μ [] = true := rfl
theorem stays_one {n : Nat} (h : μ[n]? = some (.lst l)) : stays μ [(n, l)] = true := by
  unfold stays
  rw [List.all_cons, List.all_nil]
  simp [h]
end
section
variable {X : Cx} {fa : Lay} {W : EW} {Z : EZ} {e tg iter : Expr} {m : Rho → Mu → Res D} {ms : Rho → Mu → Res (List D)} {pos : Pos}
theorem pi_seq (he : PE X e (tE X.K fa W m)) : PI X tg e (iD X.K fa W .seq fun ρ μ => (m ρ μ).bind fun x μ => .ok [x] μ) := by
  refine ⟨fun pins s σ H R I h => ?_⟩
  obtain ⟨φ, μ, ρ, A, RR, h⟩ := h
  dsimp only at h
  cases hm : m ρ μ with
  | ex _ _ => exact (pi_list he).run pins s σ H R I ⟨φ, μ, ρ, A, RR, by rw [hm] at h ⊢; exact h⟩
  | no => rw [hm] at h; exact False.elim h
  | ok d μ1 =>
    rw [hm] at h
    have h : ∀ φ' H', Ext φ H φ' H' → Abs X.K fa φ' μ1 H' → ∃ l g, itemsD .seq μ1 [d] = some (l, g) ∧ ∀ J, WalkD X.K fa J l g φ' H' → R J H' := h
    have run : ∀ (k : D → Mu → Ph → Hp → Prop), (∀ φ' H', Ext φ H φ' H' → Abs X.K fa φ' μ1 H' → k d μ1 φ' H') → Run X.K fa (W σ) φ H (m ρ μ) k := fun k q => by rw [hm]; exact q
    have lists : ∀ (l : List D) (g : Grd), (∀ φ1 H1 v, RV X.K fa (msk H1 φ1) φ1 d v → ∃ a, v = .ref a ∧ HasL X.K fa g φ1 H1 a l) → stays μ1 g = true → itemsD .seq μ1 [d] = some (l, g) → wpAny (model X.prog X.w) X.A (eval e X.env) (fun v s1 => wpAny (model X.prog X.w) X.A (pyIter v) (PIE X pins σ tg R) X.xe s1) X.xe s := fun l g hl hg hi =>
      (pi_list he).run pins s σ H R I ⟨φ, μ, ρ, A, RR, run _ fun φ1 H1 e1 A1 v rv => by
        obtain ⟨a, rfl, hL⟩ := hl φ1 H1 v rv
        obtain ⟨l', g', e, q⟩ := h φ1 H1 e1 A1
        rw [hi] at e
        cases e
        exact ⟨a, rfl, (let ⟨vs, hs, _⟩ := hL φ1 μ1 H1 (Std.self A1 hg); ⟨vs, hs⟩), q _ (walk_ofL hL)⟩⟩
    have nots : itemsD .seq μ1 [d] = none → wpAny (model X.prog X.w) X.A (eval e X.env) (fun v s1 => wpAny (model X.prog X.w) X.A (pyIter v) (PIE X pins σ tg R) X.xe s1) X.xe s := fun hi =>
      (pi_list he).run pins s σ H R I ⟨φ, μ, ρ, A, RR, run _ fun φ1 H1 e1 A1 v rv => by
        obtain ⟨l', g', e, q⟩ := h φ1 H1 e1 A1
        rw [hi] at e
        cases e⟩
    cases d with
    | tup l =>
      exact (pi_tup he).run pins s σ H R I ⟨φ, μ, ρ, A, RR, run _ fun φ1 H1 e1 A1 v rv => by
        obtain ⟨a, rfl, hT⟩ := has_tup (g := []) rv
        obtain ⟨l', g', e, q⟩ := h φ1 H1 e1 A1
        cases e
        exact ⟨a, rfl, (let ⟨vs, hs, _⟩ := hT φ1 μ1 H1 (Std.self A1 stays_nil); ⟨vs, hs⟩), q _ (walk_ofT hT)⟩⟩
    | lst l => exact lists l [] (fun φ1 H1 v rv => has_lst rv) stays_nil rfl
    | str t =>
      exact (pi_str he).run pins s σ H R I ⟨φ, μ, ρ, A, RR, run _ fun φ1 H1 e1 A1 v rv => by
        obtain ⟨rfl, ht⟩ := rv_str rv
        obtain ⟨l', g', e, q⟩ := h φ1 H1 e1 A1
        cases e
        exact ⟨_, rfl, q _ (walk_ofS ht)⟩⟩
    | loc n =>
      have hi : itemsD .seq μ1 [.loc n] = (match μ1[n]? with | some (.lst l) => some (l, [(n, l)]) | _ => none) := rfl
      cases hn : μ1[n]? with
      | none => exact nots (by rw [hi, hn])
      | some c =>
        cases c with
        | lst l => exact lists l [(n, l)] (fun φ1 H1 v rv => has_loc List.mem_cons_self rv) (stays_one hn) (by rw [hi, hn])
        | _ => exact nots (by rw [hi, hn])
    | _ => exact nots rfl
theorem items_rng1 {μ : Mu} {ss l : List D} {g : Grd} (h : itemsD .rng1 μ ss = some (l, g)) : ∃ j : Int, ss = [.int j] ∧ -(2 ^ 62) ≤ j ∧ j < 2 ^ 62 ∧ l = rngL 0 j.toNat := by
  match ss, h with
  | [.int j], h =>
    obtain ⟨c, e⟩ := ite_some (show (if -(2 ^ 62) ≤ j ∧ j < 2 ^ 62 then some (rngL 0 j.toNat, ([] : Grd)) else none) = some (l, g) from h)
    cases e
    exact ⟨j, rfl, c.1, c.2, rfl⟩
theorem items_rng2 {μ : Mu} {ss l : List D} {g : Grd} (h : itemsD .rng2 μ ss = some (l, g)) : ∃ i j : Int, ss = [.int i, .int j] ∧ (-(2 ^ 62) ≤ i ∧ i < 2 ^ 62 ∧ -(2 ^ 62) ≤ j ∧ j < 2 ^ 62) ∧ l = rngL i (j - i).toNat := by
  match ss, h with
  | [.int i, .int j], h =>
    obtain ⟨c, e⟩ := ite_some (show (if -(2 ^ 62) ≤ i ∧ i < 2 ^ 62 ∧ -(2 ^ 62) ≤ j ∧ j < 2 ^ 62 then some (rngL i (j - i).toNat, ([] : Grd)) else none) = some (l, g) from h)
    cases e
    exact ⟨i, j, rfl, c, rfl⟩
theorem pi_rng1 {p : Pos} (hg : Gl X "range") (hm : X.mg "range" = none) (ha : PA X [e] (tA X.K fa W ms)) (hs : starEach [e] X.env = [(false, eval e X.env)]) : PI X tg (.Call (.Name "range" p) [e] [] pos) (iD X.K fa W .rng1 ms) := PI.imp (pi_range1 hg hm ha hs) fun σ H R h => by
  obtain ⟨φ, μ, ρ, A, RR, h⟩ := h
  refine ⟨φ, μ, ρ, A, RR, h.imp fun ss μ1 φ1 H1 e1 A1 h1 vs rs => ?_⟩
  obtain ⟨l, g, e, q⟩ := h1
  obtain ⟨j, rfl, c1, c2, rfl⟩ := items_rng1 e
  obtain ⟨v, rfl, rv⟩ := rvs1 rs
  cases rv_int rv
  exact ⟨j, rfl, c1, c2, q _ walk_ofR⟩
theorem pi_rng2 {e2 : Expr} {p : Pos} (hg : Gl X "range") (hm : X.mg "range" = none) (ha : PA X [e, e2] (tA X.K fa W ms)) (hs : starEach [e, e2] X.env = [(false, eval e X.env), (false, eval e2 X.env)]) (hs2 : starEach [e2] X.env = [(false, eval e2 X.env)]) :
    PI X tg (.Call (.Name "range" p) [e, e2] [] pos) (iD X.K fa W .rng2 ms) := PI.imp (pi_range2 hg hm ha hs hs2) fun σ H R h => by
  obtain ⟨φ, μ, ρ, A, RR, h⟩ := h
  refine ⟨φ, μ, ρ, A, RR, h.imp fun ss μ1 φ1 H1 e1 A1 h1 vs rs => ?_⟩
  obtain ⟨l, g, e, q⟩ := h1
  obtain ⟨i, j, rfl, c, rfl⟩ := items_rng2 e
  obtain ⟨v, u, rfl, rv, ru⟩ := rvs2 rs
  cases rv_int rv
  cases rv_int ru
  exact ⟨i, j, rfl, c, q _ walk_ofR⟩
/-- lo, lo + c, .. -/
theorem walk_ofC {K : PySem.W.Frag} {fa : Lay} {g : Grd} {φ0 : Ph} {H0 : Hp} {lo c : Int} {n : Nat} : WalkD K fa (Itc lo c n) (stpL lo c n) g φ0 H0 := by
  have hz : (stpL lo c n).length = n := by simp [stpL]
  refine ⟨fun i H hi _ => ?_, fun H _ => ?_, fun i H x H' hi _ y φ μ s => ?_⟩
  · show i < n
    rw [hz] at hi; exact hi
  · show n ≤ _
    rw [hz]; exact Nat.le_refl _
  · obtain ⟨rfl, rfl⟩ := y
    rw [hz] at hi
    refine ⟨.int (lo + (i : Nat) * c), ?_, Ext.refl _ _, s.abs, mk_int⟩
    unfold stpL
    rw [List.getElem?_map, List.getElem?_range hi]
    rfl
theorem items_rng3 {μ : Mu} {ss l : List D} {g : Grd} (h : itemsD .rng3 μ ss = some (l, g)) : ∃ i j c : Int, ss = [.int i, .int j, .int c] ∧ (-(2 ^ 61) ≤ i ∧ i < 2 ^ 61 ∧ -(2 ^ 61) ≤ j ∧ j < 2 ^ 61 ∧ 1 ≤ c ∧ c < 1000000) ∧ l = stpL i c (if i < j then ((j - i - 1) / c + 1).toNat else 0) := by
  match ss, h with
  | [.int i, .int j, .int c], h =>
    obtain ⟨q, e⟩ := ite_some (show (if -(2 ^ 61) ≤ i ∧ i < 2 ^ 61 ∧ -(2 ^ 61) ≤ j ∧ j < 2 ^ 61 ∧ 1 ≤ c ∧ c < 1000000 then some (stpL i c (if i < j then ((j - i - 1) / c + 1).toNat else 0), ([] : Grd)) else none) = some (l, g) from h)
    cases e
    exact ⟨i, j, c, rfl, q, rfl⟩
theorem rgc_pos {i j c : Int} (h1 : -(2 ^ 61) ≤ i) (h2 : i < 2 ^ 61) (h3 : -(2 ^ 61) ≤ j) (h4 : j < 2 ^ 61) (h5 : 1 ≤ c) (h6 : c < 1000000) : RgC i j c (if i < j then ((j - i - 1) / c + 1).toNat else 0) := by
  have hd : i < j → 0 ≤ (j - i - 1) / c ∧ (j - i - 1) / c ≤ j - i - 1 ∧ (j - i - 1) / c * c ≤ j - i - 1 := fun h =>
    ⟨Int.ediv_nonneg (by omega) (by omega), Int.ediv_le_self _ (by omega), Int.ediv_mul_le _ (by omega)⟩
  have e : Builtin.Range.rangeSize i j c = (((if i < j then ((j - i - 1) / c + 1).toNat else 0) : Nat) : Int) := by
    unfold Builtin.Range.rangeSize
    rw [if_pos (by omega)]
    by_cases h : i < j
    · rw [if_pos h, if_pos h, Int.toNat_of_nonneg (by have := (hd h).1; omega)]
    · rw [if_neg h, if_neg h]; rfl
  refine ⟨by omega, by omega, ?_, e⟩
  unfold Builtin.Range.small
  rw [e]
  by_cases h : i < j
  · have q := hd h
    rw [if_pos h, Int.toNat_of_nonneg (by omega)]
    simp only [Builtin.Range.rangeFitsLong, Bool.and_eq_true, Bool.or_eq_true, decide_eq_true_eq, beq_iff_eq]
    generalize (j - i - 1) / c * c = y at *
    generalize (j - i - 1) / c = x at *
    rw [if_pos (show c > 0 by omega), Bool.and_eq_true, decide_eq_true_iff, decide_eq_true_iff]
    omega
  · rw [if_neg h]
    simp only [Builtin.Range.rangeFitsLong, Bool.and_eq_true, Bool.or_eq_true, decide_eq_true_eq, beq_iff_eq]
    rw [if_pos (show c > 0 by omega), Bool.and_eq_true, decide_eq_true_iff, decide_eq_true_iff]
    omega
theorem pi_rng3 {e2 e3 : Expr} {p : Pos} (hg : Gl X "range") (hm : X.mg "range" = none) (ha : PA X [e, e2, e3] (tA X.K fa W ms)) (hs : starEach [e, e2, e3] X.env = (false, eval e X.env) :: starEach [e2, e3] X.env) (hpl : (backTo pos (starEach [e2, e3] X.env)).any (·.1) = false) :
    PI X tg (.Call (.Name "range" p) [e, e2, e3] [] pos) (iD X.K fa W .rng3 ms) := PI.imp (pi_range3 hg hm ha hs hpl) fun σ H R h => by
  obtain ⟨φ, μ, ρ, A, RR, h⟩ := h
  refine ⟨φ, μ, ρ, A, RR, h.imp fun ss μ1 φ1 H1 e1 A1 h1 vs rs => ?_⟩
  obtain ⟨l, g, e, q⟩ := h1
  obtain ⟨i, j, c, rfl, ⟨c1, c2, c3, c4, c5, c6⟩, rfl⟩ := items_rng3 e
  unfold RVs at rs
  obtain ⟨v, r1, rfl, rv, rs⟩ := rs
  obtain ⟨u, w, rfl, ru, rw'⟩ := rvs2 rs
  cases rv_int rv
  cases rv_int ru
  cases rv_int rw'
  exact ⟨i, j, c, _, rfl, rgc_pos c1 c2 c3 c4 c5 c6, q _ walk_ofC⟩
/-- backwards -/
theorem walk_ofV {K : PySem.W.Frag} {fa : Lay} {g : Grd} {φ0 : Ph} {H0 : Hp} {a : Addr} {l : List D} {n : Nat} (hL : HasL K fa g φ0 H0 a l) (hn : n = l.length) : WalkD K fa (Itv K a n) l.reverse g φ0 H0 := by
  subst hn
  refine ⟨fun i H hi hs => ?_, fun H _ => ?_, fun i H x H' hi hs y φ μ s => ?_⟩
  · rw [List.length_reverse] at hi
    obtain ⟨φ, μ, s⟩ := hs
    obtain ⟨vs, hq, rs⟩ := hL φ μ H s
    obtain ⟨d, hd⟩ : ∃ d, l[l.length - 1 - i]? = some d := ⟨_, List.getElem?_eq_getElem (by omega)⟩
    obtain ⟨v, hv, _⟩ := rs.get hd
    exact ⟨hi, vs, v, hq, hv⟩
  · rw [List.length_reverse]; exact Nat.le_refl _
  · rw [List.length_reverse] at hi
    obtain ⟨rfl, hx⟩ := y
    obtain ⟨vs, hq, rs⟩ := hL φ μ _ s
    obtain ⟨d, hd⟩ : ∃ d, l[l.length - 1 - i]? = some d := ⟨_, List.getElem?_eq_getElem (by omega)⟩
    obtain ⟨v, hv, rv⟩ := rs.get hd
    have := hx vs hq
    rw [hv] at this
    cases this
    exact ⟨d, by rw [List.getElem?_reverse hi]; exact hd, Ext.refl _ _, s.abs, rv⟩
theorem walk_ofVT {K : PySem.W.Frag} {fa : Lay} {g : Grd} {φ0 : Ph} {H0 : Hp} {a : Addr} {l : List D} {n : Nat} (hL : HasT K fa g φ0 H0 a l) (hn : n = l.length) : WalkD K fa (RT.ItvT K a n) l.reverse g φ0 H0 := by
  subst hn
  refine ⟨fun i H hi hs => ?_, fun H _ => ?_, fun i H x H' hi hs y φ μ s => ?_⟩
  · rw [List.length_reverse] at hi
    obtain ⟨φ, μ, s⟩ := hs
    obtain ⟨vs, hq, rs⟩ := hL φ μ H s
    obtain ⟨d, hd⟩ : ∃ d, l[l.length - 1 - i]? = some d := ⟨_, List.getElem?_eq_getElem (by omega)⟩
    obtain ⟨v, hv, _⟩ := rs.get hd
    exact ⟨hi, vs, v, hq, hv⟩
  · rw [List.length_reverse]; exact Nat.le_refl _
  · rw [List.length_reverse] at hi
    obtain ⟨rfl, hx⟩ := y
    obtain ⟨vs, hq, rs⟩ := hL φ μ _ s
    obtain ⟨d, hd⟩ : ∃ d, l[l.length - 1 - i]? = some d := ⟨_, List.getElem?_eq_getElem (by omega)⟩
    obtain ⟨v, hv, rv⟩ := rs.get hd
    have := hx vs hq
    rw [hv] at this
    cases this
    exact ⟨d, by rw [List.getElem?_reverse hi]; exact hd, Ext.refl _ _, s.abs, rv⟩
theorem own_hasL {K : PySem.W.Frag} {fa : Lay} {φ : Ph} {H : Hp} {μ : Mu} {d : D} {l : List D} {v : V} (h : seqOf μ d = some l) (rv : RV K fa (msk H φ) φ d v) : (∃ a, v = .ref a ∧ HasT K fa (ownL l d) φ H a l ∧ ownL l d = []) ∨ (∃ a, v = .ref a ∧ HasL K fa (ownL l d) φ H a l ∧ stays μ (ownL l d) = true) := by
  cases d with
  | tup q => cases h; obtain ⟨a, e, hT⟩ := has_tup (g := ownL l (.tup l)) rv; exact .inl ⟨a, e, hT, rfl⟩
  | lst q => cases h; obtain ⟨a, e, hL⟩ := has_lst (g := ownL l (.lst l)) rv; exact .inr ⟨a, e, hL, stays_nil⟩
  | loc n =>
    have h : (match μ[n]? with | some (.lst l) => some l | _ => none) = some l := h
    cases hn : μ[n]? with
    | none => rw [hn] at h; cases h
    | some c =>
      rw [hn] at h
      cases c with
      | lst l0 =>
        cases h
        obtain ⟨a, e, hL⟩ := has_loc (g := ownL l (.loc n)) (show (n, l) ∈ ownL l (.loc n) from List.mem_cons_self) rv
        exact .inr ⟨a, e, hL, stays_one hn⟩
      | _ => cases h
  | _ => cases h
theorem pi_revD {p : Pos} (hg : Gl X "reversed") (hm : X.mg "reversed" = none) (he : PE X e (tE X.K fa W m)) (hs : starEach [e] X.env = (false, eval e X.env) :: starEach [] X.env) : PI X tg (.Call (.Name "reversed" p) [e] [] pos) (iD X.K fa W .rev fun ρ μ => (m ρ μ).bind fun x μ => .ok [x] μ) := PI.imp (RT.pi_revA hg hm he hs) fun σ H R h => by
  obtain ⟨φ, μ, ρ, A, RR, h⟩ := h
  refine ⟨φ, μ, ρ, A, RR, h.bind.imp fun d μ1 φ1 H1 e1 A1 h1 v rv => ?_⟩
  obtain ⟨l, g, e, q⟩ := h1.here A1
  obtain ⟨l0, hl0, e⟩ := ofmap (show (seqOf μ1 d).map (fun l => (l.reverse, ownL l d)) = some (l, g) from e)
  cases e
  rcases own_hasL hl0 rv with ⟨a, rfl, hT, h0⟩ | ⟨a, rfl, hL, hst⟩
  · obtain ⟨vs, hq, rs⟩ := hT φ1 μ1 H1 (Std.self A1 (by rw [h0]; exact stays_nil))
    exact ⟨a, vs, rfl, .inr ⟨hq, q _ (walk_ofVT hT rs.length)⟩⟩
  · obtain ⟨vs, hq, rs⟩ := hL φ1 μ1 H1 (Std.self A1 hst)
    exact ⟨a, vs, rfl, .inl ⟨hq, q _ (walk_ofV hL rs.length)⟩⟩
/-- what is enumerated: a tuple, or a list -/
theorem items_enum {μ : Mu} {ss l : List D} {g : Grd} (h : itemsD .enum μ ss = some (l, g)) : (∃ l0, ss = [.tup l0] ∧ l = enumFrom 0 l0 ∧ g = []) ∨
    (∃ l0, ss = [.lst l0] ∧ l = enumFrom 0 l0 ∧ g = []) ∨ ∃ n l0, ss = [.loc n] ∧ μ[n]? = some (.lst l0) ∧ l = enumFrom 0 l0 ∧ g = [(n, l0)] := by
  match ss, h with
  | [.tup l0], h => cases h; exact .inl ⟨l0, rfl, rfl, rfl⟩
  | [.lst l0], h => cases h; exact .inr (.inl ⟨l0, rfl, rfl, rfl⟩)
  | [.loc n], h =>
    have h : (match μ[n]? with | some (.lst l) => some (enumFrom 0 l, [(n, l)]) | _ => none) = some (l, g) := h
    cases hn : μ[n]? with
    | none => rw [hn] at h; cases h
    | some c =>
      rw [hn] at h
      cases c with
      | lst l0 => cases h; exact .inr (.inr ⟨n, l0, rfl, hn, rfl, rfl⟩)
      | _ => cases h
theorem pi_enumD {p tpos : Pos} {elts : List Expr} {kk : Nat} (hg : Gl X "enumerate") (hm : X.mg "enumerate" = none) (ha : PA X [e] (tA X.K fa W ms)) (hs : starEach [e] X.env = [(false, eval e X.env)]) :
    PI X (.Tuple elts kk tpos) (.Call (.Name "enumerate" p) [e] [] pos) (iD X.K fa W .enum ms) := by
  refine ⟨fun pins s σ H R I h => ?_⟩
  obtain ⟨φ, μ, ρ, A, RR, h⟩ := h
  cases hm2 : ms ρ μ with
  | ex _ _ => exact (pi_enumT hg hm ha hs).run pins s σ H R I ⟨φ, μ, ρ, A, RR, by rw [hm2] at h ⊢; exact h⟩
  | no => rw [hm2] at h; exact False.elim h
  | ok ss μ1 =>
    rw [hm2] at h
    have h : ∀ φ' H', Ext φ H φ' H' → Abs X.K fa φ' μ1 H' → ∃ l g, itemsD .enum μ1 ss = some (l, g) ∧ ∀ J, WalkD X.K fa J l g φ' H' → R J H' := h
    have run : ∀ (k : List D → Mu → Ph → Hp → Prop), (∀ φ' H', Ext φ H φ' H' → Abs X.K fa φ' μ1 H' → k ss μ1 φ' H') → Run X.K fa (W σ) φ H (ms ρ μ) k := fun k q => by rw [hm2]; exact q
    by_cases ht : ∃ l0, ss = [.tup l0]
    · obtain ⟨l0, rfl⟩ := ht
      refine (pi_enumT hg hm ha hs).run pins s σ H R I ⟨φ, μ, ρ, A, RR, run _ fun φ1 H1 e1 A1 vs rs => ?_⟩
      obtain ⟨l', g', e, q⟩ := h φ1 H1 e1 A1
      cases e
      obtain ⟨v, rfl, rv⟩ := rvs1 rs
      obtain ⟨a, rfl, hT⟩ := has_tup (g := []) rv
      obtain ⟨xs, hx, _⟩ := hT φ1 μ1 H1 (Std.self A1 stays_nil)
      exact ⟨a, xs, rfl, hx, q _ (walk_ofET hT)⟩
    · refine (pi_enum hg hm ha hs).run pins s σ H R I ⟨φ, μ, ρ, A, RR, run _ fun φ1 H1 e1 A1 vs rs => ?_⟩
      obtain ⟨l', g', e, q⟩ := h φ1 H1 e1 A1
      rcases items_enum e with ⟨l0, rfl, _⟩ | ⟨l0, rfl, rfl, rfl⟩ | ⟨n, l0, rfl, hn, rfl, rfl⟩
      · exact absurd ⟨l0, rfl⟩ ht
      · obtain ⟨v, rfl, rv⟩ := rvs1 rs
        obtain ⟨a, rfl, hL⟩ := has_lst (g := []) rv
        obtain ⟨xs, hx, _⟩ := hL φ1 μ1 H1 (Std.self A1 stays_nil)
        exact ⟨a, xs, rfl, hx, q _ (walk_ofE hL)⟩
      · obtain ⟨v, rfl, rv⟩ := rvs1 rs
        obtain ⟨a, rfl, hL⟩ := has_loc (g := [(n, l0)]) List.mem_cons_self rv
        obtain ⟨xs, hx, _⟩ := hL φ1 μ1 H1 (Std.self A1 (stays_one hn))
        exact ⟨a, xs, rfl, hx, q _ (walk_ofE hL)⟩
theorem own_has {K : PySem.W.Frag} {φ : Ph} {H : Hp} {μ : Mu} {d : D} {l : List D} {v : V} {g : Grd} (h : lstOf μ d = some l) (hg : ∀ p ∈ ownL l d, p ∈ g) (rv : RV K fa (msk H φ) φ d v) : ∃ a, v = .ref a ∧ HasL K fa g φ H a l := by
  cases d with
  | lst l0 => cases h; exact has_lst rv
  | loc n => exact has_loc (hg (n, l) (by unfold ownL; exact List.mem_cons_self)) rv
  | _ => cases h
theorem own_stays {μ : Mu} {d : D} {l : List D} (h : lstOf μ d = some l) : stays μ (ownL l d) = true := by
  cases d with
  | loc n =>
    have h : (match μ[n]? with | some (.lst l) => some l | _ => none) = some l := h
    cases hn : μ[n]? with
    | none => rw [hn] at h; cases h
    | some c =>
      rw [hn] at h
      cases c with
      | lst l0 => cases h; exact stays_one hn
      | _ => cases h
  | _ => rfl
theorem stays_app {μ : Mu} {g g' : Grd} (h : stays μ g = true) (h' : stays μ g' = true) : stays μ (g ++ g') = true := by
  unfold stays at *
  rw [List.all_append, h, h']
  rfl
theorem items_zip {μ : Mu} {ss l : List D} {g : Grd} (h : itemsD .zip2 μ ss = some (l, g)) : ∃ a b l1 l2, ss = [a, b] ∧ l = (l1.zip l2).map (fun p => D.tup [p.1, p.2]) ∧
    ((lstOf μ a = some l1 ∧ lstOf μ b = some l2 ∧ g = ownL l1 a ++ ownL l2 b) ∨ (a = .tup l1 ∧ b = .tup l2 ∧ g = [])) := by
  match ss, h with
  | [a, b], h =>
    unfold itemsD at h
    dsimp only at h
    split at h
    · rename_i l1 l2 h1 h2
      cases h
      exact ⟨a, b, l1, l2, rfl, rfl, .inl ⟨h1, h2, rfl⟩⟩
    · split at h
      · cases h
        exact ⟨_, _, _, _, rfl, rfl, .inr ⟨rfl, rfl, rfl⟩⟩
      · cases h
theorem pi_zipD {e2 : Expr} {p tpos : Pos} {elts : List Expr} {kk : Nat} (hg : Gl X "zip") (hm : X.mg "zip" = none) (ha : PA X [e, e2] (tA X.K fa W ms)) (hs : starEach [e, e2] X.env = (false, eval e X.env) :: starEach [e2] X.env) (hpl : (backTo pos (starEach [e2] X.env)).any (·.1) = false) :
    PI X (.Tuple elts kk tpos) (.Call (.Name "zip" p) [e, e2] [] pos) (iD X.K fa W .zip2 ms) := PI.imp (RZ.pi_zipA hg hm ha hs hpl) fun σ H R h => by
  obtain ⟨φ, μ, ρ, A, RR, h⟩ := h
  refine ⟨φ, μ, ρ, A, RR, h.imp fun ss μ1 φ1 H1 e1 A1 h1 vs rs => ?_⟩
  obtain ⟨l, g, e, q⟩ := h1
  obtain ⟨a, b, l1, l2, rfl, rfl, c⟩ := items_zip e
  obtain ⟨v, u, rfl, rv, ru⟩ := rvs2 rs
  rcases c with ⟨h1, h2, rfl⟩ | ⟨rfl, rfl, rfl⟩
  · obtain ⟨p1, rfl, L1⟩ := own_has (g := ownL l1 a ++ ownL l2 b) h1 (fun p hp => List.mem_append_left _ hp) rv
    obtain ⟨p2, rfl, L2⟩ := own_has (g := ownL l1 a ++ ownL l2 b) h2 (fun p hp => List.mem_append_right _ hp) ru
    have hst := Std.self A1 (stays_app (own_stays h1) (own_stays h2))
    obtain ⟨xs, hx, _⟩ := L1 φ1 μ1 H1 hst
    obtain ⟨ys, hy, _⟩ := L2 φ1 μ1 H1 hst
    exact ⟨p1, p2, xs, ys, rfl, .inl ⟨hx, hy, q _ (walk_ofZ L1 L2)⟩⟩
  · obtain ⟨p1, rfl, L1⟩ := has_tup (g := []) rv
    obtain ⟨p2, rfl, L2⟩ := has_tup (g := []) ru
    have hst := Std.self A1 (g := []) stays_nil
    obtain ⟨xs, hx, _⟩ := L1 φ1 μ1 H1 hst
    obtain ⟨ys, hy, _⟩ := L2 φ1 μ1 H1 hst
    exact ⟨p1, p2, xs, ys, rfl, .inr ⟨hx, hy, q _ (walk_ofZT L1 L2)⟩⟩

/-! ### for -/
def forT (t : T) (oa : Rho → Mu → Out) : D → Rho → Mu → Out := fun d ρ μ => match t.put d ρ with
  | some ρ' => oa ρ' μ
  | none => .no
def evFor (kill : List Nat) (t : T) (k : IK) (ms : Rho → Mu → Res (List D)) (oa : Rho → Mu → Out) : Rho → Mu → Out := fun ρ μ => (ms ρ μ).out ρ fun ss μ => match itemsD k μ ss with
  | some (l, g) => forL g kill (forT t oa) l ρ μ
  | none => .no
theorem forL_stays {K : PySem.W.Frag} {φ : Ph} {H : Hp} {En : Ends} {g : Grd} {kill : List Nat} {turn : D → Rho → Mu → Out} {l : List D} {ρ : Rho} {μ : Mu} (h : RunO K fa W φ H (forL g kill turn l ρ μ) En) : stays μ g = true := by
  cases l with
  | nil =>
    unfold forL at h
    by_cases c : stays μ g = true
    · exact c
    · rw [if_neg c] at h; exact False.elim h
  | cons d r =>
    unfold forL at h
    by_cases c : stays μ g = true
    · exact c
    · rw [if_neg c] at h; exact False.elim h
theorem Ext.std {K : PySem.W.Frag} {φ φ' : Ph} {H H' : Hp} {μ' : Mu} {g : Grd} (x : Ext φ H φ' H') (A : Abs K fa φ' μ' H') (h : stays μ' g = true) : Std K fa g φ H φ' μ' H' := ⟨x.pre, x.same, A, h⟩
theorem s_for {kill : List Nat} {t : T} {k : IK} {body : List Stmt} {oa : Rho → Mu → Out} (hp : PassesOwn (model X.prog X.w) X.A X.env X.xe) (hc : X.calm = true) (hi : PI X tg iter (iD X.K fa W k ms)) (hg : PG X tg (tG X.K fa t)) (hb : PSs X body (tS X.K fa W oa))
    (hs : ∀ x, foldedSetIterable iter X.env x = pure x) : PS X (.For tg iter body [] pos) (tS X.K fa W (evFor kill t k ms oa)) := PS.imp (ps_for hp hc hi hg hb hs) fun D σ H h => by
  obtain ⟨φ, μ, ρ, A, R, h⟩ := h
  refine ⟨φ, μ, ρ, A, R, (h.out R).imp fun ss μ1 φ1 H1 e1 A1 h1 => ?_⟩
  cases hit : itemsD k μ1 ss with
  | none => rw [hit] at h1; exact False.elim h1
  | some p =>
    obtain ⟨l, g⟩ := p
    rw [hit] at h1
    have h1 : RunO X.K fa W φ1 H1 (forL g kill (forT t oa) l ρ μ1) D := h1
    refine ⟨l, g, rfl, fun J w => ?_⟩
    refine for_it w (fun i σ' H' => ∃ φ' μ' ρ', Ext φ1 H1 φ' H' ∧ Abs X.K fa φ' μ' H' ∧ REnv X.K fa (msk H' φ') φ' ρ' σ' ∧ RunO X.K fa W φ' H' (forL g kill (forT t oa) (l.drop i) ρ' μ') D) ⟨φ1, μ1, ρ, Ext.refl _ _, A1, R.ext e1, by rw [List.drop_zero]; exact h1⟩ ?_ ?_ ?_
    · rintro i σ' H' hi ⟨φ', μ', ρ', x, A', R', h'⟩
      exact ⟨φ', μ', x.std A' (forL_stays h')⟩
    · rintro i v σ' H' H'' hi ⟨φ', μ', ρ', x, A', R', h'⟩ y
      have hst := forL_stays h'
      obtain ⟨d, hd, x2, A2, rv⟩ := y φ' μ' (x.std A' hst)
      have hdr : l.drop i = d :: l.drop (i + 1) := by
        obtain ⟨hl, e⟩ := List.getElem?_eq_some_iff.mp hd
        rw [← e]
        exact List.drop_eq_getElem_cons hl
      rw [hdr] at h'
      unfold forL at h'
      rw [if_pos hst] at h'
      have R2 := (R'.kill kill).ext x2
      have h2 := RunO.ext x2 h'
      cases hput : t.put d (wipeR ρ' kill) with
      | none => unfold forT at h2; rw [hput] at h2; exact False.elim h2
      | some ρ2 =>
        have eT : forT t oa d (wipeR ρ' kill) μ' = oa ρ2 μ' := by unfold forT; rw [hput]
        rw [eT] at h2
        refine ⟨φ', μ', _, d, ρ2, A2, R2, rv, hput, fun σ2 _ R3 => ⟨φ', μ', ρ2, A2, R3, ?_⟩⟩
        cases ho : oa ρ2 μ' with
        | nx ρ3 μ3 => rw [ho] at h2; exact fun φ3 H3 σ3 x3 A3 R4 => ⟨φ3, μ3, ρ3, (x.trans x2).trans x3, A3, R4, RunO.ext x3 h2⟩
        | ct ρ3 μ3 => rw [ho] at h2; exact fun φ3 H3 σ3 x3 A3 R4 => ⟨φ3, μ3, ρ3, (x.trans x2).trans x3, A3, R4, RunO.ext x3 h2⟩
        | bk ρ3 μ3 => rw [ho] at h2; exact h2
        | rt d3 μ3 => rw [ho] at h2; exact h2
        | ex _ _ _ => rw [ho] at h2; exact h2
        | no => rw [ho] at h2; exact h2
    · rintro σ' H' ⟨φ', μ', ρ', x, A', R', h'⟩
      have hst := forL_stays h'
      rw [List.drop_length] at h'
      unfold forL at h'
      rw [if_pos hst] at h'
      exact h' φ' H' σ' (Ext.refl _ _) A' (R'.kill kill)
end
end Ev

set_option Elab.async false
set_option linter.all false
set_option maxRecDepth 100000
set_option maxHeartbeats 1000000
/-! Comprehensions. -/
namespace Ev
open PySem PySem.Spec PyProof.Rows L2
theorem wipe_in {σ : L2.St} {j : Nat} : ∀ {vs : List Nat}, j ∈ vs → (L2.wipe σ vs)[j]? = if j < σ.length then some none else none
  | v :: vs, h => by
    unfold L2.wipe
    by_cases e : v = j
    · subst e
      by_cases hl : v < σ.length
      · rw [if_pos hl, List.getElem?_set_self (by rw [L2.wipe_length]; exact hl)]
      · rw [if_neg hl, List.getElem?_eq_none (by rw [List.length_set, L2.wipe_length]; omega)]
    · rw [List.getElem?_set_ne e]
      exact wipe_in ((List.mem_cons.mp h).resolve_left fun q => e q.symm)
theorem wipe_out {σ : L2.St} {j : Nat} : ∀ {vs : List Nat}, j ∉ vs → (L2.wipe σ vs)[j]? = σ[j]?
  | [], _ => rfl
  | v :: vs, h => by
    rw [List.mem_cons, not_or] at h
    unfold L2.wipe
    rw [List.getElem?_set_ne (fun e => h.1 e.symm)]
    exact wipe_out h.2
theorem wipe_like {σ σ2 : L2.St} {vs ts : List Nat} (hs : ∀ j ∈ ts, j ∈ vs) (l : Like ts (L2.wipe σ vs) σ2) : L2.wipe σ2 vs = L2.wipe σ vs := by
  apply List.ext_getElem?
  intro j
  have hl : σ2.length = σ.length := by rw [l.1, L2.wipe_length]
  by_cases h : j ∈ vs
  · rw [wipe_in h, wipe_in h, hl]
  · rw [wipe_out h, l.2 j fun q => h (hs j q)]
section
variable {K : PySem.W.Frag} {fa : Lay} {W : EW} {Z : EZ} {φ φ' φ'' φ1 : Ph} {H H' H'' H1 : Hp} {μ μ' μ'' μ1 : Mu} {L : Addr} {acc : List Ev.D}
theorem REnv.mono {G G' : Hp} {ρ : Rho} {σ : L2.St} (hG : Same G G') (hp : ∀ (n : Nat) (a : Addr), φ.sh[n]? = some a → φ'.sh[n]? = some a) (h : REnv K fa G φ ρ σ) : REnv K fa G' φ' ρ σ :=
  ⟨h.len, fun i d e => let ⟨v, a, b⟩ := h.at_ i d e; ⟨v, a, RV.mono hG hp d v b⟩, h.kp⟩
variable (K fa φ1 H1 L) in
/-- within a comprehension: its list lies hidden at L -/
structure CS (acc : List Ev.D) (φ' : Ph) (μ' : Mu) (H' : Hp) : Prop where
  pre : ∃ t, φ'.sh = φ1.sh ++ t
  hd : φ'.hd = L :: φ1.hd
  hold : ∀ a ∈ φ1.hd, (∀ ps, H1 a ≠ some (.tbl ps)) → H' a = H1 a
  keep : Same (msk H1 φ1) (msk H' φ')
  abs : Abs K fa φ' μ' H'
  lst : ∃ vs, H' L = some (.lst vs) ∧ RVs K fa (msk H' φ') φ' acc vs
theorem CS.start (A : Abs K fa φ1 μ1 H1) (hD : H1 L = none) : CS K fa φ1 H1 L [] ⟨φ1.sh, L :: φ1.hd⟩ μ1 (upd H1 L (.lst [])) := by
  have np := A.notIn hD
  have kp : Same (msk H1 φ1) (msk (upd H1 L (.lst [])) ⟨φ1.sh, L :: φ1.hd⟩) := fun a o h => by
    obtain ⟨h1, h2⟩ := msk_some h
    have ne : a ≠ L := ne_of_none h2 hD
    rw [msk_out, upd_ne ne, h2]
    rintro (q | q)
    · exact h1 (.inl q)
    · rcases List.mem_cons.mp q with q | q
      · exact ne q
      · exact h1 (.inr q)
  refine ⟨⟨[], by simp⟩, rfl, fun a h _ => upd_ne (A.ne hD (.inr h)), kp, ⟨A.len, A.nd, fun a h => ?_, fun i a c h1 h2 => ?_, A.tab.mono (fun _ q => List.mem_cons_of_mem _ q) (fun _ _ _ q => some_upd hD q) kp⟩, ⟨[], upd_same, RVs.nil⟩⟩
  · rcases List.mem_cons.mp h with rfl | h
    · exact ⟨fun q => np (.inl q), _, upd_same⟩
    · exact ⟨(A.hid a h).1, let ⟨u, e⟩ := (A.hid a h).2; ⟨u, some_upd hD e⟩⟩
  · exact CellR.mono (φ := φ1) (c := c) (h := A.cell i a c h1 h2) kp (fun _ _ q => q) fun u q => some_upd hD q
theorem CS.ext (c : CS K fa φ1 H1 L acc φ' μ' H') (x : Ext φ' H' φ'' H'') (A : Abs K fa φ'' μ'' H'') : CS K fa φ1 H1 L acc φ'' μ'' H'' := by
  obtain ⟨t, e⟩ := c.pre
  obtain ⟨u, e'⟩ := x.pre
  obtain ⟨vs, h1, h2⟩ := c.lst
  have hD : L ∈ φ'.hd := by rw [c.hd]; exact List.mem_cons_self
  exact ⟨⟨t ++ u, by rw [e', e, List.append_assoc]⟩, x.hd.trans c.hd, fun a h n => (x.hold a (by rw [c.hd]; exact List.mem_cons_of_mem _ h) (by rw [c.hold a h n]; exact n)).trans (c.hold a h n), fun a o h => x.keep a o (c.keep a o h), A,
    ⟨vs, (x.hold L hD (by rw [h1]; exact fun _ q => nomatch q)).trans h1, h2.ext x⟩⟩
theorem CS.app (c : CS K fa φ1 H1 L acc φ' μ' H') (hn : L ∉ φ1.hd) {vs : List V} (hv : H' L = some (.lst vs)) {d : Ev.D} {y : V} (r : RV K fa (msk H' φ') φ' d y) : CS K fa φ1 H1 L (acc ++ [d]) φ' μ' (upd H' L (.lst (vs ++ [y]))) := by
  have hD : L ∈ φ' := .inr (by rw [c.hd]; exact List.mem_cons_self)
  have em : msk (upd H' L (.lst (vs ++ [y]))) φ' = msk H' φ' := msk_upd hD
  obtain ⟨us, h1, h2⟩ := c.lst
  rw [hv] at h1
  cases h1
  have hs : ∀ a ∈ φ'.sh, a ≠ L := fun a h e => (c.abs.hid L (by rw [c.hd]; exact List.mem_cons_self)).1 (e ▸ h)
  refine ⟨c.pre, c.hd, fun a h n => ?_, by rw [em]; exact c.keep, ⟨c.abs.len, c.abs.nd, fun a h => ⟨(c.abs.hid a h).1, ?_⟩, fun i a q h3 h4 => ?_, c.abs.tab.mono (fun _ q => q) (fun a _ ps q => by rw [upd_ne (fun e => by rw [e, hv] at q; cases q)]; exact q) (fun a o h => by rw [em]; exact h)⟩, ⟨_, upd_same, by rw [em]; exact h2.append (RVs.one r)⟩⟩
  · rw [upd_ne (fun e => hn (by rw [← e]; exact h))]; exact c.hold a h n
  · by_cases e : a = L
    · subst e; exact ⟨_, upd_same⟩
    · rw [upd_ne e]; exact (c.abs.hid a h).2
  · rw [em]
    refine CellR.mono (c := q) (h := c.abs.cell i a q h3 h4) (fun _ _ z => z) (fun _ _ z => z) fun u z => ?_
    rw [upd_ne (hs a (List.mem_of_getElem? h3))]; exact z
theorem CS.tabs (c : CS K fa φ1 H1 L acc φ' μ' H') {vs : List V} (hv : H' L = some (.lst vs)) {φ2 : Ph} (e : φ2.hd = φ1.hd := by rfl) (sm : Same (msk H' φ') (msk H' φ2)) : TabM fa φ2 H' := fun p hp => by
  obtain ⟨h1, ps, h2, h3, h4⟩ := c.abs.tab p hp
  refine ⟨?_, ps, h2, h3, fun pos cv q => ?_⟩
  · rw [c.hd] at h1
    rw [e]
    rcases List.mem_cons.mp h1 with h1 | h1
    · rw [h1, hv] at h2; cases h2
    · exact h1
  · obtain ⟨z, e1, e2⟩ := h4 pos cv q
    exact ⟨z, e1, sm _ _ e2⟩
/-- the list comes into sight -/
theorem CS.out (c : CS K fa φ1 H1 L acc φ' μ' H') (A1 : Abs K fa φ1 μ1 H1) (hD : H1 L = none) :
    Ext φ1 H1 ⟨φ'.sh, φ1.hd⟩ H' ∧ Abs K fa ⟨φ'.sh, φ1.hd⟩ μ' H' ∧ RV K fa (msk H' ⟨φ'.sh, φ1.hd⟩) ⟨φ'.sh, φ1.hd⟩ (.lst acc) (.ref L) := by
  have hDh : L ∈ φ'.hd := by rw [c.hd]; exact List.mem_cons_self
  have sm : Same (msk H' φ') (msk H' ⟨φ'.sh, φ1.hd⟩) := fun a o h => by
    obtain ⟨h1, h2⟩ := msk_some h
    rw [msk_out, h2]
    rintro (q | q)
    · exact h1 (.inl q)
    · exact h1 (.inr (by rw [c.hd]; exact List.mem_cons_of_mem _ q))
  obtain ⟨vs, h1, h2⟩ := c.lst
  refine ⟨⟨c.pre, rfl, c.hold, fun a o h => sm a o (c.keep a o h)⟩, ⟨c.abs.len, c.abs.nd, fun a h => c.abs.hid a (by rw [c.hd]; exact List.mem_cons_of_mem _ h), fun i a q h3 h4 => ?_, c.tabs h1 (sm := sm)⟩, mk_lst (vs := vs) (.inl (.inl ?_)) (RVs.mono (φ := φ') (φ' := ⟨φ'.sh, φ1.hd⟩) sm (fun _ _ z => z) _ _ h2)⟩
  · exact CellR.mono (φ := φ') (c := q) (h := c.abs.cell i a q h3 h4) sm (fun _ _ z => z) fun u z => z
  · rw [msk_out, h1]
    rintro (q | q)
    · exact (c.abs.hid L hDh).1 q
    · exact A1.notIn hD (.inr q)
/-- .. to be shared -/
theorem CS.outM (c : CS K fa φ1 H1 L acc φ' μ' H') (A1 : Abs K fa φ1 μ1 H1) (hD : H1 L = none) :
    Ext φ1 H1 ⟨φ'.sh ++ [L], φ1.hd⟩ H' ∧ Abs K fa ⟨φ'.sh ++ [L], φ1.hd⟩ (μ' ++ [.lst acc]) H' ∧ RV K fa (msk H' ⟨φ'.sh ++ [L], φ1.hd⟩) ⟨φ'.sh ++ [L], φ1.hd⟩ (.loc μ'.length) (.ref L) := by
  have hDh : L ∈ φ'.hd := by rw [c.hd]; exact List.mem_cons_self
  have hDs : L ∉ φ'.sh := (c.abs.hid L hDh).1
  have em : msk H' ⟨φ'.sh ++ [L], φ1.hd⟩ = msk H' φ' := by
    funext a
    by_cases h : a ∈ φ'
    · rw [msk_in h, msk_in]
      rcases h with h | h
      · exact .inl (List.mem_append_left _ h)
      · rw [c.hd] at h
        rcases List.mem_cons.mp h with rfl | h
        · exact .inl (List.mem_append_right _ List.mem_cons_self)
        · exact .inr h
    · rw [msk_out h, msk_out]
      rintro (q | q)
      · have q : a ∈ φ'.sh ++ [L] := q
        rcases List.mem_append.mp q with q | q
        · exact h (.inl q)
        · have : a = L := by simpa using q
          subst this
          exact h (.inr hDh)
      · exact h (.inr (by rw [c.hd]; exact List.mem_cons_of_mem _ q))
  have hp : ∀ (n : Nat) (a : Addr), φ'.sh[n]? = some a → (φ'.sh ++ [L])[n]? = some a := fun n a h => by
    rw [List.getElem?_append_left (List.getElem?_eq_some_iff.mp h).1]; exact h
  obtain ⟨vs, h1, h2⟩ := c.lst
  obtain ⟨t, ht⟩ := c.pre
  refine ⟨⟨⟨t ++ [L], by rw [ht, List.append_assoc]⟩, rfl, c.hold, fun a o h => by rw [em]; exact c.keep a o h⟩, ⟨?_, ?_, fun a h => ⟨fun q => ?_, (c.abs.hid a (by rw [c.hd]; exact List.mem_cons_of_mem _ h)).2⟩, fun i a q h3 h4 => ?_, c.tabs h1 (sm := fun a o h => by rw [em]; exact h)⟩, mk_loc ?_⟩
  · show (φ'.sh ++ [L]).length = _
    rw [List.length_append, List.length_append, c.abs.len]; rfl
  · show (φ'.sh ++ [L]).Nodup
    rw [List.nodup_append]
    refine ⟨c.abs.nd, by simp, fun a ha b hb e => ?_⟩
    have : b = L := by simpa using hb
    subst this; subst e
    exact hDs ha
  · have q : a ∈ φ'.sh ++ [L] := q
    rcases List.mem_append.mp q with q | q
    · exact (c.abs.hid a (by rw [c.hd]; exact List.mem_cons_of_mem _ h)).1 q
    · have : a = L := by simpa using q
      subst this
      exact A1.notIn hD (.inr h)
  · rw [em]
    have h3 : (φ'.sh ++ [L])[i]? = some a := h3
    by_cases hi : i < φ'.sh.length
    · rw [List.getElem?_append_left hi] at h3
      rw [List.getElem?_append_left (by rw [← c.abs.len]; exact hi)] at h4
      exact CellR.mono (c := q) (h := c.abs.cell i a q h3 h4) (fun _ _ z => z) hp fun u z => z
    · have hl : i < (φ'.sh ++ [L]).length := (List.getElem?_eq_some_iff.mp h3).1
      rw [List.length_append] at hl
      have e : i = φ'.sh.length := by simp at hl; omega
      subst e
      rw [List.getElem?_append_right (Nat.le_refl _)] at h3
      rw [List.getElem?_append_right (by rw [c.abs.len]; exact Nat.le_refl _)] at h4
      simp only [Nat.sub_self, List.getElem?_cons_zero, Option.some.injEq] at h3
      rw [c.abs.len] at h4
      simp only [Nat.sub_self, List.getElem?_cons_zero, Option.some.injEq] at h4
      subst h3; subst h4
      exact ⟨vs, h1, RVs.mono (fun _ _ z => z) hp _ _ h2⟩
  · show (φ'.sh ++ [L])[μ'.length]? = some L
    rw [← c.abs.len, List.getElem?_append_right (Nat.le_refl _), Nat.sub_self]
    rfl
end
def compT (t : T) (own : List Nat) (mt : Rho → Mu → Res Bool) (me : Rho → Mu → Res D) (ρ : Rho) : D → Mu → Res (Option D) := fun d μ => match t.put d (wipeR ρ own) with
  | some ρ' => (mt ρ' μ).calm.bind fun b μ => if b then (me ρ' μ).calm.bind fun x μ => .ok (some x) μ else .ok none μ
  | none => .no
/-- where nothing is let out -/
abbrev W0 : EW := fun _ _ _ => False
theorem calm_ok {α : Type} {r : Res α} {a : α} {μ : Mu} (h : r.calm = .ok a μ) : r = .ok a μ := by
  cases r with
  | ok b m => exact h
  | _ => cases h
theorem calm_ex {α : Type} {r : Res α} {x : Ex} {μ : Mu} : r.calm ≠ .ex x μ := fun h => by
  cases r with
  | _ => cases h
theorem bind_ex {α β : Type} {r : Res α} {f : α → Mu → Res β} {x : Ex} {μ : Mu} (hr : ∀ x μ, r ≠ .ex x μ) (h : r.bind f = .ex x μ) : ∃ a m, f a m = .ex x μ := by
  cases r with
  | ok a m => exact ⟨a, m, h⟩
  | ex y m => exact absurd rfl (hr y m)
  | no => cases h
theorem compT_ex {t : T} {own : List Nat} {mt : Rho → Mu → Res Bool} {me : Rho → Mu → Res D} {ρ : Rho} {d : D} {μ μ' : Mu} {x : Ex} : compT t own mt me ρ d μ ≠ .ex x μ' := fun h => by
  unfold compT at h
  split at h
  · obtain ⟨b, m, h⟩ := bind_ex (fun _ _ => calm_ex) h
    cases b with
    | true =>
      obtain ⟨y, m2, h⟩ := bind_ex (fun _ _ => calm_ex) (show (me _ m).calm.bind _ = _ from h)
      cases h
    | false => cases h
  · cases h
theorem compL_ex {g : Grd} {turn : D → Mu → Res (Option D)} (ht : ∀ d μ x μ', turn d μ ≠ .ex x μ') : ∀ {l acc : List D} {μ μ' : Mu} {x : Ex}, compL g turn l acc μ ≠ .ex x μ'
  | [], acc, μ, μ', x, h => by
    unfold compL at h
    split at h <;> cases h
  | d :: r, acc, μ, μ', x, h => by
    unfold compL at h
    split at h
    · obtain ⟨a, m, h⟩ := bind_ex (ht d μ) h
      exact compL_ex ht h
    · cases h
def evComp (m : Bool) (own : List Nat) (t : T) (k : IK) (ms : Rho → Mu → Res (List D)) (mt : Rho → Mu → Res Bool) (me : Rho → Mu → Res D) : Rho → Mu → Res D := fun ρ μ => (ms ρ μ).bind fun ss μ => match itemsD k μ ss with
  | some (l, g) => (compL g (compT t own mt me ρ) l [] μ).bind fun xs μ => if m then .ok (.loc μ.length) (μ ++ [.lst xs]) else .ok (.lst xs) μ
  | none => .no
theorem compT_ok {t : T} {own : List Nat} {mt : Rho → Mu → Res Bool} {me : Rho → Mu → Res D} {ρ : Rho} {d : D} {μ μ' : Mu} {o : Option D} (h : compT t own mt me ρ d μ = .ok o μ') :
    ∃ ρ' b μ1, t.put d (wipeR ρ own) = some ρ' ∧ mt ρ' μ = .ok b μ1 ∧ ((b = true ∧ ∃ x, me ρ' μ1 = .ok x μ' ∧ o = some x) ∨ (b = false ∧ o = none ∧ μ' = μ1)) := by
  unfold compT at h
  split at h
  · rename_i ρ' hp
    obtain ⟨b, μ1, h1, h2⟩ := bind_ok h
    refine ⟨ρ', b, μ1, hp, calm_ok h1, ?_⟩
    cases b with
    | true =>
      obtain ⟨x, μ2, h3, h4⟩ := bind_ok (show (me ρ' μ1).calm.bind _ = _ from h2)
      cases h4
      exact .inl ⟨rfl, x, calm_ok h3, rfl⟩
    | false => cases h2; exact .inr ⟨rfl, rfl, rfl⟩
  · cases h
theorem compL_cons {g : Grd} {turn : D → Mu → Res (Option D)} {d : D} {r acc xs : List D} {μ μ' : Mu} (h : compL g turn (d :: r) acc μ = .ok xs μ') :
    stays μ g = true ∧ acc.length < lim ∧ ∃ o μ1, turn d μ = .ok o μ1 ∧ compL g turn r (match o with | some x => acc ++ [x] | none => acc) μ1 = .ok xs μ' := by
  unfold compL at h
  by_cases c : (stays μ g && decide (acc.length < lim)) = true
  · rw [if_pos c] at h
    rw [Bool.and_eq_true, decide_eq_true_eq] at c
    obtain ⟨o, μ1, h1, h2⟩ := bind_ok h
    exact ⟨c.1, c.2, o, μ1, h1, h2⟩
  · rw [if_neg c] at h; cases h
theorem compL_nil {g : Grd} {turn : D → Mu → Res (Option D)} {acc xs : List D} {μ μ' : Mu} (h : compL g turn [] acc μ = .ok xs μ') : stays μ g = true ∧ xs = acc ∧ μ' = μ := by
  unfold compL at h
  by_cases c : stays μ g = true
  · rw [if_pos c] at h; cases h; exact ⟨c, rfl, rfl⟩
  · rw [if_neg c] at h; cases h
theorem compL_stays {g : Grd} {turn : D → Mu → Res (Option D)} {l acc xs : List D} {μ μ' : Mu} (h : compL g turn l acc μ = .ok xs μ') : stays μ g = true := by
  cases l with
  | nil => exact (compL_nil h).1
  | cons d r => exact (compL_cons h).1
section
variable {X : Cx} {fa : Lay} {W : EW} {Z : EZ} {ms : Rho → Mu → Res (List D)} {mt : Rho → Mu → Res Bool} {me : Rho → Mu → Res D}
theorem comp_core {K : PySem.W.Frag} {m : Bool} {own : List Nat} {t : T} {k : IK} (hkn : fa.keep = none) (hv : ∀ j ∈ t.vars, j ∈ own) (σ : L2.St) (H : Hp) (Q : VK) (h : tE K fa W (evComp m own t k ms mt me) σ H Q) :
    tLc (iD K fa W k ms) (tG K fa t) (tT K fa W0 mt) (tE K fa W0 me) own σ H Q := by
  obtain ⟨φ, μ, ρ, A, R, h⟩ := h
  refine ⟨φ, μ, ρ, A, R, h.bind.imp fun ss μ1 φ1 H1 e1 A1 h1 => ?_⟩
  cases hit : itemsD k μ1 ss with
  | none => rw [hit] at h1; exact False.elim h1
  | some p =>
    obtain ⟨l, g⟩ := p
    rw [hit] at h1
    have h1 : Run K fa (W σ) φ1 H1 ((compL g (compT t own mt me ρ) l [] μ1).bind fun xs μ => if m then .ok (.loc μ.length) (μ ++ [.lst xs]) else .ok (.lst xs) μ) (toV K fa Q) := h1
    refine ⟨l, g, rfl, fun J w D hD => ?_⟩
    have hn : D ∉ φ1.hd := fun q => A1.notIn hD (.inr q)
    have R1 := R.ext e1
    cases hc : compL g (compT t own mt me ρ) l [] μ1 with
    | ex _ _ => exact absurd hc (compL_ex fun _ _ _ _ => compT_ex)
    | no => rw [hc] at h1; exact False.elim h1
    | ok xs μf =>
      rw [hc] at h1
      have hfin : ∀ φ' H', CS K fa φ1 H1 D xs φ' μf H' → Q (.ref D) H' := fun φ' H' c => by
        cases m with
        | false =>
          obtain ⟨x, A', r⟩ := c.out A1 hD
          exact h1 _ _ x A' _ r
        | true =>
          obtain ⟨x, A', r⟩ := c.outM A1 hD
          exact h1 _ _ x A' _ r
      have std : ∀ {acc φ' μ' H'}, CS K fa φ1 H1 D acc φ' μ' H' → stays μ' g = true → Std K fa g φ1 H1 φ' μ' H' := fun c hs => ⟨c.pre, c.keep, c.abs, hs⟩
      refine lc_it w (fun i H' => ∃ acc φ' μ', CS K fa φ1 H1 D acc φ' μ' H' ∧ compL g (compT t own mt me ρ) (l.drop i) acc μ' = .ok xs μf) ⟨[], _, μ1, CS.start A1 hD, by rw [List.drop_zero]; exact hc⟩ ?_ ?_ ?_
      · rintro i H' hi ⟨acc, φ', μ', c, hr⟩
        exact ⟨φ', μ', std c (compL_stays hr)⟩
      · rintro i v H' H'' hi ⟨acc, φ', μ', c, hr⟩ y
        obtain ⟨d, hd, x2, A2, rv⟩ := y φ' μ' (std c (compL_stays hr))
        have hdr : l.drop i = d :: l.drop (i + 1) := by
          obtain ⟨hl, e⟩ := List.getElem?_eq_some_iff.mp hd
          rw [← e]
          exact List.drop_eq_getElem_cons hl
        rw [hdr] at hr
        obtain ⟨hst, hz, o, μ2, hturn, hrest⟩ := compL_cons hr
        obtain ⟨ρ', b, μ3, hput, hb, hcase⟩ := compT_ok hturn
        have c2 := c.ext x2 A2
        have RW : REnv K fa (msk H'' φ') φ' (wipeR ρ own) (L2.wipe σ own) := (R1.mono c2.keep (fun _ _ q => pre_get c2.pre q)).wipe hkn own
        refine ⟨φ', μ', _, d, ρ', A2, RW, rv, hput, fun σ2 lk R2 => ⟨wipe_like hv lk, φ', μ', ρ', A2, R2, ?_⟩⟩
        rw [hb]
        intro φ3 H3 x3 A3
        have c3 := c2.ext x3 A3
        rcases hcase with ⟨rfl, x, hx, rfl⟩ | ⟨rfl, rfl, rfl⟩
        · show tE K fa W0 me σ2 H3 _
          refine ⟨φ3, μ3, ρ', A3, R2.ext x3, ?_⟩
          rw [hx]
          intro φ4 H4 x4 A4 yv ry
          have c4 := c3.ext x4 A4
          obtain ⟨vs, hvs, rs⟩ := c4.lst
          exact ⟨vs, hvs, by rw [rs.length, lim_eq]; exact hz, acc ++ [x], φ4, μ2, c4.app hn hvs ry, hrest⟩
        · exact ⟨acc, φ3, _, c3, hrest⟩
      · rintro H' ⟨acc, φ', μ', c, hr⟩
        rw [List.drop_length] at hr
        obtain ⟨_, rfl, rfl⟩ := compL_nil hr
        exact hfin φ' H' c
variable {elt tg iter : Expr} {ifs : List Expr} {scope : Scope} {own : List (Str × Nat)} {pos spos py : Pos} {m : Bool} {t : T} {k : IK}
theorem e_comp (hkn : fa.keep = none) (hc : X.calm = true) (hN : X.N.Nodup) (hi : PI X tg iter (iD X.K fa W k ms)) (ok : BlkOk X.N X.env.scope scope own) (hv : ∀ j ∈ t.vars, j ∈ own.map (·.2))
    (hg : ∀ (s : Shared) (H : Hp) (C : Addr) (cl : List (Str × Addr)) (fp : List Addr), PG (X.blk s H scope (compEnvC scope cl C X.env) fp) tg (tG X.K fa t))
    (ht : ∀ (s : Shared) (H : Hp) (C : Addr) (cl : List (Str × Addr)) (fp : List Addr), PTs (X.blk s H scope (compEnvC scope cl C X.env) fp) ifs (tT X.K fa W0 mt))
    (he : ∀ (s : Shared) (H : Hp) (C : Addr) (cl : List (Str × Addr)) (fp : List Addr), PE (X.blk s H scope (compEnvC scope cl C X.env) fp) elt (tE X.K fa W0 me)) (hs : ∀ x, foldedSetIterable iter X.env x = pure x) :
    PE X (.ListComp elt [⟨tg, iter, ifs, 0⟩] scope pos) (tE X.K fa W (evComp m (own.map (·.2)) t k ms mt me)) := PE.imp (pe_lc hc hN hi ok hg ht he hs) fun σ H Q h => comp_core hkn hv σ H Q h
theorem tE.mono {K : PySem.W.Frag} {mm : Rho → Mu → Res D} {σ : L2.St} {H : Hp} {Q Q' : VK} (h : tE K fa W mm σ H Q) (f : ∀ x H', Q x H' → Q' x H') : tE K fa W mm σ H Q' := by
  obtain ⟨φ, μ, ρ, A, R, h⟩ := h
  exact ⟨φ, μ, ρ, A, R, h.imp fun d μ1 φ1 H1 e1 A1 h1 v rv => f _ _ (h1 v rv)⟩
theorem s_setLc {i : Nat} {y : Str} (hkn : fa.keep = none) (hc : X.calm = true) (hN : X.N.Nodup) (hy : X.N[i]? = some y) (hyl : X.env.scope.names.lookup y = some .local)
    (hsw : swapsWith (.ListComp elt [⟨tg, iter, ifs, 0⟩] scope pos) (some (.Name y py)) spos.line X.env = pure true) (hi : PI X tg iter (iD X.K fa W k ms)) (ok : BlkOk X.N X.env.scope scope own) (hv : ∀ j ∈ t.vars, j ∈ own.map (·.2))
    (hg : ∀ (s : Shared) (H : Hp) (C : Addr) (cl : List (Str × Addr)) (fp : List Addr), PG (X.blk s H scope (compEnvC scope cl C X.env) fp) tg (tG X.K fa t))
    (ht : ∀ (s : Shared) (H : Hp) (C : Addr) (cl : List (Str × Addr)) (fp : List Addr), PTs (X.blk s H scope (compEnvC scope cl C X.env) fp) ifs (tT X.K fa W0 mt))
    (he : ∀ (s : Shared) (H : Hp) (C : Addr) (cl : List (Str × Addr)) (fp : List Addr), PE (X.blk s H scope (compEnvC scope cl C X.env) fp) elt (tE X.K fa W0 me)) (hs : ∀ x, foldedSetIterable iter X.env x = pure x) :
    PS X (.Assign [.Name y py] (.ListComp elt [⟨tg, iter, ifs, 0⟩] scope pos) spos) (tS X.K fa W (evAsg (.nm i) (evComp m (own.map (·.2)) t k ms mt me))) := PS.imp (ps_setLc hc hN hy hyl hsw hi ok hg ht he hs) fun D σ H h => by
  have h2 := asg_core (te := tE X.K fa W _) D σ H (fun Q q => q) h
  refine comp_core hkn hv σ H _ (tE.mono h2 fun x H' q => ?_)
  obtain ⟨φ, μ, ρ, d, ρ', A, R, rv, e, q⟩ := q
  unfold T.put at e
  cases e
  refine q _ ⟨by rw [List.length_set], fun j hj => ?_⟩ (R.set (fun v e => by rw [hkn] at e; cases e) rv)
  rw [List.getElem?_set_ne (fun e => hj (by unfold T.vars; simp [e]))]
end
end Ev

set_option Elab.async false
set_option linter.all false
set_option maxRecDepth 100000
set_option maxHeartbeats 1000000
/-! Calls: a def's promise, its end. -/
namespace Ev
open PySem PySem.Spec PyProof.Rows L2
section
variable {K : PySem.W.Frag} {fa : Lay} {W : EW} {Z : EZ} {φ φ' : Ph} {H H' G G' : Hp} {μ μ' : Mu}
mutual
theorem RV.closed : ∀ (d : D) (v : V), RV K fa G φ d v → d.closed φ.sh.length = true
  | .non, _, _ => rfl
  | .bl _, _, _ => rfl
  | .int _, _, _ => rfl
  | .str _, _, _ => rfl
  | .fn k l, v, h => by
    unfold RV at h
    unfold D.closed
    by_cases hk : k < LB
    · rw [if_pos hk] at h
      rw [h.1]
      rfl
    · rw [if_neg hk] at h
      obtain ⟨ci, _, _, _, _, hr⟩ := h
      exact RVs.closed l _ hr
  | .tup l, v, h => by
    unfold RV at h
    obtain ⟨a, vs, e, hs, hr⟩ := h
    unfold D.closed
    exact RVs.closed l vs hr
  | .lst l, v, h => by
    unfold RV at h
    obtain ⟨a, vs, e, hs, hr⟩ := h
    unfold D.closed
    exact RVs.closed l vs hr
  | .loc n, v, h => by
    unfold RV at h
    obtain ⟨a, ha, e⟩ := h
    unfold D.closed
    exact decide_eq_true (List.getElem?_eq_some_iff.mp ha).1
theorem RVs.closed : ∀ (l : List D) (vs : List V), RVs K fa G φ l vs → D.closedL φ.sh.length l = true
  | [], _, _ => rfl
  | d :: ds, vs, h => by
    unfold RVs at h
    obtain ⟨v, r, e, h1, h2⟩ := h
    unfold D.closedL
    rw [Bool.and_eq_true]
    exact ⟨RV.closed d v h1, RVs.closed ds r h2⟩
end
mutual
theorem RV.low (hG : Same G G') (hp : ∀ (n : Nat) (a : Addr), n < φ.sh.length → φ'.sh[n]? = some a → φ.sh[n]? = some a) : ∀ (d : D) (v : V), d.closed φ.sh.length = true → RV K fa G φ' d v → RV K fa G' φ d v
  | .non, _, _, h => by unfold RV at *; exact h
  | .bl _, _, _, h => by unfold RV at *; exact h
  | .int _, _, _, h => by unfold RV at *; exact h
  | .str _, _, _, h => by unfold RV at *; exact h
  | .fn k l, v, c, h => by
    unfold RV at *
    unfold D.closed at c
    by_cases hk : k < LB
    · rw [if_pos hk] at *; exact h
    · rw [if_neg hk] at *
      obtain ⟨ci, e1, e2, e3, e4, hr⟩ := h
      exact ⟨ci, e1, e2, e3, hG _ _ e4, RVs.low hG hp l _ c hr⟩
  | .tup l, v, c, h => by
    unfold RV at *
    obtain ⟨a, vs, e, hs, hr⟩ := h
    unfold D.closed at c
    exact ⟨a, vs, e, Same.seqT hG hs, RVs.low hG hp l vs c hr⟩
  | .lst l, v, c, h => by
    unfold RV at *
    obtain ⟨a, vs, e, hs, hr⟩ := h
    unfold D.closed at c
    exact ⟨a, vs, e, Same.sqL hG hs, RVs.low hG hp l vs c hr⟩
  | .loc n, v, c, h => by
    unfold RV at *
    obtain ⟨a, ha, e⟩ := h
    unfold D.closed at c
    exact ⟨a, hp n a (of_decide_eq_true c) ha, e⟩
theorem RVs.low (hG : Same G G') (hp : ∀ (n : Nat) (a : Addr), n < φ.sh.length → φ'.sh[n]? = some a → φ.sh[n]? = some a) : ∀ (l : List D) (vs : List V), D.closedL φ.sh.length l = true → RVs K fa G φ' l vs → RVs K fa G' φ l vs
  | [], _, _, h => by unfold RVs at *; exact h
  | d :: ds, vs, c, h => by
    unfold RVs at *
    obtain ⟨v, r, e, h1, h2⟩ := h
    unfold D.closedL at c
    rw [Bool.and_eq_true] at c
    exact ⟨v, r, e, RV.low hG hp d v c.1 h1, RVs.low hG hp ds r c.2 h2⟩
end
theorem RFs.closed : ∀ {l : List (Nat × D)} {vs : List (Str × V)}, RFs K fa G φ l vs → ∀ p ∈ l, p.2.closed φ.sh.length = true
  | [], _, _ => fun p hp => by cases hp
  | q :: r, vs, h => fun p hp => by
    obtain ⟨v, q', rfl, h1, h2, h3⟩ := h
    rcases List.mem_cons.mp hp with rfl | hp
    · exact RV.closed _ _ h2
    · exact RFs.closed h3 p hp
theorem RDs.closed : ∀ {l : List (D × D)} {vs : List (L2.Key × V)}, RDs K fa G φ l vs → ∀ p ∈ l, p.2.closed φ.sh.length = true
  | [], _, _ => fun p hp => by cases hp
  | q :: r, vs, h => fun p hp => by
    obtain ⟨k, v, q', rfl, h1, h2, h3⟩ := h
    rcases List.mem_cons.mp hp with rfl | hp
    · exact RV.closed _ _ h2
    · exact RDs.closed h3 p hp
theorem RFs.low (hG : Same G G') (hp : ∀ (n : Nat) (a : Addr), n < φ.sh.length → φ'.sh[n]? = some a → φ.sh[n]? = some a) : ∀ (l : List (Nat × D)) (vs : List (Str × V)), (∀ p ∈ l, p.2.closed φ.sh.length = true) → RFs K fa G φ' l vs → RFs K fa G' φ l vs
  | [], _, _, h => h
  | q :: r, vs, c, h => by
    obtain ⟨v, q', e, h1, h2, h3⟩ := h
    exact ⟨v, q', e, h1, RV.low hG hp _ v (c _ List.mem_cons_self) h2, RFs.low hG hp r q' (fun p hp => c p (List.mem_cons_of_mem _ hp)) h3⟩
theorem RXs.closed : ∀ {l : List (D × D)} {vs : List (NestedKey × Addr × Value)}, RXs K fa G φ l vs → ∀ p ∈ l, p.2.closed φ.sh.length = true
  | [], _, _, p, hp => by cases hp
  | x :: r, _, h, p, hp => by
    obtain ⟨b, u, v, q, e1, h1, h2, h3, h4, h5⟩ := h
    rcases List.mem_cons.mp hp with rfl | hp
    · exact RV.closed _ _ h4
    · exact RXs.closed h5 p hp
mutual
theorem nk_flat : ∀ d : D, isNK d = true → d.flat = true
  | .non, _ => rfl
  | .int _, _ => rfl
  | .str _, _ => rfl
  | .bl _, h => by unfold isNK at h; cases h
  | .lst _, h => by unfold isNK at h; cases h
  | .loc _, h => by unfold isNK at h; cases h
  | .fn _ _, h => by unfold isNK at h; cases h
  | .tup l, h => by unfold isNK at h; unfold D.flat; exact nk_flatL l h
theorem nk_flatL : ∀ l : List D, isNKs l = true → D.flatL l = true
  | [], _ => rfl
  | d :: r, h => by
    unfold isNKs at h
    unfold D.flatL
    rw [Bool.and_eq_true] at h ⊢
    exact ⟨nk_flat d h.1, nk_flatL r h.2⟩
end
theorem kt_flat {d : D} (h : isKT d = true) : d.flat = true := by
  cases d with
  | tup l => unfold isKT at h; rw [Bool.and_eq_true] at h; unfold D.flat; exact nk_flatL l h.1
  | _ => cases h
theorem RXs.low (hG : Same G G') (hp : ∀ (n : Nat) (a : Addr), n < φ.sh.length → φ'.sh[n]? = some a → φ.sh[n]? = some a) : ∀ (l : List (D × D)) (vs : List (NestedKey × Addr × Value)), (∀ p ∈ l, p.2.closed φ.sh.length = true) → RXs K fa G φ' l vs → RXs K fa G' φ l vs
  | [], _, _, h => h
  | p :: r, _, c, h => by
    obtain ⟨b, u, v, q, e1, h1, h2, h3, h4, h5⟩ := h
    exact ⟨b, u, v, q, e1, h1, RV.low hG hp _ _ (flat_closed _ _ (kt_flat h1)) h2, h3, RV.low hG hp _ v (c _ List.mem_cons_self) h4, RXs.low hG hp r q (fun p hp => c p (List.mem_cons_of_mem _ hp)) h5⟩
theorem RDs.low (hG : Same G G') (hp : ∀ (n : Nat) (a : Addr), n < φ.sh.length → φ'.sh[n]? = some a → φ.sh[n]? = some a) : ∀ (l : List (D × D)) (vs : List (L2.Key × V)), (∀ p ∈ l, p.2.closed φ.sh.length = true) → RDs K fa G φ' l vs → RDs K fa G' φ l vs
  | [], _, _, h => h
  | q :: r, vs, c, h => by
    obtain ⟨k, v, q', e, h1, h2, h3⟩ := h
    exact ⟨k, v, q', e, h1, RV.low hG hp _ v (c _ List.mem_cons_self) h2, RDs.low hG hp r q' (fun p hp => c p (List.mem_cons_of_mem _ hp)) h3⟩
theorem ext_sub (x : Ext φ H φ' H') {a : Addr} (h : a ∈ φ) : a ∈ φ' := by
  obtain ⟨t, e⟩ := x.pre
  rcases h with h | h
  · exact .inl (by rw [e]; exact List.mem_append_left _ h)
  · exact .inr (by rw [x.hd]; exact h)
theorem ext_pre (x : Ext φ H φ' H') (n : Nat) (a : Addr) (hn : n < φ.sh.length) (h : φ'.sh[n]? = some a) : φ.sh[n]? = some a := by
  obtain ⟨t, e⟩ := x.pre
  rw [e, List.getElem?_append_left hn] at h
  exact h
theorem ext_same (x : Ext φ H φ' H') : Same (msk H' φ') (msk H' φ) := fun a o h => by
  obtain ⟨h1, h2⟩ := msk_some h
  rw [msk_out fun q => h1 (ext_sub x q)]
  exact h2
/-- back to the shared objects that stood -/
theorem abs_cut (A : Abs K fa φ μ H) (x : Ext φ H φ' H') (A' : Abs K fa φ' μ' H') (c : cutOk μ.length μ μ' = true) : Ext φ H φ H' ∧ Abs K fa φ (μ'.take μ.length) H' := by
  have hlen : μ.length ≤ μ'.length := by
    obtain ⟨t, e⟩ := x.pre
    rw [← A.len, ← A'.len, e, List.length_append]
    omega
  refine ⟨⟨⟨[], by simp⟩, rfl, x.hold, fun a o h => ext_same x a o (x.keep a o h)⟩, ⟨?_, A.nd, fun a h => ⟨(A.hid a h).1, ?_⟩, fun i a q h1 h2 => ?_, fun p hp => ?_⟩⟩
  · rw [List.length_take, A.len]; omega
  · exact (A'.hid a (by rw [x.hd]; exact h)).2
  · have hi : i < φ.sh.length := (List.getElem?_eq_some_iff.mp h1).1
    have hi' : i < μ.length := by rw [← A.len]; exact hi
    rw [List.getElem?_take_of_lt hi'] at h2
    have r := A'.cell i a q (x.phi h1) h2
    have ci : μ[i]? = some q ∨ q.flat = true := by
      unfold cutOk at c
      rw [List.all_eq_true] at c
      have ci := c i (List.mem_range.mpr hi')
      rw [Bool.or_eq_true] at ci
      rcases ci with ci | ci
      · have ci := of_decide_eq_true ci
        rw [h2] at ci
        exact .inl ci.symm
      · rw [h2] at ci
        exact .inr ci
    cases q with
    | lst l =>
      obtain ⟨vs, e, rs⟩ := r
      refine ⟨vs, e, RVs.low (ext_same x) (ext_pre x) _ _ ?_ rs⟩
      rcases ci with ci | ci
      · obtain ⟨vs, _, rs⟩ := A.cell i a _ h1 ci
        exact RVs.closed _ _ rs
      · exact flat_closedL _ _ ci
    | dct l =>
      obtain ⟨vs, e, rs⟩ := r
      refine ⟨vs, e, RDs.low (ext_same x) (ext_pre x) _ _ ?_ rs⟩
      rcases ci with ci | ci
      · obtain ⟨vs, _, rs⟩ := A.cell i a _ h1 ci
        exact RDs.closed rs
      · intro p hp
        have := List.all_eq_true.mp (show (l.all fun p => p.1.flat && p.2.flat) = true from ci) p hp
        rw [Bool.and_eq_true] at this
        exact flat_closed _ _ this.2
    | dtt l =>
      obtain ⟨vs, e, rs⟩ := r
      refine ⟨vs, e, RXs.low (ext_same x) (ext_pre x) _ _ ?_ rs⟩
      rcases ci with ci | ci
      · obtain ⟨vs, _, rs⟩ := A.cell i a _ h1 ci
        exact RXs.closed rs
      · intro p hp
        have := List.all_eq_true.mp (show (l.all fun p => p.1.flat && p.2.flat) = true from ci) p hp
        rw [Bool.and_eq_true] at this
        exact flat_closed _ _ this.2
    | obj cc fs =>
      obtain ⟨dx, vs, e, rs⟩ := r
      refine ⟨dx, vs, e, RFs.low (ext_same x) (ext_pre x) _ _ ?_ rs⟩
      rcases ci with ci | ci
      · obtain ⟨dx, vs, _, rs⟩ := A.cell i a _ h1 ci
        exact RFs.closed rs
      · intro p hp
        exact flat_closed _ _ (List.all_eq_true.mp (show (fs.all fun p => p.2.flat) = true from ci) p hp)
  · obtain ⟨h1, ps, h2, h3, h4⟩ := A'.tab p hp
    refine ⟨by rw [← x.hd]; exact h1, ps, h2, h3, fun pos cv q => ?_⟩
    obtain ⟨z, e1, e2⟩ := h4 pos cv q
    exact ⟨z, e1, ext_same x _ _ e2⟩
theorem fin_run {Q : VK} {d : D} (A : Abs K fa φ μ H) (h : Run K fa Z φ H (fin μ μ' d) (toV K fa Q)) {v : V} (x : Ext φ H φ' H') (A' : Abs K fa φ' μ' H') (rv : RV K fa (msk H' φ') φ' d v) : Q v H' := by
  unfold fin at h
  by_cases c : cutOk μ.length μ μ' = true
  · rw [if_pos c] at h
    obtain ⟨x2, A2⟩ := abs_cut A x A' c
    have plain : ∀ (d : D), RV K fa (msk H' φ') φ' d v → Run K fa Z φ H (if d.closed μ.length then .ok d (μ'.take μ.length) else .no) (toV K fa Q) → Q v H' := fun d rv h => by
      by_cases cd : d.closed μ.length = true
      · rw [if_pos cd] at h
        exact h φ H' x2 A2 v (RV.low (ext_same x) (ext_pre x) d v (by rw [A.len]; exact cd) rv)
      · rw [if_neg cd] at h; exact False.elim h
    cases d with
    | loc n =>
      dsimp only at h
      obtain ⟨a, ha, rfl⟩ := rv_loc rv
      by_cases hn : n < μ.length
      · rw [if_pos hn] at h
        exact h φ H' x2 A2 _ (mk_loc (ext_pre x n a (by rw [A.len]; exact hn) ha))
      · rw [if_neg hn] at h
        cases hm : μ'[n]? with
        | none => rw [hm] at h; exact False.elim h
        | some q =>
          rw [hm] at h
          cases q with
          | lst l =>
            dsimp only at h
            by_cases cl : D.closedL μ.length l = true
            · rw [if_pos cl] at h
              obtain ⟨vs, e, rs⟩ := A'.cell n a _ ha hm
              refine h φ H' x2 A2 _ (mk_lst (vs := vs) (.inl (.inl ?_)) (RVs.low (ext_same x) (ext_pre x) _ _ (by rw [A.len]; exact cl) rs))
              rw [msk_out, e]
              rintro (q | q)
              · obtain ⟨i, hi, e2⟩ := List.mem_iff_getElem.mp q
                have h1 : φ'.sh[i]? = some a := x.phi (by rw [List.getElem?_eq_getElem hi, e2])
                obtain ⟨p1, e3⟩ := List.getElem?_eq_some_iff.mp h1
                obtain ⟨p2, e4⟩ := List.getElem?_eq_some_iff.mp ha
                have := (List.getElem_inj A'.nd).mp (e3.trans e4.symm)
                rw [A.len] at hi
                omega
              · exact (A'.hid a (by rw [x.hd]; exact q)).1 (List.mem_of_getElem? ha)
            · rw [if_neg cl] at h; exact False.elim h
          | _ => exact False.elim h
    | non => exact plain _ rv h
    | bl _ => exact plain _ rv h
    | int _ => exact plain _ rv h
    | str _ => exact plain _ rv h
    | tup _ => exact plain _ rv h
    | lst _ => exact plain _ rv h
    | fn _ _ => exact plain _ rv h
  · rw [if_neg c] at h; exact False.elim h
theorem ends_run {Q : VK} {fz : Bool} {o : Out} (A : Abs K fa φ μ H) (h : Run K fa Z φ H (ends fz μ o) (toV K fa Q)) : RunO K fa (fun _ => Z) φ H o { nx := fun _ H' => Q .non H', rt := Q } := by
  cases o with
  | nx ρ' μ' =>
    intro φ' H' σ' x A' R
    cases fz with
    | false => exact h φ' H' x A' _ mk_non
    | true => exact fin_run A (show Run K fa Z φ H (fin μ μ' .non) (toV K fa Q) from h) x A' mk_non
  | rt d μ' =>
    intro φ' H' v x A' rv
    cases fz with
    | false => exact h φ' H' x A' _ rv
    | true => exact fin_run A (show Run K fa Z φ H (fin μ μ' d) (toV K fa Q) from h) x A' rv
  | ex e _ μ' =>
    intro φ' H' σ' x A' R
    cases fz with
    | false => exact h φ' H' x A'
    | true =>
      unfold ends at h
      dsimp only at h
      by_cases c : (cutOk μ.length μ μ' && e.val.closed μ.length) = true
      · rw [if_pos rfl, if_pos c] at h
        rw [Bool.and_eq_true] at c
        obtain ⟨x2, A2⟩ := abs_cut A x A' c.1
        exact h φ H' x2 A2
      · rw [if_pos rfl, if_neg c] at h; exact False.elim h
  | bk _ _ => exact False.elim h
  | ct _ _ => exact False.elim h
  | no => exact h
end
/-- a def's promise -/
def spN (K : PySem.W.Frag) (fa : Lay) (G : Nat → Option D) (F : Nat → Option Fn) (n f : Nat) : Sp := fun vs H Q E => ∃ φ μ ds, Abs K fa φ μ H ∧ RVs K fa (msk H φ) φ ds vs ∧ Run K fa (fun x H' => E (.ref (fa.cl x.cls)) none H') φ H (run G F n f ds μ) (toV K fa Q)
theorem run_len {G : Nat → Option D} {F : Nat → Option Fn} {n f : Nat} {fd : Fn} {ds : List D} {μ : Mu} {d : D} {μ' : Mu} (hf : F f = some fd) (h : run G F n f ds μ = .ok d μ') : ds.length = fd.np := by
  cases n with
  | zero => cases h
  | succ n =>
    unfold run at h
    rw [hf] at h
    dsimp only at h
    by_cases c : ds.length = fd.np
    · exact c
    · rw [if_neg c] at h; cases h
theorem run_lenX {G : Nat → Option D} {F : Nat → Option Fn} {n f : Nat} {fd : Fn} {ds : List D} {μ : Mu} {x : Ex} {μ' : Mu} (hf : F f = some fd) (h : run G F n f ds μ = .ex x μ') : ds.length = fd.np := by
  cases n with
  | zero => cases h
  | succ n =>
    unfold run at h
    rw [hf] at h
    dsimp only at h
    by_cases c : ds.length = fd.np
    · exact c
    · rw [if_neg c] at h; cases h
theorem start_env {K : PySem.W.Frag} {fa : Lay} {G : Hp} {φ : Ph} {ds : List D} {vs : List V} {N : List Str} (hkn : fa.keep = none) (r : RVs K fa G φ ds vs) : REnv K fa G φ (ds.map some ++ List.replicate (N.length - ds.length) none) (L2.start N vs) := by
  refine ⟨by unfold L2.start; rw [List.length_append, List.length_append, List.length_map, List.length_map, List.length_replicate, List.length_replicate, r.length], fun i d h => ?_, fun i v e => by rw [hkn] at e; cases e⟩
  by_cases hi : i < ds.length
  · rw [List.getElem?_append_left (by rw [List.length_map]; exact hi), List.getElem?_map] at h
    obtain ⟨d', e1, e2⟩ := ofmap h
    cases e2
    obtain ⟨v, hv, rv⟩ := r.get e1
    refine ⟨v, ?_, rv⟩
    unfold L2.start
    rw [List.getElem?_append_left (by rw [List.length_map, r.length]; exact hi), List.getElem?_map, hv]
    rfl
  · rw [List.getElem?_append_right (by rw [List.length_map]; omega), List.getElem?_replicate] at h
    split at h <;> cases h
section
variable {P : Program} {w : World} {K : PySem.W.Frag} {mg : Str → Option Value} {base : Heap} {fa : Lay} {W : EW} {Z : EZ} {G : Nat → Option D} {F : Nat → Option Fn}
theorem fn_zero {f : Addr} {fd : FuncData} {ps : List Str} {i : Nat} : FnOk P w K mg base (L2.CX P w) 0 f fd ps (spN K fa G F 0 i) :=
  ⟨fun vs H Q E h => let ⟨φ, μ, ds, A, r, q⟩ := h; False.elim q, fun A outer s H args us vs Q E hr he hb hv h => let ⟨φ, μ, ds, A, r, q⟩ := h; False.elim q⟩
/-- a def by its body's look -/
theorem fn_ev {n i lv : Nat} {x qual : Str} {st : Stmt} {f : Addr} {fd : FuncData} {N ps : List Str} {e : Fn} (hkn : fa.keep = none) (Fu : FunD K x qual (defArgs st) (defBody st) (defScope st) [] [] f fd) (S : FnScope N ps (defScope st)) (he : F i = some e) (hp : ps.length = e.np) (hN : N.length = e.nn)
    (hbody : ∀ (cdv : Value) (A : Around) (outer : List Env) (s : Shared) (H : Hp) (E : XK), Room lv (A.deeper (envOfC qual (defScope st) s.heap.objs.size f cdv)) →
      PSs (cxOf (L2.CX P w) P w K mg base N qual (defScope st) f cdv A outer s H E) (defBody st) (tS K fa (fun _ x H' => E (.ref (fa.cl x.cls)) none H') (exSs G (run G F n) e.body))) : FnOk P w K mg base (L2.CX P w) (lv + 1) f fd ps (spN K fa G F (n + 1) i) := by
  have len : ∀ vs H Q E, spN K fa G F (n + 1) i vs H Q E → vs.length = ps.length := fun vs H Q E h => by
    obtain ⟨φ, μ, ds, A, r, q⟩ := h
    cases hr : run G F (n + 1) i ds μ with
    | ok d μ' => rw [r.length, run_len he hr, hp]
    | ex _ _ => rw [r.length, run_lenX he hr, hp]
    | no => rw [hr] at q; exact False.elim q
  refine Fu.ok S len fun cdv A outer s H vs Q E hr h => ⟨_, hbody cdv A outer s H E hr, ?_⟩
  have hl := len vs H Q E h
  obtain ⟨φ, μ, ds, Ab, r, q⟩ := h
  refine ⟨φ, μ, _, Ab, start_env (N := N) hkn r, ?_⟩
  unfold run at q
  rw [he] at q
  dsimp only at q
  rw [if_pos (by rw [← hp, ← hl, r.length]), ← hN] at q
  exact ends_run Ab q
end
section
variable {X : Cx} {fa : Lay} {W : EW} {Z : EZ} {G : Nat → Option D} {F : Nat → Option Fn} {ms : Rho → Mu → Res (List D)} {n i : Nat} {x : Str} {p pos : Pos} {e : Expr} {es : List Expr} {f : Addr} {fd : FuncData} {ps : List Str}
/-- what the wish at slots is, as the machine has it -/
def Wis (X : Cx) (fa : Lay) (W : EW) : Prop := ∃ Wm : WX, Takes X Wm ∧ ∀ σ x H, W σ x H → Wm (.ref (fa.cl x.cls)) none σ H
theorem e_call {lv : Nat} (hW : Wis X fa W) (Fo : FnOk X.prog X.w X.K X.mg X.base (L2.CX X.prog X.w) lv f fd ps (spN X.K fa G F n i)) (hr : Room lv X.A) (hg : Gl X x) (hm : X.mg x = some (.ref f)) (hk : PySem.W.keepIn X.K (.ref f) = true) (hb : Binds X.K fd ps [])
    (ha : PA X (e :: es) (tA X.K fa W ms)) (hdb : (x == ("__debug__" : Str)) = false) (he : starEach (e :: es) X.env = (false, eval e X.env) :: starEach es X.env) (hpl : (backTo pos (starEach es X.env)).any (·.1) = false) :
    PE X (.Call (.Name x p) (e :: es) [] pos) (tE X.K fa W fun ρ μ => (ms ρ μ).bind fun ds μ => run G F n i ds μ) := by
  obtain ⟨Wm, tk, hWm⟩ := hW
  refine PE.imp (pe_callS (E := WE Wm) Fo hr hg hm hk hb (fun σ => passAt tk σ) ha hdb he hpl) fun σ H Q h => ?_
  obtain ⟨φ, μ, ρ, A, R, h⟩ := h
  refine ⟨φ, μ, ρ, A, R, h.bind.imp fun ds μ1 φ1 H1 e1 A1 h1 vs rs => ?_⟩
  exact ⟨φ1, μ1, ds, A1, rs, h1.wish fun x H => hWm σ x H⟩
theorem pe_callS0 {CX : CXT} {sp : Sp} {E : L2.St → XK} {k : Nat} (F : FnOk X.prog X.w X.K X.mg X.base CX k f fd ps sp) (hr : Room k X.A) (hg : Gl X x) (hm : X.mg x = some (.ref f)) (hk : PySem.W.keepIn X.K (.ref f) = true) (hb : Binds X.K fd ps []) (hx : ∀ σ, PassesAt CX X σ (E σ))
    (hdb : (x == ("__debug__" : Str)) = false) : PE X (.Call (.Name x p) [] [] pos) (tCallS sp E tNil) := by
  refine ⟨fun pins s σ H Q I h => ?_⟩
  refine wpAny_Call_Name_kw (ld_glob I hg hm ?_ hdb)
  exact PySem.W.callWith_K0 I.kIn hk (run_fnS (us := []) F hr hb (hx σ) I .nil h)
theorem e_call0 {lv : Nat} (hW : Wis X fa W) (Fo : FnOk X.prog X.w X.K X.mg X.base (L2.CX X.prog X.w) lv f fd ps (spN X.K fa G F n i)) (hr : Room lv X.A) (hg : Gl X x) (hm : X.mg x = some (.ref f)) (hk : PySem.W.keepIn X.K (.ref f) = true) (hb : Binds X.K fd ps [])
    (hdb : (x == ("__debug__" : Str)) = false) : PE X (.Call (.Name x p) [] [] pos) (tE X.K fa W fun ρ μ => (Res.ok [] μ).bind fun ds μ => run G F n i ds μ) := by
  obtain ⟨Wm, tk, hWm⟩ := hW
  refine PE.imp (pe_callS0 (E := WE Wm) Fo hr hg hm hk hb (fun σ => passAt tk σ) hdb) fun σ H Q h => ?_
  obtain ⟨φ, μ, ρ, A, R, h⟩ := h
  exact ⟨φ, μ, [], A, RVs.nil, (show Run X.K fa (W σ) φ H (run G F n i [] μ) _ from h).wish fun x H => hWm σ x H⟩
theorem e_dict0 : PE X (.Dict [] [] pos) (tE X.K fa W fun _ μ => .ok (.loc μ.length) (μ ++ [.dct []])) := PE.imp pe_dnewK fun σ H Q h => by
  obtain ⟨φ, μ, ρ, A, R, h⟩ := h
  intro p hp
  obtain ⟨x1, A1⟩ := Abs.push (o := .dK []) (c := .dct []) A hp ⟨[], upd_same, rfl⟩
  refine h _ _ x1 A1 _ (mk_loc ?_)
  show (φ.sh ++ [p])[μ.length]? = some p
  rw [← A.len, List.getElem?_append_right (Nat.le_refl _), Nat.sub_self]
  rfl
end
end Ev

set_option Elab.async false
set_option linter.all false
set_option maxRecDepth 100000
set_option maxHeartbeats 1000000
/-! Objects, exceptions. -/
namespace Ev
open PySem PySem.Spec PyProof.Rows L2
theorem meth_form {o : Expr} {y : Str} {ap pos : Pos} {env : Env} {es : List Expr} (hb : attributeBase o y env (eval o env) = eval o env) (hl : (ap.endLine == pos.line) = true)
    (hf : methodCallForm (es.length + ([] : List Keyword).length) (backTo pos (starEach es env)) (backToKw pos (keywordEach [] env)) = true) :
    eval (.Call (.Attribute o y ap) es [] pos) env = (do
      let ov ← eval o env
      standAt ap.atName
      let (f, first) ← holding [ov] (getMethod ov y (do return (← importBound o env).getD true))
      callWith pos f first (backTo pos (starEach es env)) (backToKw pos (keywordEach [] env))) := by
  conv => lhs; unfold eval
  rw [hb]
  congr 1
  funext ov
  congr 1
  funext _
  unfold methodCall
  rw [hf]
  unfold calleeOf methodCallPos
  rw [if_pos rfl, hl]
  simp only [Bool.not_true, Bool.false_or, if_true, pure_bind]
section
variable {X : Cx} {CX : CXT} {k : Nat} {f C : Addr} {fd : FuncData} {ps : List Str} {sp : Sp} {E : L2.St → XK} {x m : Str} {p pos apos : Pos} {e o : Expr} {es : List Expr} {ta : TE} {t : TA}
def tMethS (C : Addr) (m : Str) (sp : Sp) (E : L2.St → XK) (ta : TE) (t : TA) : TE := fun σ H Q => ta σ H fun x H1 => ∃ a dx fs, x = .ref a ∧ H1 a = some (.ins C dx fs) ∧ fs.lookup m = none ∧
  t σ H1 fun vs H2 => sp (x :: vs) H2 Q (E σ)
theorem pe_methS {pl : Sem Bool} (he : PE X o ta) (c : Cls X.K C) (hm : Meth X.K C m f) (F : FnOk X.prog X.w X.K X.mg X.base CX k f fd ps sp) (hr : Room k X.A) (hb : Binds X.K fd ps []) (hx : ∀ σ, PassesAt CX X σ (E σ)) (ha : PA X (e :: es) t)
    (hst : starEach (e :: es) X.env = (false, eval e X.env) :: starEach es X.env) (hpl : (backTo pos (starEach es X.env)).any (·.1) = false)
    (ht : eval (.Call (.Attribute o m apos) (e :: es) [] pos) X.env = (do
      let ov ← eval o X.env
      standAt apos.atName
      let (f, first) ← holding [ov] (getMethod ov m pl)
      callWith pos f first (backTo pos (starEach (e :: es) X.env)) (backToKw pos (keywordEach [] X.env)))) :
    PE X (.Call (.Attribute o m apos) (e :: es) [] pos) (tMethS C m sp E ta t) := by
  refine ⟨fun pins s σ H Q I h => ?_⟩
  refine PySem.W.methodCall_KW (pl := pl) (thn (he.run pins s σ H _ I h) fun u s1 ⟨x, H1, I1, rx, a, dx, fs, ex, ea, l, q⟩ => ?_) ht
  subst ex
  obtain rfl : u = Value.ref a := rx
  refine getmeth_ok I1 ea c hm l ?_
  refine PySem.W.callWith_K (first := [.ref a]) (h₀ := X.base) I.ok.mod.kin hm.kp (thn (ha.run pos pins s1 σ H1 _ I1 q) fun us s2 ⟨vs, H2, I2, r, q2⟩ => ⟨I2.kIn, ?_⟩) hst hpl
  exact run_fnS (us := .ref a :: us) (vs := .ref a :: vs) F hr hb (hx σ) I2 (.cons rfl r) q2
theorem pe_methS0 {pl : Sem Bool} (he : PE X o ta) (c : Cls X.K C) (hm : Meth X.K C m f) (F : FnOk X.prog X.w X.K X.mg X.base CX k f fd ps sp) (hr : Room k X.A) (hb : Binds X.K fd ps []) (hx : ∀ σ, PassesAt CX X σ (E σ))
    (ht : eval (.Call (.Attribute o m apos) [] [] pos) X.env = (do
      let ov ← eval o X.env
      standAt apos.atName
      let (f, first) ← holding [ov] (getMethod ov m pl)
      callWith pos f first (backTo pos (starEach [] X.env)) (backToKw pos (keywordEach [] X.env)))) :
    PE X (.Call (.Attribute o m apos) [] [] pos) (tMethS C m sp E ta tNil) := by
  refine ⟨fun pins s σ H Q I h => ?_⟩
  refine PySem.W.methodCall_KW (pl := pl) (thn (he.run pins s σ H _ I h) fun u s1 ⟨x, H1, I1, rx, a, dx, fs, ex, ea, l, q⟩ => ?_) ht
  subst ex
  obtain rfl : u = Value.ref a := rx
  refine getmeth_ok I1 ea c hm l ?_
  exact PySem.W.callWith_K0 (first := [.ref a]) I1.kIn hm.kp (run_fnS (us := [.ref a]) (vs := [.ref a]) F hr hb (hx σ) I1 (.cons rfl .nil) q)
def tMakeS (C : Addr) (sp : Sp) (E : L2.St → XK) (t : TA) : TE := fun σ H Q => t σ H fun vs H1 => ∀ x dx, H1 x = none → H1 dx = none → dx ≠ x →
  sp (.ref x :: vs) (upd (upd H1 dx (.own x)) x (.ins C dx [])) (fun v H2 => v = .non ∧ Q (.ref x) H2) (E σ)
theorem run_makeS {pins : List (Addr × Obj)} {σ : L2.St} {H : Hp} {s : Shared} {Q : VK} {us : List Value} {vs : List V} (M : Mk X.K C f) (F : FnOk X.prog X.w X.K X.mg X.base CX k f fd ps sp) (hr : Room (k + 1) X.A) (hb : Binds X.K fd ps [])
    (hx : PassesAt CX X σ (E σ)) (I : Inv X pins σ H s) (r : Vals vs us)
    (h : ∀ x dx, H x = none → H dx = none → dx ≠ x → sp (.ref x :: vs) (upd (upd H dx (.own x)) x (.ins C dx [])) (fun v H2 => v = .non ∧ Q (.ref x) H2) (E σ)) :
    wpAny (model X.prog X.w) X.A (call (.ref C) us) (EP X pins σ Q) X.xe s := by
  have hq := h (s.heap.objs.size + 1) s.heap.objs.size (I.hok.fresh (Nat.le_succ _)) (I.hok.fresh (Nat.le_refl _)) (Nat.ne_of_lt (Nat.lt_succ_self _))
  have I2 := Inv.made (C := C) I
  have r2 : Vals (V.ref (s.heap.objs.size + 1) :: vs) (Value.ref (s.heap.objs.size + 1) :: us) := .cons rfl r
  have hl : (Value.ref (s.heap.objs.size + 1) :: us ++ []).length = ps.length := by
    have e := r2.length
    rw [F.len _ _ _ _ hq] at e
    rw [List.append_nil]
    exact e.symm
  have b := hb _ (Value.ref (s.heap.objs.size + 1) :: us) I2.kIn hl
  rw [List.append_nil] at b
  refine wpAny_call (make_map (f := f) I.kIn M.makes M.init (beq_iff_eq.mp M.fn) (codeAny_mono (F.run _ X.stack _ _ ⟨Value.ref (s.heap.objs.size + 1) :: us, []⟩ (Value.ref (s.heap.objs.size + 1) :: us) _ _ (E σ) (hr.make C us [])
    (I2.env0.make C us []) b r2 hq) fun r s' hq' => ?_))
  cases r with
  | error e => exact hx pins _ _ e s' I2 hq'
  | ok fl =>
    cases fl with
    | ret u =>
      obtain ⟨v, H', I3, rv, ev, q3⟩ := I2.after hq'
      subst ev
      exact ⟨rv, ⟨V.ref (s.heap.objs.size + 1), H', I3, rfl, q3⟩⟩
    | next => exact False.elim hq'
    | brk => exact False.elim hq'
    | cont => exact False.elim hq'
theorem pe_makeS (M : Mk X.K C f) (F : FnOk X.prog X.w X.K X.mg X.base CX k f fd ps sp) (hr : Room (k + 1) X.A) (hg : Gl X x) (hm : X.mg x = some (.ref C)) (hb : Binds X.K fd ps []) (hx : ∀ σ, PassesAt CX X σ (E σ))
    (ha : PA X (e :: es) t) (hdb : (x == ("__debug__" : Str)) = false) (he : starEach (e :: es) X.env = (false, eval e X.env) :: starEach es X.env) (hpl : (backTo pos (starEach es X.env)).any (·.1) = false) :
    PE X (.Call (.Name x p) (e :: es) [] pos) (tMakeS C sp E t) := by
  refine ⟨fun pins s σ H Q I h => ?_⟩
  refine wpAny_Call_Name_kw (ld_glob I hg hm ?_ hdb)
  refine PySem.W.callWith_K (h₀ := X.base) I.ok.mod.kin M.kp (thn (ha.run pos pins s σ H _ I h) fun us s1 ⟨vs, H1, I1, r, q⟩ => ⟨I1.kIn, ?_⟩) he hpl
  exact run_makeS M F hr hb (hx σ) I1 r q
end
/-! ### the evaluator's -/
section
variable {K : PySem.W.Frag} {fa : Lay} {φ : Ph} {H : Hp} {μ : Mu}
theorem obj_at (A : Abs K fa φ μ H) {c n : Nat} {fs : List (Nat × D)} {d : D} {v : V} (h : objAt μ c d = some (n, fs)) (rv : RV K fa (msk H φ) φ d v) :
    ∃ a dx vs, d = .loc n ∧ φ.sh[n]? = some a ∧ v = .ref a ∧ H a = some (.ins (fa.cl c) dx vs) ∧ RFs K fa (msk H φ) φ fs vs := by
  cases d with
  | loc m =>
    have h : (match μ[m]? with | some (.obj c' fs) => if c' = c then some (m, fs) else none | _ => none) = some (n, fs) := h
    cases hm : μ[m]? with
    | none => rw [hm] at h; cases h
    | some q =>
      rw [hm] at h
      cases q with
      | obj c' fs' =>
        dsimp only at h
        by_cases hc : c' = c
        · rw [if_pos hc] at h
          cases h
          subst hc
          obtain ⟨a, ha, rfl⟩ := rv_loc rv
          obtain ⟨dx, vs, e, r⟩ := A.cell n a _ ha hm
          exact ⟨a, dx, vs, rfl, ha, rfl, e, r⟩
        · rw [if_neg hc] at h; cases h
      | _ => cases h
  | _ => cases h
end
section
variable {X : Cx} {fa : Lay} {W : EW} {G : Nat → Option D} {F : Nat → Option Fn} {ma mb m : Rho → Mu → Res D} {ms : Rho → Mu → Res (List D)} {n i c a : Nat} {x y : Str} {p pos apos tpos : Pos} {e o : Expr} {es : List Expr} {f : Addr} {fd : FuncData} {ps : List Str}
theorem e_fld (hc : Cls X.K (fa.cl c)) (hn : NoAttr X.K (fa.cl c) (fa.fld a)) (hok : fa.okf a = true) (ho : PE X o (tE X.K fa W ma)) (hb : attributeBase o (fa.fld a) X.env (eval o X.env) = eval o X.env) :
    PE X (.Attribute o (fa.fld a) pos) (tE X.K fa W fun ρ μ => (ma ρ μ).bind fun x μ => Res.of (fldD μ c a x) μ) := PE.imp (pe_fld ho hb) fun σ H Q h => by
  obtain ⟨φ, μ, ρ, A, R, h⟩ := h
  refine ⟨φ, μ, ρ, A, R, h.bind.imp fun d μ1 φ1 H1 e1 A1 h1 v rv => ?_⟩
  obtain ⟨u, eu, q⟩ := h1.of
  obtain ⟨⟨m, fs⟩, eo, el⟩ := ofbind eu
  obtain ⟨b, dx, vs, rfl, hb, rfl, hH, rf⟩ := obj_at A1 eo rv
  obtain ⟨w, hw, rw'⟩ := rf.get hok el
  exact ⟨b, _, dx, vs, w, rfl, hH, hc, hn, hw, q φ1 H1 (Ext.refl _ _) A1 w rw'⟩
theorem e_meth {lv : Nat} {pl : Sem Bool} (hW : Wis X fa W) (hc : Cls X.K (fa.cl c)) (hm : Meth X.K (fa.cl c) y f) (hy : ∀ a, fa.okf a = true → fa.fld a ≠ y) (Fo : FnOk X.prog X.w X.K X.mg X.base (L2.CX X.prog X.w) lv f fd ps (spN X.K fa G F n i)) (hr : Room lv X.A) (hb : Binds X.K fd ps [])
    (ho : PE X o (tE X.K fa W ma)) (ha : PA X (e :: es) (tA X.K fa W ms)) (he : starEach (e :: es) X.env = (false, eval e X.env) :: starEach es X.env) (hpl : (backTo pos (starEach es X.env)).any (·.1) = false)
    (ht : eval (.Call (.Attribute o y apos) (e :: es) [] pos) X.env = (do
      let ov ← eval o X.env
      standAt apos.atName
      let (f, first) ← holding [ov] (getMethod ov y pl)
      callWith pos f first (backTo pos (starEach (e :: es) X.env)) (backToKw pos (keywordEach [] X.env)))) :
    PE X (.Call (.Attribute o y apos) (e :: es) [] pos) (tE X.K fa W fun ρ μ => (ma ρ μ).bind fun x μ => if (objAt μ c x).isSome then (ms ρ μ).bind fun ds μ => run G F n i (x :: ds) μ else .no) := by
  obtain ⟨Wm, tk, hWm⟩ := hW
  refine PE.imp (pe_methS (E := WE Wm) ho hc hm Fo hr hb (fun σ => passAt tk σ) ha he hpl ht) fun σ H Q h => ?_
  obtain ⟨φ, μ, ρ, A, R, h⟩ := h
  refine ⟨φ, μ, ρ, A, R, h.bind.imp fun d μ1 φ1 H1 e1 A1 h1 v rv => ?_⟩
  by_cases hs : (objAt μ1 c d).isSome = true
  · rw [if_pos hs] at h1
    obtain ⟨⟨mm, fs⟩, eo⟩ := Option.isSome_iff_exists.mp hs
    obtain ⟨b, dx, vs, rfl, hb', rfl, hH, rf⟩ := obj_at A1 eo rv
    refine ⟨b, dx, vs, rfl, hH, rf.no hy, φ1, μ1, ρ, A1, R.ext e1, h1.bind.imp fun ds μ2 φ2 H2 e2 A2 h2 us rs => ?_⟩
    exact ⟨φ2, μ2, .loc mm :: ds, A2, RVs.cons (rv.ext e2) rs, h2.wish fun x H => hWm σ x H⟩
  · rw [if_neg hs] at h1; exact False.elim h1
theorem e_meth0 {lv : Nat} {pl : Sem Bool} (hW : Wis X fa W) (hc : Cls X.K (fa.cl c)) (hm : Meth X.K (fa.cl c) y f) (hy : ∀ a, fa.okf a = true → fa.fld a ≠ y) (Fo : FnOk X.prog X.w X.K X.mg X.base (L2.CX X.prog X.w) lv f fd ps (spN X.K fa G F n i)) (hr : Room lv X.A) (hb : Binds X.K fd ps [])
    (ho : PE X o (tE X.K fa W ma))
    (ht : eval (.Call (.Attribute o y apos) [] [] pos) X.env = (do
      let ov ← eval o X.env
      standAt apos.atName
      let (f, first) ← holding [ov] (getMethod ov y pl)
      callWith pos f first (backTo pos (starEach [] X.env)) (backToKw pos (keywordEach [] X.env)))) :
    PE X (.Call (.Attribute o y apos) [] [] pos) (tE X.K fa W fun ρ μ => (ma ρ μ).bind fun x μ => if (objAt μ c x).isSome then (Res.ok [] μ).bind fun ds μ => run G F n i (x :: ds) μ else .no) := by
  obtain ⟨Wm, tk, hWm⟩ := hW
  refine PE.imp (pe_methS0 (E := WE Wm) ho hc hm Fo hr hb (fun σ => passAt tk σ) ht) fun σ H Q h => ?_
  obtain ⟨φ, μ, ρ, A, R, h⟩ := h
  refine ⟨φ, μ, ρ, A, R, h.bind.imp fun d μ1 φ1 H1 e1 A1 h1 v rv => ?_⟩
  by_cases hs : (objAt μ1 c d).isSome = true
  · rw [if_pos hs] at h1
    obtain ⟨⟨mm, fs⟩, eo⟩ := Option.isSome_iff_exists.mp hs
    obtain ⟨b, dx, vs, rfl, hb', rfl, hH, rf⟩ := obj_at A1 eo rv
    refine ⟨b, dx, vs, rfl, hH, rf.no hy, ?_⟩
    exact ⟨φ1, μ1, [.loc mm], A1, RVs.one rv, (show Run X.K fa (W σ) φ1 H1 (run G F n i [.loc mm] μ1) _ from h1).wish fun x H => hWm σ x H⟩
  · rw [if_neg hs] at h1; exact False.elim h1
theorem e_new {lv : Nat} (hW : Wis X fa W) (M : Mk X.K (fa.cl c) f) (Fo : FnOk X.prog X.w X.K X.mg X.base (L2.CX X.prog X.w) lv f fd ps (spN X.K fa G F n i)) (hr : Room (lv + 1) X.A) (hg : Gl X x) (hm : X.mg x = some (.ref (fa.cl c))) (hb : Binds X.K fd ps [])
    (ha : PA X (e :: es) (tA X.K fa W ms)) (hdb : (x == ("__debug__" : Str)) = false) (he : starEach (e :: es) X.env = (false, eval e X.env) :: starEach es X.env) (hpl : (backTo pos (starEach es X.env)).any (·.1) = false) :
    PE X (.Call (.Name x p) (e :: es) [] pos) (tE X.K fa W fun ρ μ => (ms ρ μ).bind fun ds μ => (run G F n i (.loc μ.length :: ds) (μ ++ [.obj c []])).bind fun r μ' => if r = .non then .ok (.loc μ.length) μ' else .no) := by
  obtain ⟨Wm, tk, hWm⟩ := hW
  refine PE.imp (pe_makeS (E := WE Wm) M Fo hr hg hm hb (fun σ => passAt tk σ) ha hdb he hpl) fun σ H Q h => ?_
  obtain ⟨φ, μ, ρ, A, R, h⟩ := h
  refine ⟨φ, μ, ρ, A, R, h.bind.imp fun ds μ1 φ1 H1 e1 A1 h1 vs rs z dx hz hdx hne => ?_⟩
  have x0 := Ext.fresh (o := .own z) A1 hdx
  have A0 := Abs.fresh (o := .own z) A1 hdx
  have hz0 : upd H1 dx (.own z) z = none := by rw [upd_ne (Ne.symm hne)]; exact hz
  obtain ⟨x2, A2⟩ := Abs.push (o := .ins (fa.cl c) dx []) (c := .obj c []) A0 hz0 ⟨dx, [], upd_same, rfl⟩
  have hl : (φ1.add z).sh[μ1.length]? = some z := by
    show (φ1.sh ++ [z])[μ1.length]? = some z
    rw [← A1.len, List.getElem?_append_right (Nat.le_refl _), Nat.sub_self]
    rfl
  refine ⟨φ1.add z, μ1 ++ [.obj c []], .loc μ1.length :: ds, A2, RVs.cons (mk_loc hl) ((rs.ext x0).ext x2), ?_⟩
  have h2 := ((h1.ext x0).ext x2).bind
  refine (h2.imp fun r μ3 φ3 H3 e3 A3 h3 v rv => ?_).wish fun x H => hWm σ x H
  by_cases hrn : r = .non
  · rw [if_pos hrn] at h3
    subst hrn
    exact ⟨rv_non rv, h3.here A3 (.ref z) (mk_loc (e3.phi hl))⟩
  · rw [if_neg hrn] at h3; exact False.elim h3
/-- a field's store -/
theorem set_fld (A : Abs X.K fa φ μ H) {c a : Nat} {d u : D} {v w : V} {μ' : Mu} (hok : fa.okf a = true) (h : setFd μ c a d u = some μ') (rv : RV X.K fa (msk H φ) φ d v) (ru : RV X.K fa (msk H φ) φ u w) :
    ∃ b dx vs, v = .ref b ∧ H b = some (.ins (fa.cl c) dx vs) ∧ vs.length < 1000 ∧ Ext φ H φ (upd H b (.ins (fa.cl c) dx (putF (fa.fld a) w vs))) ∧ Abs X.K fa φ μ' (upd H b (.ins (fa.cl c) dx (putF (fa.fld a) w vs))) := by
  obtain ⟨⟨m, fs⟩, eo, es⟩ := ofbind h
  obtain ⟨b, dx, vs, rfl, hb, rfl, hH, rf⟩ := obj_at A eo rv
  obtain ⟨hl, es⟩ := ite_some es
  cases es
  obtain ⟨x1, A1⟩ := Abs.set (o := .ins (fa.cl c) dx (putF (fa.fld a) w vs)) (c := .obj c (putFd a u fs)) A hb ⟨dx, _, upd_same, rf.put hok ru⟩
  exact ⟨b, dx, vs, rfl, hH, by rw [rf.len]; exact hl, x1, A1⟩
def evSetFld (c a : Nat) (mo me : Rho → Mu → Res D) : Rho → Mu → Out := fun ρ μ => (me ρ μ).out ρ fun v μ => (mo ρ μ).out ρ fun x μ => match setFd μ c a x v with
  | some μ' => .nx ρ μ'
  | none => .no
theorem s_setFld (hc : Cls X.K (fa.cl c)) (hn : NoAttr X.K (fa.cl c) (fa.fld a)) (hok : fa.okf a = true) (ho : PE X o (tE X.K fa W ma)) (he : PE X e (tE X.K fa W mb)) (hs : swapsWith e (some (.Attribute o (fa.fld a) tpos)) pos.line X.env = pure false) :
    PS X (.Assign [.Attribute o (fa.fld a) tpos] e pos) (tS X.K fa W (evSetFld c a ma mb)) := PS.imp (ps_fld ho he hs) fun D σ H h => by
  obtain ⟨φ, μ, ρ, A, R, h⟩ := h
  refine ⟨φ, μ, ρ, A, R, (h.out R).imp fun d μ1 φ1 H1 e1 A1 h1 v rv => ?_⟩
  refine ⟨φ1, μ1, ρ, A1, R.ext e1, (h1.out (R.ext e1)).imp fun z μ2 φ2 H2 e2 A2 h2 w rz => ?_⟩
  cases hs : setFd μ2 c a z d with
  | none => rw [hs] at h2; exact False.elim h2
  | some μ3 =>
    rw [hs] at h2
    obtain ⟨b, dx, vs, rfl, hH, hl, x1, A3⟩ := set_fld A2 hok hs rz (rv.ext e2)
    exact ⟨b, _, dx, vs, rfl, hH, hc, hn, hl, h2 φ2 _ σ x1 A3 (((R.ext e1).ext e2).ext x1)⟩
def evAugFld (c a : Nat) (mo me : Rho → Mu → Res D) : Rho → Mu → Out := fun ρ μ => (mo ρ μ).out ρ fun x μ => (Res.of (fldD μ c a x) μ).out ρ fun u μ => (me ρ μ).out ρ fun v μ => (Res.of (i2 u v fun i j => some (.int (i + j))) μ).out ρ fun z μ => match setFd μ c a x z with
  | some μ' => .nx ρ μ'
  | none => .no
theorem RunO.outOf {K : PySem.W.Frag} {φ : Ph} {H : Hp} {μ : Mu} {ρ : Rho} {D : Ends} {α : Type} {o : Option α} {f : α → Mu → Out} (h : RunO K fa W φ H ((Res.of o μ).out ρ f) D) : ∃ a, o = some a ∧ RunO K fa W φ H (f a μ) D := by
  cases o with
  | some a => exact ⟨a, rfl, h⟩
  | none => exact False.elim h
theorem s_augFld
    (hc : Cls X.K (fa.cl c)) (hn : NoAttr X.K (fa.cl c) (fa.fld a)) (hok : fa.okf a = true) (ho : PE X o (tE X.K fa W ma)) (he : PE X e (tE X.K fa W mb)) (hb : attributeBase o (fa.fld a) X.env (eval o X.env) = eval o X.env) :
    PS X (.AugAssign (.Attribute o (fa.fld a) tpos) .Add e pos) (tS X.K fa W (evAugFld c a ma mb)) := PS.imp (ps_fldaug ho he in_add) fun D σ H h => by
  obtain ⟨φ, μ, ρ, A, R, h⟩ := h
  refine ⟨φ, μ, ρ, A, R, (h.out R).imp fun d μ1 φ1 H1 e1 A1 h1 v rv => ?_⟩
  obtain ⟨u, eu, h1⟩ := h1.outOf
  obtain ⟨⟨m, fs⟩, eo, el⟩ := ofbind eu
  obtain ⟨bb, dx, vs, rfl, hb', rfl, hH, rf⟩ := obj_at A1 eo rv
  obtain ⟨w, hw, ru⟩ := rf.get hok el
  refine ⟨bb, _, dx, vs, w, rfl, hH, hc, hn, hw, φ1, μ1, ρ, A1, R.ext e1, (h1.out (R.ext e1)).imp fun z μ2 φ2 H2 e2 A2 h2 y ry => ?_⟩
  obtain ⟨t, et, h2⟩ := h2.outOf
  obtain ⟨i1, i2, rfl, rfl, et⟩ := i2_some et
  cases et
  cases rv_int ru
  cases rv_int ry
  refine ⟨i1, i2, rfl, rfl, ?_⟩
  have rq : RV X.K fa (msk H2 φ2) φ2 (.int (i1 + i2)) (.int (i1 + i2)) := mk_int
  cases hs : setFd μ2 c a (.loc m) (.int (i1 + i2)) with
  | none => rw [hs] at h2; exact False.elim h2
  | some μ3 =>
    rw [hs] at h2
    obtain ⟨b2, dx2, vs2, eb, hH2, hl, x1, A3⟩ := set_fld A2 hok hs (rv.ext e2) rq
    cases eb
    exact ⟨dx2, vs2, hH2, hl, h2 φ2 _ σ x1 A3 (((R.ext e1).ext e2).ext x1)⟩
end
end Ev

set_option Elab.async false
set_option linter.all false
set_option maxRecDepth 100000
set_option maxHeartbeats 1000000
/-! Exceptions. -/
namespace Ev
open PySem PySem.Spec PyProof.Rows L2
/-- an exception's class, called x -/
structure ExcF (X : Cx) (C : Addr) (x : Str) : Prop where
  is : PySem.W.excIn X.K C He.veBase "ValueError.__new__" = true
  mg : X.mg x = some (.ref C)
  kp : PySem.W.keepIn X.K (.ref C) = true
  sub : PySem.W.subIn X.K (.ref C) (.type "BaseException") = some true
  ty : PySem.W.typeIn X.K (.ref C) = some (.type "type")
theorem wis0 {X : Cx} {fa : Lay} : Wis X fa W0 := ⟨fun _ _ _ _ => False, fun _ _ x => by
  obtain ⟨_, _, _, _, _, _, _, _, _, _, _, _, _, _, _, _, z⟩ := x
  exact z.elim, fun _ _ _ h => h⟩
section
variable {X : Cx} {fa : Lay} {W : EW} {c : Nat} {x m : Str} {p p2 pos rpos np pos' : Pos} {j : Nat}
theorem s_raise (hW : Wis X fa W) (hc : X.calm = true) (f : ExcF X (fa.cl c) x) (hg : Gl X x) (hdb : (x == ("__debug__" : Str)) = false) :
    PS X (.Raise (some (.Call (.Name x p) [.Constant (.str m) j p2] [] pos)) none rpos) (tS X.K fa W fun ρ μ => .ex ⟨c, .non⟩ ρ μ) := by
  obtain ⟨Wm, tk, hWm⟩ := hW
  refine PS.imp (ps_raise hc tk (pmk_own PySem.F.excBase_ValueError f.is f.mg f.kp (raises_own f.sub f.ty) hg hdb)) fun D σ H h => ?_
  obtain ⟨φ, μ, ρ, A, R, h⟩ := h
  exact hWm σ ⟨c, .non⟩ H (h φ H σ (Ext.refl _ _) A R)
def evTry (yes no : List Nat) (ob oh : Rho → Mu → Out) : Rho → Mu → Out := fun ρ μ => match ob ρ μ with
  | .ex x ρ' μ' => if x.cls ∈ yes then oh ρ' μ' else if x.cls ∈ no then .ex x ρ' μ' else .no
  | o => o
theorem s_try {cv : Value} {yes no : List Nat} {body suite : List Stmt} {b₀ : Stmt} {ob oh : Rho → Mu → Out} (hs : X.stack = X.env :: X.outer) (hf : X.env.frame = some X.env.locals) (hc : Names X x cv) (hW : Wis X fa W)
    (hy : ∀ c ∈ yes, PySem.W.exmOne X.K (.ref (fa.cl c)) cv = some true) (hn : ∀ c ∈ no, PySem.W.exmOne X.K (.ref (fa.cl c)) cv = some false)
    (hb : ∀ (W' : EW) (pn : List (Addr × Obj)) (xe : Value → Shared → Prop), Wis (X.tr pn xe) fa W' → PassesOwn (model X.prog X.w) X.A X.env xe → PSs (X.tr pn xe) body (tS X.K fa W' ob))
    (hsu : ∀ (a : Addr) (oe : Obj) (pn : List (Addr × Obj)), PSs (X.suite a ((a, oe) :: pn)) (b₀ :: suite) (tS X.K fa W0 oh)) (hoh : ∀ ρ μ x ρ' μ', oh ρ μ ≠ .ex x ρ' μ') :
    PS X (.Try body [.ExceptHandler (some (.Name x np)) none (b₀ :: suite) pos'] [] [] pos) (tS X.K fa W (evTry yes no ob oh)) := by
  obtain ⟨Wm, tk, hWm⟩ := hW
  refine PS.imp (ps_try_only (tb := fun w => tS X.K fa (fun σ x H => w (.ref (fa.cl x.cls)) none σ H) ob) (ts := fun _ _ _ => tS X.K fa W0 oh) hs hf hc tk (fun w pn xe tk' ho => hb _ pn xe ⟨w, tk', fun _ _ _ h => h⟩ ho) fun a oe _ _ pn _ _ => hsu a oe pn) fun D σ H h => ?_
  obtain ⟨φ, μ, ρ, A, R, h⟩ := h
  refine ⟨φ, μ, ρ, A, R, ?_⟩
  unfold evTry at h
  cases q : ob ρ μ with
  | ex x ρ' μ' =>
    rw [q] at h
    dsimp only at h
    intro φ' H' σ' e A' R'
    by_cases h1 : x.cls ∈ yes
    · rw [if_pos h1] at h
      refine ⟨true, hy _ h1, fun _ a _ => ⟨φ', μ', ρ', A', R', ?_⟩, fun q => by cases q⟩
      have h := h.ext e
      cases q2 : oh ρ' μ' with
      | ex _ _ _ => exact absurd q2 (hoh _ _ _ _ _)
      | _ => rw [q2] at h; exact h
    · rw [if_neg h1] at h
      by_cases h2 : x.cls ∈ no
      · rw [if_pos h2] at h
        exact ⟨false, hn _ h2, fun q => (by cases q), fun _ => hWm σ' x H' (h φ' H' σ' e A' R')⟩
      · rw [if_neg h2] at h; exact False.elim h
  | _ => rw [q] at h; exact h
end
/-! ### simple suites -/
def hotS : List S → Bool
  | [] => true
  | .ret (.con _) :: r => hotS r
  | .asg (.nm _) (.con _) :: r => hotS r
  | .pass :: r => hotS r
  | _ => false
theorem hot_ex {G : Nat → Option D} {call : Nat → List D → Mu → Res D} : ∀ (ss : List S), hotS ss = true → ∀ ρ μ x ρ' μ', exSs G call ss ρ μ ≠ .ex x ρ' μ'
  | [], _, ρ, μ, x, ρ', μ', h => by cases h
  | s :: r, hh, ρ, μ, x, ρ', μ', h => by
    unfold hotS at hh
    split at hh
    · rename_i e; cases e
    · rename_i d _ e
      cases e
      cases h
    · rename_i i d _ e
      cases e
      exact hot_ex _ hh _ _ x ρ' μ' (show exSs G call _ _ _ = .ex x ρ' μ' from h)
    · rename_i e
      cases e
      exact hot_ex _ hh _ _ x ρ' μ' (show exSs G call _ _ _ = .ex x ρ' μ' from h)
    · cases hh
end Ev

set_option Elab.async false
set_option linter.all false
set_option maxRecDepth 100000
set_option maxHeartbeats 1000000
/-! dict(pairs). -/
namespace Ev
open PySem PySem.Spec PyProof.Rows L2
section
variable {X : Cx} {fa : Lay} {W : EW} {Z : EZ} {φ : Ph} {H G : Hp} {μ : Mu} {pins : List (Addr × Obj)} {σ : L2.St} {s : Shared}
/-- the pairs as they lie: where, the key and the worth by values, as they stand -/
structure PrI where
  t : Addr
  k : V
  v : V
  ku : Value
  vu : Value
/-- .. of these data -/
def PrAll (X : Cx) (fa : Lay) (G : Hp) (φ : Ph) (h : Heap) : List (D × D) → List PrI → Prop
  | [], rs => rs = []
  | p :: r, rs => ∃ q rs', rs = q :: rs' ∧ RV X.K fa G φ p.1 q.k ∧ RV X.K fa G φ p.2 q.v ∧ RelV q.k q.ku ∧ RelV q.v q.vu ∧ h.IsTuple q.t #[q.ku, q.vu] ∧ PrAll X fa G φ h r rs'
theorem prs_of (I : Inv X pins σ H s) : ∀ {l : List D} {ps : List (D × D)} {vs : List V} {us : List Value}, pairsD l = some ps → RVs X.K fa (msk H φ) φ l vs → Vals vs us → ∃ rs, PrAll X fa (msk H φ) φ s.heap ps rs ∧ us = rs.map (fun q => Value.ref q.t) ∧ rs.length = ps.length ∧ ps.length = l.length
  | [], _, _, _, e, h, r => by
    cases e
    cases rvs0 h
    cases r
    exact ⟨[], rfl, rfl, rfl, rfl⟩
  | d :: l, ps, vs, us, e, h, r => by
    have hd : ∃ k v ps', d = .tup [k, v] ∧ pairsD l = some ps' ∧ ps = (k, v) :: ps' := by
      unfold pairsD at e
      split at e
      · cases ‹_ :: _ = []›
      · rename_i k v r' he
        injection he with e1 e2
        subst e1 e2
        obtain ⟨ps', e3, rfl⟩ := ofmap e
        exact ⟨k, v, ps', rfl, e3, rfl⟩
      · cases e
    obtain ⟨k, v, ps', rfl, e', rfl⟩ := hd
    unfold RVs at h
    obtain ⟨w, vs', rfl, h1, h2⟩ := h
    obtain ⟨t, ts, rfl, hs, rs⟩ := rv_tup h1
    obtain ⟨x, y, rfl, rx, ry⟩ := rvs2 rs
    cases r with
    | cons r1 r2 =>
      cases r1
      obtain ⟨its, rv, p, _⟩ := I.tuple (Same.seqT msk_same hs)
      obtain ⟨ux, uy, rfl, qx, qy⟩ := vals2 rv
      obtain ⟨rs', a1, rfl, a3, a4⟩ := prs_of I e' h2 r2
      exact ⟨⟨t, x, y, ux, uy⟩ :: rs', ⟨_, rs', rfl, rx, ry, qx, qy, p, a1⟩, rfl, by rw [List.length_cons, List.length_cons, a3], by rw [List.length_cons, List.length_cons, a4]⟩
theorem PrAll.get {h : Heap} : ∀ {ps : List (D × D)} {rs : List PrI} {i : Nat} {q : PrI}, PrAll X fa G φ h ps rs → rs[i]? = some q → ∃ p, ps[i]? = some p ∧ RV X.K fa G φ p.1 q.k ∧ RV X.K fa G φ p.2 q.v ∧ RelV q.k q.ku ∧ RelV q.v q.vu ∧ h.IsTuple q.t #[q.ku, q.vu]
  | [], _, i, q, a, e => by cases (show _ = _ from a); simp at e
  | p :: r, _, 0, q, a, e => by
    obtain ⟨q', rs', rfl, h1, h2, h3, h4, h5, h6⟩ := a
    cases e
    exact ⟨p, rfl, h1, h2, h3, h4, h5⟩
  | p :: r, _, i + 1, q, a, e => by
    obtain ⟨q', rs', rfl, h1, h2, h3, h4, h5, h6⟩ := a
    obtain ⟨p', e', z⟩ := PrAll.get h6 (show rs'[i]? = some q from e)
    exact ⟨p', e', z⟩
/-- the argument of dict() -/
theorem pr_items {h : Heap} {rs : List PrI} {ps : List (D × D)} (a : PrAll X fa G φ h ps rs) {items : Array Value} (hi : items = (rs.map fun q => Value.ref q.t).toArray) : PairItems h items (fun j => (rs.map PrI.t).getD j 0) (rs.map fun q => (q.ku, q.vu)) := by
  subst hi
  refine ⟨by simp, fun j k v e => ?_⟩
  rw [List.getElem?_map] at e
  obtain ⟨q, hq, e⟩ := ofmap e
  injection e with e1 e2
  subst e1 e2
  obtain ⟨p, _, _, _, _, _, t⟩ := a.get hq
  have ht : (rs.map PrI.t).getD j 0 = q.t := by rw [List.getD_eq_getElem?_getD, List.getElem?_map, hq]; rfl
  refine ⟨by simp [hq, ht], .inl ?_⟩
  show h.IsTuple ((rs.map PrI.t).getD j 0) _
  rw [ht]
  exact t
/-- keys that are ints and texts -/
theorem pr_keys {h : Heap} : ∀ {ps : List (D × D)} {rs : List PrI}, PrAll X fa G φ h ps rs → ps.all (fun p => isKey p.1) = true → ∃ (kvs : List (L2.Key × V)) (prs : List (L2.Key × Value)), RDs X.K fa G φ ps kvs ∧ KV kvs prs ∧ prs.length = rs.length ∧ ∀ (i : Nat) (q : PrI), rs[i]? = some q → ∃ k, prs[i]? = some (k, q.vu) ∧ (mixKind X.prog X.w).is k q.ku = true
  | [], _, a, _ => by cases (show _ = _ from a); exact ⟨[], [], rfl, .nil, rfl, fun i q e => by simp at e⟩
  | p :: r, _, a, c => by
    obtain ⟨q, rs', rfl, h1, h2, h3, h4, h5, h6⟩ := a
    rw [List.all_cons, Bool.and_eq_true] at c
    obtain ⟨kvs, prs, a1, a2, a3, a4⟩ := pr_keys h6 c.2
    obtain ⟨k, hk, e⟩ := key_rv c.1 h1
    refine ⟨(k, q.v) :: kvs, (k, q.vu) :: prs, RDs.cons hk h2 a1, .cons ⟨rfl, h4⟩ a2, by rw [List.length_cons, List.length_cons, a3], fun i q' e' => ?_⟩
    cases i with
    | zero =>
      cases e'
      exact ⟨k, rfl, kV_is (P := X.prog) (w := X.w) (by rw [← e]; exact h3)⟩
    | succ i => exact a4 i q' (by simpa using e')
theorem RDs.merge : ∀ {ps acc : List (D × D)} {kvs kacc : List (L2.Key × V)}, RDs X.K fa G φ ps kvs → RDs X.K fa G φ acc kacc → RDs X.K fa G φ (ps.foldl (fun acc p => putD acc p.1 p.2) acc) (mergeK kacc kvs)
  | [], acc, _, kacc, a, b => by cases (show _ = _ from a); exact b
  | p :: r, acc, _, kacc, a, b => by
    obtain ⟨k, v, q, rfl, h1, h2, h3⟩ := a
    rw [List.foldl_cons]
    show RDs X.K fa G φ _ (mergeK (putK kacc k v) q)
    exact RDs.merge h3 (b.put h1 h2)
/-- keys that are tuples -/
theorem pr_tups {h : Heap} : ∀ {ps : List (D × D)} {rs : List PrI}, PrAll X fa G φ h ps rs → ps.all (fun p => isKT p.1) = true → ∃ prs : List (NestedKey × Addr × Value), RXs X.K fa G φ ps prs ∧ prs.length = rs.length ∧ ∀ (i : Nat) (q : PrI), rs[i]? = some q → ∃ k b, prs[i]? = some (k, b, q.vu) ∧ q.ku = .ref b
  | [], _, a, _ => by cases (show _ = _ from a); exact ⟨[], rfl, rfl, fun i q e => by simp at e⟩
  | p :: r, _, a, c => by
    obtain ⟨q, rs', rfl, h1, h2, h3, h4, h5, h6⟩ := a
    rw [List.all_cons, Bool.and_eq_true] at c
    obtain ⟨prs, a1, a3, a4⟩ := pr_tups h6 c.2
    obtain ⟨b, e⟩ := kt_ref c.1 h1
    rw [e] at h1 h3
    refine ⟨(nk p.1, b, q.vu) :: prs, ⟨b, q.vu, q.v, prs, rfl, c.1, h1, h4, h2, a1⟩, by rw [List.length_cons, List.length_cons, a3], fun i q' e' => ?_⟩
    cases i with
    | zero =>
      cases e'
      exact ⟨_, b, rfl, h3⟩
    | succ i => exact a4 i q' (by simpa using e')
theorem RXs.merge : ∀ {ps acc : List (D × D)} {prs kacc : List (NestedKey × Addr × Value)}, RXs X.K fa G φ ps prs → RXs X.K fa G φ acc kacc → RXs X.K fa G φ (ps.foldl (fun acc p => putD acc p.1 p.2) acc) (storedAllH kacc prs)
  | [], acc, _, kacc, a, b => by cases (show _ = _ from a); exact b
  | p :: r, acc, _, kacc, a, b => by
    obtain ⟨b', u, v, q, rfl, h1, h2, h3, h4, h5⟩ := a
    rw [List.foldl_cons]
    show RXs X.K fa G φ _ (storedAllH (storedH kacc (nk p.1) b' u) q)
    exact RXs.merge h5 (b.put h1 h2 h3 h4)
theorem big_sys (I : Inv X pins σ H s) : (s.heap.objs.size == sysModules) = false := beq_eq_false_iff_ne.mpr (Nat.ne_of_gt I.big)
/-- dict(x) -/
theorem dict_call (hc : X.calm = true) (hu : X.A.units + 64 < cLine) (hw : fa.w = X.w) (I : Inv X pins σ H s) (A : Abs X.K fa φ μ H) {d : D} {c : Cell} {v : V} {u : Value} (rv : RV X.K fa (msk H φ) φ d v) (ru : RelV v u) (h : dictPD μ d = some c)
    {Q : VK} (q : ∀ (p : Addr) (o : HO), H p = none → CellR X.K fa (msk (upd H p o) (φ.add p)) (φ.add p) (upd H p o) p c → Q (.ref p) (upd H p o)) : wpAny (model X.prog X.w) X.A (call (.type "dict") [u]) (EP X pins σ Q) X.xe s := by
  obtain ⟨l, hl, h⟩ := ofbind h
  obtain ⟨ps, hp, h⟩ := ofbind h
  obtain ⟨h4, h⟩ := ite_some h
  obtain ⟨a, vs, rfl, hs, rs⟩ := lst_at A rv hl
  cases ru
  have core : ∀ {T : String} {its : List Value} {fp : List Addr} {rr : List PrI}, Vals vs its → PrAll X fa (msk H φ) φ s.heap ps rr → rr.length = ps.length → ps.length = l.length →
      PairArg X.prog X.w T a fp [] (rr.map fun q => (q.ku, q.vu)).length (PairRel (rr.map fun q => (q.ku, q.vu))) (fun h => PlainSeq T h a its.toArray ∧ PairItems h its.toArray (fun j => (rr.map PrI.t).getD j 0) (rr.map fun q => (q.ku, q.vu))) →
      PlainSeq T s.heap a its.toArray → its = rr.map (fun q => Value.ref q.t) → wpAny (model X.prog X.w) X.A (call (.type "dict") [.ref a]) (EP X pins σ Q) X.xe s := fun {T its fp rr} hv ha e1 e2 P hplain hits => by
    have hz : (rr.map fun q => (q.ku, q.vu)).length ≤ sizeLine := by rw [List.length_map, e1, e2, sizeLine_eq]; omega
    have hok := pr_items ha (items := its.toArray) (by rw [hits])
    have x0 : ∀ p o, H p = none → Ext φ H (φ.add p) (upd H p o) := fun p o hp => Ext.add A hp
    by_cases c1 : ps.all (fun p => isKey p.1) = true
    · rw [if_pos c1] at h
      cases h
      obtain ⟨kvs, prs, a1, a2, a3, a4⟩ := pr_keys ha c1
      refine call_dict_pairs (knd := mixKind X.prog X.w) (kvs := prs) P (I.ok.hd hc) ⟨hplain, hok⟩ ⟨by rw [a3, List.length_map], fun i key v e => ?_⟩ hz fun h' tk hd' k => ?_
      · obtain ⟨q, hq, e⟩ := ofmap (show (rr[i]?).map (fun q => (q.ku, q.vu)) = some (key, v) by rw [← List.getElem?_map]; exact e)
        injection e with e1 e2
        subst e1 e2
        exact a4 i q hq
      · have hn := I.hok.fresh (Nat.le_refl s.heap.objs.size)
        have hlen : (mergeK [] kvs).length ≤ sizeLine := by
          refine Nat.le_trans (length_mergeK kvs []) ?_
          rw [List.length_nil, Nat.zero_add, a2.length, a3, e1, e2, sizeLine_eq]
          omega
        refine ⟨.ref s.heap.objs.size, _, I.laid (t' := tk) (fun b o e => k b o (by simp) e) (Nat.le_refl _) (show ObjOk X.prog X.w _ _ _ (.dK (mergeK [] kvs)) from ⟨hlen, big_sys I, merged [] prs, KV.merge a2 .nil, hd'⟩), rfl, q _ _ hn ⟨_, upd_same, ?_⟩⟩
        have x1 := x0 _ (.dK (mergeK [] kvs)) hn
        exact RDs.mono x1.same (fun _ _ q => x1.phi q) _ _ (RDs.merge a1 RDs.nil)
    · rw [if_neg c1] at h
      obtain ⟨c2, h⟩ := ite_some h
      cases h
      obtain ⟨prs, a1, a3, a4⟩ := pr_tups ha c2
      have keys : ∀ x ∈ prs, ∃ d, x.1 = nk d ∧ isKT d = true ∧ RV X.K fa (msk H φ) φ d (.ref x.2.1) := a1.keys
      have hl0 := storedAllH_length prs []
      rw [List.length_nil] at hl0
      refine call_dict_pairsH (knd := nestedKind X.prog X.w) (ps := prs) P (I.ok.hd hc) (room_nk hu) ⟨hplain, hok⟩ ⟨by rw [a3, List.length_map], fun i key v e => ?_⟩ (fun h' hk x hx => ?_) hz fun h' tk hd' k => ?_
      · obtain ⟨q, hq, e⟩ := ofmap (show (rr[i]?).map (fun q => (q.ku, q.vu)) = some (key, v) by rw [← List.getElem?_map]; exact e)
        injection e with e1 e2
        subst e1 e2
        exact a4 i q hq
      · obtain ⟨d, e1, e2, e3⟩ := keys x hx
        have := is_key I msk_same e2 e3
        rw [← e1] at this
        exact nestedKind_stays.stays (fun b o vs n e _ => hk b o (Nat.ne_of_lt (Heap.lt_size e)) (by simp) e) this
      · have hn := I.hok.fresh (Nat.le_refl s.heap.objs.size)
        have hlen : (storedAllH [] prs).length ≤ sizeLine := by
          rw [sizeLine_eq]
          omega
        have ho : ObjOk X.prog X.w (upd H s.heap.objs.size (dtO fa.w s.heap.objs.size (storedAllH [] prs))) h' s.heap.objs.size (dtO fa.w s.heap.objs.size (storedAllH [] prs)) := by
          rw [hw]
          exact dtt_obj hlen (big_sys I) hd'
        refine ⟨.ref s.heap.objs.size, _, I.laid (t' := tk) (fun b o e => k b o (by simp) e) (Nat.le_refl _) ho, rfl, q _ _ hn ⟨_, upd_same, ?_⟩⟩
        have x1 := x0 _ (dtO fa.w s.heap.objs.size (storedAllH [] prs)) hn
        exact RXs.mono x1.same (fun _ _ q => x1.phi q) _ _ (RXs.merge a1 RXs.nil)
  obtain ⟨its, rv2, ⟨o, n, ho, hcl, hdc, hdt⟩, _⟩ := I.list hs
  obtain ⟨rr, ha, hits, e1, e2⟩ := prs_of I hp rs rv2
  exact core rv2 ha e1 e2 (PairArg.list a its.toArray _ _) ⟨o, n, ho, hcl, hdc, hdt⟩ hits
end
section
variable {X : Cx} {fa : Lay} {W : EW} {m : Rho → Mu → Res D} {x : Str} {p pos : Pos} {e : Expr}
theorem e_dictP (hc : X.calm = true) (hu : X.A.units + 64 < cLine) (hw : fa.w = X.w) (hg : Gl X "dict") (hm : X.mg "dict" = none) (he : PE X e (tE X.K fa W m)) (hs : starEach [e] X.env = (false, eval e X.env) :: starEach [] X.env) :
    PE X (.Call (.Name "dict" p) [e] [] pos) (tE X.K fa W fun ρ μ => (m ρ μ).bind fun x μ => match dictPD μ x with
      | some c => .ok (.loc μ.length) (μ ++ [c])
      | none => .no) := by
  have hcall : CallR X (.type "dict") (fun vs H Q => ∃ φ μ d c v, vs = [v] ∧ Abs X.K fa φ μ H ∧ RV X.K fa (msk H φ) φ d v ∧ dictPD μ d = some c ∧ ∀ (p : Addr) (o : HO), H p = none → CellR X.K fa (msk (upd H p o) (φ.add p)) (φ.add p) (upd H p o) p c → Q (.ref p) (upd H p o)) := by
    intro pins s σ H xs us Q I r h
    obtain ⟨φ, μ, d, c, v, rfl, A, rv, e, q⟩ := h
    obtain ⟨u, rfl, ru⟩ := vals1 r
    exact dict_call hc hu hw I A rv ru e q
  refine PE.imp (pe_callTy hcall hg hm boot_dict (pa_cons he pa_nil hs) (by decide) (by decide) hs rfl) fun σ H Q h => ?_
  obtain ⟨φ, μ, ρ, A, R, h⟩ := h
  refine ⟨φ, μ, ρ, A, R, h.bind.imp fun d μ1 φ1 H1 e1 A1 h1 v rv => ?_⟩
  cases hd : dictPD μ1 d with
  | none => rw [hd] at h1; exact False.elim h1
  | some c =>
    rw [hd] at h1
    refine ⟨φ1, μ1, d, c, v, rfl, A1, rv, hd, fun q o hq hcell => ?_⟩
    obtain ⟨x1, A2⟩ := Abs.push (o := o) A1 hq hcell
    refine h1 _ _ x1 A2 _ (mk_loc ?_)
    show (φ1.sh ++ [q])[μ1.length]? = some q
    rw [← A1.len, List.getElem?_append_right (Nat.le_refl _), Nat.sub_self]
    rfl
end
end Ev

set_option Elab.async false
set_option linter.all false
set_option maxRecDepth 100000
set_option maxHeartbeats 1000000
/-! A suite that asks its exception. -/
namespace Ev
open PySem PySem.Spec PyProof.Rows L2
def notStar : Expr → Bool
  | .Starred .. => false
  | _ => true
theorem star_cons {e : Expr} {es : List Expr} {env : Env} (h : notStar e = true) : starEach (e :: es) env = (false, eval e env) :: starEach es env := by
  cases e <;> first | rfl | cases h
theorem star_back {pos : Pos} {env : Env} : ∀ {es : List Expr}, (∀ e ∈ es, notStar e = true) → (backTo pos (starEach es env)).any (·.1) = false
  | [], _ => rfl
  | e :: es, h => by
    rw [star_cons (h e List.mem_cons_self)]
    show (false || (backTo pos (starEach es env)).any (·.1)) = false
    rw [star_back fun q hq => h q (List.mem_cons_of_mem _ hq)]
    rfl
/-- what isinstance asks of the exception's class, as a test of K -/
def excCB (K : PySem.W.Frag) (D : Addr) : Bool :=
  decide (PySem.W.findIn K (.ref D) "__getattribute__" = some (some (.builtin "BaseException.__getattribute__"))) && (decide (PySem.W.findIn K (.ref D) "__getattr__" = some none) && (decide (PySem.W.subIn K (.ref D) (.type "BaseException") = some true) &&
  (PySem.W.hasDictIn K D && (decide (PySem.W.findIn K (.ref D) "__class__" = some (some (.builtin "object.__class__"))) && (decide (PySem.W.specialIn K (.builtin "object.__class__") "__get__" = some (some (.builtin "getset_descriptor.__get__"))) &&
  (decide (PySem.W.takesIn K (.builtin "object.__class__") = some true) && decide (PySem.W.mroIn K D (.type "object") = some true)))))))
theorem excCB_ok {K : PySem.W.Frag} {D : Addr} (h : excCB K D = true) : ExcC K D := by
  unfold excCB at h
  simp only [Bool.and_eq_true, decide_eq_true_eq] at h
  obtain ⟨h1, h2, h3, h4, h5, h6, h7, h8⟩ := h
  exact ⟨h1, h2, h3, h4, h5, h6, h7, h8⟩
section
variable {X : Cx} {fa : Lay} {W : EW}
/-- the exception at a, which stands in the suite's care -/
structure HotE (X : Cx) (D a : Addr) : Prop where
  c : ExcC X.K D
  at_ : ∃ oe, (a, oe) ∈ X.pn ∧ Zc (.ref D) none oe ∧ ∃ vs, oe.data = .fields vs
theorem HotE.inst {D a : Addr} (h : HotE X D a) {pins : List (Addr × Obj)} {σ : L2.St} {H : Hp} {s : Shared} (I : Inv X pins σ H s) : ∃ oe, PySem.W.InstAt s.heap a oe D none := by
  obtain ⟨oe, hm, ⟨h1, h2⟩, vs, hv⟩ := h.at_
  obtain ⟨hget, _⟩ := I.pin (a, oe) (List.mem_append.mpr (.inl hm))
  obtain ⟨oc, od, oda, osl⟩ := oe
  dsimp only at h1 h2 hv
  subst h1 h2 hv
  exact ⟨_, hget, rfl, rfl, trivial⟩
def rHot (K : PySem.W.Frag) (D a : Addr) : List V → Hp → VK → Prop := fun xs H Q => ∃ (c : V) (u : Value) (b : Bool), xs = [.ref a, c] ∧ ClsV c u ∧ PySem.W.kitOne K (.ref D) u = some b ∧ Q (.bl b) H
theorem call_hot {D a : Addr} (h : HotE X D a) : CallR X (.builtin "isinstance") (rHot X.K D a) := by
  intro pins s σ H xs us Q I r hq
  obtain ⟨c, u, b, rfl, k, e, q⟩ := hq
  obtain ⟨u1, u2, rfl, r1, r2⟩ := vals2 r
  cases (show u1 = Value.ref a from r1)
  have e2 := k.eq r2
  subst e2
  obtain ⟨oe, J⟩ := h.inst I
  have C := h.c
  exact PySem.W.kia_one (PySem.W.handS_kitx_exc C.hg C.hk C.hs C.hd C.ha C.hn C.ht C.hm) I.kIn J e (fun z => nomatch z) fun tk => ⟨.bl b, H, I.tok tk, rfl, q⟩
def rHotT (K : PySem.W.Frag) (D a : Addr) : List V → Hp → VK → Prop := fun xs H Q => ∃ (tp : Addr) (cs : List V) (us : List Value) (b : Bool), xs = [.ref a, .ref tp] ∧ H tp = some (.tup cs) ∧ Paired ClsV cs us ∧ PySem.W.kitAny K (.ref D) us = some b ∧ Q (.bl b) H
theorem call_hotT {D a : Addr} (h : HotE X D a) : CallR X (.builtin "isinstance") (rHotT X.K D a) := by
  intro pins s σ H xs us Q I r hq
  obtain ⟨tp, cs, ws, b, rfl, hT, k, e, q⟩ := hq
  obtain ⟨u1, u2, rfl, r1, r2⟩ := vals2 r
  cases (show u1 = Value.ref a from r1)
  cases (show u2 = Value.ref tp from r2)
  obtain ⟨_, its, rv, o, h1, h2, n, h3⟩ := (show ObjOk X.prog X.w H s.heap tp (.tup cs) from I.hok tp _ hT)
  have e3 := ClsV.all k rv
  subst e3
  obtain ⟨oc, od, dt, sl⟩ := o
  simp only at h2 h3
  subst h2 h3
  obtain ⟨oe, J⟩ := h.inst I
  have C := h.c
  exact PySem.W.kia_tup (PySem.W.handS_kitx_exc C.hg C.hk C.hs C.hd C.ha C.hn C.ht C.hm) I.kIn J h1 e (fun z => nomatch z) fun tk => ⟨.bl b, H, I.tok tk, rfl, q⟩
/-- a class's name, and whether the exception is one -/
def ClN (X : Cx) (D : Addr) (e : Expr) (b : Bool) : Prop := ∃ (c : V) (u : Value), ClsV c u ∧ PE X e (tC c) ∧ PySem.W.kitOne X.K (.ref D) u = some b
variable {i : Nat} {n : Str} {D a : Addr} {p p2 pos tpos : Pos}
/-- isinstance(e, C) -/
theorem e_hot1 (h : HotE X D a) (hk : fa.keep = some (i, .ref a)) (hN : X.N[i]? = some n) (hv : Vis X.env.scope n) (hd : (n == ("__debug__" : Str)) = false) (hcd : (n == ("__classdict__" : Str)) = false)
    (hg : Gl X "isinstance") (hm : X.mg "isinstance" = none) {c : Expr} {b : Bool} (hc : ClN X D c b) (hs : notStar c = true) :
    PE X (.Call (.Name "isinstance" p) [.Name n p2, c] [] pos) (tE X.K fa W fun _ μ => .ok (.bl b) μ) := by
  obtain ⟨cv, u, k, pc, e⟩ := hc
  refine PE.imp (pe_callB (call_hot h) hg hm (by decide +kernel) (pa_cons (pe_var hN hv hd hcd) (pa_cons pc pa_nil (star_cons hs)) rfl) (by decide) (by decide) rfl (star_back (es := [c]) fun z hz => by rw [List.mem_singleton.mp hz]; exact hs)) fun σ H Q q => ?_
  obtain ⟨φ, μ, ρ, A, R, q⟩ := q
  exact ⟨.ref a, R.kp i _ hk, cv, u, b, rfl, k, e, q.here A _ mk_bl⟩
theorem pa_cls : ∀ {es : List Expr} {bs : List Bool}, Paired (fun e b => ClN X D e b) es bs → (∀ e ∈ es, notStar e = true) → ∃ cs us, PA X es (fun _ H Q => Q cs H) ∧ Paired ClsV cs us ∧ PySem.W.kitAny X.K (.ref D) us = some (bs.any id) ∧ cs.length = es.length
  | _, _, .nil, _ => ⟨[], [], PA.imp pa_nil fun _ _ _ q => q, .nil, rfl, rfl⟩
  | _, _, .cons (a := e) (b := b) h r, hs => by
    obtain ⟨c, u, k, pc, ek⟩ := h
    obtain ⟨cs, us, h1, h2, h3, h4⟩ := pa_cls r fun z hz => hs z (List.mem_cons_of_mem _ hz)
    refine ⟨c :: cs, u :: us, PA.imp (pa_cons pc h1 (star_cons (hs _ List.mem_cons_self))) fun _ _ _ q => q, .cons k h2, ?_, congrArg (· + 1) h4⟩
    unfold PySem.W.kitAny
    rw [ek]
    cases b with
    | true => rfl
    | false => exact h3
/-- isinstance(e, (C, D, ..)) -/
theorem e_hotT {tx} (h : HotE X D a) (hk : fa.keep = some (i, .ref a)) (hN : X.N[i]? = some n) (hv : Vis X.env.scope n) (hd : (n == ("__debug__" : Str)) = false) (hcd : (n == ("__classdict__" : Str)) = false)
    (hg : Gl X "isinstance") (hm : X.mg "isinstance" = none) {es : List Expr} {bs : List Bool} (hc : Paired (fun e b => ClN X D e b) es bs) (hs : ∀ e ∈ es, notStar e = true) (hl : es.length < 100) :
    PE X (.Call (.Name "isinstance" p) [.Name n p2, .Tuple es tx tpos] [] pos) (tE X.K fa W fun _ μ => .ok (.bl (bs.any id)) μ) := by
  obtain ⟨cs, us, h1, h2, h3, h4⟩ := pa_cls hc hs
  have h4 : cs.length ≤ 100 := by omega
  refine PE.imp (pe_callB (call_hotT h) hg hm (by decide +kernel) (pa_cons (pe_var hN hv hd hcd) (pa_cons (pe_tup h1) pa_nil (star_cons rfl)) rfl) (by decide) (by decide) rfl (star_back (es := [.Tuple es tx tpos]) fun z hz => by rw [List.mem_singleton.mp hz]; rfl)) fun σ H Q q => ?_
  obtain ⟨φ, μ, ρ, A, R, q⟩ := q
  refine ⟨.ref a, R.kp i _ hk, ?_⟩
  refine ⟨Nat.le_trans h4 (by decide +kernel), fun tp hp => ?_⟩
  refine ⟨tp, cs, us, _, rfl, upd_same, h2, h3, ?_⟩
  exact q φ _ (Ext.fresh A hp) (Abs.fresh A hp) _ mk_bl
/-! ### try .. except .. as -/
theorem ends_kill {K : PySem.W.Frag} {φ : Ph} {H : Hp} {o : Out} {D' : Ends} {v : V} (hk : fa.keep = none) (h : RunO K fa W φ H (o.kill i) D') :
    RunO K (fa.hot (some (i, v))) W0 φ H o { nx := fun σ' H' => D'.nx (σ'.set i none) H', rt := D'.rt, bk := fun σ' H' => D'.bk (σ'.set i none) H', ct := fun σ' H' => D'.ct (σ'.set i none) H' } := by
  cases o with
  | nx ρ' μ' => exact fun φ2 H2 σ2 x A R => h φ2 H2 _ x (Abs.hot.mp A) ((R.cool hk).drop hk i none)
  | bk ρ' μ' => exact fun φ2 H2 σ2 x A R => h φ2 H2 _ x (Abs.hot.mp A) ((R.cool hk).drop hk i none)
  | ct ρ' μ' => exact fun φ2 H2 σ2 x A R => h φ2 H2 _ x (Abs.hot.mp A) ((R.cool hk).drop hk i none)
  | rt d μ' => exact fun φ2 H2 v x A r => h φ2 H2 v x (Abs.hot.mp A) (by rw [← RV.hot]; exact r)
  | ex _ _ _ => exact False.elim h
  | no => exact False.elim h
variable {x : Str} {np pos' : Pos} {c : Nat}
theorem s_tryA {cv : Value} {no : List Nat} {body suite : List Stmt} {b₀ : Stmt} {ob oh : Rho → Mu → Out} (hs : X.stack = X.env :: X.outer) (hf : X.env.frame = some X.env.locals) (hNd : X.N.Nodup) (hi : X.N[i]? = some n) (hln : X.env.kindOf n = some .local)
    (hc : Names X x cv) (hW : Wis X fa W) (hkn : fa.keep = none) (hy : PySem.W.exmOne X.K (.ref (fa.cl c)) cv = some true) (hn : ∀ c ∈ no, PySem.W.exmOne X.K (.ref (fa.cl c)) cv = some false)
    (hb : ∀ (W' : EW) (pn : List (Addr × Obj)) (xe : Value → Shared → Prop), Wis (X.tr pn xe) fa W' → PassesOwn (model X.prog X.w) X.A X.env xe → PSs (X.tr pn xe) body (tS X.K fa W' ob))
    (hsu : ∀ (a : Addr) (oe : Obj) (pn : List (Addr × Obj)), Zc (.ref (fa.cl c)) none oe → (∃ vs, oe.data = .fields vs) → PSs (X.suite a ((a, oe) :: pn)) (b₀ :: suite) (tS X.K (fa.hot (some (i, .ref a))) W0 oh)) :
    PS X (.Try body [.ExceptHandler (some (.Name x np)) (some n) (b₀ :: suite) pos'] [] [] pos) (tS X.K fa W (evTryA i c no ob oh)) := by
  obtain ⟨Wm, tk, hWm⟩ := hW
  refine PS.imp (ps_try_as (tb := fun w => tS X.K fa (fun σ x H => w (.ref (fa.cl x.cls)) none σ H) ob) (ts := fun a cls d => fun D σ H => cls = .ref (fa.cl c) ∧ d = none ∧ tS X.K (fa.hot (some (i, .ref a))) W0 oh D σ H) hs hf hNd hi hln hc tk
    (fun w pn xe tk' ho => hb _ pn xe ⟨w, tk', fun _ _ _ h => h⟩ ho) fun a oe cls d pn hz hfd => ⟨fun pins s σ H D I q => by
      obtain ⟨rfl, rfl, q⟩ := q
      exact (hsu a oe pn hz hfd).run pins s σ H D I q⟩) fun D σ H h => ?_
  obtain ⟨φ, μ, ρ, A, R, h⟩ := h
  refine ⟨φ, μ, ρ, A, R, ?_⟩
  unfold evTryA at h
  cases q : ob ρ μ with
  | ex x ρ' μ' =>
    rw [q] at h
    dsimp only at h
    intro φ' H' σ' e A' R'
    by_cases h1 : x.cls = c
    · rw [if_pos h1] at h
      by_cases hl : i < ρ'.length
      · rw [if_pos hl] at h
        refine ⟨true, by rw [h1]; exact hy, fun _ a _ => ⟨by rw [h1], rfl, φ', μ', ρ'.set i none, Abs.hot.mpr A', ?_, ?_⟩, fun q => by cases q⟩
        · refine (R'.drop hkn i _).heat fun j v e2 => ?_
          cases e2
          exact List.getElem?_set_self (by rw [← R'.len]; exact hl)
        · exact ends_kill hkn (h.ext e)
      · rw [if_neg hl] at h; exact False.elim h
    · rw [if_neg h1] at h
      by_cases h2 : x.cls ∈ no
      · rw [if_pos h2] at h
        exact ⟨false, hn _ h2, fun q => (by cases q), fun _ => hWm σ' x H' (h φ' H' σ' e A' R')⟩
      · rw [if_neg h2] at h; exact False.elim h
  | _ => rw [q] at h; exact h
/-! ### a def that is asked of the exception -/
/-- a def that answers b of an exception of class k -/
def HotF (P : Program) (w : World) (K : PySem.W.Frag) (mg : Str → Option Value) (base : Heap) (fa : Lay) (y : Str) (k : Nat) (b : Bool) : Prop :=
  ∃ (f : Addr) (fd : FuncData) (q : Str), mg y = some (.ref f) ∧ PySem.W.keepIn K (.ref f) = true ∧ L2.Binds K fd [q] [] ∧
    ∀ (A : Around) (outer : List Env) (s : Shared) (H : Hp) (args : Args) (a : Addr) (oe : Obj) (φ : Ph) (μ : Mu) (Q : VK), L2H.RoomH 1 A → L2H.PinOk outer H s (a, oe) → Zc (.ref (fa.cl k)) none oe → (∃ vs, oe.data = .fields vs) → ExcC K (fa.cl k) →
      Env0 P w K mg base A outer s H → BindsTo s fd args [(q, .ref a)] → Abs K fa φ μ H → (∀ φ' H', Ext φ H φ' H' → Abs K fa φ' μ H' → Q (.bl b) H') →
      codeAny (model P w) A (.call (.ref f) args) (CR (L2.CX P w) outer P w H s Q fun _ _ _ => False) s
theorem e_hotF {y : Str} {k : Nat} {b : Bool} (hF : HotF X.prog X.w X.K X.mg X.base fa y k b) (h : HotE X (fa.cl k) a) (hk : fa.keep = some (i, .ref a)) (hr : L2H.RoomH 1 X.A) (hN : X.N[i]? = some n) (hv : Vis X.env.scope n) (hd : (n == ("__debug__" : Str)) = false) (hcd : (n == ("__classdict__" : Str)) = false)
    (hg : Gl X y) (hdb : (y == ("__debug__" : Str)) = false) : PE X (.Call (.Name y p) [.Name n p2] [] pos) (tE X.K fa W fun _ μ => .ok (.bl b) μ) := by
  obtain ⟨f, fd, q, hm, hkp, hb, run⟩ := hF
  refine ⟨fun pins s σ H Q I hq => ?_⟩
  obtain ⟨φ, μ, ρ, A, R, hq⟩ := hq
  have pa := pa_cons (pe_var (pos := p2) hN hv hd hcd) pa_nil (star_cons rfl)
  refine wpAny_Call_Name_kw (ld_glob I hg hm ?_ hdb)
  refine PySem.W.callWith_K (h₀ := X.base) I.ok.mod.kin hkp (thn (pa.run pos pins s σ H (fun vs H1 => vs = [.ref a] ∧ H1 = H) I ⟨_, R.kp i _ hk, rfl, rfl⟩) fun us s1 ⟨vs, H1, I1, r, e1, e2⟩ => ⟨I1.kIn, ?_⟩) rfl rfl
  subst e1 e2
  cases r with
  | cons r1 r2 =>
    cases r2
    obtain rfl : _ = Value.ref a := r1
    obtain ⟨oe, hm2, hz, hf⟩ := h.at_
    have P1 := I1.pin (a, oe) (List.mem_append_left _ hm2)
    have hpin : L2H.PinOk X.stack H1 s1 (a, oe) := ⟨P1.1, P1.2.1, fun hm => (List.mem_cons.mp (I1.stkSub a hm)).elim P1.2.2.1 P1.2.2.2.1, P1.2.2.2.2⟩
    have bb := hb s1 [.ref a] I1.kIn rfl
    refine wpAny_call (codeAny_mono (run X.A X.stack s1 H1 ⟨[.ref a], []⟩ a oe φ μ Q hr hpin hz hf h.c I1.env0 bb A fun φ' H' e A' => hq φ' H' e A' _ mk_bl) fun r s' hq => ?_)
    cases r with
    | error e =>
      obtain ⟨_, _, _, _, _, _, _, _, _, _, _, _, z⟩ := hq
      exact z.elim
    | ok fl =>
      cases fl with
      | ret u => exact I1.after hq
      | next => exact False.elim hq
      | brk => exact False.elim hq
      | cont => exact False.elim hq
end
section
variable {P : Program} {w : World} {K : PySem.W.Frag} {mg : Str → Option Value} {base : Heap} {fa : Lay} {G : Nat → Option D} {call : Nat → List D → Mu → Res D}
theorem hotF_of {N : List Str} {y qual q : Str} {st : Stmt} {f : Addr} {fd : FuncData} {k : Nat} {b : Bool} {ss : List S} (Fu : FunD K y qual (defArgs st) (defBody st) (defScope st) [] [] f fd) (S : FnScope N [q] (defScope st)) (hm : mg y = some (.ref f)) (hb : L2.Binds K fd [q] [])
    (hbody : ∀ (cdv : Value) (A : Around) (outer : List Env) (s : Shared) (H : Hp) (a : Addr) (oe : Obj), L2H.RoomH 0 (A.deeper (envOfC qual (defScope st) s.heap.objs.size f cdv)) → Zc (.ref (fa.cl k)) none oe → (∃ vs, oe.data = .fields vs) → ExcC K (fa.cl k) →
      PSs (L2H.cxH (L2.CX P w) P w K mg base N qual (defScope st) f cdv A outer s H (fun _ _ _ => False) (a, oe)) (defBody st) (tS K (fa.hot (some (0, .ref a))) W0 (exSs G call ss)))
    (hval : ∀ ρ μ, exSs G call ss ρ μ = .rt (.bl b) μ) : HotF P w K mg base fa y k b := by
  obtain ⟨oc, od, dV, kV, doc, pm, an, cdv, ct, osl, rfl, lk, hcd, _, _⟩ := Fu.ex
  refine ⟨f, _, q, hm, Fu.kp, hb, fun A outer s H args a oe φ μ Q hr hpin hz hf hC e0 hbd Ab hq => ?_⟩
  have KX : K.In s.heap := e0.mod.kin.keeps fun b o e => (e0.bs b o e).1
  have lim : s.heap.NoLimit := e0.mod.nolimit.keeps fun b o e => (e0.bs b o e).1
  have hkind : ∀ y ∈ [(q, Value.ref a)], (defScope st).names.lookup y.1 = some .local ∨ ((defScope st).names.lookup y.1 = some .cell ∧ ((cellsFrom (s.heap.objs.size + 1) (defScope st).names []).lookup y.1).isSome = true) := fun y hy => by
    rw [List.mem_singleton.mp hy]
    rcases S.par q List.mem_cons_self with z | z
    · exact .inl z
    · exact .inr ⟨z, PySem.W.cellsFrom_some _ _ _ (.inl z)⟩
  refine codeAny_call_function hr.depth (KX _ _ lk) rfl S.co S.gen rfl (PySem.W.codeRec_of KX hcd) (hbd _ _ _ _ ?_)
  refine wpAny_newFunctionEnv_cells S.kind hkind fun env he s1 x => ?_
  subst he
  refine ⟨lim.keeps x.toInCall.keep, codeAny_func ?_⟩
  have I : Inv (L2H.cxH (L2.CX P w) P w K mg base N qual (defScope st) f cdv A outer s H (fun _ _ _ => False) (a, oe)) [] (L2.start N [.ref a]) H s1 := L2H.inv_startH (ps := [q]) (us := [.ref a]) (vs := [.ref a]) S hpin e0 rfl (.cons rfl .nil) x
  have hN : 1 ≤ N.length := by have := congrArg List.length S.pre; rw [List.length_take] at this; simp at this; omega
  refine wpAny_mono ((hbody cdv A outer s H a oe (hr.deeper _) hz hf hC).run [] s1 (L2.start N [.ref a]) H { nx := fun _ H' => Q .non H', rt := Q } I ⟨φ, μ, List.replicate N.length none, Abs.hot.mpr Ab, ⟨?_, fun j d e => ?_, fun j v e => ?_⟩, ?_⟩) (fun fl s' hs => ?_) fun e s' hs => hs
  · unfold L2.start
    rw [List.length_append, List.length_map, List.length_replicate, List.length_replicate]
    show N.length = 1 + (N.length - 1)
    omega
  · rw [List.getElem?_replicate] at e
    split at e <;> cases e
  · cases e
    rfl
  · rw [hval]
    exact fun φ' H' v e A' rv => by rw [rv_bl rv]; exact hq φ' H' e (Abs.hot.mp A')
  have fin : ∀ {σ' : L2.St} {H' : Hp} {v : V} {u : Value}, Inv (L2H.cxH (L2.CX P w) P w K mg base N qual (defScope st) f cdv A outer s H (fun _ _ _ => False) (a, oe)) [] σ' H' s' → RelV v u → Q v H' → CE outer P w H s Q u s' :=
    fun {σ' H' v u} J rv q => ⟨v, H', J.os, J.bare, J.base, J.hok, rv, q⟩
  cases fl with
  | ret u =>
    obtain ⟨v, σ', H', J, rv, q⟩ := hs
    exact fin J rv q
  | next =>
    obtain ⟨σ', H', J, q⟩ := hs
    exact fin (v := V.non) (u := Value.none) J rfl q
  | brk =>
    obtain ⟨_, _, _, q⟩ := hs
    exact False.elim q
  | cont =>
    obtain ⟨_, _, _, q⟩ := hs
    exact False.elim q
end
end Ev

set_option Elab.async false
set_option linter.all false
set_option maxRecDepth 100000
set_option maxHeartbeats 1000000
/-! The look at an expression: it is the evaluator's. -/
namespace Ev
open PySem PySem.Spec PyProof.Rows L2
/-- the names of the module -/
structure Tb where
  fn : List (Nat × Str)
  gl : List (Nat × Str)
  bf : List Str
  cl : List (Nat × Str × Nat)
  fl : List (Nat × Nat × Str)
  me : List (Nat × Str × Nat)
  ec : List (Nat × Str)
  em : List (Str × Nat × Bool)
  is : List (Str × Nat × Bool)
  ve : List (Nat × Bool)
  hc : List Nat
  hf : List (Str × Nat × Bool)
/-- within an except suite: nothing is called -/
def Tb.cool (t : Tb) : Tb := { t with fn := [], cl := [], me := [], ec := [] }
/-- where a look stands -/
structure SC where
  N : List Str
  sc : Scope
  bs : Option Scope
  tb : Tb
  hot : Option (Nat × Str × Nat)
def SC.blk (c : SC) (scope : Scope) : SC := ⟨c.N, relS scope c.sc, some scope, c.tb, none⟩
/-- no except suite that knows its exception -/
def SC.cold (c : SC) : Bool := c.hot.isNone
/-- within the suite of class k, whose exception lies in i, called n -/
def SC.suite (c : SC) (i : Nat) (n : Str) (k : Nat) : SC := ⟨c.N, c.sc, c.bs, c.tb.cool, some (i, n, k)⟩
def SC.mayB (c : SC) (i : Nat) : Bool := match c.hot with
  | none => true
  | some h => decide (h.1 ≠ i)
def SC.isFn (c : SC) (x : Str) : Bool := match c.bs with
  | none => true
  | some s => s.names.lookup x == some .cell
def notDbg (x : Str) : Bool := !(x == ("__debug__" : Str)) && !(x == ("__classdict__" : Str)) && !(x == ("__name__" : Str))
def visB (c : SC) (x : Str) : Bool := (match c.sc.names.lookup x with
  | some .local => true
  | some .cell => true
  | some .free => true
  | _ => false) && notDbg x
def glB (c : SC) (x : Str) : Bool := decide (c.sc.names.lookup x = some .globalImplicit) && notDbg x
def tgtB (c : SC) (i : Nat) (x : Str) : Bool := (decide (c.N[i]? = some x) && c.mayB i) && match c.sc.names.lookup x with
  | some .local => true
  | some .cell => c.isFn x
  | _ => false
def bltB (c : SC) (x y : Str) : Bool := decide (x = y) && glB c x && decide (x ∈ c.tb.bf)
def notSet : Expr → Bool
  | .Set .. => false
  | _ => true
def notSlice : Expr → Bool
  | .Slice .. => false
  | _ => true
def notComp : Expr → Bool
  | .ListComp .. => false
  | .SetComp .. => false
  | .DictComp .. => false
  | _ => true
def plainTest : Expr → Bool
  | .UnaryOp .Not _ _ => false
  | .BoolOp .. => false
  | .IfExp .. => false
  | .Compare .. => false
  | _ => true
def baseOk : Expr → Bool
  | .Name .. => true
  | .Subscript .. => true
  | .Constant .. => true
  | _ => false
mutual
def chkG (c : SC) : T → Expr → Bool
  | .nm i => fun x => match x with
    | .Name y _ => tgtB c i y
    | _ => false
  | .tp ts => fun x => match x with
    | .Tuple es _ _ => c.cold && chkGs c ts es
    | _ => false
def chkGs (c : SC) : List T → List Expr → Bool
  | [] => fun xs => xs.isEmpty
  | t :: ts => fun xs => match xs with
    | x :: xs => notStar x && chkG c t x && chkGs c ts xs
    | [] => false
end
def conB (d : D) (k : Const) : Bool := match k, d with
  | .none, .non => true
  | .bool b, .bl a => a == b
  | .int i, .int j => decide (i = j)
  | .str x, .str s => decide (x.cps.toList = s) && okT s
  | _, _ => false
def binB (o : BOp) (op : Operator) : Bool := match o, op with
  | .add, .Add => true
  | .sub, .Sub => true
  | .mul, .Mult => true
  | .fdiv, .FloorDiv => true
  | .mod, .Mod => true
  | .pow, .Pow => true
  | _, _ => false
def cmpB (o : COp) (op : CmpOp) : Bool := match o, op with
  | .eq, .Eq => true
  | .ne, .NotEq => true
  | .lt, .Lt => true
  | .le, .LtE => true
  | .gt, .Gt => true
  | .ge, .GtE => true
  | .isN, .Is => true
  | .notN, .IsNot => true
  | .in_, .In => true
  | .nin, .NotIn => true
  | _, _ => false
def meStr : Me → Str
  | .append => "append"
  | .extend => "extend"
  | .pop => "pop"
  | .popAt => "pop"
  | .index => "index"
  | .join => "join"
  | .insert => "insert"
  | .reverse => "reverse"
def biStr : Bi → Str
  | .len => "len"
  | .tuple => "tuple"
  | .list => "list"
  | .min2 => "min"
  | .max2 => "max"
  | .int => "int"
  | .str => "str"
  | .all => "all"
  | .any => "any"
  | .sum => "sum"
  | .abs => "abs"
  | .isin _ => "isinstance"
  | .lenset => "len"
  | .divmod => "divmod"
  | .tupRg => "tuple"
  | .lstRg => "list"
  | .maxL => "max"
  | .isTL => "isinstance"
  | .ord => "ord"
def tyStr (t : Ty) : Str := t.nm
def nonNil (xs : List Expr) : Option (List Expr) := match xs with
  | [] => none
  | x :: xs => some (x :: xs)
def rgArg (c : SC) (xs : List Expr) : Option (List Expr) := match xs with
  | [.Call (.Name y _) [a] [] _] => if bltB c y "range" then some [a] else none
  | _ => none
/-- the arguments that are looked at -/
def bixs (c : SC) (b : Bi) (xs : List Expr) : Option (List Expr) := match b with
  | .isin t => match xs with
    | [a, .Name y _] => if bltB c y (tyStr t) && !t.own then some [a] else none
    | _ => none
  | .lenset => match xs with
    | [.Call (.Name y _) [a] [] _] => if bltB c y "set" then some [a] else none
    | _ => none
  | .tupRg => rgArg c xs
  | .lstRg => rgArg c xs
  | .isTL => none
  | _ => nonNil xs
/-- what a walk's source looks at -/
def srcB (c : SC) (k : IK) (iter tg : Expr) : Option (List Expr) := match k with
  | .seq => some [iter]
  | .rng1 => match iter with
    | .Call (.Name x _) [a] [] _ => if bltB c x "range" then some [a] else none
    | _ => none
  | .rng2 => match iter with
    | .Call (.Name x _) [a, b] [] _ => if bltB c x "range" then some [a, b] else none
    | _ => none
  | .rng3 => match iter with
    | .Call (.Name x _) [a, b, d] [] _ => if bltB c x "range" then some [a, b, d] else none
    | _ => none
  | .rev => match iter with
    | .Call (.Name x _) [a] [] _ => if bltB c x "reversed" then some [a] else none
    | _ => none
  | .enum => match iter, tg with
    | .Call (.Name x _) [a] [] _, .Tuple .. => if bltB c x "enumerate" then some [a] else none
    | _, _ => none
  | .zip2 => match iter, tg with
    | .Call (.Name x _) [a, b] [] _, .Tuple .. => if bltB c x "zip" then some [a, b] else none
    | _, _ => none
def ownOf (c : SC) (own : List Nat) : List (Str × Nat) := own.map fun i => ((c.N[i]?).getD ⟨#[]⟩, i)
abbrev Lk : Type := (Expr → Bool) × (Expr → Bool)
def truL (f : Expr → Bool) : Lk := (f, fun x => plainTest x && f x)
def un1 (op : BoolOp) (y : Expr) (rest : List Expr) (pos : Pos) : Expr := match rest with
  | [] => y
  | _ => .BoolOp op (y :: rest) pos
def cVar (c : SC) (i : Nat) : Expr → Bool
  | .Name y _ => decide (c.N[i]? = some y) && visB c y
  | _ => false
def cCon (d : D) : Expr → Bool
  | .Constant k _ _ => conB d k
  | _ => false
def cGlo (c : SC) (k : Nat) : Expr → Bool
  | .Name y _ => decide (c.tb.gl.lookup k = some y) && glB c y
  | _ => false
def cBin (o : BOp) (f g : Expr → Bool) : Expr → Bool
  | .BinOp l op r _ => binB o op && (f l && g r)
  | _ => false
def cCat (f g : Expr → Bool) : Expr → Bool
  | .BinOp l .Add r _ => f l && g r
  | _ => false
def cNeg (f : Expr → Bool) : Expr → Bool
  | .UnaryOp .USub x _ => f x
  | _ => false
def cNot (f : Expr → Bool) : Expr → Bool
  | .UnaryOp .Not x _ => f x
  | _ => false
def cCmp (o : COp) (f g : Expr → Bool) : Expr → Bool
  | .Compare l [op] [r] _ => cmpB o op && notSet r && (f l && g r)
  | _ => false
def cCmp2 (o o' : COp) (f g h : Expr → Bool) : Expr → Bool
  | .Compare l [op, op'] [r, q] _ => cmpB o op && cmpB o' op' && notSet r && notSet q && (f l && g r && h q)
  | _ => false
def cAnd (f g : Expr → Bool) : Expr → Bool
  | .BoolOp .And (x :: y :: rest) pos => f x && g (un1 .And y rest pos)
  | _ => false
def cOr (f g : Expr → Bool) : Expr → Bool
  | .BoolOp .Or (x :: y :: rest) pos => f x && g (un1 .Or y rest pos)
  | _ => false
def cIte (t f g : Expr → Bool) : Expr → Bool
  | .IfExp q x y _ => t q && f x && g y
  | _ => false
def cTup (f : List Expr → Bool) : Expr → Bool
  | .Tuple xs _ _ => f xs
  | _ => false
def cLst (f : List Expr → Bool) : Expr → Bool
  | .List xs _ => f xs
  | _ => false
def cLrep (f : List Expr → Bool) (g : Expr → Bool) : Expr → Bool
  | .BinOp (.List xs _) .Mult y _ => f xs && g y
  | _ => false
def cIdx (f g : Expr → Bool) : Expr → Bool
  | .Subscript x y _ => notSlice y && (f x && g y)
  | _ => false
def cSlc (f : Expr → Bool) (g h : Option Expr → Bool) : Expr → Bool
  | .Subscript x (.Slice l r none _) _ => f x && (g l && h r)
  | _ => false
def cCall (c : SC) (k : Nat) (f : List Expr → Bool) : Expr → Bool
  | .Call (.Name y _) xs [] _ => decide (c.tb.fn.lookup k = some y) && glB c y && f xs
  | _ => false
/-- those that an except suite may call -/
def Bi.hotOk : Bi → Bool
  | .min2 | .max2 | .all | .any | .sum | .maxL | .lenset | .tupRg | .lstRg => false
  | _ => true
def cBi (c : SC) (b : Bi) (f : List Expr → Bool) : Expr → Bool
  | .Call (.Name y _) xs [] _ => bltB c y (biStr b) && (b.hotOk || c.cold) && (match bixs c b xs with
    | some ys => f ys
    | none => false)
  | _ => false
def cMe (m : Me) (f : Expr → Bool) (g : List Expr → Bool) : Expr → Bool
  | .Call (.Attribute o y ap) xs [] cp => decide (y = meStr m) && (ap.endLine == cp.line) && baseOk o && decide (xs.length < 20) && (f o && g xs)
  | _ => false
def cComp (c : SC) (own : List Nat) (t : T) (k : IK) (fsrc : List Expr → Bool) (fc : SC → List Expr → Bool) (fe : SC → Expr → Bool) : Expr → Bool
  | .ListComp x [⟨tg, iter, ifs, a⟩] scope _ => c.cold && decide (a = 0) && blkC c.N c.sc scope (ownOf c own) && (t.vars.all fun j => decide (j ∈ own)) && notSet iter && (match srcB c k iter tg with
    | some ys => fsrc ys
    | none => false) && (chkG (c.blk scope) t tg && fc (c.blk scope) ifs && fe (c.blk scope) x)
  | _ => false
def cNew (c : SC) (k fi : Nat) (f : List Expr → Bool) : Expr → Bool
  | .Call (.Name y _) xs [] _ => decide ((k, y, fi) ∈ c.tb.cl) && glB c y && !xs.isEmpty && f xs
  | _ => false
def cFld (c : SC) (k a : Nat) (f : Expr → Bool) : Expr → Bool
  | .Attribute o y _ => baseOk o && decide ((k, a, y) ∈ c.tb.fl) && f o
  | _ => false
def cMeth (c : SC) (k fi : Nat) (f : Expr → Bool) (g : List Expr → Bool) : Expr → Bool
  | .Call (.Attribute o y ap) xs [] cp => (ap.endLine == cp.line) && decide (xs.length < 20) && baseOk o && decide ((k, y, fi) ∈ c.tb.me) && (f o && g xs)
  | _ => false
def cDictP (c : SC) (f : Expr → Bool) : Expr → Bool
  | .Call (.Name y _) [x] [] _ => c.cold && bltB c y "dict" && notStar x && f x
  | _ => false
def cDict0 : Expr → Bool
  | .Dict [] [] _ => true
  | _ => false
/-- is the exception one of this class? -/
def hotAt (c : SC) (k : Nat) : Expr → Option Bool
  | .Name u _ => if glB c u then (match c.tb.is.find? fun p => decide (p.1 = u ∧ p.2.1 = k) with
    | some p => some p.2.2
    | none => if u = "ValueError" ∧ u ∈ c.tb.bf then c.tb.ve.lookup k else none) else none
  | _ => none
def hotAll (c : SC) (k : Nat) : List Expr → Option (List Bool)
  | [] => some []
  | e :: es => (hotAt c k e).bind fun b => (hotAll c k es).map fun bs => b :: bs
/-- what is asked of the exception -/
def hotAsk (c : SC) (k : Nat) : Expr → Option Bool
  | .Tuple es _ _ => if es.length < 100 then (hotAll c k es).map fun bs => bs.any id else none
  | e => hotAt c k e
def cHot (c : SC) (b : Bool) : Expr → Bool
  | .Call (.Name y _) [.Name m _, z] [] _ => (match c.hot with
    | some (i, n, k) => bltB c y "isinstance" && decide (m = n) && decide (c.N[i]? = some n) && visB c n && decide (hotAsk c k z = some b)
    | none => false)
  | .Call (.Name y _) [.Name m _] [] _ => (match c.hot with
    | some (i, n, k) => decide ((y, k, b) ∈ c.tb.hf) && glB c y && decide (m = n) && decide (c.N[i]? = some n) && visB c n
    | none => false)
  | _ => false
def cConH (c : SC) (d : D) (x : Expr) : Bool := match d with
  | .bl b => cCon (.bl b) x || cHot c b x
  | d => cCon d x
mutual
def chkP : E → SC → Lk
  | .var i => fun c => truL (cVar c i)
  | .con d => fun c => truL (cConH c d)
  | .glo k => fun c => truL (cGlo c k)
  | .bin o a b => fun c => truL (cBin o (chkP a c).1 (chkP b c).1)
  | .neg a => fun c => truL (cNeg (chkP a c).1)
  | .cmp o a b => fun c => (cCmp o (chkP a c).1 (chkP b c).1, cCmp o (chkP a c).1 (chkP b c).1)
  | .cmp2 o o' a b d => fun c => (cCmp2 o o' (chkP a c).1 (chkP b c).1 (chkP d c).1, cCmp2 o o' (chkP a c).1 (chkP b c).1 (chkP d c).1)
  | .and_ a b => fun c => (cAnd (chkP a c).1 (chkP b c).1, cAnd (chkP a c).2 (chkP b c).2)
  | .or_ a b => fun c => (cOr (chkP a c).1 (chkP b c).1, cOr (chkP a c).2 (chkP b c).2)
  | .not_ a => fun c => (cNot (chkP a c).1, cNot (chkP a c).2)
  | .ite q a b => fun c => truL (cIte (chkP q c).2 (chkP a c).1 (chkP b c).1)
  | .tup es => fun c => truL (cTup (chkEs es c))
  | .lst _ es => fun c => truL (cLst (chkEs es c))
  | .cat a b => fun c => truL (cCat (chkP a c).1 (chkP b c).1)
  | .lrep es a => fun c => truL (cLrep (chkEs es c) (chkP a c).1)
  | .idx a i => fun c => truL (cIdx (chkP a c).1 (chkP i c).1)
  | .slc a lo hi => fun c => truL (cSlc (chkP a c).1 (chkO lo c) (chkO hi c))
  | .call f es => fun c => truL (cCall c f (chkEs es c))
  | .bi b es => fun c => truL (cBi c b (chkEs es c))
  | .me m o es => fun c => truL (cMe m (chkP o c).1 (chkEs es c))
  | .comp _ own elt t k src q => fun c => truL (cComp c own t k (chkEs src c) (chkC q) (fun c' => (chkP elt c').1))
  | .dict0 => fun _ => truL cDict0
  | .dictP e => fun c => truL (cDictP c (chkP e c).1)
  | .dictL _ _ => fun _ => truL fun _ => false
  | .mlst _ => fun _ => truL fun _ => false
  | .zipL _ _ => fun _ => truL fun _ => false
  | .fnv _ => fun _ => truL fun _ => false
  | .tget _ _ _ _ => fun _ => truL fun _ => false
  | .callv _ _ => fun _ => truL fun _ => false
  | .callL _ _ _ _ => fun _ => truL fun _ => false
  | .new k fi es => fun c => truL (cNew c k fi (chkEs es c))
  | .fld k a o => fun c => truL (cFld c k a (chkP o c).1)
  | .meth k fi o es => fun c => truL (cMeth c k fi (chkP o c).1 (chkEs es c))
def chkEs : List E → SC → List Expr → Bool
  | [] => fun _ xs => xs.isEmpty
  | e :: es => fun c xs => match xs with
    | x :: xs => notStar x && (chkP e c).1 x && chkEs es c xs
    | [] => false
def chkO : Option E → SC → Option Expr → Bool
  | none => fun _ x => x.isNone
  | some e => fun c x => match x with
    | some x => (chkP e c).1 x
    | none => false
def chkC : Option E → SC → List Expr → Bool
  | none => fun _ xs => xs.isEmpty
  | some e => fun c xs => match xs with
    | [x] => (chkP e c).2 x
    | _ => false
end

/-! ### it is so -/
section
variable (G : Nat → Option D) (F : Nat → Option Fn) (n : Nat) (fa : Lay) (W : EW)
structure GoodX (c : SC) (X : Cx) : Prop where
  ww : fa.w = X.w
  hN : X.N = c.N
  sc : X.env.scope = c.sc
  fn : ∀ x, c.isFn x = true → X.fn x = true
  cold : c.hot = none → fa.keep = none ∧ X.calm = true ∧ X.A.handled = none ∧ L2H.RoomH (2 * n + 1) X.A
  hote : ∀ i n k, c.hot = some (i, n, k) → ∃ a, fa.keep = some (i, .ref a) ∧ HotE X (fa.cl k) a
  nd : c.N.Nodup
  room : L2H.RoomH (2 * n) X.A
  own : PassesOwn (model X.prog X.w) X.A X.env X.xe
  wis : Wis X fa W
  glo : ∀ (k : Nat) (x : Str), c.tb.gl.lookup k = some x → ∃ u v d, X.mg x = some u ∧ RelV v u ∧ G k = some d ∧ ∀ G' φ, RV X.K fa G' φ d v
  bf : ∀ x, x ∈ c.tb.bf → X.mg x = none
  cal : ∀ (f : Nat) (x : Str), c.tb.fn.lookup f = some x → c.hot = none ∧ ∃ fd ps, FnOk X.prog X.w X.K X.mg X.base (L2.CX X.prog X.w) (2 * n) (fa.fn f) fd ps (spN X.K fa G F n f) ∧ X.mg x = some (.ref (fa.fn f)) ∧ PySem.W.keepIn X.K (.ref (fa.fn f)) = true ∧ L2.Binds X.K fd ps []
  cls : ∀ (k : Nat) (x : Str) (i : Nat), (k, x, i) ∈ c.tb.cl → c.hot = none ∧ ∃ f fd ps, Mk X.K (fa.cl k) f ∧ FnOk X.prog X.w X.K X.mg X.base (L2.CX X.prog X.w) (2 * n) f fd ps (spN X.K fa G F n i) ∧ X.mg x = some (.ref (fa.cl k)) ∧ L2.Binds X.K fd ps []
  fld : ∀ (k a : Nat) (y : Str), (k, a, y) ∈ c.tb.fl → Cls X.K (fa.cl k) ∧ NoAttr X.K (fa.cl k) (fa.fld a) ∧ fa.okf a = true ∧ fa.fld a = y
  met : ∀ (k : Nat) (y : Str) (i : Nat), (k, y, i) ∈ c.tb.me → c.hot = none ∧ ∃ f fd ps, Cls X.K (fa.cl k) ∧ Meth X.K (fa.cl k) y f ∧ FnOk X.prog X.w X.K X.mg X.base (L2.CX X.prog X.w) (2 * n) f fd ps (spN X.K fa G F n i) ∧ L2.Binds X.K fd ps [] ∧ ∀ a, fa.okf a = true → fa.fld a ≠ y
  exc : ∀ (k : Nat) (y : Str), (k, y) ∈ c.tb.ec → c.hot = none ∧ ExcF X (fa.cl k) y
  exm : ∀ (y : Str) (k : Nat) (b : Bool), (y, k, b) ∈ c.tb.em → ∃ v, X.mg y = some v ∧ PySem.W.exmOne X.K (.ref (fa.cl k)) v = some b
  ist : ∀ (y : Str) (k : Nat) (b : Bool), (y, k, b) ∈ c.tb.is → ∃ C : Addr, X.mg y = some (.ref C) ∧ PySem.W.kitOne X.K (.ref (fa.cl k)) (.ref C) = some b
  isv : ∀ (k : Nat) (b : Bool), (k, b) ∈ c.tb.ve → PySem.W.kitOne X.K (.ref (fa.cl k)) (.type "ValueError") = some b
  hcl : ∀ k ∈ c.tb.hc, ExcC X.K (fa.cl k)
  hfn : ∀ (y : Str) (k : Nat) (b : Bool), (y, k, b) ∈ c.tb.hf → L2H.RoomH 1 X.A ∧ HotF X.prog X.w X.K X.mg X.base fa y k b
end
theorem and1 {a b : Bool} (h : (a && b) = true) : a = true ∧ b = true := by rw [Bool.and_eq_true] at h; exact h
theorem notDbg_ok {x : Str} (h : notDbg x = true) : (x == ("__debug__" : Str)) = false ∧ (x == ("__classdict__" : Str)) = false ∧ x ≠ "__name__" := by
  obtain ⟨h1, h3⟩ := and1 h
  obtain ⟨h1, h2⟩ := and1 h1
  refine ⟨by simpa using h1, by simpa using h2, fun e => ?_⟩
  subst e
  simp at h3
section
variable {G : Nat → Option D} {F : Nat → Option Fn} {n : Nat} {fa : Lay} {W : EW} {Z : EZ} {c : SC} {X : Cx}
theorem GoodX.blk (g : GoodX G F n fa W c X) (hc : c.cold = true) (s : Shared) (H : Hp) (scope : Scope) (cl : List (Str × Addr)) (C : Addr) (fp : List Addr) : GoodX G F n fa W0 (c.blk scope) (X.blk s H scope (compEnvC scope cl C X.env) fp) := by
  have hn : c.hot = none := Option.isNone_iff_eq_none.mp hc
  refine ⟨g.ww, g.hN, ?_, fun x h => h, fun _ => g.cold hn, (fun _ _ _ e => by cases e), g.nd, g.room, PassesOwn.never, wis0, g.glo, g.bf, fun f x h => ⟨rfl, (g.cal f x h).2⟩, fun k x i h => ⟨rfl, (g.cls k x i h).2⟩, g.fld, fun k y i h => ⟨rfl, (g.met k y i h).2⟩, fun k y h => ?_, g.exm, g.ist, g.isv, g.hcl, g.hfn⟩
  rotate_left
  · obtain ⟨_, h1, h2, h3, h4, h5⟩ := g.exc k y h
    exact ⟨rfl, h1, h2, h3, h4, h5⟩
  show relS scope X.env.scope = relS scope c.sc
  rw [g.sc]
theorem cold_ok {c : SC} (h : c.cold = true) : c.hot = none := Option.isNone_iff_eq_none.mp h
theorem GoodX.roomC (g : GoodX G F n fa W c X) (h : c.hot = none) : Room (2 * n + 1) X.A := ⟨(g.cold h).2.2.1, (g.cold h).2.2.2.dp, (g.cold h).2.2.2.un⟩
theorem GoodX.calm (g : GoodX G F n fa W c X) (h : c.cold = true) : X.calm = true := (g.cold (cold_ok h)).2.1
theorem GoodX.kn (g : GoodX G F n fa W c X) (h : c.cold = true) : fa.keep = none := (g.cold (cold_ok h)).1
theorem GoodX.may (g : GoodX G F n fa W c X) {i : Nat} (h : c.mayB i = true) : fa.may i := fun v e => by
  unfold SC.mayB at h
  cases hh : c.hot with
  | none => rw [(g.cold hh).1] at e; cases e
  | some p =>
    obtain ⟨j, n, k⟩ := p
    rw [hh] at h
    obtain ⟨a, h1, _⟩ := g.hote j n k hh
    rw [h1] at e
    cases e
    exact of_decide_eq_true h rfl
theorem GoodX.vis (g : GoodX G F n fa W c X) {x : Str} (h : visB c x = true) : Vis X.env.scope x := by
  unfold visB at h
  obtain ⟨h, _⟩ := and1 h
  unfold Vis
  rw [g.sc]
  split at h
  · rename_i e; exact .inl e
  · rename_i e; exact .inr (.inl e)
  · rename_i e; exact .inr (.inr e)
  · cases h
theorem GoodX.gl (g : GoodX G F n fa W c X) {x : Str} (h : glB c x = true) : Gl X x := by
  obtain ⟨h, _⟩ := and1 h
  unfold Gl Env.kindOf
  rw [g.sc]
  exact of_decide_eq_true h
theorem glB_dbg {x : Str} (h : glB c x = true) : notDbg x = true := (and1 h).2
theorem GoodX.blt (g : GoodX G F n fa W c X) {x y : Str} (h : bltB c x y = true) : x = y ∧ Gl X x ∧ X.mg x = none ∧ notDbg x = true := by
  obtain ⟨h, h3⟩ := and1 h
  obtain ⟨h1, h2⟩ := and1 h
  exact ⟨of_decide_eq_true h1, g.gl h2, g.bf x (of_decide_eq_true h3), glB_dbg h2⟩
theorem GoodX.un (g : GoodX G F n fa W c X) : X.A.units + 65 < cLine := by have := g.room.un; omega
theorem asg_cons {e : Expr} {es : List Expr} {env : Env} (h : notStar e = true) : assignEach (e :: es) env = (false, assign e env) :: assignEach es env := by
  cases e <;> first | rfl | cases h
theorem star_all {pos : Pos} {env : Env} : ∀ {es : List Expr}, (∀ e ∈ es, notStar e = true) → (backTo pos (starEach es env)).all (fun x => !x.1) = true
  | [], _ => rfl
  | e :: es, h => by
    rw [star_cons (h e List.mem_cons_self)]
    show (true && (backTo pos (starEach es env)).all (fun x => !x.1)) = true
    rw [star_all fun q hq => h q (List.mem_cons_of_mem _ hq)]
    rfl
theorem noset_fold {e : Expr} {env : Env} (h : notSet e = true) : ∀ x, foldedSetIterable e env x = pure x := by
  intro x
  cases e <;> first | rfl | cases h
theorem noset_mark {e : Expr} {op : CmpOp} (h : notSet e = true) : behindInMarks op e = false := by
  cases e <;> first | rfl | cases h
theorem plain_ix {e : Expr} (h : notSlice e = true) : PlainIx e := by
  intro o i
  cases e <;> first | rfl | cases h
theorem base_ok {e : Expr} {a : Str} {env : Env} {w : Sem Value} (h : baseOk e = true) : attributeBase e a env w = w := by
  cases e <;> first | rfl | cases h
theorem plain_test {e : Expr} {env : Env} (h : plainTest e = true) : ∀ whole, isTrue e env whole = (do let v ← whole; standAt e.pos; holding [v] (truthy v)) := by
  intro whole
  cases e with
  | UnaryOp op x p => cases op <;> first | rfl | cases h
  | BoolOp => cases h
  | IfExp => cases h
  | Compare => cases h
  | _ => rfl
theorem op_binB {o : BOp} {op : Operator} (h : binB o op = true) : OpR X (binaryOp op) (rOp X.K fa fun μ x y => Res.of (binD o μ x y) μ) := by
  cases o <;> cases op <;> cases h
  · exact op_add'
  · exact op_sub'
  · exact op_mul'
  · exact op_fdiv'
  · exact op_mod'
  · exact op_pow'
theorem op_cmpB (g : GoodX G F n fa W c X) {o : COp} {op : CmpOp} (h : cmpB o op = true) : OpR X (compareOp op) (rOp X.K fa (cmpR o)) := by
  have u := g.un
  cases o <;> cases op <;> cases h
  · exact op_eqM (by omega)
  · exact op_neM (by omega)
  · exact op_ltM
  · exact op_leM
  · exact op_gtM
  · exact op_geM
  · exact op_isNM
  · exact op_notNM
  · exact op_inM g.ww u
  · exact op_ninM g.ww u
theorem pe_one {op : BoolOp} {e : Expr} {pos : Pos} {t : TE} (h : PE X e t) : PE X (.BoolOp op [e] pos) t := ⟨h.run⟩
theorem t_plain {e : Expr} {m : Rho → Mu → Res D} (h : PE X e (tE X.K fa W m)) (hp : plainTest e = true) : PT X e (tT X.K fa W (truP m).2) := t_truth h (plain_test hp)
end
end Ev

set_option Elab.async false
set_option linter.all false
set_option maxRecDepth 100000
set_option maxHeartbeats 1000000
/-! .. proved. -/
namespace Ev
open PySem PySem.Spec PyProof.Rows L2
theorem Res.assoc {α β γ : Type} (r : Res α) (f : α → Mu → Res β) (g : β → Mu → Res γ) : (r.bind f).bind g = r.bind fun a μ => (f a μ).bind g := by cases r <;> rfl
section
variable {G : Nat → Option D} {F : Nat → Option Fn} {n : Nat} {fa : Lay} {W : EW} {Z : EZ} {c : SC} {X : Cx}
/-! ### targets -/
mutual
theorem chkg_ok (g : GoodX G F n fa W c X) : ∀ (t : T) (x : Expr), chkG c t x = true → PG X x (tG X.K fa t)
  | .nm i, x, h => by
    cases x with
    | Name y pos =>
      unfold chkG at h
      obtain ⟨h1, h2⟩ := and1 (show tgtB c i y = true from h)
      obtain ⟨h1, hmay⟩ := and1 h1
      have hi : X.N[i]? = some y := by rw [g.hN]; exact of_decide_eq_true h1
      have nd : X.N.Nodup := by rw [g.hN]; exact g.nd
      cases hl : c.sc.names.lookup y with
      | none => rw [hl] at h2; cases h2
      | some k =>
        rw [hl] at h2
        cases k with
        | «local» => exact g_name (g.may hmay) nd hi (.inl (by rw [g.sc]; exact hl)) (.inr (by rw [g.sc]; exact hl))
        | cell => exact g_name (g.may hmay) nd hi (.inr (by rw [g.sc]; exact hl)) (.inl (g.fn y h2))
        | _ => cases h2
    | _ => unfold chkG at h; cases h
  | .tp ts, x, h => by
    cases x with
    | Tuple es k pos =>
      unfold chkG at h
      obtain ⟨hco, h⟩ := and1 h
      obtain ⟨h1, h2, h3, h4⟩ := chkgs_ok g ts es h
      exact g_tup (g.calm hco) h1 h2 h3 h4
    | _ => unfold chkG at h; cases h
theorem chkgs_ok (g : GoodX G F n fa W c X) : ∀ (ts : List T) (xs : List Expr), chkGs c ts xs = true → PGs X xs (tGs X.K fa ts) ∧ ts.length = xs.length ∧ (assignEach xs X.env).length = xs.length ∧ (assignEach xs X.env).findIdx? (·.1) = none
  | [], [], _ => ⟨g_nil, rfl, rfl, rfl⟩
  | [], x :: xs, h => by unfold chkGs at h; cases h
  | t :: ts, [], h => by unfold chkGs at h; cases h
  | t :: ts, x :: xs, h => by
    unfold chkGs at h
    obtain ⟨h1, h2⟩ := and1 h
    obtain ⟨h3, h4⟩ := and1 h1
    obtain ⟨q1, q2, q3, q4⟩ := chkgs_ok g ts xs h2
    have e := asg_cons (es := xs) (env := X.env) h3
    refine ⟨g_cons (chkg_ok g t x h4) q1 (by rw [e]; rfl), by rw [List.length_cons, List.length_cons, q2], by rw [e, List.length_cons, List.length_cons, q3], ?_⟩
    rw [e, List.findIdx?_cons]
    rw [q4]
    rfl
end
variable (X fa G W) in
def PAll (call : Nat → List D → Mu → Res D) : List E → List Expr → Prop
  | [], xs => xs = []
  | e :: es, xs => ∃ x r, xs = x :: r ∧ notStar x = true ∧ PE X x (tE X.K fa W (evE G call e)) ∧ PAll call es r
theorem PAll.star {call : Nat → List D → Mu → Res D} : ∀ {es : List E} {xs : List Expr}, PAll G fa W X call es xs → ∀ x ∈ xs, notStar x = true
  | [], xs, h, x, hx => by unfold PAll at h; subst h; cases hx
  | e :: es, xs, h, x, hx => by
    unfold PAll at h
    obtain ⟨y, r, rfl, h1, h2, h3⟩ := h
    rcases List.mem_cons.mp hx with rfl | hx
    · exact h1
    · exact PAll.star h3 x hx
theorem PAll.pa {call : Nat → List D → Mu → Res D} : ∀ {es : List E} {xs : List Expr}, PAll G fa W X call es xs → PA X xs (tA X.K fa W (evEs G call es))
  | [], xs, h => by unfold PAll at h; subst h; exact a_nil
  | e :: es, xs, h => by
    unfold PAll at h
    obtain ⟨y, r, rfl, h1, h2, h3⟩ := h
    exact a_cons h2 (PAll.pa h3) (star_cons h1)
/-! ### built-ins -/
theorem bi_gen (g : GoodX G F n fa W c X) {b : Bi} {y : Str} {p pos : Pos} {x : Expr} {xs : List Expr} {ms : Rho → Mu → Res (List D)} (hy : bltB c y (biStr b) = true) (hs : ∀ z ∈ x :: xs, notStar z = true) (ha : PA X (x :: xs) (tA X.K fa W ms))
    (hc : (∃ id, biStr b = Str.ofString id ∧ CallR X (.builtin id) (rBi X.K fa (biR b)) ∧ bootBuiltins (Str.ofString id) = some (.builtin id)) ∨ ∃ id, biStr b = Str.ofString id ∧ CallR X (.type id) (rBi X.K fa (biR b)) ∧ bootBuiltins (Str.ofString id) = some (.type id)) :
    PE X (.Call (.Name y p) (x :: xs) [] pos) (tE X.K fa W fun ρ μ => (ms ρ μ).bind fun ds μ => Res.of (biD b μ ds) μ) := by
  obtain ⟨e, hg, hm, hd⟩ := g.blt hy
  obtain ⟨hd1, _, hd2⟩ := notDbg_ok hd
  have hs1 := star_cons (es := xs) (env := X.env) (hs x List.mem_cons_self)
  have hs2 := star_back (pos := pos) (env := X.env) (es := xs) fun z hz => hs z (List.mem_cons_of_mem _ hz)
  rcases hc with ⟨id, e2, hc, hb⟩ | ⟨id, e2, hc, hb⟩
  · exact e_biB hc hg hm (by rw [e, e2]; exact hb) ha hd2 hd1 hs1 hs2
  · exact e_biT hc hg hm (by rw [e, e2]; exact hb) ha hd2 hd1 hs1 hs2
theorem boot_ty : ∀ t : Ty, t.own = false → bootBuiltins (tyStr t) = some (.type t.nm)
  | .int, _ => boot_int
  | .bool, _ => boot_bool
  | .str, _ => boot_str
  | .tuple, _ => boot_tuple
  | .list, _ => boot_list
  | .dict, _ => boot_dict
theorem pall_one {call : Nat → List D → Mu → Res D} {es : List E} {x : Expr} (h : PAll G fa W X call es [x]) : ∃ e, es = [e] ∧ notStar x = true ∧ PE X x (tE X.K fa W (evE G call e)) := by
  cases es with
  | nil => unfold PAll at h; cases h
  | cons e es =>
    unfold PAll at h
    obtain ⟨y, r, er, h1, h2, h3⟩ := h
    cases er
    cases es with
    | cons _ _ => unfold PAll at h3; obtain ⟨_, _, q, _⟩ := h3; cases q
    | nil => exact ⟨e, rfl, h1, h2⟩
theorem rv_rng {K : PySem.W.Frag} {G' : Hp} {φ : Ph} (j : Int) : RVs K fa G' φ (rngL 0 j.toNat) (L2.rgV 0 j) := by
  refine RVs.of_get (by unfold rngL; rw [L2.rgV_length, List.length_map, List.length_range, Int.sub_zero]) fun i d v h1 h2 => ?_
  unfold rngL at h1
  unfold L2.rgV at h2
  rw [List.getElem?_map] at h1 h2
  obtain ⟨a, e1, rfl⟩ := ofmap h1
  obtain ⟨b, e2, rfl⟩ := ofmap h2
  have ha := (List.getElem?_eq_some_iff.mp e1)
  have hb := (List.getElem?_eq_some_iff.mp e2)
  obtain ⟨_, ha⟩ := ha
  obtain ⟨_, hb⟩ := hb
  rw [List.getElem_range] at ha hb
  subst ha; subst hb
  exact mk_int
theorem rg_some {f : List D → D} {a d : D} (h : rgD f a = some d) : ∃ j : Int, a = .int j ∧ RgOk 0 j ∧ d = f (rngL 0 j.toNat) := by
  cases a with
  | int j =>
    obtain ⟨c, e⟩ := ite_some (show (if -(2 ^ 62) ≤ j ∧ j ≤ 16777216 then some (f (rngL 0 j.toNat)) else none) = some d from h)
    cases e
    exact ⟨j, rfl, ⟨by omega, by omega, c.1, by omega, by omega⟩, rfl⟩
  | _ => cases h
theorem rgArg_some {xs ys : List Expr} (h : rgArg c xs = some ys) : ∃ y p a q, xs = [.Call (.Name y p) [a] [] q] ∧ ys = [a] ∧ bltB c y "range" = true := by
  unfold rgArg at h
  split at h
  · split at h
    · rename_i hb
      cases h
      exact ⟨_, _, _, _, rfl, rfl, hb⟩
    · cases h
  · cases h
theorem rg_run {f : List D → D} {o : List V → HO} {ma : Rho → Mu → Res D} (hf : ∀ {φ : Ph} {μ : Mu} {H : Hp} {l : List D} {vs : List V} {p : Addr}, Abs X.K fa φ μ H → RVs X.K fa (msk H φ) φ l vs → H p = none → Ext φ H φ (upd H p (o vs)) ∧ Abs X.K fa φ μ (upd H p (o vs)) ∧ RV X.K fa (msk (upd H p (o vs)) φ) φ (f l) (.ref p))
    (σ : L2.St) (H : Hp) (Q : VK) (h : tE X.K fa W (fun ρ μ => (ma ρ μ).bind fun v μ => Res.of (rgD f v) μ) σ H Q) : tE X.K fa W ma σ H fun x H1 => ∃ n, x = .int n ∧ RgOk 0 n ∧ ∀ q, H1 q = none → Q (.ref q) (upd H1 q (o (rgV 0 n))) := by
  obtain ⟨φ, μ, ρ, A, R, h⟩ := h
  refine ⟨φ, μ, ρ, A, R, h.bind.imp fun d μ1 φ1 H1 e1 A1 h1 v rv => ?_⟩
  obtain ⟨k, e, q⟩ := h1.of
  obtain ⟨j, rfl, ok, rfl⟩ := rg_some e
  cases rv_int rv
  refine ⟨j, rfl, ok, fun p hp => ?_⟩
  obtain ⟨x1, A2, r2⟩ := hf A1 (rv_rng j) hp
  exact q φ1 _ x1 A2 _ r2
theorem one_bind {call : Nat → List D → Mu → Res D} {e0 : E} {g : Mu → D → Option D} {b : Bi} (hb : ∀ μ ds, biD b μ ds = d1 ds (g μ)) : (fun (ρ : Rho) (μ : Mu) => (evE G call e0 ρ μ).bind fun v μ => Res.of (g μ v) μ) = fun ρ μ => (evEs G call [e0] ρ μ).bind fun ds μ => Res.of (biD b μ ds) μ := by
  funext ρ μ
  show _ = ((evE G call e0 ρ μ).bind fun x μ => (Res.ok [] μ).bind fun xs μ => .ok (x :: xs) μ).bind _
  rw [Res.assoc]
  congr 1
  funext x μ'
  show _ = Res.of (biD b μ' [x]) μ'
  rw [hb]
  rfl
theorem rg_ok (g : GoodX G F n fa W c X) (hco : c.cold = true) {call : Nat → List D → Mu → Res D} {b : Bi} {y : Str} {p pos : Pos} {xs ys : List Expr} {es : List E} (hy : bltB c y (biStr b) = true) (hb : b = .tupRg ∨ b = .lstRg) (hx : rgArg c xs = some ys) (ha : PAll G fa W X call es ys) :
    PE X (.Call (.Name y p) xs [] pos) (tE X.K fa W fun ρ μ => (evEs G call es ρ μ).bind fun ds μ => Res.of (biD b μ ds) μ) := by
  obtain ⟨e, hg, hm, hd⟩ := g.blt hy
  obtain ⟨y2, p2, a, q, rfl, rfl, hb2⟩ := rgArg_some hx
  obtain ⟨e2, hg2, hm2, _⟩ := g.blt hb2
  obtain ⟨e0, rfl, h1, h2⟩ := pall_one ha
  subst e2
  have hr := prg_1 (p := p2) (pos := q) hg2 hm2 h2 (star_cons h1)
  rcases hb with rfl | rfl
  · have e : y = "tuple" := e
    subst e
    have r := PE.imp (pe_tupRg (p := p) (pos := pos) (g.calm hco) hg hm hr (star_cons rfl)) fun σ H Q h => rg_run (f := .tup) (o := .tup) (fun A r hp => new_tup A r hp) σ H Q h
    rw [one_bind (g := fun _ a => rgD .tup a) (b := .tupRg) fun _ _ => rfl] at r
    exact r
  · have e : y = "list" := e
    subst e
    have r := PE.imp (pe_listRg (p := p) (pos := pos) (g.calm hco) hg hm hr (star_cons rfl)) fun σ H Q h => rg_run (f := .lst) (o := .lst) (fun A r hp => new_lst A r hp) σ H Q h
    rw [one_bind (g := fun _ a => rgD .lst a) (b := .lstRg) fun _ _ => rfl] at r
    exact r
theorem ls_ok (g : GoodX G F n fa W c X) (hco : c.cold = true) {call : Nat → List D → Mu → Res D} {y : Str} {p pos : Pos} {xs ys : List Expr} {es : List E} (hy : bltB c y (biStr .lenset) = true) (hx : bixs c .lenset xs = some ys) (ha : PAll G fa W X call es ys) :
    PE X (.Call (.Name y p) xs [] pos) (tE X.K fa W fun ρ μ => (evEs G call es ρ μ).bind fun ds μ => Res.of (biD .lenset μ ds) μ) := by
  obtain ⟨e, hg, hm, hd⟩ := g.blt hy
  unfold bixs at hx
  dsimp only at hx
  split at hx
  · rename_i y2 p2 a q
    split at hx
    · rename_i hb2
      cases hx
      obtain ⟨e2, hg2, hm2, _⟩ := g.blt hb2
      obtain ⟨e0, rfl, h1, h2⟩ := pall_one ha
      subst e2
      have e : y = "len" := e
      subst e
      have r := PE.imp (pe_lenT (p := p) (pos := pos) (p2 := p2) (q := q) (g.calm hco) hg hm hg2 hm2 h2 (star_cons h1)) fun σ H Q (h : tE X.K fa W (fun ρ μ => (evE G call e0 ρ μ).bind fun v μ => Res.of ((seqOf μ v).bind fun l => (strsOf l).bind fun ss => if ss.length < 4000 then some (.int (unlike ss)) else none) μ) σ H Q) => by
        obtain ⟨φ, μ, ρ, A, R, h⟩ := h
        refine ⟨φ, μ, ρ, A, R, h.bind.imp fun d μ1 φ1 H1 e1 A1 h1 v rv => ?_⟩
        obtain ⟨k, e, q⟩ := h1.of
        obtain ⟨l, hl, e⟩ := ofbind e
        obtain ⟨ts, ht, e⟩ := ofbind e
        obtain ⟨hb, e⟩ := ite_some e
        cases e
        obtain ⟨p, vs, rfl, hs, rs⟩ := seq_at A1 rv hl
        obtain ⟨rfl, _⟩ := strs_rvs rs ht
        exact ⟨p, ts, rfl, hs, hb, q φ1 H1 (Ext.refl _ _) A1 _ mk_int⟩
      rw [one_bind (g := fun μ v => (seqOf μ v).bind fun l => (strsOf l).bind fun ss => if ss.length < 4000 then some (.int (unlike ss)) else none) (b := .lenset) fun _ _ => rfl] at r
      exact r
    · cases hx
  · cases hx
theorem bi_all_ok (g : GoodX G F n fa W c X) {call : Nat → List D → Mu → Res D} {b : Bi} {y : Str} {p pos : Pos} {xs ys : List Expr} {es : List E} (hy : bltB c y (biStr b) = true) (hh : (b.hotOk || c.cold) = true) (hx : bixs c b xs = some ys) (ha : PAll G fa W X call es ys) :
    PE X (.Call (.Name y p) xs [] pos) (tE X.K fa W fun ρ μ => (evEs G call es ρ μ).bind fun ds μ => Res.of (biD b μ ds) μ) := by
  have hgen : bixs c b xs = nonNil xs → ((∃ id, biStr b = Str.ofString id ∧ CallR X (.builtin id) (rBi X.K fa (biR b)) ∧ bootBuiltins (Str.ofString id) = some (.builtin id)) ∨ ∃ id, biStr b = Str.ofString id ∧ CallR X (.type id) (rBi X.K fa (biR b)) ∧ bootBuiltins (Str.ofString id) = some (.type id)) →
      PE X (.Call (.Name y p) xs [] pos) (tE X.K fa W fun ρ μ => (evEs G call es ρ μ).bind fun ds μ => Res.of (biD b μ ds) μ) := fun e hc => by
    rw [e] at hx
    cases xs with
    | nil => cases hx
    | cons x xs =>
      cases hx
      exact bi_gen g hy ha.star ha.pa hc
  have hco : b.hotOk = false → c.cold = true := fun e => by rw [e] at hh; exact hh
  clear hh
  cases b with
  | len => exact hgen rfl (.inl ⟨"len", rfl, bi_len, boot_len⟩)
  | tuple => exact hgen rfl (.inr ⟨"tuple", rfl, bi_tuple, boot_tuple⟩)
  | list => exact hgen rfl (.inr ⟨"list", rfl, bi_list, boot_list⟩)
  | min2 => exact hgen rfl (.inl ⟨"min", rfl, bi_min2 (g.calm (hco rfl)), boot_min⟩)
  | max2 => exact hgen rfl (.inl ⟨"max", rfl, bi_max2 (g.calm (hco rfl)), boot_max⟩)
  | int => exact hgen rfl (.inr ⟨"int", rfl, bi_int, boot_int⟩)
  | str => exact hgen rfl (.inr ⟨"str", rfl, bi_str, boot_str⟩)
  | all => exact hgen rfl (.inl ⟨"all", rfl, bi_all (g.calm (hco rfl)), boot_all⟩)
  | any => exact hgen rfl (.inl ⟨"any", rfl, bi_any (g.calm (hco rfl)), boot_any⟩)
  | sum => exact hgen rfl (.inl ⟨"sum", rfl, bi_sum (g.calm (hco rfl)), boot_sum⟩)
  | abs => exact hgen rfl (.inl ⟨"abs", rfl, bi_abs, boot_abs⟩)
  | divmod => exact hgen rfl (.inl ⟨"divmod", rfl, bi_divmod, boot_divmod⟩)
  | maxL => exact hgen rfl (.inl ⟨"max", rfl, bi_maxL (g.calm (hco rfl)), boot_max⟩)
  | ord => exact hgen rfl (.inl ⟨"ord", rfl, bi_ord, boot_ord⟩)
  | isTL => cases hx
  | lenset => exact ls_ok g (hco rfl) hy hx ha
  | tupRg => exact rg_ok g (hco rfl) hy (.inl rfl) hx ha
  | lstRg => exact rg_ok g (hco rfl) hy (.inr rfl) hx ha
  | isin t =>
    obtain ⟨e, hg, hm, hd⟩ := g.blt hy
    obtain ⟨hd1, _, hd2⟩ := notDbg_ok hd
    unfold bixs at hx
    dsimp only at hx
    split at hx
    · rename_i a z p2
      split at hx
      · rename_i hc
        cases hx
        obtain ⟨hc1, hc2⟩ := and1 hc
        obtain ⟨e2, hg2, hm2, hd'⟩ := g.blt hc1
        obtain ⟨hd3, _, hd4⟩ := notDbg_ok hd'
        have ht : t.own = false := by simpa using hc2
        cases es with
        | nil => unfold PAll at ha; cases ha
        | cons e0 es =>
          unfold PAll at ha
          obtain ⟨x, r, er, h1, h2, h3⟩ := ha
          cases er
          cases es with
          | cons _ _ => unfold PAll at h3; obtain ⟨_, _, q, _⟩ := h3; cases q
          | nil =>
            have q := pe_isin (t := t) (p := p) (p2 := p2) (pos := pos) ht hg hm (by rw [e]; exact boot_isinstance) hg2 hm2 (by rw [e2]; exact boot_ty t ht) h2 hd2 hd1 hd4 hd3 (star_cons h1)
            have ee : (fun (ρ : Rho) (μ : Mu) => (evE G call e0 ρ μ).bind fun v μ => Res.of ((kindIs μ t v).map D.bl) μ) = fun ρ μ => (evEs G call [e0] ρ μ).bind fun ds μ => Res.of (biD (.isin t) μ ds) μ := by
              funext ρ μ
              show _ = ((evE G call e0 ρ μ).bind fun x μ => (Res.ok [] μ).bind fun xs μ => .ok (x :: xs) μ).bind _
              rw [Res.assoc]
              rfl
            rw [ee] at q
            exact q
      · cases hx
    · cases hx
/-! ### what is walked -/
theorem src_ok (g : GoodX G F n fa W c X) {call : Nat → List D → Mu → Res D} {k : IK} {iter tg : Expr} {ys : List Expr} {es : List E} (hx : srcB c k iter tg = some ys) (ha : PAll G fa W X call es ys) : PI X tg iter (iD X.K fa W k (evEs G call es)) := by
  cases k with
  | seq =>
    cases hx
    cases es with
    | nil => unfold PAll at ha; cases ha
    | cons e0 es =>
      unfold PAll at ha
      obtain ⟨x, r, er, h1, h2, h3⟩ := ha
      cases er
      cases es with
      | cons _ _ => unfold PAll at h3; obtain ⟨_, _, q, _⟩ := h3; cases q
      | nil =>
        have q := pi_seq (tg := tg) h2
        exact q
  | rng1 =>
    unfold srcB at hx
    dsimp only at hx
    split at hx
    · split at hx
      · rename_i hb
        cases hx
        obtain ⟨rfl, hg, hm, _⟩ := g.blt hb
        exact pi_rng1 hg hm ha.pa (star_cons (ha.star _ List.mem_cons_self))
      · cases hx
    · cases hx
  | rng2 =>
    unfold srcB at hx
    dsimp only at hx
    split at hx
    · split at hx
      · rename_i hb
        cases hx
        obtain ⟨rfl, hg, hm, _⟩ := g.blt hb
        have h1 := ha.star _ List.mem_cons_self
        have h2 := ha.star _ (List.mem_cons_of_mem _ List.mem_cons_self)
        exact pi_rng2 hg hm ha.pa (by rw [star_cons h1, star_cons h2]; rfl) (star_cons h2)
      · cases hx
    · cases hx
  | rng3 =>
    unfold srcB at hx
    dsimp only at hx
    split at hx
    · split at hx
      · rename_i hb
        cases hx
        obtain ⟨rfl, hg, hm, _⟩ := g.blt hb
        have h1 := ha.star _ List.mem_cons_self
        exact pi_rng3 hg hm ha.pa (star_cons h1) (star_back fun z hz => ha.star z (List.mem_cons_of_mem _ hz))
      · cases hx
    · cases hx
  | rev =>
    unfold srcB at hx
    dsimp only at hx
    split at hx
    · split at hx
      · rename_i hb
        cases hx
        obtain ⟨rfl, hg, hm, _⟩ := g.blt hb
        obtain ⟨e0, rfl, h1, h2⟩ := pall_one ha
        have e1 : (fun (ρ : Rho) (μ : Mu) => (evE G call e0 ρ μ).bind fun x μ => .ok [x] μ) = evEs G call [e0] := by
          funext ρ μ
          rfl
        rw [← e1]
        exact pi_revD hg hm h2 (star_cons h1)
      · cases hx
    · cases hx
  | enum =>
    unfold srcB at hx
    dsimp only at hx
    split at hx
    · split at hx
      · rename_i hb
        cases hx
        obtain ⟨rfl, hg, hm, _⟩ := g.blt hb
        exact pi_enumD hg hm ha.pa (star_cons (ha.star _ List.mem_cons_self))
      · cases hx
    · cases hx
  | zip2 =>
    unfold srcB at hx
    dsimp only at hx
    split at hx
    · split at hx
      · rename_i hb
        cases hx
        obtain ⟨rfl, hg, hm, _⟩ := g.blt hb
        have h1 := ha.star _ List.mem_cons_self
        have h2 := ha.star _ (List.mem_cons_of_mem _ List.mem_cons_self)
        exact pi_zipD hg hm ha.pa (star_cons h1) (star_back fun z hz => by
          rcases List.mem_cons.mp hz with rfl | hz
          · exact h2
          · cases hz)
      · cases hx
    · cases hx
end
end Ev

set_option Elab.async false
set_option linter.all false
set_option maxRecDepth 100000
set_option maxHeartbeats 1000000
/-! The look at an expression tells the truth. -/
namespace Ev
open PySem PySem.Spec PyProof.Rows L2
theorem some_get {α : Type} {o : Option α} {f : α → Bool} (h : (match o with | some y => f y | none => false) = true) : ∃ y, o = some y ∧ f y = true := by
  cases o with
  | none => cases h
  | some y => exact ⟨y, rfl, h⟩
theorem ownOf_snd (c : SC) (own : List Nat) : (ownOf c own).map (·.2) = own := by
  unfold ownOf
  rw [List.map_map]
  exact List.map_id own
section
variable (G : Nat → Option D) (F : Nat → Option Fn) (n : Nat) (fa : Lay) (W : EW)
abbrev EOk (X : Cx) (e : E) (x : Expr) : Prop := PE X x (tE X.K fa W (evE G (run G F n) e))
def TOk (X : Cx) (e : E) (x : Expr) : Prop := PT X x (tT X.K fa W (evT G (run G F n) e)) ∧ ∀ op vs pos, x = .BoolOp op vs pos → PW X x (tT X.K fa W (evT G (run G F n) e))
end
section
variable {G : Nat → Option D} {F : Nat → Option Fn} {n : Nat} {fa : Lay} {W : EW} {Z : EZ} {c : SC} {X : Cx}
theorem tru_ok {m : Rho → Mu → Res D} {f : Expr → Bool} {x : Expr} (h : f x = true → PE X x (tE X.K fa W m)) :
    ((truL f).1 x = true → PE X x (tE X.K fa W (truP m).1)) ∧ ((truL f).2 x = true → PT X x (tT X.K fa W (truP m).2) ∧ ∀ op vs pos, x = .BoolOp op vs pos → PW X x (tT X.K fa W (truP m).2)) := by
  refine ⟨h, fun q => ?_⟩
  obtain ⟨h1, h2⟩ := and1 q
  exact ⟨t_plain (h h2) h1, fun op vs pos e => by subst e; cases h1⟩
theorem un1_e {op : BoolOp} {y : Expr} {rest : List Expr} {pos : Pos} {t : TE} (h : PE X (un1 op y rest pos) t) : PE X (.BoolOp op (y :: rest) pos) t := by
  cases rest with
  | nil => exact pe_one h
  | cons _ _ => exact h
theorem un1_and {y : Expr} {rest : List Expr} {pos : Pos} {t : TT} (h : PT X (un1 .And y rest pos) t ∧ ∀ op vs p, un1 .And y rest pos = .BoolOp op vs p → PW X (un1 .And y rest pos) t) : PW X (.BoolOp .And (y :: rest) pos) t := by
  cases rest with
  | nil => exact pw_and1 h.1
  | cons _ _ => exact h.2 _ _ _ rfl
theorem un1_or {y : Expr} {rest : List Expr} {pos : Pos} {t : TT} (h : PT X (un1 .Or y rest pos) t ∧ ∀ op vs p, un1 .Or y rest pos = .BoolOp op vs p → PW X (un1 .Or y rest pos) t) : PW X (.BoolOp .Or (y :: rest) pos) t := by
  cases rest with
  | nil => exact pw_or1 h.1
  | cons _ _ => exact h.2 _ _ _ rfl
theorem con_ok {d : D} {k : Const} {j : Nat} {pos : Pos} (h : conB d k = true) : PE X (.Constant k j pos) (tE X.K fa W fun _ μ => .ok d μ) := by
  cases k with
  | none => cases d <;> first | exact e_tc pe_non (fun _ _ => mk_non) | cases h
  | bool b =>
    cases d with
    | bl a =>
      have : a = b := by simpa [conB] using h
      subst this
      exact e_tc pe_bl fun _ _ => mk_bl
    | _ => cases h
  | int i =>
    cases d with
    | int a =>
      have : i = a := of_decide_eq_true h
      subst this
      exact e_tc pe_int fun _ _ => mk_int
    | _ => cases h
  | str s =>
    cases d with
    | str a =>
      obtain ⟨h1, h2⟩ := and1 h
      have e : s = sOf a := by
        rw [← (of_decide_eq_true h1 : s.cps.toList = a)]
        unfold sOf
        cases s
        simp
      rw [e]
      exact e_tc pe_str fun _ _ => mk_str h2
    | _ => cases h
  | _ => cases d <;> cases h
theorem e_g {m m' : Rho → Mu → Res D} {x : Expr} (h : PE X x (tE X.K fa W m)) (e : m = m') : PE X x (tE X.K fa W m') := e ▸ h
theorem glo_ok (g : GoodX G F n fa W c X) {k : Nat} {y : Str} {pos : Pos} (h1 : c.tb.gl.lookup k = some y) (h2 : glB c y = true) : PE X (.Name y pos) (tE X.K fa W fun _ μ => Res.of (G k) μ) := by
  obtain ⟨u, v, d, hm, r, hG, hv⟩ := g.glo k y h1
  refine e_g (m := fun _ μ => .ok d μ) (e_tc (pe_glob (g.gl h2) hm r (notDbg_ok (glB_dbg h2)).1) hv) ?_
  funext ρ μ
  rw [hG]
  rfl
theorem call_ok (g : GoodX G F n fa W c X) {k : Nat} {y : Str} {p pos : Pos} {es : List E} {xs : List Expr} (h1 : c.tb.fn.lookup k = some y) (h2 : glB c y = true) (ha : PAll G fa W X (run G F n) es xs) :
    PE X (.Call (.Name y p) xs [] pos) (tE X.K fa W fun ρ μ => (evEs G (run G F n) es ρ μ).bind fun ds μ => run G F n k ds μ) := by
  obtain ⟨hno, fd, ps, Fo, hm, hk, hb⟩ := g.cal k y h1
  have hdb := (notDbg_ok (glB_dbg h2)).1
  cases xs with
  | nil =>
    cases es with
    | nil => exact e_call0 g.wis Fo ((g.roomC hno).mono (by omega)) (g.gl h2) hm hk hb hdb
    | cons _ _ => unfold PAll at ha; obtain ⟨_, _, q, _⟩ := ha; cases q
  | cons x xs =>
    exact e_call g.wis Fo ((g.roomC hno).mono (by omega)) (g.gl h2) hm hk hb ha.pa hdb (star_cons (ha.star x List.mem_cons_self)) (star_back fun z hz => ha.star z (List.mem_cons_of_mem _ hz))
theorem new_ok (g : GoodX G F n fa W c X) {k i : Nat} {y : Str} {p pos : Pos} {es : List E} {xs : List Expr} (h1 : (k, y, i) ∈ c.tb.cl) (h2 : glB c y = true) (h3 : xs.isEmpty = false) (ha : PAll G fa W X (run G F n) es xs) :
    PE X (.Call (.Name y p) xs [] pos) (tE X.K fa W fun ρ μ => (evEs G (run G F n) es ρ μ).bind fun ds μ => (run G F n i (.loc μ.length :: ds) (μ ++ [.obj k []])).bind fun r μ' => if r = .non then .ok (.loc μ.length) μ' else .no) := by
  obtain ⟨hno, f, fd, ps, M, Fo, hm, hb⟩ := g.cls k y i h1
  have hdb := (notDbg_ok (glB_dbg h2)).1
  cases xs with
  | nil => cases h3
  | cons x xs => exact e_new g.wis M Fo (g.roomC hno) (g.gl h2) hm hb ha.pa hdb (star_cons (ha.star x List.mem_cons_self)) (star_back fun z hz => ha.star z (List.mem_cons_of_mem _ hz))
theorem fld_ok (g : GoodX G F n fa W c X) {k a : Nat} {y : Str} {pos : Pos} {o : Expr} {eo : E} (h1 : (k, a, y) ∈ c.tb.fl) (hb : baseOk o = true) (ho : PE X o (tE X.K fa W (evE G (run G F n) eo))) :
    PE X (.Attribute o y pos) (tE X.K fa W fun ρ μ => (evE G (run G F n) eo ρ μ).bind fun x μ => Res.of (fldD μ k a x) μ) := by
  obtain ⟨q1, q2, q3, rfl⟩ := g.fld k a y h1
  exact e_fld q1 q2 q3 ho (base_ok hb)
theorem meth_ok (g : GoodX G F n fa W c X) {k i : Nat} {y : Str} {ap pos : Pos} {o : Expr} {eo : E} {es : List E} {xs : List Expr} (h1 : (k, y, i) ∈ c.tb.me) (hl : (ap.endLine == pos.line) = true) (hn : xs.length < 20) (hb : baseOk o = true) (ho : PE X o (tE X.K fa W (evE G (run G F n) eo))) (ha : PAll G fa W X (run G F n) es xs) :
    PE X (.Call (.Attribute o y ap) xs [] pos) (tE X.K fa W fun ρ μ => (evE G (run G F n) eo ρ μ).bind fun x μ => if (objAt μ k x).isSome then (evEs G (run G F n) es ρ μ).bind fun ds μ => run G F n i (x :: ds) μ else .no) := by
  obtain ⟨hno, f, fd, ps, hc, hm, Fo, hb', hy⟩ := g.met k y i h1
  have hr := (g.roomC hno).mono (show 2 * n ≤ 2 * n + 1 by omega)
  cases xs with
  | nil =>
    cases es with
    | nil => exact e_meth0 g.wis hc hm hy Fo hr hb' ho (meth_form (base_ok hb) hl rfl)
    | cons _ _ => unfold PAll at ha; obtain ⟨_, _, q, _⟩ := ha; cases q
  | cons x xs =>
    have s1 := star_cons (es := xs) (env := X.env) (ha.star x List.mem_cons_self)
    have s2 := star_back (pos := pos) (env := X.env) (es := xs) fun z hz => ha.star z (List.mem_cons_of_mem _ hz)
    refine e_meth g.wis hc hm hy Fo hr hb' ho ha.pa s1 s2 (meth_form (base_ok hb) hl ?_)
    unfold methodCallForm
    rw [star_all (pos := pos) (env := X.env) ha.star]
    show (true && true && decide ((x :: xs).length + 0 + 0 < 30)) = true
    have : (x :: xs).length + 0 + 0 < 30 := by omega
    rw [decide_eq_true this]
    rfl
theorem me_slot : ∀ m : Me, ∃ id, PlainAttrs m.ty ∧ Slot m.ty (meStr m) id ∧ typeOf (.builtin id) = pure (.type "method_descriptor") ∧ ∀ (X : Cx) (fa : Lay), MtR X id (rMe X.K fa (meR m))
  | .append => ⟨_, PySem.F.plainAttrs_list, PySem.F.slot_list_append, PySem.F.type_list_append, fun _ _ => me_append⟩
  | .extend => ⟨_, PySem.F.plainAttrs_list, PySem.F.slot_list_extend, PySem.F.type_list_extend, fun _ _ => me_extend⟩
  | .pop => ⟨_, PySem.F.plainAttrs_list, PySem.F.slot_list_pop, PySem.F.type_list_pop, fun _ _ => me_pop⟩
  | .popAt => ⟨_, PySem.F.plainAttrs_list, PySem.F.slot_list_pop, PySem.F.type_list_pop, fun _ _ => me_popAt⟩
  | .index => ⟨_, PySem.F.plainAttrs_str, PySem.F.slot_str_index, PySem.F.type_str_index, fun _ _ => me_index⟩
  | .join => ⟨_, PySem.F.plainAttrs_str, PySem.F.slot_str_join, PySem.F.type_str_join, fun _ _ => me_join⟩
  | .insert => ⟨_, PySem.F.plainAttrs_list, PySem.F.slot_list_insert, PySem.F.type_list_insert, fun _ _ => me_insert⟩
  | .reverse => ⟨_, PySem.F.plainAttrs_list, PySem.F.slot_list_reverse, PySem.F.type_list_reverse, fun _ _ => me_reverse⟩
theorem me_ok (g : GoodX G F n fa W c X) {m : Me} {o : Expr} {eo : E} {ap cp : Pos} {xs : List Expr} {es : List E} (hl : (ap.endLine == cp.line) = true) (hb : baseOk o = true) (hn : xs.length < 20) (ho : PE X o (tE X.K fa W (evE G (run G F n) eo))) (ha : PAll G fa W X (run G F n) es xs) :
    PE X (.Call (.Attribute o (meStr m) ap) xs [] cp) (tE X.K fa W fun ρ μ => (evE G (run G F n) eo ρ μ).bind fun x μ => if meTy m μ x then (evEs G (run G F n) es ρ μ).bind fun ds μ => meD m μ x ds else .no) := by
  obtain ⟨id, pa, slot, hty, hm⟩ := me_slot m
  cases xs with
  | nil =>
    cases es with
    | nil => exact e_me0 pa slot hty (hm X fa) ho (base_ok hb) hl
    | cons _ _ => unfold PAll at ha; obtain ⟨_, _, q, _⟩ := ha; cases q
  | cons x xs =>
    refine e_me pa slot hty (hm X fa) ho ha.pa (base_ok hb) ?_ hl (star_cons (ha.star x List.mem_cons_self)) (star_back fun z hz => ha.star z (List.mem_cons_of_mem _ hz))
    rw [star_all (pos := cp) (env := X.env) ha.star]
    show (true && true && decide ((x :: xs).length + 0 + 0 < 30)) = true
    have : (x :: xs).length + 0 + 0 < 30 := by omega
    rw [decide_eq_true this]
    rfl
theorem lookP {α : Type} : ∀ {l : List (Nat × α)} {k : Nat} {x : α}, l.lookup k = some x → (k, x) ∈ l
  | [], _, _, h => by cases h
  | (j, y) :: r, k, x, h => by
    rw [List.lookup_cons] at h
    cases hk : k == j with
    | true =>
      rw [hk] at h
      rw [eq_of_beq hk, Option.some.inj h]
      exact List.mem_cons_self
    | false =>
      rw [hk] at h
      exact List.mem_cons_of_mem _ (lookP h)
theorem hot_at (g : GoodX G F n fa W c X) {k : Nat} {e : Expr} {b : Bool} (h : hotAt c k e = some b) : ClN X (fa.cl k) e b ∧ notStar e = true := by
  cases e with
  | Name u pos =>
    unfold hotAt at h
    dsimp only at h
    by_cases hg : glB c u = true
    · rw [if_pos hg] at h
      have hdb := notDbg_ok (glB_dbg hg)
      split at h
      · rename_i p hp
        cases h
        have hm := List.mem_of_find?_eq_some hp
        have hq0 := List.find?_some hp
        have hq : p.1 = u ∧ p.2.1 = k := by simpa using hq0
        obtain ⟨e1, e2⟩ := hq
        obtain ⟨C, h1, h2⟩ := g.ist p.1 p.2.1 p.2.2 hm
        rw [e1] at h1
        rw [e2] at h2
        exact ⟨⟨_, _, .own C, pe_glob (g.gl hg) h1 rfl hdb.1, h2⟩, rfl⟩
      · by_cases hv : u = "ValueError" ∧ u ∈ c.tb.bf
        · rw [if_pos hv] at h
          obtain ⟨e, hb⟩ := hv
          refine ⟨⟨_, _, .ty "ValueError", pe_bltn (g.gl hg) (g.bf u hb) (by rw [e]; decide +kernel) rfl hdb.2.2 hdb.1, g.isv k b (lookP h)⟩, rfl⟩
        · rw [if_neg hv] at h; cases h
    · rw [if_neg hg] at h; cases h
  | _ => cases h
theorem hot_all (g : GoodX G F n fa W c X) {k : Nat} : ∀ {es : List Expr} {bs : List Bool}, hotAll c k es = some bs → Paired (fun e b => ClN X (fa.cl k) e b) es bs ∧ ∀ e ∈ es, notStar e = true
  | [], bs, h => by
    cases h
    exact ⟨.nil, fun _ h => by cases h⟩
  | e :: es, bs, h => by
    unfold hotAll at h
    obtain ⟨b, h1, h⟩ := ofbind h
    obtain ⟨bs', h2, rfl⟩ := ofmap h
    obtain ⟨q1, q2⟩ := hot_at g h1
    obtain ⟨q3, q4⟩ := hot_all g h2
    exact ⟨.cons q1 q3, fun x hx => (List.mem_cons.mp hx).elim (fun e => e ▸ q2) (q4 x)⟩
theorem hot_con (g : GoodX G F n fa W c X) {b : Bool} {x : Expr} (h : cHot c b x = true) : PE X x (tE X.K fa W fun _ μ => .ok (.bl b) μ) := by
  unfold cHot at h
  split at h
  · split at h
    · rename_i i m k hh
      obtain ⟨h, h1⟩ := and1 h
      obtain ⟨h, h2⟩ := and1 h
      obtain ⟨h, h3⟩ := and1 h
      obtain ⟨h, h4⟩ := and1 h
      obtain ⟨a, ha, he⟩ := g.hote _ _ _ hh
      obtain ⟨e1, hg, hm, hd⟩ := g.blt h
      subst e1
      have e2 := of_decide_eq_true h4
      subst e2
      have hN := of_decide_eq_true h3
      rw [← g.hN] at hN
      obtain ⟨d1, d2, _⟩ := notDbg_ok (and1 h2).2
      have h1 := of_decide_eq_true h1
      unfold hotAsk at h1
      split at h1
      · split at h1
        · rename_i hl
          obtain ⟨bs, h5, rfl⟩ := ofmap h1
          obtain ⟨q1, q2⟩ := hot_all g h5
          exact e_hotT he ha hN (g.vis h2) d1 d2 hg hm q1 q2 hl
        · cases h1
      · obtain ⟨q1, q2⟩ := hot_at g h1
        exact e_hot1 he ha hN (g.vis h2) d1 d2 hg hm q1 q2
    · cases h
  · split at h
    · rename_i i m k hh
      obtain ⟨h, h1⟩ := and1 h
      obtain ⟨h, h2⟩ := and1 h
      obtain ⟨h, h3⟩ := and1 h
      obtain ⟨h4, h5⟩ := and1 h
      obtain ⟨a, ha, he⟩ := g.hote _ _ _ hh
      have e2 := of_decide_eq_true h3
      subst e2
      have hN := of_decide_eq_true h2
      rw [← g.hN] at hN
      obtain ⟨d1, d2, _⟩ := notDbg_ok (and1 h1).2
      exact e_hotF (g.hfn _ _ _ (of_decide_eq_true h4)).2 he ha (g.hfn _ _ _ (of_decide_eq_true h4)).1 hN (g.vis h1) d1 d2 (g.gl h5) (notDbg_ok (glB_dbg h5)).1
    · cases h
  · cases h
mutual
theorem chk_ok : ∀ (e : E) (W : EW) (c : SC) (X : Cx) (g : GoodX G F n fa W c X) (x : Expr), ((chkP e c).1 x = true → EOk G F n fa W X e x) ∧ ((chkP e c).2 x = true → TOk G F n fa W X e x)
  | .var i, W, c, X, g, x => tru_ok fun h => by
    cases x with
    | Name y pos =>
      obtain ⟨h1, h2⟩ := and1 h
      obtain ⟨d1, d2, _⟩ := notDbg_ok (and1 h2).2
      exact e_var (by rw [g.hN]; exact of_decide_eq_true h1) (g.vis h2) d1 d2
    | _ => cases h
  | .con d, W, c, X, g, x => tru_ok fun h => by
    unfold cConH at h
    cases d with
    | bl b =>
      rcases Bool.or_eq_true_iff.mp h with h | h
      · cases x with
        | Constant k j pos => exact con_ok h
        | _ => cases h
      · exact hot_con g h
    | _ =>
      cases x with
      | Constant k j pos => exact con_ok h
      | _ => cases h
  | .glo k, W, c, X, g, x => tru_ok fun h => by
    cases x with
    | Name y pos =>
      obtain ⟨h1, h2⟩ := and1 h
      exact glo_ok g (of_decide_eq_true h1) h2
    | _ => cases h
  | .bin o a b, W, c, X, g, x => tru_ok fun h => by
    cases x with
    | BinOp l op r pos =>
      obtain ⟨h1, h2⟩ := and1 h
      obtain ⟨h2, h3⟩ := and1 h2
      exact e_bin (op_binB h1) ((chk_ok a _ c X g l).1 h2) ((chk_ok b _ c X g r).1 h3)
    | _ => cases h
  | .neg a, W, c, X, g, x => tru_ok fun h => by
    cases x with
    | UnaryOp op y pos =>
      cases op with
      | USub => exact e_neg ((chk_ok a _ c X g y).1 h)
      | _ => cases h
    | _ => cases h
  | .cmp o a b, W, c, X, g, x => by
    have key : cCmp o (chkP a c).1 (chkP b c).1 x = true → ∃ l op r pos, x = .Compare l [op] [r] pos ∧ cmpB o op = true ∧ notSet r = true ∧ (chkP a c).1 l = true ∧ (chkP b c).1 r = true := fun h => by
      unfold cCmp at h
      split at h
      · obtain ⟨h1, h2⟩ := and1 h
        obtain ⟨h1, h3⟩ := and1 h1
        obtain ⟨h4, h5⟩ := and1 h2
        exact ⟨_, _, _, _, rfl, h1, h3, h4, h5⟩
      · cases h
    refine ⟨fun h => ?_, fun h => ?_⟩
    · obtain ⟨l, op, r, pos, rfl, h1, h2, h3, h4⟩ := key h
      exact e_cmp (op_cmpB g h1) ((chk_ok a _ c X g l).1 h3) ((chk_ok b _ c X g r).1 h4) (noset_mark h2)
    · obtain ⟨l, op, r, pos, rfl, h1, h2, h3, h4⟩ := key h
      exact ⟨t_cmp (op_cmpB g h1) ((chk_ok a _ c X g l).1 h3) ((chk_ok b _ c X g r).1 h4) (noset_mark h2), fun op vs pos e => by cases e⟩
  | .cmp2 o o' a b d, W, c, X, g, x => by
    have key : cCmp2 o o' (chkP a c).1 (chkP b c).1 (chkP d c).1 x = true → ∃ l op op' r q pos, x = .Compare l [op, op'] [r, q] pos ∧ cmpB o op = true ∧ cmpB o' op' = true ∧ lastMarks [op, op'] [r, q] = false ∧ (chkP a c).1 l = true ∧ (chkP b c).1 r = true ∧ (chkP d c).1 q = true := fun h => by
      unfold cCmp2 at h
      split at h
      · obtain ⟨h1, h2⟩ := and1 h
        obtain ⟨h1, h3⟩ := and1 h1
        obtain ⟨h1, h4⟩ := and1 h1
        obtain ⟨h1, h5⟩ := and1 h1
        obtain ⟨h2, h6⟩ := and1 h2
        obtain ⟨h2, h7⟩ := and1 h2
        exact ⟨_, _, _, _, _, _, rfl, h1, h5, noset_mark h3, h2, h7, h6⟩
      · cases h
    refine ⟨fun h => ?_, fun h => ?_⟩
    · obtain ⟨l, op, op', r, q, pos, rfl, h1, h2, h3, h4, h5, h6⟩ := key h
      exact e_cmp2 (op_cmpB g h1) (op_cmpB g h2) ((chk_ok a _ c X g l).1 h4) ((chk_ok b _ c X g r).1 h5) ((chk_ok d _ c X g q).1 h6) h3
    · obtain ⟨l, op, op', r, q, pos, rfl, h1, h2, h3, h4, h5, h6⟩ := key h
      exact ⟨t_cmp2 (op_cmpB g h1) (op_cmpB g h2) ((chk_ok a _ c X g l).1 h4) ((chk_ok b _ c X g r).1 h5) ((chk_ok d _ c X g q).1 h6) h3, fun op vs pos e => by cases e⟩
  | .and_ a b, W, c, X, g, x => by
    refine ⟨fun h => ?_, fun h => ?_⟩
    · have h : cAnd (chkP a c).1 (chkP b c).1 x = true := h
      unfold cAnd at h
      split at h
      · obtain ⟨h1, h2⟩ := and1 h
        exact e_and ((chk_ok a _ c X g _).1 h1) (un1_e ((chk_ok b _ c X g _).1 h2))
      · cases h
    · have h : cAnd (chkP a c).2 (chkP b c).2 x = true := h
      unfold cAnd at h
      split at h
      · obtain ⟨h1, h2⟩ := and1 h
        have q := t_and ((chk_ok a _ c X g _).2 h1).1 (un1_and ((chk_ok b _ c X g _).2 h2))
        exact ⟨q.pt, fun _ _ _ _ => q⟩
      · cases h
  | .or_ a b, W, c, X, g, x => by
    refine ⟨fun h => ?_, fun h => ?_⟩
    · have h : cOr (chkP a c).1 (chkP b c).1 x = true := h
      unfold cOr at h
      split at h
      · obtain ⟨h1, h2⟩ := and1 h
        exact e_or ((chk_ok a _ c X g _).1 h1) (un1_e ((chk_ok b _ c X g _).1 h2))
      · cases h
    · have h : cOr (chkP a c).2 (chkP b c).2 x = true := h
      unfold cOr at h
      split at h
      · obtain ⟨h1, h2⟩ := and1 h
        have q := t_or ((chk_ok a _ c X g _).2 h1).1 (un1_or ((chk_ok b _ c X g _).2 h2))
        exact ⟨q.pt, fun _ _ _ _ => q⟩
      · cases h
  | .not_ a, W, c, X, g, x => by
    refine ⟨fun h => ?_, fun h => ?_⟩
    · cases x with
      | UnaryOp op y pos =>
        cases op with
        | Not => exact e_not ((chk_ok a _ c X g y).1 h)
        | _ => cases h
      | _ => cases h
    · cases x with
      | UnaryOp op y pos =>
        cases op with
        | Not => exact ⟨t_not ((chk_ok a _ c X g y).2 h).1, fun op vs pos e => by cases e⟩
        | _ => cases h
      | _ => cases h
  | .ite q a b, W, c, X, g, x => tru_ok fun h => by
    cases x with
    | IfExp t y z pos =>
      obtain ⟨h1, h2⟩ := and1 h
      obtain ⟨h1, h3⟩ := and1 h1
      exact e_ite ((chk_ok q _ c X g t).2 h1).1 ((chk_ok a _ c X g y).1 h3) ((chk_ok b _ c X g z).1 h2)
    | _ => cases h
  | .tup es, W, c, X, g, x => tru_ok fun h => by
    cases x with
    | Tuple xs k pos => exact e_tup (chks_ok es _ c X g xs h).pa
    | _ => cases h
  | .lst m es, W, c, X, g, x => tru_ok fun h => by
    cases x with
    | List xs pos => exact e_lst m (chks_ok es _ c X g xs h).pa
    | _ => cases h
  | .cat a b, W, c, X, g, x => tru_ok fun h => by
    cases x with
    | BinOp l op r pos =>
      cases op with
      | Add =>
        obtain ⟨h2, h3⟩ := and1 h
        exact e_cat ((chk_ok a _ c X g l).1 h2) ((chk_ok b _ c X g r).1 h3)
      | _ => cases h
    | _ => cases h
  | .lrep es a, W, c, X, g, x => tru_ok fun h => by
    unfold cLrep at h
    split at h
    · obtain ⟨h1, h2⟩ := and1 h
      exact e_lrep (chks_ok es _ c X g _ h1).pa ((chk_ok a _ c X g _).1 h2)
    · cases h
  | .idx a i, W, c, X, g, x => tru_ok fun h => by
    cases x with
    | Subscript l r pos =>
      obtain ⟨h1, h2⟩ := and1 h
      obtain ⟨h2, h3⟩ := and1 h2
      exact e_ix g.ww (by have := g.un; omega) ((chk_ok a _ c X g l).1 h2) ((chk_ok i _ c X g r).1 h3) (plain_ix h1)
    | _ => cases h
  | .slc a lo hi, W, c, X, g, x => tru_ok fun h => by
    unfold cSlc at h
    split at h
    · obtain ⟨h1, h2⟩ := and1 h
      obtain ⟨h2, h3⟩ := and1 h2
      exact e_slc ((chk_ok a _ c X g _).1 h1) (chko_ok lo _ c X g _ h2) (chko_ok hi _ c X g _ h3)
    · cases h
  | .call f es, W, c, X, g, x => tru_ok fun h => by
    unfold cCall at h
    split at h
    · obtain ⟨h1, h2⟩ := and1 h
      obtain ⟨h1, h3⟩ := and1 h1
      exact call_ok g (of_decide_eq_true h1) h3 (chks_ok es _ c X g _ h2)
    · cases h
  | .bi b es, W, c, X, g, x => tru_ok fun h => by
    unfold cBi at h
    split at h
    · obtain ⟨h1, h2⟩ := and1 h
      obtain ⟨h1, hh⟩ := and1 h1
      split at h2
      · rename_i e
        exact bi_all_ok g h1 hh e (chks_ok es _ c X g _ h2)
      · cases h2
    · cases h
  | .me m o es, W, c, X, g, x => tru_ok fun h => by
    unfold cMe at h
    split at h
    · obtain ⟨h1, h2⟩ := and1 h
      obtain ⟨h1, h3⟩ := and1 h1
      obtain ⟨h1, h4⟩ := and1 h1
      obtain ⟨h1, h5⟩ := and1 h1
      obtain ⟨h6, h7⟩ := and1 h2
      rw [of_decide_eq_true h1]
      exact me_ok g h5 h4 (of_decide_eq_true h3) ((chk_ok o _ c X g _).1 h6) (chks_ok es _ c X g _ h7)
    · cases h
  | .comp m own elt t k src q, W, c, X, g, x => tru_ok fun h => by
    unfold cComp at h
    split at h
    · rename_i y tg iter ifs a scope pos
      obtain ⟨h1, h2⟩ := and1 h
      obtain ⟨h1, h3⟩ := and1 h1
      obtain ⟨h1, h4⟩ := and1 h1
      obtain ⟨h1, h5⟩ := and1 h1
      obtain ⟨h1, h6⟩ := and1 h1
      obtain ⟨hco, h1⟩ := and1 h1
      obtain ⟨h2, h7⟩ := and1 h2
      obtain ⟨h2, h8⟩ := and1 h2
      obtain ⟨ys, e, h9⟩ : ∃ ys, srcB c k iter tg = some ys ∧ chkEs src c ys = true := by
        split at h3
        · rename_i ys e; exact ⟨ys, e, h3⟩
        · cases h3
      have ea : a = 0 := of_decide_eq_true h1
      subst ea
      have ok : BlkOk X.N X.env.scope scope (ownOf c own) := by rw [g.hN, g.sc]; exact blkOk_by h6
      have hv : ∀ j ∈ t.vars, j ∈ (ownOf c own).map (·.2) := fun j hj => by
        rw [ownOf_snd]
        exact of_decide_eq_true (List.all_eq_true.mp h5 j hj)
      have r := e_comp (m := m) (k := k) (pos := pos) (g.kn hco) (g.calm hco) (by rw [g.hN]; exact g.nd) (src_ok g e (chks_ok src _ c X g ys h9)) ok hv
        (fun s H C cl fp => chkg_ok (g.blk hco s H scope cl C fp) t tg h2) (fun s H C cl fp => chkc_ok q _ (c.blk scope) _ (g.blk hco s H scope cl C fp) ifs h8)
        (fun s H C cl fp => (chk_ok elt _ (c.blk scope) _ (g.blk hco s H scope cl C fp) y).1 h7) (noset_fold h4)
      rw [ownOf_snd] at r
      exact r
    · cases h
  | .dict0, W, c, X, g, x => tru_ok fun h => by
    unfold cDict0 at h
    split at h
    · exact e_dict0
    · cases h
  | .dictP e, W, c, X, g, x => tru_ok fun h => by
    unfold cDictP at h
    split at h
    · obtain ⟨h1, h2⟩ := and1 h
      obtain ⟨h1, h3⟩ := and1 h1
      obtain ⟨hco, h1⟩ := and1 h1
      obtain ⟨rfl, hg, hm, _⟩ := g.blt h1
      exact e_dictP (g.calm hco) (by have := g.un; omega) g.ww hg hm ((chk_ok e _ c X g _).1 h2) (star_cons h3)
    · cases h
  | .dictL _ _, W, c, X, g, x => tru_ok fun h => (by cases h)
  | .mlst _, W, c, X, g, x => tru_ok fun h => (by cases h)
  | .zipL _ _, W, c, X, g, x => tru_ok fun h => (by cases h)
  | .fnv _, W, c, X, g, x => tru_ok fun h => (by cases h)
  | .tget _ _ _ _, W, c, X, g, x => tru_ok fun h => (by cases h)
  | .callv _ _, W, c, X, g, x => tru_ok fun h => (by cases h)
  | .callL _ _ _ _, W, c, X, g, x => tru_ok fun h => (by cases h)
  | .new k fi es, W, c, X, g, x => tru_ok fun h => by
    unfold cNew at h
    split at h
    · obtain ⟨h1, h2⟩ := and1 h
      obtain ⟨h1, h3⟩ := and1 h1
      obtain ⟨h1, h4⟩ := and1 h1
      exact new_ok g (of_decide_eq_true h1) h4 (by simpa using h3) (chks_ok es _ c X g _ h2)
    · cases h
  | .fld k a o, W, c, X, g, x => tru_ok fun h => by
    unfold cFld at h
    split at h
    · obtain ⟨h1, h2⟩ := and1 h
      obtain ⟨h1, h3⟩ := and1 h1
      exact fld_ok g (of_decide_eq_true h3) h1 ((chk_ok o _ c X g _).1 h2)
    · cases h
  | .meth k fi o es, W, c, X, g, x => tru_ok fun h => by
    unfold cMeth at h
    split at h
    · obtain ⟨h1, h2⟩ := and1 h
      obtain ⟨h1, h3⟩ := and1 h1
      obtain ⟨h1, h5⟩ := and1 h1
      obtain ⟨h1, h6⟩ := and1 h1
      obtain ⟨h2, h4⟩ := and1 h2
      exact meth_ok g (of_decide_eq_true h3) h1 (of_decide_eq_true h6) h5 ((chk_ok o _ c X g _).1 h2) (chks_ok es _ c X g _ h4)
    · cases h
theorem chks_ok : ∀ (es : List E) (W : EW) (c : SC) (X : Cx) (g : GoodX G F n fa W c X) (xs : List Expr), chkEs es c xs = true → PAll G fa W X (run G F n) es xs
  | [], W, c, X, g, xs, h => by
    cases xs with
    | nil => unfold PAll; rfl
    | cons _ _ => unfold chkEs at h; cases h
  | e :: es, W, c, X, g, xs, h => by
    cases xs with
    | nil => unfold chkEs at h; cases h
    | cons x xs =>
      unfold chkEs at h
      obtain ⟨h1, h2⟩ := and1 h
      obtain ⟨h1, h3⟩ := and1 h1
      unfold PAll
      exact ⟨x, xs, rfl, h1, (chk_ok e _ c X g x).1 h3, chks_ok es _ c X g xs h2⟩
theorem chko_ok : ∀ (o : Option E) (W : EW) (c : SC) (X : Cx) (g : GoodX G F n fa W c X) (x : Option Expr), chkO o c x = true → PO X x (tI X.K fa W (evO G (run G F n) o))
  | none, W, c, X, g, x, h => by
    cases x with
    | none => exact o_none
    | some _ => unfold chkO at h; cases h
  | some e, W, c, X, g, x, h => by
    cases x with
    | none => unfold chkO at h; cases h
    | some x => unfold chkO at h; exact o_some ((chk_ok e _ c X g x).1 h)
theorem chkc_ok : ∀ (q : Option E) (W : EW) (c : SC) (X : Cx) (g : GoodX G F n fa W c X) (xs : List Expr), chkC q c xs = true → PTs X xs (tT X.K fa W (evC G (run G F n) q))
  | none, W, c, X, g, xs, h => by
    cases xs with
    | nil =>
      refine ⟨fun pins s σ H Q I h => pts_nil.run pins s σ H Q I ?_⟩
      obtain ⟨φ, μ, ρ, A, R, h⟩ := h
      exact h.here A
    | cons _ _ => unfold chkC at h; cases h
  | some e, W, c, X, g, xs, h => by
    match xs, h with
    | [x], h =>
      unfold chkC at h
      exact pts_one ((chk_ok e _ c X g x).2 h).1
    | [], h => unfold chkC at h; cases h
    | _ :: _ :: _, h => unfold chkC at h; cases h
end
end
end Ev

set_option Elab.async false
set_option linter.all false
set_option maxRecDepth 100000
set_option maxHeartbeats 1000000
/-! The look at statements and defs. -/
namespace Ev
open PySem PySem.Spec PyProof.Rows L2
/-- no stores are exchanged -/
def noSwap : Expr → Expr → Bool
  | .Tuple .., .Tuple .. => false
  | .List .., .Tuple .. => false
  | _, _ => true
def isSub : Expr → Bool
  | .Subscript .. => true
  | _ => false
/-- a name takes a list's comprehension: at once, or not -/
def swB (c : SC) (y : Str) (py : Pos) (scope : Scope) (pos : Pos) : Bool := decide (c.sc.names.lookup y = some .local) && (py.line == pos.line) && !(scope.names.any fun (n, k) => n == y && (k == .local || k == .cell))
/-- may the value be stored in the common way -/
def plainAsg (c : SC) (tg x : Expr) : Bool := match x with
  | .ListComp _ _ scope pos => (match tg with
    | .Name y py => !(swB c y py scope pos)
    | _ => true)
  | x => notComp x
/-- .. or as a comprehension of one clause -/
def compAsg (c : SC) (tg x : Expr) (t : T) (e : E) : Bool := match x, tg, t, e with
  | .ListComp _ _ scope pos, .Name y py, .nm _, .comp .. => swB c y py scope pos
  | _, _, _, _ => false
mutual
def chkS : S → SC → Stmt → Bool
  | .expr e => fun c st => match st with
    | .Expr x _ => notComp x && (chkP e c).1 x
    | _ => false
  | .ret e => fun c st => match st with
    | .Return (some x) _ => (chkP e c).1 x
    | _ => false
  | .retN => fun _ st => match st with
    | .Return none _ => true
    | _ => false
  | .asg t e => fun c st => match st with
    | .Assign [tg] x _ => (plainAsg c tg x || compAsg c tg x t e) && noSwap tg x && notStar tg && (chkG c t tg && (chkP e c).1 x)
    | _ => false
  | .setIdx o i e => fun c st => match st with
    | .Assign [.Subscript xo xi _] x _ => notComp x && notSlice xi && ((chkP o c).1 xo && (chkP i c).1 xi && (chkP e c).1 x)
    | _ => false
  | .if_ q a b => fun c st => match st with
    | .If x A B _ => (chkP q c).2 x && (chkSs a c A && chkSs b c B)
    | _ => false
  | .while_ _ q b => fun c st => match st with
    | .While x B [] _ => (chkP q c).2 x && chkSs b c B
    | _ => false
  | .for_ _ t k src b => fun c st => match st with
    | .For tg iter B [] _ => c.cold && notSet iter && (match srcB c k iter tg with
      | some ys => chkEs src c ys
      | none => false) && (chkG c t tg && chkSs b c B)
    | _ => false
  | .pass => fun _ st => match st with
    | .Pass _ => true
    | _ => false
  | .brk => fun _ st => match st with
    | .Break _ => true
    | _ => false
  | .cont => fun _ st => match st with
    | .Continue _ => true
    | _ => false
  | .setSlc _ _ _ _ => fun _ _ => false
  | .setFld k a o e => fun c st => match st with
    | .Assign [.Attribute xo y _] x _ => notComp x && decide ((k, a, y) ∈ c.tb.fl) && ((chkP o c).1 xo && (chkP e c).1 x)
    | _ => false
  | .augFld k a o e => fun c st => match st with
    | .AugAssign (.Attribute xo y _) .Add x _ => baseOk xo && decide ((k, a, y) ∈ c.tb.fl) && ((chkP o c).1 xo && (chkP e c).1 x)
    | _ => false
  | .raise_ k => fun c st => match st with
    | .Raise (some (.Call (.Name y _) [.Constant (.str _) _ _] [] _)) none _ => decide ((k, y) ∈ c.tb.ec) && glB c y
    | _ => false
  | .try_ b yes no h => fun c st => match st with
    | .Try B [.ExceptHandler (some (.Name y _)) none (h0 :: hs) _] [] [] _ => c.cold && glB c y && (yes.all fun k => decide ((y, k, true) ∈ c.tb.em)) && (no.all fun k => decide ((y, k, false) ∈ c.tb.em)) && decide (yes ≠ [] ∨ no ≠ []) && hotS h && (chkSs b c B && chkSs h c (h0 :: hs))
    | _ => false
  | .tryA b i k no h => fun c st => match st with
    | .Try B [.ExceptHandler (some (.Name y _)) (some n) (h0 :: hs) _] [] [] _ => c.cold && glB c y && decide ((y, k, true) ∈ c.tb.em) && (no.all fun k => decide ((y, k, false) ∈ c.tb.em)) && decide (k ∈ c.tb.hc) && decide (c.N[i]? = some n) && decide (c.sc.names.lookup n = some .local) && (chkSs b c B && chkSs h (c.suite i n k) (h0 :: hs))
    | _ => false
def chkSs : List S → SC → List Stmt → Bool
  | [] => fun _ xs => xs.isEmpty
  | s :: ss => fun c xs => match xs with
    | x :: xs => chkS s c x && chkSs ss c xs
    | [] => false
end
section
variable {G : Nat → Option D} {F : Nat → Option Fn} {n : Nat} {fa : Lay} {W : EW} {Z : EZ} {c : SC} {X : Cx}
theorem notcomp_sw {x : Expr} {t : Option Expr} {l : Nat} {env : Env} (h : notComp x = true) : swapsWith x t l env = pure false := by
  cases x <;> first | rfl | cases h
theorem noswap_ok {tg x : Expr} {env : Env} (h : noSwap tg x = true) : swappedStores [tg] x env = pure none := by
  cases tg <;> cases x <;> first | rfl | cases h
theorem plain_asg (g : GoodX G F n fa W c X) {tg x : Expr} {l : Nat} (h : plainAsg c tg x = true) : swapsWithSole [tg] x l X.env = pure false := by
  have key : notComp x = true → swapsWithSole [tg] x l X.env = pure false := fun h => notcomp_sw h
  cases x with
  | ListComp elt gs scope pos =>
    cases tg with
    | Name y py =>
      have h : (!(swB c y py scope pos)) = true := h
      have h : swB c y py scope pos = false := by simpa using h
      show swapsWith (.ListComp elt gs scope pos) (some (.Name y py)) l X.env = pure false
      unfold swapsWith
      show pure _ = pure false
      congr 1
      unfold swB at h
      show (X.env.blockKind == .function && X.env.kindOf y == some .local && py.line == pos.line && !(scope.names.any fun (n, k) => n == y && (k == .local || k == .cell))) = false
      by_cases hk : X.env.kindOf y = some .local
      · have e : decide (c.sc.names.lookup y = some NameKind.local) = true := by
          rw [← g.sc]; exact decide_eq_true hk
        rw [e, Bool.true_and] at h
        rw [Bool.and_assoc, h, Bool.and_false]
      · have : (X.env.kindOf y == some .local) = false := by simpa using hk
        rw [this, Bool.and_false]
        rfl
    | _ => rfl
  | SetComp => exact key h
  | DictComp => exact key h
  | _ => exact key h
/-- a comprehension's parts -/
theorem comp_inv (g : GoodX G F n fa W c X) {m : Bool} {own : List Nat} {elt : E} {t : T} {k : IK} {src : List E} {q : Option E} {x : Expr} (h : (chkP (.comp m own elt t k src q) c).1 x = true) :
    ∃ y tg iter ifs scope pos, x = .ListComp y [⟨tg, iter, ifs, 0⟩] scope pos ∧ PI X tg iter (iD X.K fa W k (evEs G (run G F n) src)) ∧ BlkOk X.N X.env.scope scope (ownOf c own) ∧ (∀ j ∈ t.vars, j ∈ (ownOf c own).map (·.2)) ∧
      (∀ (s : Shared) (H : Hp) (C : Addr) (cl : List (Str × Addr)) (fp : List Addr), PG (X.blk s H scope (compEnvC scope cl C X.env) fp) tg (tG X.K fa t)) ∧
      (∀ (s : Shared) (H : Hp) (C : Addr) (cl : List (Str × Addr)) (fp : List Addr), PTs (X.blk s H scope (compEnvC scope cl C X.env) fp) ifs (tT X.K fa W0 (evC G (run G F n) q))) ∧
      (∀ (s : Shared) (H : Hp) (C : Addr) (cl : List (Str × Addr)) (fp : List Addr), PE (X.blk s H scope (compEnvC scope cl C X.env) fp) y (tE X.K fa W0 (evE G (run G F n) elt))) ∧ (∀ x, foldedSetIterable iter X.env x = pure x) ∧ c.cold = true := by
  replace h : cComp c own t k (chkEs src c) (chkC q) (fun c' => (chkP elt c').1) x = true := h
  unfold cComp at h
  split at h
  · rename_i y tg iter ifs a scope pos
    obtain ⟨h1, h2⟩ := and1 h
    obtain ⟨h1, h3⟩ := and1 h1
    obtain ⟨h1, h4⟩ := and1 h1
    obtain ⟨h1, h5⟩ := and1 h1
    obtain ⟨h1, h6⟩ := and1 h1
    obtain ⟨hco, h1⟩ := and1 h1
    obtain ⟨h2, h7⟩ := and1 h2
    obtain ⟨h2, h8⟩ := and1 h2
    obtain ⟨ys, e, h9⟩ : ∃ ys, srcB c k iter tg = some ys ∧ chkEs src c ys = true := by
      split at h3
      · rename_i ys e; exact ⟨ys, e, h3⟩
      · cases h3
    have ea : a = 0 := of_decide_eq_true h1
    subst ea
    exact ⟨y, tg, iter, ifs, scope, pos, rfl, src_ok g e (chks_ok src _ c X g ys h9), by rw [g.hN, g.sc]; exact blkOk_by h6, fun j hj => by
        rw [ownOf_snd]
        exact of_decide_eq_true (List.all_eq_true.mp h5 j hj),
      fun s H C cl fp => chkg_ok (g.blk hco s H scope cl C fp) t tg h2, fun s H C cl fp => chkc_ok q _ (c.blk scope) _ (g.blk hco s H scope cl C fp) ifs h8,
      fun s H C cl fp => (chk_ok elt _ (c.blk scope) _ (g.blk hco s H scope cl C fp) y).1 h7, noset_fold h4, hco⟩
  · cases h
theorem comp_asg (g : GoodX G F n fa W c X) (hk : c.sc.kind = .function) {t : T} {e : E} {tg x : Expr} {spos : Pos} (h : compAsg c tg x t e = true) (hg : chkG c t tg = true) (he : (chkP e c).1 x = true) : PS X (.Assign [tg] x spos) (tS X.K fa W (evAsg t (evE G (run G F n) e))) := by
  unfold compAsg at h
  split at h
  · rename_i elt0 gs scope pos y py i m own elt t' k src q
    obtain ⟨y', tg', iter, ifs, scope', pos', ex, hi, ok, hv, h1, h2, h3, h4, hco⟩ := comp_inv g he
    cases ex
    unfold swB at h
    obtain ⟨ha, hc⟩ := and1 h
    obtain ⟨ha, hb⟩ := and1 ha
    have hl : X.env.scope.names.lookup y = some .local := by rw [g.sc]; exact of_decide_eq_true ha
    unfold chkG at hg
    obtain ⟨hN, _⟩ := and1 (show tgtB c i y = true from hg)
    obtain ⟨hN, _⟩ := and1 hN
    have r := s_setLc (m := m) (k := k) (pos := pos) (spos := spos) (py := py) (g.kn hco) (g.calm hco) (by rw [g.hN]; exact g.nd) (by rw [g.hN]; exact of_decide_eq_true hN) hl (sw_true (by rw [g.sc]; exact hk) hl hb (by simpa using hc)) hi ok hv h1 h2 h3 h4
    rw [ownOf_snd] at r
    exact r
  · cases h
structure GoodS (X : Cx) : Prop where
  stk : X.stack = X.env :: X.outer
  frm : X.env.frame = some X.env.locals
theorem GoodX.tr {W' : EW} (g : GoodX G F n fa W c X) (hco : c.cold = true) (pn : List (Addr × Obj)) (xe : Value → Shared → Prop) (ho : PassesOwn (model X.prog X.w) X.A X.env xe) (hw : Wis (X.tr pn xe) fa W') : GoodX G F n fa W' c (X.tr pn xe) :=
  ⟨g.ww, g.hN, g.sc, g.fn, g.cold, (fun i n k e => by rw [cold_ok hco] at e; cases e), g.nd, g.room, ho, hw, g.glo, g.bf, g.cal, g.cls, g.fld, g.met, fun k y h => (let ⟨h0, h1, h2, h3, h4, h5⟩ := g.exc k y h; ⟨h0, h1, h2, h3, h4, h5⟩), g.exm, g.ist, g.isv, g.hcl, g.hfn⟩
theorem HotF.hot {P : Program} {w : World} {K : PySem.W.Frag} {mg : Str → Option Value} {base : Heap} {y : Str} {k : Nat} {b : Bool} {kk : Option (Nat × V)} (h : HotF P w K mg base fa y k b) : HotF P w K mg base (fa.hot kk) y k b := by
  obtain ⟨f, fd, q, h1, h2, h3, h4⟩ := h
  exact ⟨f, fd, q, h1, h2, h3, fun A outer s H args a oe φ μ Q r1 r2 r3 r4 r5 r6 r7 r8 r9 => h4 A outer s H args a oe φ μ Q r1 r2 r3 r4 r5 r6 r7 (Abs.hot.mp r8) fun φ' H' e A' => r9 φ' H' e (Abs.hot.mpr A')⟩
/-- within an except suite -/
theorem GoodX.suite (g : GoodX G F n fa W c X) {i k : Nat} {y : Str} {a : Addr} {oe : Obj} {pn : List (Addr × Obj)} (hk : k ∈ c.tb.hc) (hz : Zc (.ref (fa.cl k)) none oe) (hf : ∃ vs, oe.data = .fields vs) : GoodX G F n (fa.hot (some (i, .ref a))) W0 (c.suite i y k) (X.suite a ((a, oe) :: pn)) :=
  ⟨g.ww, g.hN, g.sc, g.fn, (fun e => by cases e), (fun i n k e => by
      cases e
      exact ⟨a, rfl, g.hcl _ hk, oe, List.mem_cons_self, hz, hf⟩), g.nd, ⟨g.room.dp, g.room.un⟩, PassesOwn.never, wis0, fun k x h => (let ⟨u, v, d, h1, h2, h3, h4⟩ := g.glo k x h; ⟨u, v, d, h1, h2, h3, fun G' φ => by rw [RV.hot]; exact h4 G' φ⟩), g.bf,
    (fun f x h => by cases h), (fun k x i h => by cases h), g.fld, (fun k x i h => by cases h), (fun k y h => by cases h), g.exm, g.ist, g.isv, g.hcl, fun y k b h => ⟨⟨(g.hfn y k b h).1.dp, (g.hfn y k b h).1.un⟩, (g.hfn y k b h).2.hot⟩⟩
theorem con_cold {c : SC} (hco : c.cold = true) {d : D} {x : Expr} (h : (chkP (.con d) c).1 x = true) : cCon d x = true := by
  replace h : cConH c d x = true := h
  unfold cConH at h
  cases d with
  | bl b =>
    rcases Bool.or_eq_true_iff.mp h with h | h
    · exact h
    · unfold cHot at h
      rw [cold_ok hco] at h
      split at h <;> cases h
  | _ => exact h
theorem hot_ok (g : GoodX G F n fa W c X) (hco : c.cold = true) {a : Addr} {oe : Obj} {pn : List (Addr × Obj)} {call : Nat → List D → Mu → Res D} : ∀ (ss : List S) (xs : List Stmt), hotS ss = true → chkSs ss c xs = true → PSs (X.suite a ((a, oe) :: pn)) xs (tS X.K fa W0 (exSs G call ss))
  | [], xs, _, h => by
    cases xs with
    | nil => exact ss_nil
    | cons _ _ => unfold chkSs at h; cases h
  | s :: ss, xs, hh, h => by
    cases xs with
    | nil => unfold chkSs at h; cases h
    | cons x xs =>
      unfold chkSs at h
      obtain ⟨h1, h2⟩ := and1 h
      have con : ∀ {d : D} {x : Expr}, (chkP (.con d) c).1 x = true → PE (X.suite a ((a, oe) :: pn)) x (tE X.K fa W0 (evE G call (.con d))) ∧ notComp x = true := fun {d x} h => by
        replace h := con_cold hco h
        cases x with
        | Constant k j pos => exact ⟨con_ok h, rfl⟩
        | _ => cases h
      unfold hotS at hh
      split at hh
      · rename_i e; cases e
      · rename_i d r e
        cases e
        unfold chkS at h1
        split at h1
        · exact ss_cons (s_ret (con h1).1) (hot_ok (call := call) g hco _ xs hh h2)
        · cases h1
      · rename_i i d r e
        cases e
        unfold chkS at h1
        split at h1
        · rename_i tg x pos
          obtain ⟨h3, h4⟩ := and1 h1
          obtain ⟨h3, h5⟩ := and1 h3
          obtain ⟨h3, h6⟩ := and1 h3
          obtain ⟨h4, h7⟩ := and1 h4
          obtain ⟨p1, p2⟩ := con h7
          have hg : PG (X.suite a ((a, oe) :: pn)) tg (tG X.K fa (.nm i)) := by
            cases tg with
            | Name y pos =>
              unfold chkG at h4
              obtain ⟨q1, q2⟩ := and1 (show tgtB c i y = true from h4)
              obtain ⟨q1, hmay⟩ := and1 q1
              have hi : X.N[i]? = some y := by rw [g.hN]; exact of_decide_eq_true q1
              have nd : X.N.Nodup := by rw [g.hN]; exact g.nd
              cases hl : c.sc.names.lookup y with
              | none => rw [hl] at q2; cases q2
              | some k =>
                rw [hl] at q2
                cases k with
                | «local» => exact g_name (g.may hmay) nd hi (.inl (by show X.env.scope.names.lookup y = _; rw [g.sc]; exact hl)) (.inr (by show X.env.scope.names.lookup y = _; rw [g.sc]; exact hl))
                | cell => exact g_name (g.may hmay) nd hi (.inr (by show X.env.scope.names.lookup y = _; rw [g.sc]; exact hl)) (.inl (g.fn y q2))
                | _ => cases q2
            | _ => unfold chkG at h4; cases h4
          exact ss_cons (s_asg p1 hg (notcomp_sw p2) (noswap_ok h6) (by rw [asg_cons h5]; rfl)) (hot_ok (call := call) g hco _ xs hh h2)
        · cases h1
      · rename_i r e
        cases e
        unfold chkS at h1
        split at h1
        · exact ss_cons s_pass (hot_ok (call := call) g hco _ xs hh h2)
        · cases h1
      · cases hh
mutual
theorem chkst_ok : ∀ (s : S) (fa : Lay) (c : SC) (hk : c.sc.kind = .function) (W : EW) (X : Cx) (g : GoodX G F n fa W c X) (q : GoodS X) (st : Stmt), chkS s c st = true → PS X st (tS X.K fa W (exS G (run G F n) s))
  | .expr e, fa, c, hk, W, X, g, gs, st, h => by
    cases st with
    | Expr x pos =>
      unfold chkS at h
      obtain ⟨h1, h2⟩ := and1 h
      exact s_expr ((chk_ok e _ c X g x).1 h2) (notcomp_sw h1)
    | _ => unfold chkS at h; cases h
  | .ret e, fa, c, hk, W, X, g, gs, st, h => by
    unfold chkS at h
    split at h
    · exact s_ret ((chk_ok e _ c X g _).1 h)
    · cases h
  | .retN, fa, c, hk, W, X, g, gs, st, h => by
    unfold chkS at h
    split at h
    · exact s_retN
    · cases h
  | .asg t e, fa, c, hk, W, X, g, gs, st, h => by
    unfold chkS at h
    split at h
    · rename_i tg x pos
      obtain ⟨h1, h2⟩ := and1 h
      obtain ⟨h1, h3⟩ := and1 h1
      obtain ⟨h1, h4⟩ := and1 h1
      obtain ⟨h2, h5⟩ := and1 h2
      rcases Bool.or_eq_true _ _ ▸ h1 with h1 | h1
      · exact s_asg ((chk_ok e _ c X g x).1 h5) (chkg_ok g t tg h2) (plain_asg g h1) (noswap_ok h4) (by rw [asg_cons h3]; rfl)
      · exact comp_asg g hk h1 h2 h5
    · cases h
  | .setSlc _ _ _ _, fa, c, hk, W, X, g, gs, st, h => by
    unfold chkS at h
    cases h
  | .setIdx o i e, fa, c, hk, W, X, g, gs, st, h => by
    unfold chkS at h
    split at h
    · rename_i xo xi tp x pos
      obtain ⟨h1, h2⟩ := and1 h
      obtain ⟨h1, h3⟩ := and1 h1
      obtain ⟨h2, h4⟩ := and1 h2
      obtain ⟨h2, h5⟩ := and1 h2
      refine s_setIdx g.ww (by have := g.un; omega) ((chk_ok e _ c X g x).1 h4) ((chk_ok o _ c X g xo).1 h2) ((chk_ok i _ c X g xi).1 h5) (fun v => ?_) (show swapsWith x (some (.Subscript xo xi tp)) pos.line X.env = pure false from notcomp_sw h1) rfl rfl
      cases xi <;> first | rfl | cases h3
    · cases h
  | .if_ q a b, fa, c, hk, W, X, g, gs, st, h => by
    cases st with
    | If x A B pos =>
      unfold chkS at h
      obtain ⟨h1, h2⟩ := and1 h
      obtain ⟨h2, h3⟩ := and1 h2
      exact s_if ((chk_ok q _ c X g x).2 h1).1 (chksts_ok a fa c hk _ X g gs A h2) (chksts_ok b fa c hk _ X g gs B h3)
    | _ => unfold chkS at h; cases h
  | .while_ kill q b, fa, c, hk, W, X, g, gs, st, h => by
    unfold chkS at h
    split at h
    · obtain ⟨h1, h2⟩ := and1 h
      exact s_while g.own ((chk_ok q _ c X g _).2 h1).1 (chksts_ok b fa c hk _ X g gs _ h2)
    · cases h
  | .for_ kill t k src b, fa, c, hk, W, X, g, gs, st, h => by
    unfold chkS at h
    split at h
    · rename_i tg iter B pos
      obtain ⟨h1, h2⟩ := and1 h
      obtain ⟨h1, h3⟩ := and1 h1
      obtain ⟨hco, h1⟩ := and1 h1
      obtain ⟨h2, h4⟩ := and1 h2
      obtain ⟨ys, e, h9⟩ : ∃ ys, srcB c k iter tg = some ys ∧ chkEs src c ys = true := by
        split at h3
        · rename_i ys e; exact ⟨ys, e, h3⟩
        · cases h3
      exact s_for g.own (g.calm hco) (src_ok g e (chks_ok src _ c X g ys h9)) (chkg_ok g t tg h2) (chksts_ok b fa c hk _ X g gs B h4) (noset_fold h1)
    · cases h
  | .pass, fa, c, hk, W, X, g, gs, st, h => by
    cases st with
    | Pass pos => exact s_pass
    | _ => unfold chkS at h; cases h
  | .brk, fa, c, hk, W, X, g, gs, st, h => by
    cases st with
    | Break pos => exact s_brk
    | _ => unfold chkS at h; cases h
  | .cont, fa, c, hk, W, X, g, gs, st, h => by
    cases st with
    | Continue pos => exact s_cont
    | _ => unfold chkS at h; cases h
  | .setFld k a o e, fa, c, hk, W, X, g, gs, st, h => by
    unfold chkS at h
    split at h
    · obtain ⟨h1, h2⟩ := and1 h
      obtain ⟨h5, h3⟩ := and1 h1
      obtain ⟨h6, h4⟩ := and1 h2
      obtain ⟨q1, q2, q3, q4⟩ := g.fld k a _ (of_decide_eq_true h3)
      subst q4
      exact s_setFld q1 q2 q3 ((chk_ok o _ c X g _).1 h6) ((chk_ok e _ c X g _).1 h4) (notcomp_sw h5)
    · cases h
  | .augFld k a o e, fa, c, hk, W, X, g, gs, st, h => by
    unfold chkS at h
    split at h
    · obtain ⟨h1, h2⟩ := and1 h
      obtain ⟨h5, h3⟩ := and1 h1
      obtain ⟨h6, h4⟩ := and1 h2
      obtain ⟨q1, q2, q3, q4⟩ := g.fld k a _ (of_decide_eq_true h3)
      subst q4
      exact s_augFld q1 q2 q3 ((chk_ok o _ c X g _).1 h6) ((chk_ok e _ c X g _).1 h4) (base_ok h5)
    · cases h
  | .raise_ k, fa, c, hk, W, X, g, gs, st, h => by
    unfold chkS at h
    split at h
    · obtain ⟨h1, h2⟩ := and1 h
      obtain ⟨hno, hx⟩ := g.exc k _ (of_decide_eq_true h1)
      exact s_raise g.wis (g.cold hno).2.1 hx (g.gl h2) (notDbg_ok (glB_dbg h2)).1
    · cases h
  | .try_ b yes no hh, fa, c, hk, W, X, g, gs, st, h => by
    unfold chkS at h
    split at h
    · rename_i B y p1 h0 hs p2 p3
      obtain ⟨h1, h2⟩ := and1 h
      obtain ⟨h1, h3⟩ := and1 h1
      obtain ⟨h1, h4⟩ := and1 h1
      obtain ⟨h1, h5⟩ := and1 h1
      obtain ⟨h1, h6⟩ := and1 h1
      obtain ⟨hco, h1⟩ := and1 h1
      obtain ⟨h2, h7⟩ := and1 h2
      obtain ⟨v, hv⟩ : ∃ v, X.mg y = some v := by
        rcases of_decide_eq_true h4 with q | q
        · obtain ⟨k, r, e⟩ := List.exists_cons_of_ne_nil q
          obtain ⟨v, hv, _⟩ := g.exm y k true (of_decide_eq_true (List.all_eq_true.mp h6 k (by rw [e]; exact List.mem_cons_self)))
          exact ⟨v, hv⟩
        · obtain ⟨k, r, e⟩ := List.exists_cons_of_ne_nil q
          obtain ⟨v, hv, _⟩ := g.exm y k false (of_decide_eq_true (List.all_eq_true.mp h5 k (by rw [e]; exact List.mem_cons_self)))
          exact ⟨v, hv⟩
      have key : ∀ (b : Bool) (k : Nat), (y, k, b) ∈ c.tb.em → PySem.W.exmOne X.K (.ref (fa.cl k)) v = some b := fun b k hk => by
        obtain ⟨v', hv', e⟩ := g.exm y k b hk
        rw [hv] at hv'
        cases hv'
        exact e
      exact s_try gs.stk gs.frm ⟨g.gl h1, (notDbg_ok (glB_dbg h1)).1, .inl hv⟩ g.wis (fun k hk => key true k (of_decide_eq_true (List.all_eq_true.mp h6 k hk))) (fun k hk => key false k (of_decide_eq_true (List.all_eq_true.mp h5 k hk)))
        (fun W' pn xe hw ho => chksts_ok b fa c hk W' (X.tr pn xe) (g.tr hco pn xe ho hw) ⟨gs.stk, gs.frm⟩ _ h2) (fun a oe pn => hot_ok g hco hh _ h3 h7) (hot_ex hh h3)
    · cases h
  | .tryA b i k no hh, fa, c, hk, W, X, g, gs, st, h => by
    unfold chkS at h
    split at h
    · rename_i B y p1 n h0 hs p2 p3
      obtain ⟨h1, h2⟩ := and1 h
      obtain ⟨h1, h3⟩ := and1 h1
      obtain ⟨h1, h4⟩ := and1 h1
      obtain ⟨h1, h5⟩ := and1 h1
      obtain ⟨h1, h6⟩ := and1 h1
      obtain ⟨h1, h7⟩ := and1 h1
      obtain ⟨hco, h1⟩ := and1 h1
      obtain ⟨h2, h8⟩ := and1 h2
      obtain ⟨v, hv, he⟩ := g.exm y k true (of_decide_eq_true h7)
      have key : ∀ k', (y, k', false) ∈ c.tb.em → PySem.W.exmOne X.K (.ref (fa.cl k')) v = some false := fun k' hk' => by
        obtain ⟨v', hv', e⟩ := g.exm y k' false hk'
        rw [hv] at hv'
        cases hv'
        exact e
      have hi := of_decide_eq_true h4
      rw [← g.hN] at hi
      exact s_tryA gs.stk gs.frm (by rw [g.hN]; exact g.nd) hi (by unfold Env.kindOf; rw [g.sc]; exact of_decide_eq_true h3) ⟨g.gl h1, (notDbg_ok (glB_dbg h1)).1, .inl hv⟩ g.wis (g.kn hco) he (fun k' hk' => key k' (of_decide_eq_true (List.all_eq_true.mp h6 k' hk')))
        (fun W' pn xe hw ho => chksts_ok b fa c hk W' (X.tr pn xe) (g.tr hco pn xe ho hw) ⟨gs.stk, gs.frm⟩ _ h2) (fun a oe pn hz hf => chksts_ok hh (fa.hot (some (i, .ref a))) (c.suite i n k) hk W0 _ (g.suite (of_decide_eq_true h5) hz hf) ⟨gs.stk, gs.frm⟩ _ h8)
    · cases h
theorem chksts_ok : ∀ (ss : List S) (fa : Lay) (c : SC) (hk : c.sc.kind = .function) (W : EW) (X : Cx) (g : GoodX G F n fa W c X) (q : GoodS X) (xs : List Stmt), chkSs ss c xs = true → PSs X xs (tS X.K fa W (exSs G (run G F n) ss))
  | [], fa, c, hk, W, X, g, gs, xs, h => by
    cases xs with
    | nil => exact ss_nil
    | cons _ _ => unfold chkSs at h; cases h
  | s :: ss, fa, c, hk, W, X, g, gs, xs, h => by
    cases xs with
    | nil => unfold chkSs at h; cases h
    | cons x xs =>
      unfold chkSs at h
      obtain ⟨h1, h2⟩ := and1 h
      exact ss_cons (chkst_ok s fa c hk _ X g gs x h1) (chksts_ok ss fa c hk _ X g gs xs h2)
end
end
/-! ### the defs of a module -/
/-- a def: its number, its name, its class if it is a method, its full name, its statement, its names, its parameters, what it is -/
structure DI where
  id : Nat
  nm : Str
  cls : Option Str
  qual : Str
  st : Stmt
  N : List Str
  ps : List Str
  fn : Fn
def chkD (tb : Tb) (d : DI) : Bool := C8.scC d.N d.ps (defScope d.st) && decide (d.ps.length = d.fn.np) && decide (d.N.length = d.fn.nn) && chkSs d.fn.body ⟨d.N, defScope d.st, none, tb, none⟩ (defBody d.st)
def dOf (ds : List DI) (k : Nat) : Option DI := ds.find? fun d => k == d.id
/-- the defs by their numbers -/
def fnOfD (ds : List DI) (k : Nat) : Option Fn := (dOf ds k).map DI.fn
/-- those of the module's top -/
def topD (ds : List DI) : List DI := ds.filter fun d => d.cls.isNone
theorem dOf_mem {ds : List DI} {k : Nat} {d : DI} (h : dOf ds k = some d) : d ∈ ds := List.mem_of_find?_eq_some h
/-- each number once -/
def idsOk (ds : List DI) : Bool := ds.all fun d => decide ((dOf ds d.id).map (fun e => (e.nm, e.cls)) = some (d.nm, d.cls))
theorem lookup_dOf {ds : List DI} {k : Nat} {x : Str} (hu : idsOk ds = true) (h : ((topD ds).map fun d => (d.id, d.nm)).lookup k = some x) : ∃ d, dOf ds k = some d ∧ d.nm = x ∧ d.cls = none := by
  have key : ∀ l : List DI, (l.map fun d => (d.id, d.nm)).lookup k = some x → ∃ d ∈ l, d.id = k ∧ d.nm = x := fun l => by
    induction l with
    | nil => intro h; cases h
    | cons d r ih =>
      intro h
      rw [List.map_cons, List.lookup_cons] at h
      cases hk : k == d.id with
      | true =>
        rw [hk] at h
        exact ⟨d, List.mem_cons_self, (eq_of_beq hk).symm, Option.some.inj h⟩
      | false =>
        rw [hk] at h
        obtain ⟨e, he, q⟩ := ih h
        exact ⟨e, List.mem_cons_of_mem _ he, q⟩
  obtain ⟨d, hd, h1, h2⟩ := key _ h
  obtain ⟨hd, hc⟩ := List.mem_filter.mp hd
  have hu := of_decide_eq_true (List.all_eq_true.mp hu d hd)
  rw [h1] at hu
  cases e : dOf ds k with
  | none => rw [e] at hu; cases hu
  | some d' =>
    rw [e] at hu
    have hu := Option.some.inj hu
    refine ⟨d', rfl, ?_, ?_⟩
    · rw [← h2]; exact congrArg Prod.fst hu
    · have : d'.cls = d.cls := congrArg Prod.snd hu
      rw [this]
      exact Option.isNone_iff_eq_none.mp hc
section
variable {P : Program} {w : World} {K : PySem.W.Frag} {mg : Str → Option Value} {base : Heap} {fa : Lay} {G : Nat → Option D}
/-- what is known of the classes -/
structure ClsF (K : PySem.W.Frag) (mg : Str → Option Value) (fa : Lay) (ds : List DI) (tb : Tb) : Prop where
  cl : ∀ (k : Nat) (x : Str) (i : Nat), (k, x, i) ∈ tb.cl → ∃ d, dOf ds i = some d ∧ Mk K (fa.cl k) (fa.fn i) ∧ mg x = some (.ref (fa.cl k))
  fl : ∀ (k a : Nat) (y : Str), (k, a, y) ∈ tb.fl → Cls K (fa.cl k) ∧ NoAttr K (fa.cl k) (fa.fld a) ∧ fa.okf a = true ∧ fa.fld a = y
  me : ∀ (k : Nat) (y : Str) (i : Nat), (k, y, i) ∈ tb.me → ∃ d, dOf ds i = some d ∧ Cls K (fa.cl k) ∧ Meth K (fa.cl k) y (fa.fn i) ∧ ∀ a, fa.okf a = true → fa.fld a ≠ y
  ec : ∀ (k : Nat) (y : Str), (k, y) ∈ tb.ec → PySem.W.excIn K (fa.cl k) He.veBase "ValueError.__new__" = true ∧ mg y = some (.ref (fa.cl k)) ∧ PySem.W.keepIn K (.ref (fa.cl k)) = true ∧ PySem.W.subIn K (.ref (fa.cl k)) (.type "BaseException") = some true ∧ PySem.W.typeIn K (.ref (fa.cl k)) = some (.type "type")
  em : ∀ (y : Str) (k : Nat) (b : Bool), (y, k, b) ∈ tb.em → ∃ v, mg y = some v ∧ PySem.W.exmOne K (.ref (fa.cl k)) v = some b
  is : ∀ (y : Str) (k : Nat) (b : Bool), (y, k, b) ∈ tb.is → ∃ C : Addr, mg y = some (.ref C) ∧ PySem.W.kitOne K (.ref (fa.cl k)) (.ref C) = some b
  ve : ∀ (k : Nat) (b : Bool), (k, b) ∈ tb.ve → PySem.W.kitOne K (.ref (fa.cl k)) (.type "ValueError") = some b
  hc : ∀ k ∈ tb.hc, ExcC K (fa.cl k)
/-- every def keeps its promise, whatever the depth of calls -/
theorem promise (hkn : fa.keep = none) {tb : Tb} {ds : List DI} (hc : (ds.all fun d => chkD tb d) = true) (hu : idsOk ds = true) (hfn : tb.fn = (topD ds).map fun d => (d.id, d.nm)) (hcf : ClsF K mg fa ds tb) (hhf : ∀ (y : Str) (k : Nat) (b : Bool), (y, k, b) ∈ tb.hf → HotF P w K mg base fa y k b) (hw : fa.w = w)
    (hd : ∀ (i : Nat) (d : DI), dOf ds i = some d → ∃ fd, FunD K d.nm d.qual (defArgs d.st) (defBody d.st) (defScope d.st) [] [] (fa.fn i) fd ∧ (d.cls = none → mg d.nm = some (.ref (fa.fn i))) ∧ L2.Binds K fd d.ps [])
    (hg : ∀ (k : Nat) (x : Str), tb.gl.lookup k = some x → ∃ u v d, mg x = some u ∧ RelV v u ∧ G k = some d ∧ ∀ G' φ, RV K fa G' φ d v) (hb : ∀ x, x ∈ tb.bf → mg x = none) :
    ∀ (n i : Nat) (d : DI), dOf ds i = some d → ∃ fd, FunD K d.nm d.qual (defArgs d.st) (defBody d.st) (defScope d.st) [] [] (fa.fn i) fd ∧ FnOk P w K mg base (L2.CX P w) (2 * n) (fa.fn i) fd d.ps (spN K fa G (fnOfD ds) n i) ∧ (d.cls = none → mg d.nm = some (.ref (fa.fn i))) ∧ L2.Binds K fd d.ps []
  | 0, i, d, h => by
    obtain ⟨fd, h1, h2, h3⟩ := hd i d h
    exact ⟨fd, h1, fn_zero, h2, h3⟩
  | n + 1, i, d, h => by
    obtain ⟨fd, h1, h2, h3⟩ := hd i d h
    have hx := List.all_eq_true.mp hc d (dOf_mem h)
    have he : fnOfD ds i = some d.fn := by unfold fnOfD; rw [h]; rfl
    unfold chkD at hx
    obtain ⟨hx, hbody⟩ := and1 hx
    obtain ⟨hx, hN⟩ := and1 hx
    obtain ⟨hx, hp⟩ := and1 hx
    have S := C8.fnScope_by hx
    have again := promise hkn hc hu hfn hcf hhf hw hd hg hb n
    refine ⟨fd, h1, fn_ev (lv := 2 * n + 1) hkn h1 S he (of_decide_eq_true hp) (of_decide_eq_true hN) fun cdv A outer s H E hr => ?_, h2, h3⟩
    refine chksts_ok d.fn.body fa ⟨d.N, defScope d.st, none, tb, none⟩ S.kind _ _ ⟨hw, rfl, rfl, fun _ _ => rfl, fun _ => ⟨hkn, rfl, hr.hd, L2H.roomH_of hr⟩, (fun _ _ _ e => by cases e), S.nd, (L2H.roomH_of hr).mono (by omega), passes_of rfl, ⟨_, L2.takes_of rfl rfl rfl rfl, fun _ _ _ h => h⟩, hg, hb, fun f x hfx => ⟨rfl, ?_⟩, fun k x i' hk => ⟨rfl, ?_⟩, hcf.fl, fun k y i' hk => ⟨rfl, ?_⟩, fun k y hk => ⟨rfl, ?_⟩, hcf.em, hcf.is, hcf.ve, hcf.hc, fun y k b h => ⟨(L2H.roomH_of hr).mono (by omega), hhf y k b h⟩⟩ ⟨rfl, rfl⟩ _ hbody
    · have hfx : tb.fn.lookup f = some x := hfx
      rw [hfn] at hfx
      obtain ⟨d', hd', rfl, hcl⟩ := lookup_dOf hu hfx
      obtain ⟨fd', q1, q2, q3, q4⟩ := again f d' hd'
      exact ⟨fd', d'.ps, q2, q3 hcl, q1.kp, q4⟩
    · obtain ⟨d', hd', hm, hx⟩ := hcf.cl k x i' hk
      obtain ⟨fd', q1, q2, q3, q4⟩ := again i' d' hd'
      exact ⟨_, fd', d'.ps, hm, q2, hx, q4⟩
    · obtain ⟨d', hd', hc, hm, hy⟩ := hcf.me k y i' hk
      obtain ⟨fd', q1, q2, q3, q4⟩ := again i' d' hd'
      exact ⟨_, fd', d'.ps, hc, hm, q2, q4, hy⟩
    · obtain ⟨e1, e2, e3, e4, e5⟩ := hcf.ec k y hk
      exact ⟨e1, e2, e3, e4, e5⟩
end
end Ev

set_option Elab.async false
set_option linter.all false
set_option maxRecDepth 100000
set_option maxHeartbeats 1000000
/-! Defs that an except suite asks of its exception. -/
namespace Ev
open PySem PySem.Spec PyProof.Rows L2
/-- an answer that hangs on nothing -/
def hvE : E → Option Bool
  | .con (.bl b) => some b
  | .and_ a b => (hvE a).bind fun x => (hvE b).map fun y => x && y
  | .or_ a b => (hvE a).bind fun x => (hvE b).map fun y => x || y
  | .not_ a => (hvE a).map not
  | _ => none
mutual
def hvS : S → Option (Option Bool)
  | .ret e => (hvE e).map some
  | .if_ c a b => (hvE c).bind fun k => if k then hvSs a else hvSs b
  | .pass => some none
  | _ => none
def hvSs : List S → Option (Option Bool)
  | [] => some none
  | s :: ss => (hvS s).bind fun r => match r with
    | some b => some (some b)
    | none => hvSs ss
end
section
variable {G : Nat → Option D} {call : Nat → List D → Mu → Res D}
theorem hvE_ok : ∀ (e : E) (b : Bool), hvE e = some b → ∀ ρ μ, evE G call e ρ μ = .ok (.bl b) μ ∧ evT G call e ρ μ = .ok b μ
  | .con d, b, h, ρ, μ => by
    cases d <;> cases h
    exact ⟨rfl, rfl⟩
  | .and_ x y, b, h, ρ, μ => by
    unfold hvE at h
    obtain ⟨p, hp, h⟩ := ofbind h
    obtain ⟨q, hq, rfl⟩ := ofmap h
    obtain ⟨a1, a2⟩ := hvE_ok x p hp ρ μ
    obtain ⟨b1, b2⟩ := hvE_ok y q hq ρ μ
    constructor
    · show (evE G call x ρ μ).bind _ = _
      rw [a1]
      cases p
      · rfl
      · exact b1
    · show (evT G call x ρ μ).bind _ = _
      rw [a2]
      cases p
      · rfl
      · exact b2
  | .or_ x y, b, h, ρ, μ => by
    unfold hvE at h
    obtain ⟨p, hp, h⟩ := ofbind h
    obtain ⟨q, hq, rfl⟩ := ofmap h
    obtain ⟨a1, a2⟩ := hvE_ok x p hp ρ μ
    obtain ⟨b1, b2⟩ := hvE_ok y q hq ρ μ
    constructor
    · show (evE G call x ρ μ).bind _ = _
      rw [a1]
      cases p
      · exact b1
      · rfl
    · show (evT G call x ρ μ).bind _ = _
      rw [a2]
      cases p
      · exact b2
      · rfl
  | .not_ x, b, h, ρ, μ => by
    unfold hvE at h
    obtain ⟨p, hp, rfl⟩ := ofmap h
    obtain ⟨a1, a2⟩ := hvE_ok x p hp ρ μ
    constructor
    · show (evE G call x ρ μ).bind _ = _
      rw [a1]
      rfl
    · show (evT G call x ρ μ).bind _ = _
      rw [a2]
      rfl
  | .var _, _, h, _, _ => by cases h
  | .glo _, _, h, _, _ => by cases h
  | .bin .., _, h, _, _ => by cases h
  | .neg .., _, h, _, _ => by cases h
  | .cmp .., _, h, _, _ => by cases h
  | .cmp2 .., _, h, _, _ => by cases h
  | .ite .., _, h, _, _ => by cases h
  | .tup .., _, h, _, _ => by cases h
  | .lst .., _, h, _, _ => by cases h
  | .cat .., _, h, _, _ => by cases h
  | .lrep .., _, h, _, _ => by cases h
  | .idx .., _, h, _, _ => by cases h
  | .slc .., _, h, _, _ => by cases h
  | .call .., _, h, _, _ => by cases h
  | .bi .., _, h, _, _ => by cases h
  | .me .., _, h, _, _ => by cases h
  | .comp .., _, h, _, _ => by cases h
  | .dict0, _, h, _, _ => by cases h
  | .dictP .., _, h, _, _ => by cases h
  | .dictL .., _, h, _, _ => by cases h
  | .mlst .., _, h, _, _ => by cases h
  | .zipL .., _, h, _, _ => by cases h
  | .fnv .., _, h, _, _ => by cases h
  | .tget .., _, h, _, _ => by cases h
  | .callv .., _, h, _, _ => by cases h
  | .callL .., _, h, _, _ => by cases h
  | .new .., _, h, _, _ => by cases h
  | .fld .., _, h, _, _ => by cases h
  | .meth .., _, h, _, _ => by cases h
def hvO : Option Bool → Rho → Mu → Out
  | some b, _, μ => .rt (.bl b) μ
  | none, ρ, μ => .nx ρ μ
mutual
theorem hvS_ok : ∀ (s : S) (r : Option Bool), hvS s = some r → ∀ ρ μ, exS G call s ρ μ = hvO r ρ μ
  | .ret e, r, h, ρ, μ => by
    unfold hvS at h
    obtain ⟨p, hp, rfl⟩ := ofmap h
    show (evE G call e ρ μ).out ρ _ = _
    rw [(hvE_ok e p hp ρ μ).1]
    rfl
  | .if_ c a b, r, h, ρ, μ => by
    unfold hvS at h
    obtain ⟨p, hp, h⟩ := ofbind h
    show (evT G call c ρ μ).out ρ _ = _
    rw [(hvE_ok c p hp ρ μ).2]
    cases p
    · exact hvSs_ok b r h ρ μ
    · exact hvSs_ok a r h ρ μ
  | .pass, r, h, ρ, μ => by
    cases h
    rfl
  | .expr .., _, h, _, _ => by cases h
  | .retN, _, h, _, _ => by cases h
  | .asg .., _, h, _, _ => by cases h
  | .setIdx .., _, h, _, _ => by cases h
  | .setSlc .., _, h, _, _ => by cases h
  | .setFld .., _, h, _, _ => by cases h
  | .augFld .., _, h, _, _ => by cases h
  | .raise_ .., _, h, _, _ => by cases h
  | .try_ .., _, h, _, _ => by cases h
  | .tryA .., _, h, _, _ => by cases h
  | .while_ .., _, h, _, _ => by cases h
  | .for_ .., _, h, _, _ => by cases h
  | .brk, _, h, _, _ => by cases h
  | .cont, _, h, _, _ => by cases h
theorem hvSs_ok : ∀ (ss : List S) (r : Option Bool), hvSs ss = some r → ∀ ρ μ, exSs G call ss ρ μ = hvO r ρ μ
  | [], r, h, ρ, μ => by
    cases h
    rfl
  | s :: ss, r, h, ρ, μ => by
    unfold hvSs at h
    obtain ⟨p, hp, h⟩ := ofbind h
    show (match exS G call s ρ μ with | .nx ρ' μ' => exSs G call ss ρ' μ' | o => o) = _
    rw [hvS_ok s p hp ρ μ]
    cases p with
    | some b =>
      cases h
      rfl
    | none => exact hvSs_ok ss r h ρ μ
end
end
/-- such a def: what it is for class k (d.fn.body), its answer b -/
structure HD where
  d : DI
  k : Nat
  b : Bool
def HD.q (h : HD) : Str := h.d.ps.headD ⟨#[]⟩
def chkH (tb : Tb) (h : HD) : Bool := C8.scC h.d.N h.d.ps (defScope h.d.st) && decide (h.d.ps.length = 1) && decide (hvSs h.d.fn.body = some (some h.b)) && decide (h.d.cls = none) &&
  chkSs h.d.fn.body ⟨h.d.N, defScope h.d.st, none, { tb.cool with hf := [] }, some (0, h.q, h.k)⟩ (defBody h.d.st)
section
variable {P : Program} {w : World} {K : PySem.W.Frag} {mg : Str → Option Value} {base : Heap} {fa : Lay} {G : Nat → Option D}
theorem hotFs {tb : Tb} {ds : List DI} {hs : List HD} (hkn : fa.keep = none) (hc : (hs.all fun h => chkH tb h) = true) (hcf : ClsF K mg fa ds tb) (hw : fa.w = w) (hf : tb.hf = hs.map fun h => (h.d.nm, h.k, h.b))
    (hd : ∀ h ∈ hs, ∃ f fd, FunD K h.d.nm h.d.qual (defArgs h.d.st) (defBody h.d.st) (defScope h.d.st) [] [] f fd ∧ mg h.d.nm = some (.ref f) ∧ L2.Binds K fd h.d.ps [])
    (hg : ∀ (k : Nat) (x : Str), tb.gl.lookup k = some x → ∃ u v d, mg x = some u ∧ RelV v u ∧ G k = some d ∧ ∀ G' φ, RV K fa G' φ d v) (hb : ∀ x, x ∈ tb.bf → mg x = none) :
    ∀ (y : Str) (k : Nat) (b : Bool), (y, k, b) ∈ tb.hf → HotF P w K mg base fa y k b := fun y k b hm => by
  rw [hf] at hm
  obtain ⟨h, hm', e⟩ := List.mem_map.mp hm
  cases e
  have hx := List.all_eq_true.mp hc h hm'
  unfold chkH at hx
  obtain ⟨hx, hbody⟩ := and1 hx
  obtain ⟨hx, h1⟩ := and1 hx
  obtain ⟨hx, h2⟩ := and1 hx
  obtain ⟨hx, h3⟩ := and1 hx
  have S := C8.fnScope_by hx
  obtain ⟨f, fd, Fu, hmg, hbn⟩ := hd h hm'
  have hps : h.d.ps = [h.q] := by
    have := of_decide_eq_true h3
    unfold HD.q
    match h.d.ps, this with
    | [x], _ => rfl
  rw [hps] at S hbn
  refine hotF_of (G := G) (call := run G (fun _ => none) 0) Fu S hmg hbn (fun cdv A outer s H a oe hr hz hf hC => ?_) fun ρ μ => hvSs_ok _ _ (of_decide_eq_true h2) ρ μ
  exact chksts_ok (F := fun _ => none) (n := 0) h.d.fn.body (fa.hot (some (0, .ref a))) ⟨h.d.N, defScope h.d.st, none, { tb.cool with hf := [] }, some (0, h.q, h.k)⟩ S.kind W0 (L2H.cxH (L2.CX P w) P w K mg base h.d.N h.d.qual (defScope h.d.st) f cdv A outer s H (fun _ _ _ => False) (a, oe))
    ⟨hw, rfl, rfl, fun _ _ => rfl, (fun e => by cases e), (fun i n k e => by
      cases e
      exact ⟨a, rfl, hC, oe, List.mem_cons_self, hz, hf⟩), S.nd, hr, passes_of rfl, wis0, fun k x h => (let ⟨u, v, d, h1, h2, h3, h4⟩ := hg k x h; ⟨u, v, d, h1, h2, h3, fun G' φ => by rw [RV.hot]; exact h4 G' φ⟩), hb,
      (fun f x h => by cases h), (fun k x i h => by cases h), hcf.fl, (fun k x i h => by cases h), (fun k y h => by cases h), hcf.em, hcf.is, hcf.ve, hcf.hc, (fun y k b h => by cases h)⟩ ⟨rfl, rfl⟩ _ hbody
end
end Ev

set_option Elab.async false
set_option linter.all false
set_option maxRecDepth 100000
set_option maxHeartbeats 1000000
/-! From the evaluator's answer to the row's. -/
namespace Ev
open PySem PySem.Spec PyProof.Rows L2
/-- where a def stands -/
def DI.at_ (d : DI) : Str × Option Str := match d.cls with
  | none => (d.nm, none)
  | some C => (C, some d.nm)
def DI.dd (d : DI) : He.DefD := ⟨d.at_, d.nm, d.qual, defArgs d.st, defBody d.st, defScope d.st, [], []⟩
/-- every parameter is given -/
def BindE (d : DI) : Prop := ∀ (kV doc pm : Value) (an : Option Addr) (cdv ct : Value) (us : List Value), us.length = d.ps.length → bindArgs (PySem.W.fnOf d.nm d.qual (defArgs d.st) (defBody d.st) (defScope d.st) .none kV doc pm an cdv ct) ⟨us, []⟩ = pure (d.ps.zip us)
def BindAll : List DI → Prop
  | [] => True
  | d :: ds => BindE d ∧ BindAll ds
theorem BindAll.get : ∀ {ds : List DI} {d : DI}, BindAll ds → d ∈ ds → BindE d
  | _ :: _, _, h, e => by
    rcases List.mem_cons.mp e with rfl | e
    · exact h.1
    · exact BindAll.get h.2 e
/-- a constant of the module -/
inductive Cn where
  | int (k : Nat) (x : Str) (i : Int) | str (k : Nat) (x : Str) (s : Txt)
def Cn.id : Cn → Nat
  | .int k _ _ => k
  | .str k _ _ => k
def Cn.nm : Cn → Str
  | .int _ x _ => x
  | .str _ x _ => x
def Cn.d : Cn → D
  | .int _ _ i => .int i
  | .str _ _ s => .str s
def Cn.fa : Cn → He.Fa
  | .int _ x i => .int x i
  | .str _ x s => .str x (sOf s)
def Cn.ok : Cn → Bool
  | .str _ _ s => okT s
  | _ => true
def cOf (cs : List Cn) (k : Nat) : Option D := (cs.find? fun c => k == c.id).map Cn.d
theorem lookup_cOf : ∀ {cs : List Cn} {k : Nat} {x : Str}, (cs.map fun c => (c.id, c.nm)).lookup k = some x → ∃ c, c ∈ cs ∧ c.nm = x ∧ cOf cs k = some c.d
  | [], _, _, h => by cases h
  | c :: cs, k, x, h => by
    rw [List.map_cons, List.lookup_cons] at h
    unfold cOf
    rw [List.find?_cons]
    cases hk : k == c.id with
    | true =>
      rw [hk] at h
      exact ⟨c, List.mem_cons_self, Option.some.inj h, rfl⟩
    | false =>
      rw [hk] at h
      obtain ⟨c', h1, h2, h3⟩ := lookup_cOf h
      exact ⟨c', List.mem_cons_of_mem _ h1, h2, h3⟩
/-- the classes: their numbers and names; the fields'; what is used of them -/
structure KT where
  cls : List (Nat × Str)
  fld : List (Nat × Str)
  cl : List (Nat × Str × Nat)
  fl : List (Nat × Nat × Str)
  me : List (Nat × Str × Nat)
  ec : List (Nat × Str)
  em : List (Str × Nat × Bool)
  is : List (Str × Nat × Bool)
  ve : List (Nat × Bool)
  hc : List Nat
def KT.cn (t : KT) (k : Nat) : Str := (t.cls.lookup k).getD ⟨#[]⟩
def KT.fn (t : KT) (a : Nat) : Str := (t.fld.lookup a).getD ⟨#[]⟩
def KT.facts (t : KT) : List He.Fa := (t.cl.map fun p => He.Fa.glo p.2.1) ++ ((t.cl.map fun p => He.Fa.mkr p.2.1) ++ ((t.fl.map fun p => He.Fa.cls (t.cn p.1)) ++ ((t.fl.map fun p => He.Fa.noat (t.cn p.1) p.2.2) ++
  ((t.me.map fun p => He.Fa.cls (t.cn p.1)) ++ ((t.me.map fun p => He.Fa.meth (t.cn p.1) p.2.1) ++ ((t.ec.map fun p => He.Fa.glo p.2) ++ ((t.ec.map fun p => He.Fa.exc p.2) ++ ((t.em.map fun p => He.Fa.glo p.1) ++ ((t.em.map fun p => He.Fa.exm (t.cn p.2.1) p.1 p.2.2) ++ t.is.map fun p => He.Fa.glo p.1)))))))))
/-- more of the classes -/
def KT.exB (t : KT) (K : PySem.W.Frag) : Bool := (t.hc.all fun k => excCB K (He.ga K (t.cn k))) && ((t.is.all fun p => decide (PySem.W.kitOne K (.ref (He.ga K (t.cn p.2.1))) (.ref (He.ga K p.1)) = some p.2.2)) &&
  t.ve.all fun p => decide (PySem.W.kitOne K (.ref (He.ga K (t.cn p.1))) (.type "ValueError") = some p.2))
/-- it all hangs together -/
def KT.ok (t : KT) (ds : List DI) : Bool :=
  (t.fld.all fun p => t.fld.all fun q => decide (p.2 = q.2 → p.1 = q.1)) && (t.cl.all fun p => decide (t.cls.lookup p.1 = some p.2.1) && decide ((dOf ds p.2.2).map (fun d => (d.nm, d.cls)) = some (("__init__" : Str), some p.2.1))) &&
  (t.fl.all fun p => decide (t.fld.lookup p.2.1 = some p.2.2)) && (t.me.all fun p => decide ((dOf ds p.2.2).map (fun d => (d.nm, d.cls)) = some (p.2.1, some (t.cn p.1))) && t.fld.all fun q => decide (q.2 ≠ p.2.1)) &&
  (t.ec.all fun p => decide (t.cls.lookup p.1 = some p.2))
def faOf (ds : List DI) (hs : List HD) (cs : List Cn) (bf : List Str) (t : KT) : List He.Fa := ((topD ds).map fun d => He.Fa.glo d.nm) ++ ((hs.map fun h => He.Fa.glo h.d.nm) ++ (cs.map Cn.fa ++ (bf.map He.Fa.free ++ t.facts)))
def ddOf (ds : List DI) (hs : List HD) : List He.DefD := (ds ++ hs.map HD.d).map DI.dd
def faD (K : PySem.W.Frag) (ds : List DI) (i : Nat) : Addr := match dOf ds i with
  | some d => He.fAd K d.at_
  | none => 0
theorem look_mem {α : Type} : ∀ {l : List (Nat × α)} {k : Nat} {x : α}, l.lookup k = some x → (k, x) ∈ l
  | [], _, _, h => by cases h
  | (j, y) :: r, k, x, h => by
    rw [List.lookup_cons] at h
    cases hk : k == j with
    | true =>
      rw [hk] at h
      rw [eq_of_beq hk, Option.some.inj h]
      exact List.mem_cons_self
    | false =>
      rw [hk] at h
      exact List.mem_cons_of_mem _ (look_mem h)
def lay (w : World) (K : PySem.W.Frag) (ds : List DI) (t : KT) (h : t.ok ds = true) : Lay where
  w := w
  clo := none
  tabs := []
  keep := none
  fn := faD K ds
  cl := fun k => He.ga K (t.cn k)
  fld := t.fn
  okf := fun a => (t.fld.lookup a).isSome
  inj := fun a b ha hb e => by
    unfold KT.ok at h
    obtain ⟨h, _⟩ := and1 h
    obtain ⟨h, _⟩ := and1 h
    obtain ⟨h, _⟩ := and1 h
    obtain ⟨h, _⟩ := and1 h
    obtain ⟨x, hx⟩ := Option.isSome_iff_exists.mp ha
    obtain ⟨y, hy⟩ := Option.isSome_iff_exists.mp hb
    unfold KT.fn at e
    rw [hx, hy] at e
    exact of_decide_eq_true (List.all_eq_true.mp (List.all_eq_true.mp h _ (look_mem hx)) _ (look_mem hy)) e
def tbOf (ds : List DI) (hs : List HD) (cs : List Cn) (bf : List Str) (t : KT) : Tb := ⟨(topD ds).map fun d => (d.id, d.nm), cs.map fun c => (c.id, c.nm), bf, t.cl, t.fl, t.me, t.ec, t.em, t.is, t.ve, t.hc, hs.map fun h => (h.d.nm, h.k, h.b)⟩
def chkAll (ds : List DI) (hs : List HD) (cs : List Cn) (bf : List Str) (t : KT) : Bool := (ds.all fun d => chkD (tbOf ds hs cs bf t) d) && (hs.all fun h => chkH (tbOf ds hs cs bf t) h) && idsOk ds
section
variable {P : Program} {w : World} {K : PySem.W.Frag} {h : Heap} {mg : Str → Option Value} {ds : List DI} {hs : List HD} {cs : List Cn} {bf : List Str} {t : KT}
theorem fact_of {f : He.Fa} (c : He.SaysD (faOf ds hs cs bf t) (ddOf ds hs) K) (hf : f ∈ faOf ds hs cs bf t) : f.ok K = true := by
  obtain ⟨i, hi⟩ := List.mem_iff_getElem?.mp hf
  exact c.fact i hi
theorem factK {f : He.Fa} (c : He.SaysD (faOf ds hs cs bf t) (ddOf ds hs) K) (hf : f ∈ t.facts) : f.ok K = true :=
  fact_of c (List.mem_append_right _ (List.mem_append_right _ (List.mem_append_right _ (List.mem_append_right _ hf))))
theorem dOf_at {i : Nat} {x y : Str} (h : (dOf ds i).map (fun d => (d.nm, d.cls)) = some (y, some x)) : ∃ d, dOf ds i = some d ∧ faD K ds i = He.ma K (He.ga K x) y := by
  cases e : dOf ds i with
  | none => rw [e] at h; cases h
  | some d =>
    rw [e] at h
    have h := Option.some.inj h
    have h1 : d.nm = y := congrArg Prod.fst h
    have h2 : d.cls = some x := congrArg Prod.snd h
    refine ⟨d, rfl, ?_⟩
    unfold faD
    rw [e]
    show He.fAd K d.at_ = _
    unfold DI.at_
    rw [h2, h1]
    rfl
/-- the classes' facts -/
theorem cls_facts (hk : t.ok ds = true) (hex : t.exB K = true) (X : K.In h) (Gn : h.Ns mainGlobals mg) (c : He.SaysD (faOf ds hs cs bf t) (ddOf ds hs) K) : ClsF K mg (lay w K ds t hk) ds (tbOf ds hs cs bf t) := by
  have hk' := hk
  unfold KT.ok at hk'
  obtain ⟨h1, h5⟩ := and1 hk'
  obtain ⟨h1, h4⟩ := and1 h1
  obtain ⟨h1, h3⟩ := and1 h1
  obtain ⟨h1, h2⟩ := and1 h1
  have hex' := hex
  unfold KT.exB at hex'
  obtain ⟨x1, x2⟩ := and1 hex'
  obtain ⟨x2, x3⟩ := and1 x2
  refine ⟨fun k x i hm => ?_, fun k a y hm => ?_, fun k y i hm => ?_, fun k y hm => ?_, fun y k b hm => ?_, fun y k b hm => ?_, fun k b hm => of_decide_eq_true (List.all_eq_true.mp x3 (k, b) hm), fun k hm => excCB_ok (List.all_eq_true.mp x1 k hm)⟩
  · obtain ⟨e1, e2⟩ := and1 (List.all_eq_true.mp h2 _ (show (k, x, i) ∈ t.cl from hm))
    obtain ⟨d, hd, e3⟩ := dOf_at (K := K) (of_decide_eq_true e2)
    have e1 : t.cls.lookup k = some x := of_decide_eq_true e1
    have ec : (lay w K ds t hk).cl k = He.ga K x := by
      show He.ga K (t.cn k) = _
      unfold KT.cn
      rw [e1]
      rfl
    rw [ec]
    have f1 := factK (f := .mkr x) c (by unfold KT.facts; simp only [List.mem_append, List.mem_map]; exact .inr (.inl ⟨_, hm, rfl⟩))
    have f2 := factK (f := .glo x) c (by unfold KT.facts; simp only [List.mem_append, List.mem_map]; exact .inl ⟨_, hm, rfl⟩)
    refine ⟨d, hd, ?_, He.glo_ok X Gn f2⟩
    show Mk K (He.ga K x) (faD K ds i)
    rw [e3]
    exact He.mkr_ok f1
  · have e1 : t.fld.lookup a = some y := of_decide_eq_true (List.all_eq_true.mp h3 _ (show (k, a, y) ∈ t.fl from hm))
    have ef : (lay w K ds t hk).fld a = y := by
      show t.fn a = _
      unfold KT.fn
      rw [e1]
      rfl
    have f1 := factK (f := .cls (t.cn k)) c (by unfold KT.facts; simp only [List.mem_append, List.mem_map]; exact .inr (.inr (.inl ⟨_, hm, rfl⟩)))
    have f2 := factK (f := .noat (t.cn k) y) c (by unfold KT.facts; simp only [List.mem_append, List.mem_map]; exact .inr (.inr (.inr (.inl ⟨_, hm, rfl⟩))))
    exact ⟨He.cls_ok f1, by rw [ef]; exact He.noat_ok f2, by show (t.fld.lookup a).isSome = true; rw [e1]; rfl, ef⟩
  · obtain ⟨e1, e2⟩ := and1 (List.all_eq_true.mp h4 _ (show (k, y, i) ∈ t.me from hm))
    obtain ⟨d, hd, e3⟩ := dOf_at (K := K) (of_decide_eq_true e1)
    have f1 := factK (f := .cls (t.cn k)) c (by unfold KT.facts; simp only [List.mem_append, List.mem_map]; exact .inr (.inr (.inr (.inr (.inl ⟨_, hm, rfl⟩)))))
    have f2 := factK (f := .meth (t.cn k) y) c (by unfold KT.facts; simp only [List.mem_append, List.mem_map]; exact .inr (.inr (.inr (.inr (.inr (.inl ⟨_, hm, rfl⟩))))))
    refine ⟨d, hd, He.cls_ok f1, ?_, fun a ha e => ?_⟩
    · show Meth K (He.ga K (t.cn k)) y (faD K ds i)
      rw [e3]
      exact He.meth_ok f2
    · obtain ⟨z, hz⟩ := Option.isSome_iff_exists.mp (show (t.fld.lookup a).isSome = true from ha)
      have e : t.fn a = y := e
      unfold KT.fn at e
      rw [hz] at e
      exact of_decide_eq_true (List.all_eq_true.mp e2 _ (look_mem hz)) e
  · have e1 : t.cls.lookup k = some y := of_decide_eq_true (List.all_eq_true.mp h5 _ (show (k, y) ∈ t.ec from hm))
    have ec : (lay w K ds t hk).cl k = He.ga K y := by
      show He.ga K (t.cn k) = _
      unfold KT.cn
      rw [e1]
      rfl
    rw [ec]
    have f1 := factK (f := .glo y) c (by unfold KT.facts; simp only [List.mem_append, List.mem_map]; exact .inr (.inr (.inr (.inr (.inr (.inr (.inl ⟨_, hm, rfl⟩)))))))
    have f2 := factK (f := .exc y) c (by unfold KT.facts; simp only [List.mem_append, List.mem_map]; exact .inr (.inr (.inr (.inr (.inr (.inr (.inr (.inl ⟨_, hm, rfl⟩))))))))
    obtain ⟨q1, q2, q3, q4⟩ := He.exc_ok f2
    exact ⟨q1, He.glo_ok X Gn f1, q2, q3, q4⟩
  · have f1 := factK (f := .glo y) c (by unfold KT.facts; simp only [List.mem_append, List.mem_map]; exact .inr (.inr (.inr (.inr (.inr (.inr (.inr (.inr (.inl ⟨_, hm, rfl⟩)))))))))
    have f2 := factK (f := .exm (t.cn k) y b) c (by unfold KT.facts; simp only [List.mem_append, List.mem_map]; exact .inr (.inr (.inr (.inr (.inr (.inr (.inr (.inr (.inr (.inl ⟨_, hm, rfl⟩))))))))))
    exact ⟨_, He.glo_ok X Gn f1, He.exm_ok f2⟩
  · have f1 := factK (f := .glo y) c (by unfold KT.facts; simp only [List.mem_append, List.mem_map]; exact .inr (.inr (.inr (.inr (.inr (.inr (.inr (.inr (.inr (.inr ⟨_, hm, rfl⟩))))))))))
    exact ⟨_, He.glo_ok X Gn f1, of_decide_eq_true (List.all_eq_true.mp x2 (y, k, b) hm)⟩
/-- a promise that lets nothing out -/
theorem calm_fn {P : Program} {w : World} {K : PySem.W.Frag} {mg : Str → Option Value} {base : Heap} {k : Nat} {f : Addr} {fd : FuncData} {ps : List Str} {sp : Sp} (F : FnOk P w K mg base (L2.CX P w) k f fd ps sp) :
    FnOk P w K mg base L2.CX0 k f fd ps (fun vs H Q _ => sp vs H Q fun _ _ _ => False) :=
  ⟨fun vs H Q _ h => F.len vs H Q _ h, fun A outer s H args us vs Q E hr he hb hv h => codeAny_mono (F.run A outer s H args us vs Q (fun _ _ _ => False) hr he hb hv h) fun r s' q => by
    cases r with
    | ok fl => cases fl <;> exact q
    | error e =>
      obtain ⟨_, _, _, _, _, _, _, _, _, _, _, _, z⟩ := q
      exact z.elim⟩
/-- the law's promise -/
theorem ev_law {li k : Nat} {f : Addr} {dl : DI} {x : Str} (hc : chkAll ds hs cs bf t = true) (hk : t.ok ds = true) (hcs : cs.all Cn.ok = true) (hB : BindAll ds) (hB2 : BindAll (hs.map HD.d)) (hex : t.exB K = true) (X : K.In h) (Gn : h.Ns mainGlobals mg) (c : He.SaysD (faOf ds hs cs bf t) (ddOf ds hs) K)
    (hl : dOf ds li = some dl) (hlc : dl.cls = none) (hps : dl.ps = [x]) (hfa : mg dl.nm = some (.ref f)) :
    ∃ fd : FuncData, (∀ (s : Shared) (v : Value), BindsTo s fd ⟨[v], []⟩ [(x, v)]) ∧ ∀ base : Heap, K.In base → base.Ns mainGlobals mg → FnOk P w K mg base L2.CX0 (2 * k) f fd [x] (fun vs H Q _ => spN K (lay w K ds t hk) (cOf cs) (fnOfD ds) k li vs H Q fun _ _ _ => False) := by
  obtain ⟨hc, hu⟩ := and1 hc
  obtain ⟨hc, hhs⟩ := and1 hc
  have hd : ∀ (i : Nat) (d : DI), dOf ds i = some d → ∃ fd, FunD K d.nm d.qual (defArgs d.st) (defBody d.st) (defScope d.st) [] [] ((lay w K ds t hk).fn i) fd ∧ (d.cls = none → mg d.nm = some (.ref ((lay w K ds t hk).fn i))) ∧ L2.Binds K fd d.ps [] := fun i d hi => by
    have hm := dOf_mem hi
    obtain ⟨fd, Fu⟩ := c.defs (d := d.dd) (List.mem_map.mpr ⟨d, List.mem_append_left _ hm, rfl⟩)
    have e : (lay w K ds t hk).fn i = He.fAd K d.at_ := by show faD K ds i = _; unfold faD; rw [hi]
    have Fu' : FunD K d.nm d.qual (defArgs d.st) (defBody d.st) (defScope d.st) [] [] ((lay w K ds t hk).fn i) fd := by rw [e]; exact Fu
    refine ⟨fd, Fu', fun hn => ?_, Fu'.bindsN (hB.get hm)⟩
    rw [e]
    unfold DI.at_
    rw [hn]
    exact He.glo_ok X Gn (fact_of c (List.mem_append_left _ (List.mem_map.mpr ⟨d, List.mem_filter.mpr ⟨hm, by rw [hn]; rfl⟩, rfl⟩)))
  have hg : ∀ (k : Nat) (x : Str), (tbOf ds hs cs bf t).gl.lookup k = some x → ∃ u v d, mg x = some u ∧ RelV v u ∧ cOf cs k = some d ∧ ∀ G' φ, RV K (lay w K ds t hk) G' φ d v := fun k x hk => by
    obtain ⟨cn, hm, rfl, hG⟩ := lookup_cOf (show (cs.map fun c => (c.id, c.nm)).lookup k = some x from hk)
    have hfact := fact_of (f := cn.fa) c (List.mem_append_right _ (List.mem_append_right _ (List.mem_append_left _ (List.mem_map.mpr ⟨cn, hm, rfl⟩))))
    have hok := List.all_eq_true.mp hcs cn hm
    cases cn with
    | int _ y i =>
      obtain ⟨t, e⟩ := He.int_ok X Gn hfact
      exact ⟨_, .int i, _, e, ⟨t, rfl⟩, hG, fun _ _ => mk_int⟩
    | str _ y s =>
      obtain ⟨t, e⟩ := He.str_ok X Gn hfact
      exact ⟨_, .str (sOf s), _, e, ⟨t, rfl⟩, hG, fun _ _ => mk_str hok⟩
  have hb : ∀ x, x ∈ (tbOf ds hs cs bf t).bf → mg x = none := fun x hx =>
    He.free_ok X Gn (fact_of c (List.mem_append_right _ (List.mem_append_right _ (List.mem_append_right _ (List.mem_append_left _ (List.mem_map.mpr ⟨x, hx, rfl⟩))))))
  obtain ⟨fd, Fu, hm, hbn⟩ := hd li dl hl
  have hm := hm hlc
  have ef : f = (lay w K ds t hk).fn li := by
    rw [hfa] at hm
    cases hm
    rfl
  subst ef
  have hA := Fu.bindsA (hB.get (dOf_mem hl))
  refine ⟨fd, fun s v => ?_, fun base hK hN => ?_⟩
  · have := hA s [v] (by rw [hps]; rfl)
    rw [hps] at this
    exact this
  · have hcf : ClsF K mg (lay w K ds t hk) ds (tbOf ds hs cs bf t) := cls_facts hk hex X Gn c
    have hhf := hotFs (P := P) (w := w) (base := base) (hs := hs) rfl hhs hcf rfl rfl (fun h hm => by
      obtain ⟨fd, Fu⟩ := c.defs (d := h.d.dd) (List.mem_map.mpr ⟨h.d, List.mem_append_right _ (List.mem_map.mpr ⟨h, hm, rfl⟩), rfl⟩)
      have hx := List.all_eq_true.mp hhs h hm
      unfold chkH at hx
      obtain ⟨hx, _⟩ := and1 hx
      obtain ⟨_, hx⟩ := and1 hx
      have hcl : h.d.cls = none := of_decide_eq_true hx
      have Fu' : FunD K h.d.nm h.d.qual (defArgs h.d.st) (defBody h.d.st) (defScope h.d.st) [] [] (He.fAd K h.d.at_) fd := Fu
      refine ⟨_, fd, Fu', ?_, Fu'.bindsN (hB2.get (List.mem_map.mpr ⟨h, hm, rfl⟩))⟩
      unfold DI.at_
      rw [hcl]
      exact He.glo_ok X Gn (fact_of c (List.mem_append_right _ (List.mem_append_left _ (List.mem_map.mpr ⟨h, hm, rfl⟩))))) hg hb
    obtain ⟨fd', Fu', ok, _, _⟩ := promise (P := P) (w := w) (base := base) rfl hc hu rfl hcf hhf rfl hd hg hb k li dl hl
    obtain ⟨oc, od, dV, kV, doc, pm, an, cdv, ct, osl, e1, l1, _⟩ := Fu.ex
    obtain ⟨oc', od', dV', kV', doc', pm', an', cdv', ct', osl', e2, l2, _⟩ := Fu'.ex
    rw [l1] at l2
    have : fd = fd' := by
      cases l2
      rfl
    subst this
    rw [← hps]
    exact calm_fn ok
theorem ev_sp {G : Nat → Option D} {F : Nat → Option Fn} {fa : Lay} {k li : Nat} {E : XK} {m : Nat} (ht : fa.tabs = []) (hlaw : ∀ ns : List Int, ns.length ≤ m → ∃ μ', run G F k li [.lst (ns.map .int)] [] = .ok (.bl true) μ') (H : Hp) (a : Addr) (ns : List Int) (hn : ns.length ≤ m) (hS : SqL K H a (ns.map V.int)) :
    spN K fa G F k li [.ref a] H (fun v _ => v = .bl true) E := by
  obtain ⟨μ', hr⟩ := hlaw ns hn
  have hno : ∀ b : Addr, b ∉ (⟨[], []⟩ : Ph) := fun b h => by
    rcases h with h | h <;> cases h
  refine ⟨⟨[], []⟩, [], [.lst (ns.map .int)], ⟨rfl, List.nodup_nil, fun b h => (by cases h), fun i b q h _ => (by simp at h), fun p hp => (by rw [ht] at hp; cases hp)⟩, RVs.one (mk_lst (vs := ns.map V.int) (Same.sqL (fun b o h => by rw [msk_out (hno b)]; exact h) hS) ?_), ?_⟩
  · refine RVs.of_get (by rw [List.length_map, List.length_map]) fun i d v h1 h2 => ?_
    rw [List.getElem?_map] at h1 h2
    obtain ⟨j, e1, rfl⟩ := ofmap h1
    obtain ⟨j', e2, rfl⟩ := ofmap h2
    rw [e1] at e2
    cases e2
    exact mk_int
  · rw [hr]
    exact fun φ' H' x A v rv => rv_bl rv
end
end Ev

set_option Elab.async false
set_option linter.all false
set_option maxRecDepth 100000
set_option maxHeartbeats 1000000
/-! What the evaluator gives, by what is wanted of it. Plain Lean. -/
namespace Ev
/-- nothing is let out -/
abbrev noX : Ex → Mu → Prop := fun _ _ => False
/-- it gives a value, of which Q holds, or an exception, of which X holds -/
inductive Res.wp {α : Type} : Res α → (α → Mu → Prop) → (X : Ex → Mu → Prop := noX) → Prop
  | mk {a : α} {μ : Mu} {Q : α → Mu → Prop} {X : Ex → Mu → Prop} (h : Q a μ) : Res.wp (.ok a μ) Q X
  | ex {x : Ex} {μ : Mu} {Q : α → Mu → Prop} {X : Ex → Mu → Prop} (h : X x μ) : Res.wp (.ex x μ) Q X
/-- N: it goes on; R: it returns; B: break; C: continue -/
inductive Out.wp : Out → (Rho → Mu → Prop) → (D → Mu → Prop) → (Rho → Mu → Prop) → (Rho → Mu → Prop) → (X : Ex → Mu → Prop := noX) → Prop
  | nx {ρ : Rho} {μ : Mu} {N B C : Rho → Mu → Prop} {R : D → Mu → Prop} {X : Ex → Mu → Prop} (h : N ρ μ) : Out.wp (.nx ρ μ) N R B C X
  | rt {d : D} {μ : Mu} {N B C : Rho → Mu → Prop} {R : D → Mu → Prop} {X : Ex → Mu → Prop} (h : R d μ) : Out.wp (.rt d μ) N R B C X
  | bk {ρ : Rho} {μ : Mu} {N B C : Rho → Mu → Prop} {R : D → Mu → Prop} {X : Ex → Mu → Prop} (h : B ρ μ) : Out.wp (.bk ρ μ) N R B C X
  | ct {ρ : Rho} {μ : Mu} {N B C : Rho → Mu → Prop} {R : D → Mu → Prop} {X : Ex → Mu → Prop} (h : C ρ μ) : Out.wp (.ct ρ μ) N R B C X
  | ex {x : Ex} {ρ : Rho} {μ : Mu} {N B C : Rho → Mu → Prop} {R : D → Mu → Prop} {X : Ex → Mu → Prop} (h : X x μ) : Out.wp (.ex x ρ μ) N R B C X
inductive ofo {α : Type} : Option α → (α → Prop) → Prop
  | mk {a : α} {Q : α → Prop} (h : Q a) : ofo (some a) Q
section
variable {α β : Type} {Q : α → Mu → Prop} {N B C : Rho → Mu → Prop} {R : D → Mu → Prop} {X : Ex → Mu → Prop} {ρ : Rho} {μ : Mu}
theorem wp_ok {a : α} : (Res.ok a μ).wp Q X = Q a μ := propext ⟨fun h => by cases h; assumption, .mk⟩
theorem wp_no : (Res.no : Res α).wp Q X = False := propext ⟨fun h => (by cases h), fun h => h.elim⟩
theorem wp_ex {x : Ex} : (Res.ex x μ : Res α).wp Q X = X x μ := propext ⟨fun h => by cases h; assumption, .ex⟩
theorem wpo_nx : (Out.nx ρ μ).wp N R B C X = N ρ μ := propext ⟨fun h => by cases h; assumption, .nx⟩
theorem wpo_rt {d : D} : (Out.rt d μ).wp N R B C X = R d μ := propext ⟨fun h => by cases h; assumption, .rt⟩
theorem wpo_bk : (Out.bk ρ μ).wp N R B C X = B ρ μ := propext ⟨fun h => by cases h; assumption, .bk⟩
theorem wpo_ct : (Out.ct ρ μ).wp N R B C X = C ρ μ := propext ⟨fun h => by cases h; assumption, .ct⟩
theorem wpo_no : (Out.no).wp N R B C X = False := propext ⟨fun h => (by cases h), fun h => h.elim⟩
theorem wpo_ex {x : Ex} : (Out.ex x ρ μ).wp N R B C X = X x μ := propext ⟨fun h => by cases h; assumption, .ex⟩
theorem ofo_some {a : α} {P : α → Prop} : ofo (some a) P = P a := propext ⟨fun h => by cases h; assumption, .mk⟩
theorem ofo_none {P : α → Prop} : ofo none P = False := propext ⟨fun h => (by cases h), fun h => h.elim⟩
theorem wp_bind {r : Res β} {f : β → Mu → Res α} : (r.bind f).wp Q X = r.wp (fun b μ => (f b μ).wp Q X) X := by
  cases r with
  | ok b μ => rw [Res.bind_ok, wp_ok]
  | ex x μ => rw [Res.bind_ex, wp_ex, wp_ex]
  | no => rw [Res.bind_no, wp_no, wp_no]
theorem wp_of {o : Option α} : (Res.of o μ).wp Q X = ofo o fun a => Q a μ := by
  cases o with
  | none => rw [Res.of_none, wp_no, ofo_none]
  | some a => rw [Res.of_some, wp_ok, ofo_some]
theorem wp_ite {c : Prop} [Decidable c] {r s : Res α} : (if c then r else s).wp Q X = if c then r.wp Q X else s.wp Q X := by split <;> rfl
theorem wp_out {r : Res β} {f : β → Mu → Out} : (r.out ρ f).wp N R B C X = r.wp (fun b μ => (f b μ).wp N R B C X) X := by
  cases r with
  | ok b μ => rw [Res.out_ok, wp_ok]
  | ex x μ => rw [Res.out_ex, wpo_ex, wp_ex]
  | no => rw [Res.out_no, wpo_no, wp_no]
theorem wpo_ite {c : Prop} [Decidable c] {r s : Out} : (if c then r else s).wp N R B C X = if c then r.wp N R B C X else s.wp N R B C X := by split <;> rfl
theorem ofo_ite {c : Prop} [Decidable c] {o o' : Option α} {P : α → Prop} : ofo (if c then o else o') P = if c then ofo o P else ofo o' P := by split <;> rfl
theorem ofo_map {o : Option β} {f : β → α} {P : α → Prop} : ofo (o.map f) P = ofo o fun b => P (f b) := by
  cases o with
  | none => rw [Option.map_none, ofo_none, ofo_none]
  | some a => rw [Option.map_some, ofo_some, ofo_some]
theorem ofo_bind {o : Option β} {f : β → Option α} {P : α → Prop} : ofo (o.bind f) P = ofo o fun b => ofo (f b) P := by
  cases o with
  | none => rw [Option.bind_none, ofo_none, ofo_none]
  | some a => rw [Option.bind_some, ofo_some]
inductive ofoE {α : Type} : Option α → (α → Prop) → Prop → Prop
  | here {a : α} {P : α → Prop} {q : Prop} (h : P a) : ofoE (some a) P q
  | out {P : α → Prop} {q : Prop} (h : q) : ofoE none P q
theorem ofoE_some {a : α} {P : α → Prop} {q : Prop} : ofoE (some a) P q = P a := propext ⟨fun h => by cases h; assumption, .here⟩
theorem ofoE_none {P : α → Prop} {q : Prop} : ofoE none P q = q := propext ⟨fun h => by cases h; assumption, .out⟩
theorem ofo_intro {o : Option α} {a : α} {P : α → Prop} (h : o = some a) (q : P a) : ofo o P := by rw [h, ofo_some]; exact q
theorem Res.wp_mono {r : Res α} {Q Q' : α → Mu → Prop} {X X' : Ex → Mu → Prop} (h : r.wp Q X) (f : ∀ a μ, Q a μ → Q' a μ) (g : ∀ x μ, X x μ → X' x μ := by first | exact fun _ _ h => h | exact fun _ _ h => h.elim) : r.wp Q' X' := by
  cases h with
  | mk h => exact .mk (f _ _ h)
  | ex h => exact .ex (g _ _ h)
theorem Out.wp_mono {o : Out} {N N' B B' C C' : Rho → Mu → Prop} {R R' : D → Mu → Prop} {X X' : Ex → Mu → Prop} (h : o.wp N R B C X) (hN : ∀ ρ μ, N ρ μ → N' ρ μ) (hR : ∀ d μ, R d μ → R' d μ) (hB : ∀ ρ μ, B ρ μ → B' ρ μ) (hC : ∀ ρ μ, C ρ μ → C' ρ μ) (hX : ∀ x μ, X x μ → X' x μ := by first | exact fun _ _ h => h | exact fun _ _ h => h.elim) : o.wp N' R' B' C' X' := by
  cases h with
  | nx h => exact .nx (hN _ _ h)
  | rt h => exact .rt (hR _ _ h)
  | bk h => exact .bk (hB _ _ h)
  | ct h => exact .ct (hC _ _ h)
  | ex h => exact .ex (hX _ _ h)
theorem wp_eq {r : Res α} (h : r.wp Q) : ∃ a μ, r = .ok a μ ∧ Q a μ := by
  cases h with
  | mk h => exact ⟨_, _, rfl, h⟩
  | ex h => exact h.elim
/-- it gives one of both -/
theorem wp_eqX {r : Res α} (h : r.wp Q X) : (∃ a μ, r = .ok a μ ∧ Q a μ) ∨ ∃ x μ, r = .ex x μ ∧ X x μ := by
  cases h with
  | mk h => exact .inl ⟨_, _, rfl, h⟩
  | ex h => exact .inr ⟨_, _, rfl, h⟩
end
section
variable {G : Nat → Option D} {call : Nat → List D → Mu → Res D} {N B C : Rho → Mu → Prop} {R : D → Mu → Prop} {X : Ex → Mu → Prop} {ρ : Rho} {μ : Mu} {Q : D → Mu → Prop} {P : Bool → Mu → Prop}
/-! ### statements -/
theorem ss_n : (exSs G call [] ρ μ).wp N R B C X = N ρ μ := wpo_nx
theorem ss_c {s : S} {ss : List S} : (exSs G call (s :: ss) ρ μ).wp N R B C X = (exS G call s ρ μ).wp (fun ρ μ => (exSs G call ss ρ μ).wp N R B C X) R B C X := by
  show (match exS G call s ρ μ with | .nx ρ' μ' => exSs G call ss ρ' μ' | o => o).wp N R B C X = _
  cases exS G call s ρ μ with
  | nx ρ' μ' => rw [wpo_nx]
  | rt d' μ' => rw [wpo_rt, wpo_rt]
  | bk ρ' μ' => rw [wpo_bk, wpo_bk]
  | ct ρ' μ' => rw [wpo_ct, wpo_ct]
  | ex x ρ' μ' => rw [wpo_ex, wpo_ex]
  | no => rw [wpo_no, wpo_no]
theorem s_e {e : E} : (exS G call (.expr e) ρ μ).wp N R B C X = (evE G call e ρ μ).wp (fun _ μ => N ρ μ) X := by
  show (Res.out _ _ _).wp N R B C X = _
  simp only [wp_out, wpo_nx]
theorem s_r {e : E} : (exS G call (.ret e) ρ μ).wp N R B C X = (evE G call e ρ μ).wp R X := by
  show (Res.out _ _ _).wp N R B C X = _
  simp only [wp_out, wpo_rt]
theorem s_rN : (exS G call .retN ρ μ).wp N R B C X = R .non μ := wpo_rt
theorem s_a {t : T} {e : E} : (exS G call (.asg t e) ρ μ).wp N R B C X = (evE G call e ρ μ).wp (fun d μ => ofo (t.put d ρ) fun ρ' => N ρ' μ) X := by
  show (Res.out _ _ _).wp N R B C X = _
  rw [wp_out]
  congr 1
  funext d μ'
  show (match t.put d ρ with | some ρ' => Out.nx ρ' μ' | none => .no).wp N R B C X = _
  cases t.put d ρ with
  | none => rw [wpo_no, ofo_none]
  | some ρ' => rw [wpo_nx, ofo_some]
theorem s_i {c : E} {a b : List S} : (exS G call (.if_ c a b) ρ μ).wp N R B C X = (evT G call c ρ μ).wp (fun k μ => if k = true then (exSs G call a ρ μ).wp N R B C X else (exSs G call b ρ μ).wp N R B C X) X := by
  show (Res.out _ _ _).wp N R B C X = _
  rw [wp_out]
  congr 1
  funext d μ'
  exact wpo_ite
theorem s_w {kill : List Nat} {c : E} {b : List S} : (exS G call (.while_ kill c b) ρ μ).wp N R B C X = (whileL kill (fun ρ μ => evT G call c ρ μ) (fun ρ μ => exSs G call b ρ μ) manyTurns ρ μ).wp N R B C X := rfl
theorem s_f {kill : List Nat} {t : T} {k : IK} {src : List E} {b : List S} : (exS G call (.for_ kill t k src b) ρ μ).wp N R B C X = (evEs G call src ρ μ).wp (fun ss μ => ofo (itemsD k μ ss) fun lg => (forL lg.2 kill (fun d ρ μ => match t.put d ρ with
    | some ρ' => exSs G call b ρ' μ
    | none => .no) lg.1 ρ μ).wp N R B C X) X := by
  show (Res.out _ _ _).wp N R B C X = _
  rw [wp_out]
  congr 1
  funext ss μ'
  cases itemsD k μ' ss with
  | none => rw [ofo_none]; exact wpo_no
  | some lg => rw [ofo_some] <;> rfl
theorem s_x {o i e : E} : (exS G call (.setIdx o i e) ρ μ).wp N R B C X = (evE G call e ρ μ).wp (fun v μ => (evE G call o ρ μ).wp (fun x μ => (evE G call i ρ μ).wp (fun y μ => ofoE (lstAt μ x) (fun nl => ofo (intOf y) fun j => ofo (ixZ nl.2.length j) fun k => N ρ (μ.set nl.1 (.lst (nl.2.set k v))))
    (ofo (setDD μ x y v) fun μ' => N ρ μ')) X) X) X := by
  show (Res.out _ _ _).wp N R B C X = _
  rw [wp_out]
  congr 1
  funext v μ'
  rw [wp_out]
  congr 1
  funext x μ2
  rw [wp_out]
  congr 1
  funext y μ3
  have h2 : ∀ o : Option Mu, (match o with | some m => Out.nx ρ m | none => Out.no).wp N R B C X = ofo o fun m => N ρ m := fun o => by
    cases o with
    | none => rw [ofo_none]; exact wpo_no
    | some m => rw [ofo_some]; exact wpo_nx
  refine (h2 _).trans ?_
  unfold setD
  cases lstAt μ3 x with
  | some nl =>
    rw [ofoE_some, ofo_bind]
    congr 1
    funext j
    rw [ofo_map]
  | none => rw [ofoE_none]
theorem s_sl {o e : E} {lo hi : Option E} : (exS G call (.setSlc o lo hi e) ρ μ).wp N R B C X = (evE G call e ρ μ).wp (fun v μ => (evE G call o ρ μ).wp (fun x μ => (evO G call lo ρ μ).wp (fun l μ => (evO G call hi ρ μ).wp (fun h μ => ofo (setSlD μ x l h v) fun μ' => N ρ μ') X) X) X) X := by
  show (Res.out _ _ _).wp N R B C X = _
  rw [wp_out]
  congr 1
  funext v μ'
  rw [wp_out]
  congr 1
  funext x μ2
  rw [wp_out]
  congr 1
  funext y μ3
  rw [wp_out]
  congr 1
  funext h μ4
  cases setSlD μ4 x y h v with
  | none => rw [ofo_none]; exact wpo_no
  | some m => rw [ofo_some]; exact wpo_nx
theorem s_p : (exS G call .pass ρ μ).wp N R B C X = N ρ μ := wpo_nx
theorem s_b : (exS G call .brk ρ μ).wp N R B C X = B ρ μ := wpo_bk
theorem s_c : (exS G call .cont ρ μ).wp N R B C X = C ρ μ := wpo_ct
/-! ### expressions -/
theorem v_var {i : Nat} : (evE G call (.var i) ρ μ).wp Q X = ofo (ρ[i]?) fun o => ofo o fun d => Q d μ := by
  show (match ρ[i]? with | some (some d) => Res.ok d μ | _ => .no).wp Q X = _
  cases ρ[i]? with
  | none => rw [ofo_none]; exact wp_no
  | some o =>
    cases o with
    | none => rw [ofo_some, ofo_none]; exact wp_no
    | some d => rw [ofo_some, ofo_some]; exact wp_ok
theorem v_con {d : D} : (evE G call (.con d) ρ μ).wp Q X = Q d μ := wp_ok
theorem v_glo {k : Nat} : (evE G call (.glo k) ρ μ).wp Q X = ofo (G k) fun d => Q d μ := wp_of
theorem v_bin {o : BOp} {a b : E} : (evE G call (.bin o a b) ρ μ).wp Q X = (evE G call a ρ μ).wp (fun x μ => (evE G call b ρ μ).wp (fun y μ => ofo (binD o μ x y) fun d => Q d μ) X) X := by
  show (Res.bind _ _).wp Q X = _
  simp only [wp_bind, wp_of]
theorem v_neg {a : E} : (evE G call (.neg a) ρ μ).wp Q X = (evE G call a ρ μ).wp (fun x μ => ofo (intOf x) fun i => Q (.int (-i)) μ) X := by
  show (Res.bind _ _).wp Q X = _
  rw [wp_bind]
  congr 1
  funext x μ'
  cases x with
  | int i => rw [show intOf (D.int i) = some i from rfl, ofo_some]; exact wp_ok
  | _ => rw [show intOf _ = none from rfl, ofo_none]; exact wp_no
theorem v_cmp {o : COp} {a b : E} : (evE G call (.cmp o a b) ρ μ).wp Q X = (evE G call a ρ μ).wp (fun x μ => (evE G call b ρ μ).wp (fun y μ => ofo (cmpD o μ x y) fun k => Q (.bl k) μ) X) X := by
  show (Res.bind _ _).wp Q X = _
  simp only [wp_bind, wp_of, ofo_map]
theorem v_cmp2 {o o' : COp} {a b c : E} : (evE G call (.cmp2 o o' a b c) ρ μ).wp Q X = (evE G call a ρ μ).wp (fun x μ => (evE G call b ρ μ).wp (fun y μ => ofo (cmpD o μ x y) fun k => if k = true then (evE G call c ρ μ).wp (fun z μ => ofo (cmpD o' μ y z) fun k => Q (.bl k) μ) X else Q (.bl false) μ) X) X := by
  show (Res.bind _ _).wp Q X = _
  simp only [wp_bind, wp_of, ofo_map, wp_ite, wp_ok]
theorem v_and {a b : E} : (evE G call (.and_ a b) ρ μ).wp Q X = (evE G call a ρ μ).wp (fun x μ => ofo (truthD μ x) fun k => if k = true then (evE G call b ρ μ).wp Q X else Q x μ) X := by
  show (Res.bind _ _).wp Q X = _
  simp only [wp_bind, wp_of, ofo_map, wp_ite, wp_ok]
theorem v_or {a b : E} : (evE G call (.or_ a b) ρ μ).wp Q X = (evE G call a ρ μ).wp (fun x μ => ofo (truthD μ x) fun k => if k = true then Q x μ else (evE G call b ρ μ).wp Q X) X := by
  show (Res.bind _ _).wp Q X = _
  simp only [wp_bind, wp_of, ofo_map, wp_ite, wp_ok]
theorem v_not {a : E} : (evE G call (.not_ a) ρ μ).wp Q X = (evE G call a ρ μ).wp (fun x μ => ofo (truthD μ x) fun k => Q (.bl (!k)) μ) X := by
  show (Res.bind _ _).wp Q X = _
  simp only [wp_bind, wp_of, ofo_map, wp_ite, wp_ok]
theorem v_ite {c a b : E} : (evE G call (.ite c a b) ρ μ).wp Q X = (evT G call c ρ μ).wp (fun k μ => if k = true then (evE G call a ρ μ).wp Q X else (evE G call b ρ μ).wp Q X) X := by
  show (Res.bind _ _).wp Q X = _
  simp only [wp_bind, wp_of, ofo_map, wp_ite, wp_ok]
theorem v_tup {es : List E} : (evE G call (.tup es) ρ μ).wp Q X = (evEs G call es ρ μ).wp (fun ds μ => if ds.length ≤ lim then Q (.tup ds) μ else False) X := by
  show (Res.bind _ _).wp Q X = _
  simp only [wp_bind, wp_of, ofo_map, wp_ite, wp_ok, wp_no]
theorem v_lstT {es : List E} : (evE G call (.lst true es) ρ μ).wp Q X = (evEs G call es ρ μ).wp (fun ds μ => if ds.length ≤ lim then Q (.loc μ.length) (μ ++ [.lst ds]) else False) X := by
  show (Res.bind _ _).wp Q X = _
  simp only [wp_bind, wp_of, ofo_map, wp_ite, wp_ok, wp_no, if_true]
theorem v_lstF {es : List E} : (evE G call (.lst false es) ρ μ).wp Q X = (evEs G call es ρ μ).wp (fun ds μ => if ds.length ≤ lim then Q (.lst ds) μ else False) X := by
  show (Res.bind _ _).wp Q X = _
  simp only [wp_bind, wp_of, ofo_map, wp_ite, wp_ok, wp_no, Bool.false_eq_true, if_false]
theorem v_cat {a b : E} : (evE G call (.cat a b) ρ μ).wp Q X = (evE G call a ρ μ).wp (fun x μ => (evE G call b ρ μ).wp (fun y μ => ofo (lstOf μ x) fun s => ofo (lstOf μ y) fun t => if s.length + t.length ≤ lim then Q (.loc μ.length) (μ ++ [.lst (s ++ t)]) else False) X) X := by
  show (Res.bind _ _).wp Q X = _
  rw [wp_bind]
  congr 1
  funext x μ1
  rw [wp_bind]
  congr 1
  funext y μ2
  cases lstOf μ2 x with
  | none => rw [ofo_none]; exact wp_no
  | some s =>
    cases lstOf μ2 y with
    | none => rw [ofo_some, ofo_none]; exact wp_no
    | some t => rw [ofo_some, ofo_some]; simp only [wp_ite, wp_ok, wp_no]
theorem v_lrep {es : List E} {a : E} : (evE G call (.lrep es a) ρ μ).wp Q X = (evEs G call es ρ μ).wp (fun ds μ => if ds.length ≤ lim then (evE G call a ρ μ).wp (fun y μ => ofo (lrepD ds y) fun d => Q d μ) X else False) X := by
  show (Res.bind _ _).wp Q X = _
  simp only [wp_bind, wp_of, ofo_map, wp_ite, wp_ok, wp_no]
theorem v_idx {a i : E} : (evE G call (.idx a i) ρ μ).wp Q X = (evE G call a ρ μ).wp (fun x μ => (evE G call i ρ μ).wp (fun y μ => ofo (idxD μ x y) fun d => Q d μ) X) X := by
  show (Res.bind _ _).wp Q X = _
  simp only [wp_bind, wp_of]
theorem v_slc {a : E} {lo hi : Option E} : (evE G call (.slc a lo hi) ρ μ).wp Q X = (evE G call a ρ μ).wp (fun x μ => (evO G call lo ρ μ).wp (fun l μ => (evO G call hi ρ μ).wp (fun h μ => ofo (slcD μ x l h) fun d => Q d μ) X) X) X := by
  show (Res.bind _ _).wp Q X = _
  simp only [wp_bind, wp_of]
theorem v_call {f : Nat} {es : List E} : (evE G call (.call f es) ρ μ).wp Q X = (evEs G call es ρ μ).wp (fun ds μ => (call f ds μ).wp Q X) X := by
  show (Res.bind _ _).wp Q X = _
  simp only [wp_bind]
theorem v_bi {b : Bi} {es : List E} : (evE G call (.bi b es) ρ μ).wp Q X = (evEs G call es ρ μ).wp (fun ds μ => ofo (biD b μ ds) fun d => Q d μ) X := by
  show (Res.bind _ _).wp Q X = _
  simp only [wp_bind, wp_of]
theorem v_me {m : Me} {o : E} {es : List E} : (evE G call (.me m o es) ρ μ).wp Q X = (evE G call o ρ μ).wp (fun x μ => if meTy m μ x = true then (evEs G call es ρ μ).wp (fun ds μ => (meD m μ x ds).wp Q X) X else False) X := by
  show (Res.bind _ _).wp Q X = _
  simp only [wp_bind, wp_of, ofo_map, wp_ite, wp_ok, wp_no]
theorem v_dictP {e : E} : (evE G call (.dictP e) ρ μ).wp Q X = (evE G call e ρ μ).wp (fun x μ => ofo (dictPD μ x) fun c => Q (.loc μ.length) (μ ++ [c])) X := by
  show (Res.bind _ _).wp Q X = _
  rw [wp_bind]
  congr 1
  funext x μ'
  cases dictPD μ' x with
  | none => rw [ofo_none]; exact wp_no
  | some c => rw [ofo_some]; exact wp_ok
theorem v_dictL {ks : List D} {es : List E} : (evE G call (.dictL ks es) ρ μ).wp Q X = (evEs G call es ρ μ).wp (fun ds μ => if ks.length = ds.length ∧ ks.all isKey = true ∧ ks.length < 100 then Q (.loc μ.length) (μ ++ [.dct (mergeD (ks.zip ds))]) else False) X := by
  show (Res.bind _ _).wp Q X = _
  simp only [wp_bind, wp_ite, wp_ok, wp_no]
theorem v_mlst {e : E} : (evE G call (.mlst e) ρ μ).wp Q X = (evE G call e ρ μ).wp (fun x μ => ofo (seqOf μ x) fun l => Q (.loc μ.length) (μ ++ [.lst l])) X := by
  show (Res.bind _ _).wp Q X = _
  rw [wp_bind]
  congr 1
  funext x μ'
  cases seqOf μ' x with
  | none => rw [ofo_none]; exact wp_no
  | some c => rw [ofo_some]; exact wp_ok
theorem v_zipL {a b : E} : (evE G call (.zipL a b) ρ μ).wp Q X = (evE G call a ρ μ).wp (fun x μ => (evE G call b ρ μ).wp (fun y μ => ofo (itemsD .zip2 μ [x, y]) fun lg => Q (.lst lg.1) μ) X) X := by
  show (Res.bind _ _).wp Q X = _
  simp only [wp_bind, wp_of, ofo_map]
theorem v_fnv {k : Nat} : (evE G call (.fnv k) ρ μ).wp Q X = Q (.fn k []) μ := wp_ok
theorem v_tget {m : Nat} {tab : List (Txt × D)} {k d : E} : (evE G call (.tget m tab k d) ρ μ).wp Q X = (evE G call k ρ μ).wp (fun x μ => (evE G call d ρ μ).wp (fun y μ => ofo (strOf x) fun s => Q ((tab.lookup s).getD y) μ) X) X := by
  show (Res.bind _ _).wp Q X = _
  simp only [wp_bind, wp_of, ofo_map]
/-- a def, or a lambda with what it took along -/
def fnAt : D → Option (Nat × List D)
  | .fn k l => some (k, l)
  | _ => none
theorem fnAt_fn {k : Nat} {l : List D} : fnAt (.fn k l) = some (k, l) := rfl
theorem v_callv {i : Nat} {es : List E} : (evE G call (.callv i es) ρ μ).wp Q X = ofo (ρ[i]?) fun o => ofo o fun d => ofo (fnAt d) fun kl => (evEs G call es ρ μ).wp (fun ds μ => (call kl.1 (ds ++ kl.2) μ).wp Q X) X := by
  show (match ρ[i]? with | some (some (.fn k l)) => _ | _ => Res.no).wp Q X = _
  cases ρ[i]? with
  | none => rw [ofo_none]; exact wp_no
  | some o =>
    cases o with
    | none => rw [ofo_some, ofo_none]; exact wp_no
    | some d =>
      rw [ofo_some, ofo_some]
      cases d with
      | fn k l =>
        rw [fnAt_fn, ofo_some]
        show (Res.bind _ _).wp Q X = _
        rw [wp_bind]
      | _ => rw [show fnAt _ = none from rfl, ofo_none]; exact wp_no
theorem v_callL {f k : Nat} {es : List E} {caps : List Nat} : (evE G call (.callL f es k caps) ρ μ).wp Q X = (evEs G call es ρ μ).wp (fun ds μ => ofo (capt ρ caps) fun cs => (call (f + LB) (ds ++ [.fn k cs]) μ).wp Q X) X := by
  show (Res.bind _ _).wp Q X = _
  rw [wp_bind]
  congr 1
  funext ds μ'
  cases capt ρ caps with
  | none => rw [ofo_none]; exact wp_no
  | some cs => rw [ofo_some]
theorem cap_n : capt ρ [] = some [] := rfl
theorem cap_c {i : Nat} {r : List Nat} : capt ρ (i :: r) = match ρ[i]? with
    | some (some d) => (capt ρ r).map (d :: ·)
    | _ => none := rfl
theorem v_new {c f : Nat} {es : List E} : (evE G call (.new c f es) ρ μ).wp Q X = (evEs G call es ρ μ).wp (fun ds μ => (call f (.loc μ.length :: ds) (μ ++ [.obj c []])).wp (fun r μ' => if r = .non then Q (.loc μ.length) μ' else False) X) X := by
  show (Res.bind _ _).wp Q X = _
  simp only [wp_bind, wp_ite, wp_ok, wp_no]
theorem v_fld {c a : Nat} {o : E} : (evE G call (.fld c a o) ρ μ).wp Q X = (evE G call o ρ μ).wp (fun x μ => ofo (fldD μ c a x) fun d => Q d μ) X := by
  show (Res.bind _ _).wp Q X = _
  simp only [wp_bind, wp_of]
theorem v_meth {c f : Nat} {o : E} {es : List E} : (evE G call (.meth c f o es) ρ μ).wp Q X = (evE G call o ρ μ).wp (fun x μ => if (objAt μ c x).isSome = true then (evEs G call es ρ μ).wp (fun ds μ => (call f (x :: ds) μ).wp Q X) X else False) X := by
  show (Res.bind _ _).wp Q X = _
  simp only [wp_bind, wp_ite, wp_no]
theorem s_sf {c a : Nat} {o e : E} : (exS G call (.setFld c a o e) ρ μ).wp N R B C X = (evE G call e ρ μ).wp (fun v μ => (evE G call o ρ μ).wp (fun x μ => ofo (setFd μ c a x v) fun μ' => N ρ μ') X) X := by
  show (Res.out _ _ _).wp N R B C X = _
  rw [wp_out]
  congr 1
  funext v μ'
  rw [wp_out]
  congr 1
  funext x μ2
  cases setFd μ2 c a x v with
  | none => rw [ofo_none]; exact wpo_no
  | some m => rw [ofo_some]; exact wpo_nx
theorem s_af {c a : Nat} {o e : E} : (exS G call (.augFld c a o e) ρ μ).wp N R B C X = (evE G call o ρ μ).wp (fun x μ => ofo (fldD μ c a x) fun u => (evE G call e ρ μ).wp (fun v μ => ofo (i2 u v fun i j => some (.int (i + j))) fun z => ofo (setFd μ c a x z) fun μ' => N ρ μ') X) X := by
  show (Res.out _ _ _).wp N R B C X = _
  rw [wp_out]
  congr 1
  funext x μ'
  rw [wp_out, wp_of]
  congr 1
  funext u
  rw [wp_out]
  congr 1
  funext v μ2
  rw [wp_out, wp_of]
  congr 1
  funext z
  cases setFd μ2 c a x z with
  | none => rw [ofo_none]; exact wpo_no
  | some m => rw [ofo_some]; exact wpo_nx
theorem s_ra {c : Nat} : (exS G call (.raise_ c) ρ μ).wp N R B C X = X ⟨c, .non⟩ μ := wpo_ex
/-- a try's body that lets nothing out -/
theorem s_tr {b h : List S} {yes no : List Nat} (q : (exSs G call b ρ μ).wp N R B C) : (exS G call (.try_ b yes no h) ρ μ).wp N R B C X := by
  show (match exSs G call b ρ μ with | .ex x ρ' μ' => if x.cls ∈ yes then exSs G call h ρ' μ' else if x.cls ∈ no then .ex x ρ' μ' else .no | o => o).wp N R B C X
  cases e : exSs G call b ρ μ with
  | ex _ _ _ => rw [e, wpo_ex] at q; exact q.elim
  | nx _ _ => rw [e, wpo_nx] at q; exact .nx q
  | rt _ _ => rw [e, wpo_rt] at q; exact .rt q
  | bk _ _ => rw [e, wpo_bk] at q; exact .bk q
  | ct _ _ => rw [e, wpo_ct] at q; exact .ct q
  | no => rw [e, wpo_no] at q; exact q.elim
/-- .. that lets an exception out -/
theorem s_tx {b h : List S} {yes no : List Nat} {x : Ex} {ρ' : Rho} {μ' : Mu} (e : exSs G call b ρ μ = .ex x ρ' μ') (hy : x.cls ∈ yes) : exS G call (.try_ b yes no h) ρ μ = exSs G call h ρ' μ' := by
  show (match exSs G call b ρ μ with | .ex x ρ' μ' => if x.cls ∈ yes then exSs G call h ρ' μ' else if x.cls ∈ no then .ex x ρ' μ' else .no | o => o) = _
  rw [e]
  exact if_pos hy
theorem wp_kill {o : Out} {i : Nat} (h : o.wp (fun ρ μ => N (ρ.set i none) μ) R (fun ρ μ => B (ρ.set i none) μ) (fun ρ μ => C (ρ.set i none) μ) (fun _ _ => False)) : (o.kill i).wp N R B C X := by
  cases o with
  | ex _ _ _ => rw [wpo_ex] at h; exact h.elim
  | nx _ _ => rw [wpo_nx] at h; exact .nx h
  | rt _ _ => rw [wpo_rt] at h; exact .rt h
  | bk _ _ => rw [wpo_bk] at h; exact .bk h
  | ct _ _ => rw [wpo_ct] at h; exact .ct h
  | no => rw [wpo_no] at h; exact h.elim
/-- a try's body that lets nothing out, its suite may ask the exception -/
theorem s_trA {b h : List S} {i c : Nat} {no : List Nat} (q : (exSs G call b ρ μ).wp N R B C (fun _ _ => False)) : (exS G call (.tryA b i c no h) ρ μ).wp N R B C X := by
  show (evTryA i c no (exSs G call b) (exSs G call h) ρ μ).wp N R B C X
  unfold evTryA
  cases e : exSs G call b ρ μ with
  | ex _ _ _ => rw [e, wpo_ex] at q; exact q.elim
  | nx _ _ => rw [e, wpo_nx] at q; exact .nx q
  | rt _ _ => rw [e, wpo_rt] at q; exact .rt q
  | bk _ _ => rw [e, wpo_bk] at q; exact .bk q
  | ct _ _ => rw [e, wpo_ct] at q; exact .ct q
  | no => rw [e, wpo_no] at q; exact q.elim
/-- .. that lets one out -/
theorem s_txA {b h : List S} {i c : Nat} {no : List Nat} {x : Ex} {ρ' : Rho} {μ' : Mu} (e : exSs G call b ρ μ = .ex x ρ' μ') (hx : x.cls = c) (hl : i < ρ'.length) : exS G call (.tryA b i c no h) ρ μ = (exSs G call h (ρ'.set i none) μ').kill i := by
  show evTryA i c no (exSs G call b) (exSs G call h) ρ μ = _
  unfold evTryA
  rw [e]
  dsimp only
  rw [if_pos hx, if_pos hl]
/-- a comprehension's turn -/
def turnC (G : Nat → Option D) (call : Nat → List D → Mu → Res D) (own : List Nat) (elt : E) (t : T) (c : Option E) (ρ : Rho) : D → Mu → Res (Option D) := fun d μ => match t.put d (wipeR ρ own) with
  | some ρ' => (evC G call c ρ' μ).calm.bind fun b μ => if b then (evE G call elt ρ' μ).calm.bind fun x μ => .ok (some x) μ else .ok none μ
  | none => .no
theorem wp_calm {α : Type} {r : Res α} {Q : α → Mu → Prop} : r.calm.wp Q X = r.wp Q := by
  cases r with
  | ok a m => exact wp_ok.trans wp_ok.symm
  | ex x m => exact wp_no.trans (wp_ex (X := noX)).symm
  | no => exact wp_no.trans wp_no.symm
theorem v_comp {m : Bool} {own : List Nat} {elt : E} {t : T} {k : IK} {src : List E} {c : Option E} : (evE G call (.comp m own elt t k src c) ρ μ).wp Q X = (evEs G call src ρ μ).wp (fun ss μ => ofo (itemsD k μ ss) fun lg =>
    (compL lg.2 (turnC G call own elt t c ρ) lg.1 [] μ).wp (fun xs μ => if m = true then Q (.loc μ.length) (μ ++ [.lst xs]) else Q (.lst xs) μ) X) X := by
  show (Res.bind _ _).wp Q X = _
  rw [wp_bind]
  congr 1
  funext ss μ'
  cases itemsD k μ' ss with
  | none => rw [ofo_none]; exact wp_no
  | some lg =>
    rw [ofo_some]
    show (Res.bind _ _).wp Q X = _
    rw [wp_bind]
    congr 1
    funext xs μ2
    rw [wp_ite, wp_ok, wp_ok]
theorem turnC_wp {own : List Nat} {elt : E} {t : T} {c : Option E} {d : D} {P : Option D → Mu → Prop} : (turnC G call own elt t c ρ d μ).wp P X = ofo (t.put d (wipeR ρ own)) fun ρ' => (evC G call c ρ' μ).wp fun b μ => if b = true then (evE G call elt ρ' μ).wp fun x μ => P (some x) μ else P none μ := by
  unfold turnC
  cases t.put d (wipeR ρ own) with
  | none => rw [ofo_none]; exact wp_no
  | some ρ' => simp only [wp_bind, wp_calm, wp_ite, wp_ok, ofo_some]
theorem c_n {P : Bool → Mu → Prop} : (evC G call none ρ μ).wp P X = P true μ := wp_ok
theorem c_s {P : Bool → Mu → Prop} {e : E} : (evC G call (some e) ρ μ).wp P X = (evT G call e ρ μ).wp P X := rfl
theorem es_n {P : List D → Mu → Prop} : (evEs G call [] ρ μ).wp P X = P [] μ := wp_ok
theorem es_c {P : List D → Mu → Prop} {e : E} {es : List E} : (evEs G call (e :: es) ρ μ).wp P X = (evE G call e ρ μ).wp (fun x μ => (evEs G call es ρ μ).wp (fun xs μ => P (x :: xs) μ) X) X := by
  show (Res.bind _ _).wp P X = _
  simp only [wp_bind, wp_ok]
theorem eo_n {P : Option Int → Mu → Prop} : (evO G call none ρ μ).wp P X = P none μ := wp_ok
theorem eo_s {P : Option Int → Mu → Prop} {e : E} : (evO G call (some e) ρ μ).wp P X = (evE G call e ρ μ).wp (fun x μ => ofo (intOf x) fun i => P (some i) μ) X := by
  show (Res.bind _ _).wp P X = _
  rw [wp_bind]
  congr 1
  funext x μ'
  cases x with
  | int i => rw [show intOf (D.int i) = some i from rfl, ofo_some]; exact wp_ok
  | _ => rw [show intOf _ = none from rfl, ofo_none]; exact wp_no
/-! ### tests -/
theorem tru_bl0 {b : Bool} : truthD μ (.bl b) = some b := rfl
theorem t_tru {m : Rho → Mu → Res D} : ((truP m).2 ρ μ).wp P X = (m ρ μ).wp (fun x μ => ofo (truthD μ x) fun k => P k μ) X := by
  show (Res.bind _ _).wp P X = _
  simp only [wp_bind, wp_of]
theorem t_var {i : Nat} : (evT G call (.var i) ρ μ).wp P X = (evE G call (.var i) ρ μ).wp (fun x μ => ofo (truthD μ x) fun k => P k μ) X := t_tru
theorem t_con {d : D} : (evT G call (.con d) ρ μ).wp P X = (evE G call (.con d) ρ μ).wp (fun x μ => ofo (truthD μ x) fun k => P k μ) X := t_tru
theorem t_cm {o : COp} {a b : E} : (evT G call (.cmp o a b) ρ μ).wp P X = (evE G call a ρ μ).wp (fun x μ => (evE G call b ρ μ).wp (fun y μ => ofo (cmpD o μ x y) fun k => P k μ) X) X := by
  show ((truP _).2 ρ μ).wp P X = _
  rw [t_tru]
  refine (v_cmp (G := G) (call := call)).trans ?_
  simp only [tru_bl0, ofo_some]
theorem t_cm2 {o o' : COp} {a b c : E} : (evT G call (.cmp2 o o' a b c) ρ μ).wp P X = (evE G call a ρ μ).wp (fun x μ => (evE G call b ρ μ).wp (fun y μ => ofo (cmpD o μ x y) fun k => if k = true then (evE G call c ρ μ).wp (fun z μ => ofo (cmpD o' μ y z) fun k => P k μ) X else P false μ) X) X := by
  show ((truP _).2 ρ μ).wp P X = _
  rw [t_tru]
  refine (v_cmp2 (G := G) (call := call)).trans ?_
  simp only [tru_bl0, ofo_some]
theorem t_an {a b : E} : (evT G call (.and_ a b) ρ μ).wp P X = (evT G call a ρ μ).wp (fun k μ => if k = true then (evT G call b ρ μ).wp P X else P false μ) X := by
  show (Res.bind _ _).wp P X = _
  simp only [wp_bind, wp_of, ofo_map, wp_ite, wp_ok]
theorem t_or' {a b : E} : (evT G call (.or_ a b) ρ μ).wp P X = (evT G call a ρ μ).wp (fun k μ => if k = true then P true μ else (evT G call b ρ μ).wp P X) X := by
  show (Res.bind _ _).wp P X = _
  simp only [wp_bind, wp_of, ofo_map, wp_ite, wp_ok]
theorem t_no {a : E} : (evT G call (.not_ a) ρ μ).wp P X = (evT G call a ρ μ).wp (fun k μ => P (!k) μ) X := by
  show (Res.bind _ _).wp P X = _
  simp only [wp_bind, wp_of, ofo_map, wp_ite, wp_ok]
theorem t_bi {b : Bi} {es : List E} : (evT G call (.bi b es) ρ μ).wp P X = (evE G call (.bi b es) ρ μ).wp (fun x μ => ofo (truthD μ x) fun k => P k μ) X := t_tru
theorem t_call {f : Nat} {es : List E} : (evT G call (.call f es) ρ μ).wp P X = (evE G call (.call f es) ρ μ).wp (fun x μ => ofo (truthD μ x) fun k => P k μ) X := t_tru
theorem t_fld {c a : Nat} {o : E} : (evT G call (.fld c a o) ρ μ).wp P X = (evE G call (.fld c a o) ρ μ).wp (fun x μ => ofo (truthD μ x) fun k => P k μ) X := t_tru
theorem t_meth {c f : Nat} {o : E} {es : List E} : (evT G call (.meth c f o es) ρ μ).wp P X = (evE G call (.meth c f o es) ρ μ).wp (fun x μ => ofo (truthD μ x) fun k => P k μ) X := t_tru
theorem t_callv {i : Nat} {es : List E} : (evT G call (.callv i es) ρ μ).wp P X = (evE G call (.callv i es) ρ μ).wp (fun x μ => ofo (truthD μ x) fun k => P k μ) X := t_tru
theorem t_idx {a i : E} : (evT G call (.idx a i) ρ μ).wp P X = (evE G call (.idx a i) ρ μ).wp (fun x μ => ofo (truthD μ x) fun k => P k μ) X := t_tru
end
/-! ### targets -/
theorem put_nm {i : Nat} {d : D} {ρ : Rho} : T.put (.nm i) d ρ = some (ρ.set i (some d)) := rfl
theorem put_tp {ts : List T} {l : List D} {ρ : Rho} : T.put (.tp ts) (.tup l) ρ = T.putL ts l ρ := rfl
theorem putL_n {ρ : Rho} : T.putL [] [] ρ = some ρ := rfl
theorem putL_c {t : T} {ts : List T} {d : D} {ds : List D} {ρ : Rho} : T.putL (t :: ts) (d :: ds) ρ = (T.put t d ρ).bind fun ρ' => T.putL ts ds ρ' := rfl
/-! ### operations -/
section
variable {μ : Mu} {i j : Int} {s t : Txt}
theorem o_add : binD .add μ (.int i) (.int j) = some (.int (i + j)) := rfl
theorem o_adds : binD .add μ (.str s) (.str t) = if s.length + t.length ≤ lim then some (.str (s ++ t)) else none := rfl
theorem o_addt {l r : List D} : binD .add μ (.tup l) (.tup r) = if l.length + r.length ≤ lim then some (.tup (l ++ r)) else none := rfl
theorem o_addl {l r : List D} : binD .add μ (.lst l) (.lst r) = if l.length + r.length ≤ lim then some (.lst (l ++ r)) else none := rfl
theorem o_sub : binD .sub μ (.int i) (.int j) = some (.int (i - j)) := rfl
theorem o_mul : binD .mul μ (.int i) (.int j) = if i.natAbs.log2 + j.natAbs.log2 < 1000000 then some (.int (i * j)) else none := rfl
theorem o_muls : binD .mul μ (.str s) (.int j) = if -(2 ^ 62) ≤ j ∧ j < 2 ^ 62 ∧ s.length * j.toNat ≤ lim then some (.str (List.replicate j.toNat s).flatten) else none := rfl
theorem o_mult {l : List D} : binD .mul μ (.tup l) (.int j) = if -(2 ^ 62) ≤ j ∧ j ≤ 1000 ∧ l.length ≤ 1000 then some (.tup (List.replicate j.toNat l).flatten) else none := rfl
theorem l_rep {l : List D} : lrepD l (.int j) = if -(2 ^ 62) ≤ j ∧ j < 2 ^ 62 ∧ l.length * j.toNat ≤ lim then some (.lst (List.replicate j.toNat l).flatten) else none := rfl
theorem c_is {a b : D} : cmpD .isN μ a b = isD a b := rfl
theorem c_nis {a b : D} : cmpD .notN μ a b = (isD a b).map (!·) := rfl
theorem is_bl {a b : Bool} : isD (.bl a) (.bl b) = some (decide (a = b)) := rfl
theorem o_fdiv : binD .fdiv μ (.int i) (.int j) = if 0 < j ∧ j.natAbs.log2 < 9000 then some (.int (i / j)) else none := rfl
theorem o_mod : binD .mod μ (.int i) (.int j) = if 0 < j then some (.int (i % j)) else none := rfl
theorem c_lt : cmpD .lt μ (.int i) (.int j) = some (decide (i < j)) := rfl
theorem c_le : cmpD .le μ (.int i) (.int j) = some (decide (i ≤ j)) := rfl
theorem c_gt : cmpD .gt μ (.int i) (.int j) = some (decide (j < i)) := rfl
theorem c_ge : cmpD .ge μ (.int i) (.int j) = some (decide (j ≤ i)) := rfl
theorem c_eq {a b : D} : cmpD .eq μ a b = eqD μ a b := rfl
theorem c_ne {a b : D} : cmpD .ne μ a b = (eqD μ a b).map (!·) := rfl
theorem c_in {a b : D} : cmpD .in_ μ a b = inD μ a b := rfl
theorem c_nin {a b : D} : cmpD .nin μ a b = (inD μ a b).map (!·) := rfl
theorem q_int : eqD μ (.int i) (.int j) = some (i == j) := rfl
theorem q_str : eqD μ (.str s) (.str t) = some (s == t) := rfl
theorem eq_flat {a b : D} (ha : a.flat = true) (hb : b.flat = true) (hd : b.depth ≤ 64) : eqD μ a b = some (a.eqv b) := by
  have sa : seen μ a = a := by cases a <;> first | rfl | cases ha
  have sb : seen μ b = b := by cases b <;> first | rfl | cases hb
  unfold eqD
  rw [sa, sb, ha, hb]
  have : min a.depth b.depth ≤ 64 := by omega
  simp [this]
theorem tr_bl {b : Bool} : truthD μ (.bl b) = some b := rfl
theorem x_tup {l : List D} : idxD μ (.tup l) (.int i) = atZ l i := rfl
theorem x_lst {l : List D} : idxD μ (.lst l) (.int i) = atZ l i := rfl
theorem x_loc {n : Nat} {l : List D} (h : μ[n]? = some (.lst l)) : idxD μ (.loc n) (.int i) = atZ l i := by
  show (match seqOf μ (.loc n) with | some l => atZ l i | none => (dctAt μ (.loc n)).bind fun nl => lookD nl.2 (.int i)) = _
  have : seqOf μ (.loc n) = some l := by
    show (match μ[n]? with | some (.lst l) => some l | _ => none) = some l
    rw [h]
  rw [this]
theorem l_loc {n : Nat} {l : List D} (h : μ[n]? = some (.lst l)) : lstAt μ (.loc n) = some (n, l) := by
  show (match μ[n]? with | some (.lst l) => some (n, l) | _ => none) = _
  rw [h]
theorem lstOf_loc {n : Nat} {l : List D} (h : μ[n]? = some (.lst l)) : lstOf μ (.loc n) = some l := by
  show (match μ[n]? with | some (.lst l) => some l | _ => none) = _
  rw [h]
theorem seqOf_loc {n : Nat} {l : List D} (h : μ[n]? = some (.lst l)) : seqOf μ (.loc n) = some l := lstOf_loc h
theorem meTy_loc {m : Me} {n : Nat} {l : List D} (hm : m ≠ .index ∧ m ≠ .join) (h : μ[n]? = some (.lst l)) : meTy m μ (.loc n) = true := by
  cases m <;> first | exact absurd rfl hm.1 | exact absurd rfl hm.2 | (show (match μ[n]? with | some (.lst _) => true | _ => false) = true; rw [h])
theorem m_app {n : Nat} {l : List D} {x : D} (h : μ[n]? = some (.lst l)) : meD .append μ (.loc n) [x] = if l.length < lim then .ok .non (μ.set n (.lst (l ++ [x]))) else .no := by
  unfold meD
  rw [l_loc h]
theorem o_pow : binD .pow μ (.int i) (.int j) = if 0 ≤ j ∧ j ≤ 1000000 ∧ i.natAbs < 2 ^ 64 then some (.int (i ^ j.toNat)) else none := rfl
theorem i_r1 : itemsD .rng1 μ [.int j] = if -(2 ^ 62) ≤ j ∧ j < 2 ^ 62 then some (rngL 0 j.toNat, []) else none := rfl
theorem i_r2 : itemsD .rng2 μ [.int i, .int j] = if -(2 ^ 62) ≤ i ∧ i < 2 ^ 62 ∧ -(2 ^ 62) ≤ j ∧ j < 2 ^ 62 then some (rngL i (j - i).toNat, []) else none := rfl
theorem i_tup {l : List D} : itemsD .seq μ [.tup l] = some (l, []) := rfl
theorem i_lst {l : List D} : itemsD .seq μ [.lst l] = some (l, []) := rfl
theorem i_loc {n : Nat} {l : List D} (h : μ[n]? = some (.lst l)) : itemsD .seq μ [.loc n] = some (l, [(n, l)]) := by
  show (match μ[n]? with | some (.lst l) => some (l, [(n, l)]) | _ => none) = _
  rw [h]
theorem i_en {l : List D} : itemsD .enum μ [.tup l] = some (enumFrom 0 l, []) := rfl
theorem b_len {l : List D} : biD .len μ [.tup l] = some (.int l.length) := rfl
theorem b_lenl {l : List D} : biD .len μ [.lst l] = some (.int l.length) := rfl
theorem b_tup {a : D} : biD .tuple μ [a] = tupleD μ a := rfl
theorem tup_lst {l : List D} : tupleD μ (.lst l) = some (.tup l) := rfl
theorem tup_loc {n : Nat} {l : List D} (h : μ[n]? = some (.lst l)) : tupleD μ (.loc n) = some (.tup l) := by
  show (lstOf μ (.loc n)).map D.tup = _
  rw [lstOf_loc h]
  rfl
theorem b_lst {l : List D} : biD .list μ [.tup l] = some (.lst l) := rfl
theorem b_int {b : Bool} : biD .int μ [.bl b] = some (.int (if b then 1 else 0)) := rfl
theorem b_inti : biD .int μ [.int i] = some (.int i) := rfl
theorem b_trg : biD .tupRg μ [.int j] = if -(2 ^ 62) ≤ j ∧ j ≤ 16777216 then some (.tup (rngL 0 j.toNat)) else none := rfl
theorem b_lrg : biD .lstRg μ [.int j] = if -(2 ^ 62) ≤ j ∧ j ≤ 16777216 then some (.lst (rngL 0 j.toNat)) else none := rfl
theorem b_min : biD .min2 μ [.int i, .int j] = some (.int (if j < i then j else i)) := rfl
theorem b_isin {t : Ty} {a : D} : biD (.isin t) μ [a] = (kindIs μ t a).map .bl := rfl
theorem k_ii : kindIs μ .int (.int i) = some true := rfl
theorem k_bi : kindIs μ .bool (.int i) = some false := rfl
theorem k_si : kindIs μ .str (.int i) = some false := rfl
theorem k_ss : kindIs μ .str (.str s) = some true := rfl
theorem k_is : kindIs μ .int (.str s) = some false := rfl
theorem k_tt {l : List D} : kindIs μ .tuple (.tup l) = some true := rfl
theorem k_ti : kindIs μ .tuple (.int i) = some false := rfl
theorem k_ts : kindIs μ .tuple (.str s) = some false := rfl
theorem intOf_int : intOf (.int i) = some i := rfl
theorem atZ0 {α : Type} {a : α} {l : List α} : atZ (a :: l) 0 = some a := by
  unfold atZ ixZ
  simp
theorem atZ1 {α : Type} {a b : α} {l : List α} : atZ (a :: b :: l) 1 = some b := by
  unfold atZ ixZ
  have : (1 : Int) < (l.length : Int) + 1 + 1 := by omega
  simp [this]
theorem atZ2 {α : Type} {a b c : α} {l : List α} : atZ (a :: b :: c :: l) 2 = some c := by
  unfold atZ ixZ
  have : (2 : Int) < (l.length : Int) + 1 + 1 + 1 := by omega
  simp [this]
theorem ixZ0 {n : Nat} : ixZ (n + 1) 0 = some 0 := by
  unfold ixZ
  have : (0 : Int) < ((n + 1 : Nat) : Int) := by omega
  rw [if_pos (by omega), if_pos this]
  rfl
theorem ixZ1 {n : Nat} : ixZ (n + 1 + 1) 1 = some 1 := by
  unfold ixZ
  have : (1 : Int) < ((n + 1 + 1 : Nat) : Int) := by omega
  rw [if_pos (by omega), if_pos this]
  rfl
theorem ixZ2 {n : Nat} : ixZ (n + 1 + 1 + 1) 2 = some 2 := by
  unfold ixZ
  have : (2 : Int) < ((n + 1 + 1 + 1 : Nat) : Int) := by omega
  rw [if_pos (by omega), if_pos this]
  rfl
theorem ixZ_nat {n : Nat} {k : Nat} (h : k < n) : ixZ n (k : Int) = some k := by
  unfold ixZ
  simp [h]
theorem atZ_nat {α : Type} {l : List α} {k : Nat} {a : α} (h : l[k]? = some a) : atZ l (k : Int) = some a := by
  unfold atZ
  rw [ixZ_nat (List.getElem?_eq_some_iff.mp h).1]
  exact h
theorem atZ_int {α : Type} {l : List α} {i : Int} (h0 : 0 ≤ i) (h1 : i < l.length) : ∃ a, atZ l i = some a ∧ l[i.toNat]? = some a := by
  have hk : i.toNat < l.length := by omega
  refine ⟨l[i.toNat], ?_, List.getElem?_eq_getElem hk⟩
  have e : ((i.toNat : Nat) : Int) = i := by omega
  have := atZ_nat (List.getElem?_eq_getElem hk)
  rw [e] at this
  exact this
end
/-! ### loops -/
section
variable {N B C : Rho → Mu → Prop} {R : D → Mu → Prop} {X : Ex → Mu → Prop} {g : List (Nat × List D)} {kill : List Nat}
theorem for_wp {turn : D → Rho → Mu → Out} : ∀ (l : List D) (Inv : Nat → Rho → Mu → Prop) (k : Nat) (ρ : Rho) (μ : Mu), Inv k ρ μ → (∀ i ρ μ, Inv i ρ μ → stays μ g = true) →
    (∀ i d ρ μ, l[i]? = some d → Inv (k + i) ρ μ → (turn d (wipeR ρ kill) μ).wp (Inv (k + i + 1)) R N (Inv (k + i + 1)) X) → (∀ ρ μ, Inv (k + l.length) ρ μ → N (wipeR ρ kill) μ) → (forL g kill turn l ρ μ).wp N R B C X
  | [], Inv, k, ρ, μ, h, hs, _, hd => by
    unfold forL
    rw [if_pos (hs k ρ μ h)]
    exact .nx (hd ρ μ h)
  | d :: r, Inv, k, ρ, μ, h, hs, ht, hd => by
    unfold forL
    rw [if_pos (hs k ρ μ h)]
    have t := ht 0 d ρ μ rfl h
    have again : ∀ ρ' μ', Inv (k + 1) ρ' μ' → (forL g kill turn r ρ' μ').wp N R B C X := fun ρ' μ' h' =>
      for_wp r Inv (k + 1) ρ' μ' h' hs (fun i d ρ μ e q => by
        have e2 : k + 1 + i = k + (i + 1) := by omega
        rw [e2] at q ⊢
        exact ht (i + 1) d ρ μ (by simpa using e) q) (fun ρ μ q => hd ρ μ (by
          have e2 : k + 1 + r.length = k + (d :: r).length := by rw [List.length_cons]; omega
          rw [e2] at q
          exact q))
    cases q : turn d (wipeR ρ kill) μ with
    | nx ρ' μ' => rw [q, wpo_nx] at t; exact again ρ' μ' t
    | ct ρ' μ' => rw [q, wpo_ct] at t; exact again ρ' μ' t
    | bk ρ' μ' => rw [q, wpo_bk] at t; exact .nx t
    | rt d' μ' => rw [q, wpo_rt] at t; exact .rt t
    | ex _ _ _ => rw [q, wpo_ex] at t; exact .ex t
    | no => rw [q, wpo_no] at t; exact t.elim
theorem while_wp {test : Rho → Mu → Res Bool} {body : Rho → Mu → Out} (Inv : Nat → Rho → Mu → Prop) (ht : ∀ m ρ μ, Inv m ρ μ → (test (wipeR ρ kill) μ).wp (fun b μ' => if b = true then ∃ m', m = m' + 1 ∧ (body (wipeR ρ kill) μ').wp (Inv m') R N (Inv m') X else N (wipeR ρ kill) μ') X) :
    ∀ (m n : Nat) (ρ : Rho) (μ : Mu), m < n → Inv m ρ μ → (whileL kill test body n ρ μ).wp N R B C X
  | m, 0, ρ, μ, hn, _ => by omega
  | m, n + 1, ρ, μ, hn, h => by
    unfold whileL
    rw [wp_out]
    refine Res.wp_mono (ht m ρ μ h) fun b μ' q => ?_
    cases b with
    | false => exact .nx q
    | true =>
      obtain ⟨m', rfl, q⟩ := q
      rw [if_pos rfl]
      cases e : body (wipeR ρ kill) μ' with
      | nx ρ2 μ2 => rw [e, wpo_nx] at q; exact while_wp Inv ht m' n ρ2 μ2 (by omega) q
      | ct ρ2 μ2 => rw [e, wpo_ct] at q; exact while_wp Inv ht m' n ρ2 μ2 (by omega) q
      | bk ρ2 μ2 => rw [e, wpo_bk] at q; exact .nx q
      | rt d2 μ2 => rw [e, wpo_rt] at q; exact .rt q
      | ex _ _ _ => rw [e, wpo_ex] at q; exact .ex q
      | no => rw [e, wpo_no] at q; exact q.elim
theorem comp_wp {turn : D → Mu → Res (Option D)} {Q : List D → Mu → Prop} : ∀ (l : List D) (Inv : Nat → List D → Mu → Prop) (k : Nat) (acc : List D) (μ : Mu), Inv k acc μ → (∀ i acc μ, Inv i acc μ → stays μ g = true ∧ (i < k + l.length → acc.length < lim)) →
    (∀ i d acc μ, l[i]? = some d → Inv (k + i) acc μ → (turn d μ).wp (fun o μ' => Inv (k + i + 1) (match o with | some x => acc ++ [x] | none => acc) μ') X) → (∀ acc μ, Inv (k + l.length) acc μ → Q acc μ) → (compL g turn l acc μ).wp Q X
  | [], Inv, k, acc, μ, h, hs, _, hd => by
    unfold compL
    rw [if_pos (hs k acc μ h).1]
    exact .mk (hd acc μ h)
  | d :: r, Inv, k, acc, μ, h, hs, ht, hd => by
    unfold compL
    have hc := hs k acc μ h
    rw [if_pos (by rw [hc.1, decide_eq_true (hc.2 (by rw [List.length_cons]; omega))]; rfl), wp_bind]
    refine Res.wp_mono (ht 0 d acc μ rfl h) fun o μ' q => ?_
    refine comp_wp r Inv (k + 1) _ μ' q (fun i acc μ q => ⟨(hs i acc μ q).1, fun hi => (hs i acc μ q).2 (by rw [List.length_cons]; omega)⟩) (fun i d acc μ e q => by
        have e2 : k + 1 + i = k + (i + 1) := by omega
        rw [e2] at q ⊢
        exact ht (i + 1) d acc μ (by simpa using e) q) (fun acc μ q => hd acc μ (by
          have e2 : k + 1 + r.length = k + (d :: r).length := by rw [List.length_cons]; omega
          rw [e2] at q
          exact q))
/-- a comprehension that leaves the store -/
theorem comp_pure {turn : D → Mu → Res (Option D)} {μ : Mu} {f : D → Option D} : ∀ (l acc : List D), stays μ g = true → acc.length + l.length ≤ lim → (∀ d ∈ l, turn d μ = .ok (f d) μ) → compL g turn l acc μ = .ok (acc ++ l.filterMap f) μ
  | [], acc, hs, _, _ => by unfold compL; rw [if_pos hs]; simp
  | d :: r, acc, hs, hl, ht => by
    rw [List.length_cons] at hl
    unfold compL
    rw [if_pos (by rw [hs, decide_eq_true (show acc.length < lim by omega)]; rfl), ht d List.mem_cons_self]
    show compL g turn r (match f d with | some x => acc ++ [x] | none => acc) μ = _
    have rest := fun acc hl => comp_pure (turn := turn) (f := f) r acc hs hl fun x hx => ht x (List.mem_cons_of_mem _ hx)
    cases hf : f d with
    | none => rw [rest acc (by omega), List.filterMap_cons, hf]
    | some x => rw [rest (acc ++ [x]) (by rw [List.length_append, List.length_singleton]; omega), List.filterMap_cons, hf, List.append_assoc]; rfl
end
/-! ### calls -/
section
variable {G : Nat → Option D} {F : Nat → Option Fn} {n f : Nat} {fd : Fn} {ds : List D} {μ : Mu} {Q : D → Mu → Prop} {X : Ex → Mu → Prop}
theorem run_eq (hf : F f = some fd) (hl : ds.length = fd.np) : run G F (n + 1) f ds μ = ends fd.fz μ (exSs G (run G F n) fd.body (ds.map some ++ List.replicate (fd.nn - ds.length) none) μ) := by
  show (match F f with | some fd => _ | none => _) = _
  rw [hf]
  show (if ds.length = fd.np then _ else _) = _
  rw [if_pos hl]
theorem run_wp (hf : F f = some fd) (hl : ds.length = fd.np) (hz : fd.fz = false) (h : (exSs G (run G F n) fd.body (ds.map some ++ List.replicate (fd.nn - ds.length) none) μ).wp (fun _ μ' => Q .non μ') Q (fun _ _ => False) (fun _ _ => False) X) : (run G F (n + 1) f ds μ).wp Q X := by
  rw [run_eq hf hl, hz]
  cases q : exSs G (run G F n) fd.body (ds.map some ++ List.replicate (fd.nn - ds.length) none) μ with
  | nx _ _ => rw [q, wpo_nx] at h; exact .mk h
  | rt _ _ => rw [q, wpo_rt] at h; exact .mk h
  | bk _ _ => rw [q, wpo_bk] at h; exact False.elim h
  | ct _ _ => rw [q, wpo_ct] at h; exact False.elim h
  | ex _ _ _ => rw [q, wpo_ex] at h; exact .ex h
  | no => rw [q, wpo_no] at h; exact False.elim h
/-- an exception that leaves a def whose room is cut off -/
def finX (μ : Mu) (X : Ex → Mu → Prop) : Ex → Mu → Prop := fun x μ' => (cutOk μ.length μ μ' && x.val.closed μ.length) = true ∧ X x (μ'.take μ.length)
theorem run_wpzX (hf : F f = some fd) (hl : ds.length = fd.np) (hz : fd.fz = true) (h : (exSs G (run G F n) fd.body (ds.map some ++ List.replicate (fd.nn - ds.length) none) μ).wp (fun _ μ' => (fin μ μ' .non).wp Q X) (fun d μ' => (fin μ μ' d).wp Q X) (fun _ _ => False) (fun _ _ => False) (finX μ X)) : (run G F (n + 1) f ds μ).wp Q X := by
  rw [run_eq hf hl, hz]
  cases q : exSs G (run G F n) fd.body (ds.map some ++ List.replicate (fd.nn - ds.length) none) μ with
  | nx _ _ => rw [q, wpo_nx] at h; exact h
  | rt _ _ => rw [q, wpo_rt] at h; exact h
  | bk _ _ => rw [q, wpo_bk] at h; exact False.elim h
  | ct _ _ => rw [q, wpo_ct] at h; exact False.elim h
  | ex x ρ' μ' =>
    rw [q, wpo_ex] at h
    show (if (cutOk μ.length μ μ' && x.val.closed μ.length) = true then Res.ex x (μ'.take μ.length) else .no).wp Q X
    rw [if_pos h.1]
    exact .ex h.2
  | no => rw [q, wpo_no] at h; exact False.elim h
theorem run_wpz (hf : F f = some fd) (hl : ds.length = fd.np) (hz : fd.fz = true) (h : (exSs G (run G F n) fd.body (ds.map some ++ List.replicate (fd.nn - ds.length) none) μ).wp (fun _ μ' => (fin μ μ' .non).wp Q) (fun d μ' => (fin μ μ' d).wp Q) (fun _ _ => False) fun _ _ => False) : (run G F (n + 1) f ds μ).wp Q :=
  run_wpzX hf hl hz (Out.wp_mono h (fun _ _ h => h) (fun _ _ h => h) (fun _ _ h => h) (fun _ _ h => h))
/-- what stood stands, but for plain cells at S -/
def Fr (S : List Nat) (μ μ' : Mu) : Prop := μ.length ≤ μ'.length ∧ ∀ i, i < μ.length → i ∉ S → μ'[i]? = μ[i]?
theorem Fr.refl (S : List Nat) (μ : Mu) : Fr S μ μ := ⟨Nat.le_refl _, fun _ _ _ => rfl⟩
theorem Fr.trans {S : List Nat} {μ μ' μ'' : Mu} (h : Fr S μ μ') (h' : Fr S μ' μ'') : Fr S μ μ'' := ⟨Nat.le_trans h.1 h'.1, fun i hi hS => (h'.2 i (Nat.lt_of_lt_of_le hi h.1) hS).trans (h.2 i hi hS)⟩
theorem Fr.push {S : List Nat} {μ : Mu} (X : Mu) : Fr S μ (μ ++ X) := ⟨by rw [List.length_append]; omega, fun i hi _ => List.getElem?_append_left hi⟩
theorem Fr.set {S : List Nat} {μ : Mu} {n : Nat} {c : Cell} (h : n ∈ S) : Fr S μ (μ.set n c) := ⟨by rw [List.length_set]; exact Nat.le_refl _, fun i _ hS => List.getElem?_set_ne fun e => hS (by rw [← e]; exact h)⟩
theorem Fr.mono {S S' : List Nat} {μ μ' : Mu} (h : Fr S μ μ') (hs : ∀ i ∈ S, i < μ.length → i ∈ S') : Fr S' μ μ' := ⟨h.1, fun i hi hS => h.2 i hi fun q => hS (hs i q hi)⟩
theorem cut_ok {S : List Nat} {μ μ' : Mu} (h : Fr S μ μ') (hf : ∀ i ∈ S, i < μ.length → ∃ c, μ'[i]? = some c ∧ c.flat = true) : cutOk μ.length μ μ' = true := by
  unfold cutOk
  rw [List.all_eq_true]
  intro i hi
  have hi := List.mem_range.mp hi
  rw [Bool.or_eq_true]
  by_cases hS : i ∈ S
  · obtain ⟨c, e, hc⟩ := hf i hS hi
    exact .inr (by rw [e]; exact hc)
  · exact .inl (decide_eq_true (h.2 i hi hS))
theorem fin_wp {S : List Nat} {μ' : Mu} {d : D} (h : Fr S μ μ') (hf : ∀ i ∈ S, i < μ.length → ∃ c, μ'[i]? = some c ∧ c.flat = true) (hd : d.flat = true) (q : Q d (μ'.take μ.length)) : (fin μ μ' d).wp Q X := by
  unfold fin
  rw [if_pos (cut_ok h hf)]
  cases d with
  | loc n => cases hd
  | _ =>
    dsimp only
    rw [if_pos (flat_closed _ _ hd)]
    exact .mk q
theorem fin_wpL {S : List Nat} {μ' : Mu} {n : Nat} {l : List D} (h : Fr S μ μ') (hf : ∀ i ∈ S, i < μ.length → ∃ c, μ'[i]? = some c ∧ c.flat = true) (hn : μ.length ≤ n) (hl : μ'[n]? = some (.lst l)) (hd : D.flatL l = true) (q : Q (.lst l) (μ'.take μ.length)) : (fin μ μ' (.loc n)).wp Q X := by
  unfold fin
  rw [if_pos (cut_ok h hf)]
  dsimp only
  rw [if_neg (by omega), hl]
  dsimp only
  rw [if_pos (flat_closedL _ _ hd)]
  exact .mk q
theorem Fr.take {S : List Nat} {μ μ' : Mu} (h : Fr S μ μ') : Fr S μ (μ'.take μ.length) ∧ (μ'.take μ.length).length = μ.length := by
  have hl : (μ'.take μ.length).length = μ.length := by rw [List.length_take]; have := h.1; omega
  exact ⟨⟨by omega, fun i hi hS => by rw [List.getElem?_take_of_lt hi]; exact h.2 i hi hS⟩, hl⟩
end
end Ev
namespace Ev
theorem ss_step {G : Nat → Option D} {call : Nat → List D → Mu → Res D} {N B C : Rho → Mu → Prop} {R : D → Mu → Prop} {X : Ex → Mu → Prop} {ρ : Rho} {μ : Mu} {s : S} {ss : List S}
    (h : ∀ K : Rho → Mu → Prop, K = (fun ρ μ => (exSs G call ss ρ μ).wp N R B C X) → (exS G call s ρ μ).wp K R B C X) : (exSs G call (s :: ss) ρ μ).wp N R B C X := by
  rw [ss_c]
  exact h _ rfl
theorem log_s {i : Int} (h : i.natAbs < 2 ^ 64) : i.natAbs.log2 < 9000 := by
  by_cases e : i.natAbs = 0
  · rw [e]; decide
  · exact Nat.lt_trans ((Nat.log2_lt e).mpr h) (by decide)
theorem mul_ok {i j : Int} (hi : i.natAbs < 2 ^ 1000) (hj : j.natAbs < 2 ^ 1000) : i.natAbs.log2 + j.natAbs.log2 < 1000000 := by
  have key : ∀ i : Int, i.natAbs < 2 ^ 1000 → i.natAbs.log2 < 1000 := fun i h => by
    by_cases e : i.natAbs = 0
    · rw [e]; decide
    · exact (Nat.log2_lt e).mpr h
  have := key i hi
  have := key j hj
  omega
theorem small_ok {i : Int} (h : i.natAbs < 2 ^ 200) : i.natAbs < 2 ^ 1000 := Nat.lt_trans h (Nat.pow_lt_pow_right (by decide) (by decide))
/-- a small number's length -/
theorem log_le {i : Int} {k : Nat} (h : i.natAbs < 2 ^ k) (hk : 0 < k) : i.natAbs.log2 < k := by
  by_cases e : i.natAbs = 0
  · rw [e]; simp [Nat.log2]; omega
  · exact (Nat.log2_lt e).mpr h
end Ev

set_option Elab.async false
set_option linter.all false
set_option maxRecDepth 100000
set_option maxHeartbeats 1000000
/-! Small facts that the laws share. -/
namespace Ev
mutual
theorem eqv_refl : ∀ d : D, d.flat = true → d.eqv d = true
  | .non, _ => rfl
  | .bl a, _ => by simp [D.eqv]
  | .int a, _ => by simp [D.eqv]
  | .str a, _ => by simp [D.eqv]
  | .tup l, h => by unfold D.flat at h; unfold D.eqv; exact eqvL_refl l h
  | .lst l, h => by unfold D.flat at h; unfold D.eqv; exact eqvL_refl l h
  | .loc _, h => by unfold D.flat at h; cases h
  | .fn _ _, h => by unfold D.flat at h; cases h
theorem eqvL_refl : ∀ l : List D, D.flatL l = true → D.eqvL l l = true
  | [], _ => rfl
  | d :: ds, h => by
    unfold D.flatL at h
    rw [Bool.and_eq_true] at h
    unfold D.eqvL
    rw [eqv_refl d h.1, eqvL_refl ds h.2]
    rfl
end
theorem flatL_all : ∀ l : List D, D.flatL l = true ↔ ∀ d ∈ l, d.flat = true
  | [] => by simp [D.flatL]
  | d :: ds => by
    unfold D.flatL
    rw [Bool.and_eq_true, flatL_all ds]
    simp
theorem flatL_map {α : Type} {l : List α} {f : α → D} (h : ∀ a ∈ l, (f a).flat = true) : D.flatL (l.map f) = true := by
  rw [flatL_all]
  intro d hd
  obtain ⟨a, ha, rfl⟩ := List.mem_map.mp hd
  exact h a ha
theorem depthL_le {k : Nat} : ∀ {l : List D}, (∀ d ∈ l, d.depth ≤ k) → D.depthL l ≤ k
  | [], _ => Nat.zero_le _
  | d :: ds, h => by
    unfold D.depthL
    exact Nat.max_le.mpr ⟨h d List.mem_cons_self, depthL_le fun x hx => h x (List.mem_cons_of_mem _ hx)⟩
/-- among n unlike ones one is not in a shorter list -/
theorem hole {α : Type} [DecidableEq α] : ∀ (l : List α) (n : Nat) (f : Nat → α), (∀ i j, i < n → j < n → f i = f j → i = j) → l.length < n → ∃ j, j < n ∧ f j ∉ l
  | [], n, f, _, h => ⟨0, by simpa using h, by simp⟩
  | a :: r, n, f, hf, h => by
    rw [List.length_cons] at h
    by_cases hex : ∃ j0, j0 < n ∧ f j0 = a
    · obtain ⟨j0, h0, e0⟩ := hex
      obtain ⟨j, hj, hn⟩ := hole r (n - 1) (fun i => if i < j0 then f i else f (i + 1)) (fun i j hi hj e => by
        by_cases h1 : i < j0 <;> by_cases h2 : j < j0
        · rw [if_pos h1, if_pos h2] at e; exact hf i j (by omega) (by omega) e
        · rw [if_pos h1, if_neg h2] at e; have := hf i (j + 1) (by omega) (by omega) e; omega
        · rw [if_neg h1, if_pos h2] at e; have := hf (i + 1) j (by omega) (by omega) e; omega
        · rw [if_neg h1, if_neg h2] at e; have := hf (i + 1) (j + 1) (by omega) (by omega) e; omega) (by omega)
      by_cases h1 : j < j0
      · rw [if_pos h1] at hn
        refine ⟨j, by omega, fun q => ?_⟩
        rcases List.mem_cons.mp q with q | q
        · have := hf j j0 (by omega) h0 (q.trans e0.symm); omega
        · exact hn q
      · rw [if_neg h1] at hn
        refine ⟨j + 1, by omega, fun q => ?_⟩
        rcases List.mem_cons.mp q with q | q
        · have := hf (j + 1) j0 (by omega) h0 (q.trans e0.symm); omega
        · exact hn q
    · obtain ⟨j, hj, hn⟩ := hole r n f hf (by omega)
      refine ⟨j, hj, fun q => ?_⟩
      rcases List.mem_cons.mp q with q | q
      · exact hex ⟨j, hj, q⟩
      · exact hn q
/-! ### texts -/
theorem lim_val : lim = 16777216 := rfl
theorem lim1 : (0 + 1 ≤ lim) = True := eq_true (by rw [lim_val]; omega)
theorem lim2 : (0 + 1 + 1 ≤ lim) = True := eq_true (by rw [lim_val]; omega)
theorem lim3 : (0 + 1 + 1 + 1 ≤ lim) = True := eq_true (by rw [lim_val]; omega)
theorem lim4 : (0 + 1 + 1 + 1 + 1 ≤ lim) = True := eq_true (by rw [lim_val]; omega)
theorem lim5 : (0 + 1 + 1 + 1 + 1 + 1 ≤ lim) = True := eq_true (by rw [lim_val]; omega)
theorem last_at (s : Txt) (c : Nat) (h : s.length + 1 ≤ lim) {μ : Mu} : idxD μ (.str (s ++ [c])) (.int (-1)) = some (.str [c]) := by
  show (if (s ++ [c]).length ≤ lim then (atZ (s ++ [c]) (-1)).map fun c => D.str [c] else none) = _
  rw [if_pos (by rw [List.length_append]; simpa using h)]
  unfold atZ ixZ
  have h1 : ¬ (0 : Int) ≤ -1 := by omega
  have h2 : -(((s ++ [c]).length : Nat) : Int) ≤ -1 := by rw [List.length_append]; simp; omega
  have h3 : ((-1 : Int) + (((s ++ [c]).length : Nat) : Int)).toNat = s.length := by rw [List.length_append, List.length_singleton]; omega
  rw [if_neg h1, if_pos h2, h3]
  simp
theorem cut_last (s : Txt) (c : Nat) (h : s.length + 1 ≤ lim) {μ : Mu} : slcD μ (.str (s ++ [c])) none (some (-1)) = some (.str s) := by
  show (if (s ++ [c]).length ≤ lim then some (D.str (cutL (s ++ [c]) none (some (-1)))) else none) = _
  rw [if_pos (by rw [List.length_append]; simpa using h)]
  unfold cutL cutZ
  have h1 : (-1 : Int) < 0 := by omega
  have h3 : ((-1 : Int) + (((s ++ [c]).length : Nat) : Int)).toNat = s.length := by rw [List.length_append, List.length_singleton]; omega
  simp only [if_pos h1, h3, List.drop_zero, Nat.sub_zero]
  simp
theorem idx_str {s : Txt} {k : Nat} {c : Nat} (h : s[k]? = some c) (hl : s.length ≤ lim) {μ : Mu} : idxD μ (.str s) (.int (k : Int)) = some (.str [c]) := by
  show (if s.length ≤ lim then (atZ s (k : Int)).map fun c => D.str [c] else none) = _
  rw [if_pos hl, atZ_nat h]
  rfl
/-- a .. z -/
def az : Txt := [97, 98, 99, 100, 101, 102, 103, 104, 105, 106, 107, 108, 109, 110, 111, 112, 113, 114, 115, 116, 117, 118, 119, 120, 121, 122]
theorem az_get : ∀ k < 26, az[k]? = some (97 + k) := by decide
theorem az_ix : ∀ k < 26, indexT az (97 + k) = some k := by decide
def aza : Txt := az ++ [97]
theorem aza_get : ∀ k < 26, aza[1 + k]? = some (97 + (k + 1) % 26) := by decide
theorem aza_ix : ∀ k < 26, indexT aza (97 + k) = some k := by decide
/-- a name: letters, the last one apart -/
structure Nm (s : Txt) : Prop where
  len : s.length ≤ 8
  sgn : ∀ c ∈ s, 97 ≤ c ∧ c < 123
  ex : ∃ b k, s = b ++ [97 + k] ∧ k < 26
def rot (b : Txt) (k j : Nat) : Txt := b ++ [97 + (k + j) % 26]
theorem rot_inj (b : Txt) (k : Nat) (hk : k < 26) : ∀ i j, i < 26 → j < 26 → rot b k i = rot b k j → i = j := by
  intro i j hi hj e
  have := List.append_cancel_left e
  simp only [List.cons.injEq, and_true] at this
  omega
theorem Nm.rot {b : Txt} {k j : Nat} (h : Nm (b ++ [97 + k])) : Nm (Ev.rot b k j) := by
  unfold Ev.rot
  have hl := h.len
  rw [List.length_append] at hl
  refine ⟨by rw [List.length_append]; simpa using hl, fun c hc => ?_, b, (k + j) % 26, rfl, Nat.mod_lt _ (by decide)⟩
  rcases List.mem_append.mp hc with hc | hc
  · exact h.sgn c (List.mem_append_left _ hc)
  · have : c = 97 + (k + j) % 26 := by simpa using hc
    subst this
    have := Nat.mod_lt (k + j) (show 0 < 26 by decide)
    omega
theorem any_str (l : List Txt) (s : Txt) : ((l.map D.str).any fun x => x.eqv (.str s)) = l.contains s := by
  induction l with
  | nil => rfl
  | cons t r ih =>
    rw [List.map_cons, List.any_cons, ih, List.contains_cons]
    congr 1
    show (t == s) = (s == t)
    exact Bool.eq_iff_iff.mpr (by rw [beq_iff_eq, beq_iff_eq]; exact eq_comm)
theorem in_strs {μ : Mu} {n : Nat} {l : List Txt} {s : Txt} (h : μ[n]? = some (.lst (l.map .str))) : inD μ (.str s) (.loc n) = some (l.contains s) := by
  unfold inD
  dsimp only
  rw [seqOf_loc h]
  dsimp only
  have hf : D.flatL (l.map D.str) = true := flatL_map fun _ _ => rfl
  rw [hf, any_str]
  rfl
/-! ### the store -/
theorem set_get {μ : Mu} {n : Nat} {c d : Cell} (h : μ[n]? = some c) : (μ.set n d)[n]? = some d := List.getElem?_set_self (List.getElem?_eq_some_iff.mp h).1
theorem push_get {μ : Mu} {c : Cell} : (μ ++ [c])[μ.length]? = some c := by rw [List.getElem?_append_right (Nat.le_refl _), Nat.sub_self]; rfl
theorem push_old {μ : Mu} {c d : Cell} {n : Nat} (h : μ[n]? = some c) : (μ ++ [d])[n]? = some c := by rw [List.getElem?_append_left (List.getElem?_eq_some_iff.mp h).1]; exact h
theorem set_set {μ : Mu} {n : Nat} {c d : Cell} : (μ.set n c).set n d = μ.set n d := List.set_set ..
theorem rngL_get {lo : Int} {n i : Nat} {d : D} (h : (rngL lo n)[i]? = some d) : d = .int (lo + i) ∧ i < n := by
  unfold rngL at h
  rw [List.getElem?_map] at h
  cases e : (List.range n)[i]? with
  | none => rw [e] at h; cases h
  | some j =>
    rw [e] at h
    obtain ⟨hl, hj⟩ := List.getElem?_eq_some_iff.mp e
    rw [List.getElem_range] at hj
    rw [List.length_range] at hl
    subst hj
    cases h
    exact ⟨rfl, hl⟩
theorem rngL_len {lo : Int} {n : Nat} : (rngL lo n).length = n := by unfold rngL; rw [List.length_map, List.length_range]
theorem stays_nl {μ : Mu} : stays μ [] = true := rfl
theorem stays_1 {μ : Mu} {n : Nat} {l : List D} (h : μ[n]? = some (.lst l)) : stays μ [(n, l)] = true := by
  unfold stays
  rw [List.all_cons, List.all_nil]
  simp [h]
theorem atZ_last {α : Type} {l : List α} {a : α} : atZ (l ++ [a]) (-1) = some a := by
  unfold atZ ixZ
  have h1 : ¬ (0 : Int) ≤ -1 := by omega
  have h2 : -(((l ++ [a]).length : Nat) : Int) ≤ -1 := by rw [List.length_append, List.length_singleton]; omega
  have h3 : ((-1 : Int) + (((l ++ [a]).length : Nat) : Int)).toNat = l.length := by rw [List.length_append, List.length_singleton]; omega
  rw [if_neg h1, if_pos h2, h3]
  simp
/-- a def that leaves the store and hands back plain data -/
theorem fin_same {μ : Mu} {d : D} {Q : D → Mu → Prop} {X : Ex → Mu → Prop} (hd : d.flat = true) (q : Q d μ) : (fin μ μ d).wp Q X :=
  fin_wp (S := []) (Fr.refl _ _) (fun i hi => by cases hi) hd (by rw [List.take_length]; exact q)
theorem fin_more {μ X : Mu} {d : D} {Q : D → Mu → Prop} {Z : Ex → Mu → Prop} (hd : d.flat = true) (q : Q d μ) : (fin μ (μ ++ X) d).wp Q Z :=
  fin_wp (S := []) (Fr.push X) (fun i hi => by cases hi) hd (by rw [List.take_left]; exact q)
/-- .. a list of its own -/
theorem fin_list {μ : Mu} {l : List D} {Q : D → Mu → Prop} {X : Ex → Mu → Prop} (hd : D.flatL l = true) (q : Q (.lst l) μ) : (fin μ (μ ++ [.lst l]) (.loc μ.length)).wp Q X :=
  fin_wpL (S := []) (Fr.push _) (fun i hi => by cases hi) (Nat.le_refl _) push_get hd (by rw [List.take_left]; exact q)
theorem q_strd {μ : Mu} {s t : Txt} : eqD μ (.str s) (.str t) = some (decide (s = t)) := by
  show some (s == t) = _
  exact congrArg some (Bool.eq_iff_iff.mpr (by rw [beq_iff_eq, decide_eq_true_iff]))
theorem wp_to {α : Type} {r : Res α} {d : α} {μ : Mu} (h : r.wp fun d' μ' => d' = d ∧ μ' = μ) : r = .ok d μ := by
  obtain ⟨a, m, e, rfl, rfl⟩ := wp_eq h
  exact e
theorem cut_take {α : Type} (l : List α) (m : Nat) : cutL l none (some (m : Int)) = l.take m := by
  unfold cutL cutZ
  dsimp only
  rw [if_neg (by omega), List.drop_zero, Nat.sub_zero, Int.toNat_natCast]
  by_cases h : m ≤ l.length
  · rw [Nat.min_eq_left h]
  · rw [Nat.min_eq_right (by omega), List.take_length, List.take_of_length_le (by omega)]
theorem sl_take {μ : Mu} {l : List D} (m : Nat) : slcD μ (.lst l) none (some (m : Int)) = some (.lst (l.take m)) := by
  show some (D.lst (cutL l none (some (m : Int)))) = _
  rw [cut_take]
theorem eq_self {μ : Mu} {d : D} (hf : d.flat = true) (hd : d.depth ≤ 64) : eqD μ d d = some true := by
  rw [eq_flat hf hf hd, eqv_refl d hf]
theorem fin_end {μ' : Mu} {d : D} {Q : D → Mu → Prop} {X : Ex → Mu → Prop} (hd : d.flat = true) (q : ∀ μ, Q d μ) : (fin [] μ' d).wp Q X :=
  fin_wp (S := []) ⟨Nat.zero_le _, fun i hi _ => absurd hi (Nat.not_lt_zero _)⟩ (fun i hi => by cases hi) hd (q _)
theorem strsOf_map : ∀ ss : List Txt, strsOf (ss.map D.str) = some ss
  | [] => rfl
  | t :: r => by
    show (strsOf (r.map D.str)).map (t :: ·) = _
    rw [strsOf_map r]
    rfl
theorem joinT_nil : ∀ ss : List Txt, joinT [] ss = ss.flatten
  | [] => rfl
  | [p] => by simp [joinT]
  | p :: q :: r => by
    show p ++ ([] ++ joinT [] (q :: r)) = _
    rw [joinT_nil (q :: r)]
    rfl
theorem m_join {μ : Mu} {s : Txt} {a : D} {ss : List Txt} (h : seqOf μ a = some (ss.map D.str)) (hl : (ss.map List.length).sum + ss.length * s.length ≤ lim) : meD .join μ (.str s) [a] = .ok (.str (joinT s ss)) μ := by
  show (match strOf (D.str s), (d1 [a] (seqOf μ)).bind strsOf with
    | some s, some ss => if (ss.map List.length).sum + ss.length * s.length ≤ lim then Res.ok (D.str (joinT s ss)) μ else .no
    | _, _ => .no) = _
  have e : (d1 [a] (seqOf μ)).bind strsOf = some ss := by
    show (seqOf μ a).bind strsOf = some ss
    rw [h]
    exact strsOf_map ss
  rw [e]
  show (if (ss.map List.length).sum + ss.length * s.length ≤ lim then Res.ok (D.str (joinT s ss)) μ else .no) = _
  rw [if_pos hl]
theorem nlet {s : Txt} {c : Nat} (h : ∀ x ∈ s, 97 ≤ x ∧ x < 123) (hc : 97 ≤ c ∧ c < 123) : ∀ x ∈ s ++ [c], 97 ≤ x ∧ x < 123 := fun x hx => by
  rcases List.mem_append.mp hx with hx | hx
  · exact h x hx
  · have : x = c := by simpa using hx
    subst this; exact hc
theorem nm_of {s : Txt} (h1 : 0 < s.length) (h2 : s.length ≤ 8) (h3 : ∀ x ∈ s, 97 ≤ x ∧ x < 123) : Nm s := by
  refine ⟨h2, h3, ?_⟩
  have hne : s ≠ [] := fun e => by subst e; simp at h1
  refine ⟨s.dropLast, s.getLast hne - 97, ?_, ?_⟩
  · have := h3 _ (List.getLast_mem hne)
    have e : 97 + (s.getLast hne - 97) = s.getLast hne := by omega
    rw [e]
    exact (List.dropLast_concat_getLast hne).symm
  · have := h3 _ (List.getLast_mem hne)
    omega
theorem sum_ones (cs : List Nat) : ((cs.map fun c => ([c] : Txt)).map List.length).sum = cs.length := by
  induction cs with
  | nil => rfl
  | cons c r ih => rw [List.map_cons, List.map_cons, List.sum_cons, ih, List.length_cons (as := r)]; show 1 + r.length = _; omega
theorem flat_ones (cs : List Nat) : (cs.map fun c => ([c] : Txt)).flatten = cs := by
  induction cs with
  | nil => rfl
  | cons c r ih => rw [List.map_cons, List.flatten_cons, ih]; rfl
theorem m_ext {μ : Mu} {n : Nat} {l r : List D} {a : D} (h : μ[n]? = some (.lst l)) (ha : seqOf μ a = some r) : meD .extend μ (.loc n) [a] = if l.length + r.length ≤ lim then .ok .non (μ.set n (.lst (l ++ r))) else .no := by
  show (match lstAt μ (.loc n), d1 [a] (seqOf μ) with
    | some (n, l), some r => if l.length + r.length ≤ lim then Res.ok D.non (μ.set n (.lst (l ++ r))) else .no
    | _, _ => .no) = _
  rw [l_loc h, show d1 [a] (seqOf μ) = some r from ha]
theorem m_pop0 {μ : Mu} {n : Nat} {x : D} {r : List D} (h : μ[n]? = some (.lst (x :: r))) : meD .popAt μ (.loc n) [.int 0] = .ok x (μ.set n (.lst r)) := by
  unfold meD
  dsimp only
  rw [l_loc h]
  simp only [d1, intOf, List.length_cons, ixZ0, List.getElem?_cons_zero, List.eraseIdx_cons_zero]
theorem eq_nil {μ : Mu} {n : Nat} {l : List D} (h : μ[n]? = some (.lst l)) (hf : D.flatL l = true) : eqD μ (.loc n) (.lst []) = some l.isEmpty := by
  have sa : seen μ (.loc n) = .lst l := by
    show (match μ[n]? with | some (.lst l) => D.lst l | _ => .loc n) = _
    rw [h]
  have sb : seen μ (.lst []) = .lst [] := rfl
  unfold eqD
  rw [sa, sb]
  have h1 : (D.lst l).flat = true := hf
  have h2 : min (D.lst l).depth (D.lst []).depth ≤ 64 := Nat.le_trans (Nat.min_le_right _ _) (by decide)
  have h3 : (D.lst []).flat = true := rfl
  rw [h1, h3, decide_eq_true h2]
  show some _ = _
  congr 1
  cases l <;> rfl
theorem fr_take {μ μ' : Mu} (h : Fr [] μ μ') : μ'.take μ.length = μ := by
  apply List.ext_getElem?
  intro i
  by_cases hi : i < μ.length
  · rw [List.getElem?_take_of_lt hi, h.2 i hi (by simp)]
  · rw [List.getElem?_eq_none (by rw [List.length_take]; omega), List.getElem?_eq_none (by omega)]
theorem b_all {μ : Mu} {l : List D} (h : ∀ d ∈ l, d = .bl true) : biD .all μ [.lst l] = some (.bl true) := by
  have : ∀ l : List D, (∀ d ∈ l, d = .bl true) → ∃ bs, boolsOf l = some bs ∧ bs.all id = true := fun l => by
    induction l with
    | nil => exact fun _ => ⟨[], rfl, rfl⟩
    | cons d r ih =>
      intro h
      obtain ⟨bs, e1, e2⟩ := ih fun x hx => h x (List.mem_cons_of_mem _ hx)
      rw [h d List.mem_cons_self]
      exact ⟨true :: bs, by show (boolsOf r).map (true :: ·) = _; rw [e1]; rfl, by simpa using e2⟩
  obtain ⟨bs, e1, e2⟩ := this l h
  show ((boolsOf l).map fun bs => D.bl (bs.all id)) = _
  rw [e1]
  show some (D.bl (bs.all id)) = _
  rw [e2]
theorem none_left {l : List D} {f : D → Option D} (h : ∀ d ∈ l, f d = none) : l.filterMap f = [] := by
  rw [List.filterMap_eq_nil_iff]
  exact h
theorem empty_eq {μ : Mu} : eqD μ (.lst []) (.lst []) = some true := rfl
theorem enum_get {l : List D} {i : Nat} {d : D} : ∀ (k : Nat) (l : List D) (i : Nat) (d : D), (enumFrom k l)[i]? = some d → ∃ x, l[i]? = some x ∧ d = .tup [.int ((k + i : Nat) : Int), x]
  | _, [], _, _, h => by simp [enumFrom] at h
  | k, e :: r, 0, d, h => by
    simp [enumFrom] at h
    exact ⟨e, rfl, by rw [← h]; rfl⟩
  | k, e :: r, i + 1, d, h => by
    simp only [enumFrom, List.getElem?_cons_succ] at h
    obtain ⟨x, h1, h2⟩ := enum_get (l := r) (i := i) (d := d) (k + 1) r i d h
    exact ⟨x, by simpa using h1, by rw [h2]; congr 3; omega⟩
theorem fm_map {α β γ : Type} {g : α → β} {f : β → Option γ} {h : α → γ} (e : ∀ a, f (g a) = some (h a)) : ∀ l : List α, (l.map g).filterMap f = l.map h
  | [] => rfl
  | a :: r => by rw [List.map_cons, List.filterMap_cons, e a, List.map_cons, fm_map e r]
end Ev

set_option Elab.async false
set_option linter.all false
set_option maxRecDepth 100000
set_option maxHeartbeats 0
namespace LawX
open Ev
def b42 : List S := [.if_ (.or_ (.not_ (.bi (.isin .str) [.var 0])) (.not_ (.cmp2 .le .le (.con (.int 1)) (.bi .len [.var 0]) (.glo 35)))) [.ret (.con (.bl false))] [], .ret (.bi .all [.comp false [1] (.cmp .in_ (.var 1) (.glo 34)) (.nm 1) .seq [.var 0] none])]
def f42 : Fn := ⟨1, 2, b42, false⟩
def b23 : List S := [.ret (.and_ (.bi (.isin .int) [.var 0]) (.and_ (.not_ (.bi (.isin .bool) [.var 0])) (.cmp2 .le .le (.var 1) (.var 0) (.var 2))))]
def f23 : Fn := ⟨3, 3, b23, false⟩
def b43 : List S := [.if_ (.or_ (.not_ (.bi (.isin .tuple) [.var 0])) (.not_ (.cmp2 .le .le (.con (.int 1)) (.bi .len [.var 0]) (.glo 37)))) [.ret (.con (.bl false))] [], .ret (.and_ (.bi .all [.comp false [1] (.call 42 [.var 1]) (.nm 1) .seq [.var 0] none]) (.cmp .eq (.bi .lenset [.var 0]) (.bi .len [.var 0])))]
def f43 : Fn := ⟨1, 2, b43, false⟩
def b44 : List S := [.if_ (.or_ (.not_ (.bi (.isin .tuple) [.var 0])) (.cmp .ne (.bi .len [.var 0]) (.con (.int 2)))) [.ret (.con (.bl false))] [], .asg (.tp [.nm 1, .nm 2]) (.var 0), .if_ (.cmp .eq (.var 1) (.con (.str [110, 117, 109, 98, 101, 114]))) [.ret (.call 23 [.var 2, .con (.int 1), .glo 36])] [], .if_ (.cmp .eq (.var 1) (.con (.str [116, 101, 120, 116]))) [.ret (.call 23 [.var 2, .con (.int 0), .glo 38])] [], .ret (.and_ (.cmp .eq (.var 1) (.con (.str [99, 104, 111, 105, 99, 101]))) (.call 43 [.var 2]))]
def f44 : Fn := ⟨1, 3, b44, false⟩
def b45 : List S := [.if_ (.or_ (.not_ (.bi (.isin .tuple) [.var 0])) (.cmp .ne (.bi .len [.var 0]) (.con (.int 2)))) [.ret (.con (.bl false))] [], .ret (.and_ (.call 42 [.idx (.var 0) (.con (.int 0))]) (.call 47 [.idx (.var 0) (.con (.int 1)), .var 1]))]
def f45 : Fn := ⟨2, 2, b45, false⟩
def b46 : List S := [.if_ (.or_ (.not_ (.bi (.isin .tuple) [.var 0])) (.cmp .gt (.bi .len [.var 0]) (.glo 40))) [.ret (.con (.bl false))] [], .if_ (.not_ (.bi .all [.comp false [2] (.call 45 [.var 2, .var 1]) (.nm 2) .seq [.var 0] none])) [.ret (.con (.bl false))] [], .ret (.cmp .eq (.bi .lenset [.comp false [2] (.idx (.var 2) (.con (.int 0))) (.nm 2) .seq [.var 0] none]) (.bi .len [.var 0]))]
def f46 : Fn := ⟨2, 3, b46, false⟩
def b47 : List S := [.if_ (.or_ (.not_ (.bi (.isin .tuple) [.var 0])) (.cmp .eq (.bi .len [.var 0]) (.con (.int 0)))) [.ret (.con (.bl false))] [], .if_ (.cmp .eq (.idx (.var 0) (.con (.int 0))) (.con (.str [108, 105, 115, 116]))) [.ret (.and_ (.cmp .eq (.bi .len [.var 0]) (.con (.int 3))) (.and_ (.call 44 [.idx (.var 0) (.con (.int 1))]) (.call 23 [.idx (.var 0) (.con (.int 2)), .con (.int 1), .glo 39])))] [], .if_ (.cmp .eq (.idx (.var 0) (.con (.int 0))) (.con (.str [114, 101, 99, 111, 114, 100]))) [.ret (.and_ (.cmp .eq (.bi .len [.var 0]) (.con (.int 2))) (.and_ (.cmp .gt (.var 1) (.con (.int 0))) (.call 46 [.idx (.var 0) (.con (.int 1)), .bin .sub (.var 1) (.con (.int 1))])))] [], .ret (.call 44 [.var 0])]
def f47 : Fn := ⟨2, 2, b47, false⟩
def b48 : List S := [.ret (.call 47 [.var 0, .glo 41])]
def f48 : Fn := ⟨1, 1, b48, false⟩
def b88 : List S := [.if_ (.cmp .eq (.idx (.var 0) (.con (.int 0))) (.con (.str [110, 117, 109, 98, 101, 114]))) [.ret (.bin .add (.con (.str [110])) (.bi .str [.idx (.var 0) (.con (.int 1))]))] [], .if_ (.cmp .eq (.idx (.var 0) (.con (.int 0))) (.con (.str [99, 104, 111, 105, 99, 101]))) [.ret (.bin .add (.bin .add (.con (.str [99, 40])) (.me .join (.con (.str [32])) [.idx (.var 0) (.con (.int 1))])) (.con (.str [41])))] [], .if_ (.cmp .eq (.idx (.var 0) (.con (.int 0))) (.con (.str [116, 101, 120, 116]))) [.ret (.bin .add (.con (.str [116])) (.bi .str [.idx (.var 0) (.con (.int 1))]))] [], .if_ (.cmp .eq (.idx (.var 0) (.con (.int 0))) (.con (.str [108, 105, 115, 116]))) [.ret (.bin .add (.bin .add (.bin .add (.con (.str [108])) (.bi .str [.idx (.var 0) (.con (.int 2))])) (.con (.str [32]))) (.call 88 [.idx (.var 0) (.con (.int 1))]))] [], .ret (.bin .add (.bin .add (.con (.str [114, 40])) (.me .join (.con (.str [44, 32])) [.comp false [1, 2] (.bin .add (.bin .add (.var 1) (.con (.str [32]))) (.call 88 [.var 2])) (.tp [.nm 1, .nm 2]) .seq [.idx (.var 0) (.con (.int 1))] none])) (.con (.str [41])))]
def f88 : Fn := ⟨1, 3, b88, false⟩
def b89 : List S := [.asg (.nm 1) (.lst true [.meth 65 79 (.var 0) []]), .while_ [] (.not_ (.meth 65 75 (.var 0) [.con (.str [41])])) [.expr (.meth 65 76 (.var 0) [.con (.str [32])]), .expr (.me .append (.var 1) [.meth 65 79 (.var 0) []])], .expr (.meth 65 76 (.var 0) [.con (.str [41])]), .ret (.bi .tuple [.var 1])]
def f89 : Fn := ⟨1, 2, b89, true⟩
def b90 : List S := [.if_ (.meth 65 75 (.var 0) [.con (.str [110])]) [.expr (.meth 65 76 (.var 0) [.con (.str [110])]), .ret (.tup [.con (.str [110, 117, 109, 98, 101, 114]), .meth 65 78 (.var 0) []])] [], .if_ (.meth 65 75 (.var 0) [.con (.str [116])]) [.expr (.meth 65 76 (.var 0) [.con (.str [116])]), .ret (.tup [.con (.str [116, 101, 120, 116]), .meth 65 78 (.var 0) []])] [], .expr (.meth 65 76 (.var 0) [.con (.str [99, 40])]), .ret (.tup [.con (.str [99, 104, 111, 105, 99, 101]), .call 89 [.var 0]])]
def f90 : Fn := ⟨1, 1, b90, false⟩
def b91 : List S := [.asg (.nm 2) (.lst true []), .while_ [3] (.not_ (.meth 65 75 (.var 0) [.con (.str [41])])) [.if_ (.cmp .ne (.var 2) (.lst false [])) [.expr (.meth 65 76 (.var 0) [.con (.str [44, 32])])] [], .asg (.nm 3) (.meth 65 79 (.var 0) []), .expr (.meth 65 76 (.var 0) [.con (.str [32])]), .expr (.me .append (.var 2) [.tup [.var 3, .call 92 [.var 0, .var 1]]])], .expr (.meth 65 76 (.var 0) [.con (.str [41])]), .ret (.bi .tuple [.var 2])]
def f91 : Fn := ⟨2, 4, b91, true⟩
def b92 : List S := [.if_ (.meth 65 75 (.var 0) [.con (.str [108])]) [.expr (.meth 65 76 (.var 0) [.con (.str [108])]), .asg (.nm 2) (.meth 65 78 (.var 0) []), .expr (.meth 65 76 (.var 0) [.con (.str [32])]), .ret (.tup [.con (.str [108, 105, 115, 116]), .call 90 [.var 0], .var 2])] [], .if_ (.meth 65 75 (.var 0) [.con (.str [114, 40])]) [.if_ (.cmp .eq (.var 1) (.con (.int 0))) [.raise_ 64] [], .expr (.meth 65 76 (.var 0) [.con (.str [114, 40])]), .ret (.tup [.con (.str [114, 101, 99, 111, 114, 100]), .call 91 [.var 0, .bin .sub (.var 1) (.con (.int 1))]])] [], .ret (.call 90 [.var 0])]
def f92 : Fn := ⟨2, 3, b92, false⟩
def b93 : List S := [.asg (.nm 1) (.new 65 74 [.var 0]), .asg (.nm 2) (.call 92 [.var 1, .glo 41]), .expr (.meth 65 81 (.var 1) []), .if_ (.or_ (.not_ (.call 48 [.var 2])) (.cmp .ne (.call 88 [.var 2]) (.var 0))) [.raise_ 64] [], .ret (.var 2)]
def f93 : Fn := ⟨1, 3, b93, true⟩
def b3 : List S := [.if_ (.cmp .lt (.var 1) (.bi .len [.var 0])) [.ret (.idx (.var 0) (.var 1))] [], .ret (.con (.int 0))]
def f3 : Fn := ⟨2, 2, b3, false⟩
def b4 : List S := [.if_ (.cmp .lt (.var 0) (.bin .pow (.con (.int 10)) (.con (.int 18)))) [.ret (.lst true [.con (.int 0), .con (.int 0), .bin .mod (.var 0) (.con (.int 2147483647))])] [], .ret (.lst true [.var 0, .con (.int 0), .bin .mod (.var 0) (.con (.int 2147483647))])]
def f4 : Fn := ⟨1, 1, b4, false⟩
def b5 : List S := [.if_ (.cmp .gt (.idx (.var 0) (.con (.int 0))) (.con (.int 0))) [.asg (.nm 3) (.bin .mod (.idx (.var 0) (.con (.int 0))) (.var 1)), .setIdx (.var 0) (.con (.int 0)) (.bin .fdiv (.idx (.var 0) (.con (.int 0))) (.var 1)), .ret (.var 3)] [], .setIdx (.var 0) (.con (.int 1)) (.bin .add (.idx (.var 0) (.con (.int 1))) (.con (.int 1))), .asg (.nm 2) (.bin .mod (.bin .mul (.bin .add (.idx (.var 0) (.con (.int 2))) (.bin .mul (.bin .mul (.con (.int 7919)) (.idx (.var 0) (.con (.int 1)))) (.idx (.var 0) (.con (.int 1))))) (.con (.int 48271))) (.con (.int 2147483647))), .ret (.bin .mod (.bin .fdiv (.bin .mod (.bin .mul (.var 2) (.bin .add (.var 2) (.con (.int 69621)))) (.con (.int 2147483629))) (.con (.int 8))) (.var 1))]
def f5 : Fn := ⟨2, 4, b5, false⟩
def b6 : List S := [.asg (.nm 1) (.con (.str [97, 98, 99, 100, 101, 102, 103, 104, 105, 106, 107, 108, 109, 110, 111, 112, 113, 114, 115, 116, 117, 118, 119, 120, 121, 122])), .asg (.nm 2) (.call 5 [.var 0, .con (.int 6)]), .if_ (.cmp .lt (.var 2) (.con (.int 4))) [.ret (.idx (.lst false [.con (.str [97]), .con (.str [98]), .con (.str [114, 101, 100]), .con (.str [97, 98, 99, 100, 101, 102, 103, 104])]) (.var 2))] [], .ret (.me .join (.con (.str [])) [.comp false [3] (.idx (.var 1) (.call 5 [.var 0, .con (.int 26)])) (.nm 3) .rng1 [.bin .add (.con (.int 1)) (.call 5 [.var 0, .con (.int 8)])] none])]
def f6 : Fn := ⟨1, 4, b6, false⟩
def b7 : List S := [.asg (.nm 2) (.con (.str [97, 98, 99, 100, 101, 102, 103, 104, 105, 106, 107, 108, 109, 110, 111, 112, 113, 114, 115, 116, 117, 118, 119, 120, 121, 122, 97])), .asg (.nm 3) (.lst true []), .for_ [1, 4, 5] (.nm 4) .rng1 [.var 1] [.asg (.nm 5) (.call 6 [.var 0]), .while_ [1, 4] (.cmp .in_ (.var 5) (.var 3)) [.asg (.nm 5) (.bin .add (.slc (.var 5) none (some (.neg (.con (.int 1))))) (.idx (.var 2) (.bin .add (.con (.int 1)) (.me .index (.var 2) [.idx (.var 5) (.neg (.con (.int 1)))]))))], .expr (.me .append (.var 3) [.var 5])], .ret (.var 3)]
def f7 : Fn := ⟨2, 6, b7, true⟩
def b8 : List S := [.asg (.nm 1) (.call 5 [.var 0, .con (.int 3)]), .if_ (.cmp .eq (.var 1) (.con (.int 0))) [.ret (.tup [.con (.str [110, 117, 109, 98, 101, 114]), .bin .add (.con (.int 1)) (.call 5 [.var 0, .idx (.lst false [.con (.int 12), .con (.int 240)]) (.call 5 [.var 0, .con (.int 2)])])])] [], .if_ (.cmp .eq (.var 1) (.con (.int 1))) [.ret (.tup [.con (.str [99, 104, 111, 105, 99, 101]), .bi .tuple [.call 7 [.var 0, .bin .add (.con (.int 1)) (.call 5 [.var 0, .con (.int 6)])]]])] [], .ret (.tup [.con (.str [116, 101, 120, 116]), .call 5 [.var 0, .idx (.lst false [.con (.int 4), .con (.int 21)]) (.call 5 [.var 0, .con (.int 2)])]])]
def f8 : Fn := ⟨1, 2, b8, false⟩
def b9 : List S := [.asg (.nm 3) (.call 5 [.var 0, .con (.int 6)]), .if_ (.and_ (.cmp .gt (.var 1) (.con (.int 0))) (.cmp .gt (.var 3) (.con (.int 2)))) [.asg (.nm 4) (.call 7 [.var 0, .bi .min2 [.idx (.var 2) (.con (.int 0)), .call 5 [.var 0, .idx (.lst false [.con (.int 4), .con (.int 9)]) (.bi .int [.cmp .eq (.call 5 [.var 0, .con (.int 4)]) (.con (.int 1))])]]]), .setIdx (.var 2) (.con (.int 0)) (.bin .sub (.idx (.var 2) (.con (.int 0))) (.bi .len [.var 4])), .ret (.tup [.con (.str [114, 101, 99, 111, 114, 100]), .bi .tuple [.comp false [5] (.tup [.var 5, .call 9 [.var 0, .bin .sub (.var 1) (.con (.int 1)), .var 2]]) (.nm 5) .seq [.var 4] none]])] [], .if_ (.cmp .eq (.var 3) (.con (.int 2))) [.ret (.tup [.con (.str [108, 105, 115, 116]), .call 8 [.var 0], .bin .add (.con (.int 1)) (.call 5 [.var 0, .con (.int 4)])])] [], .ret (.call 8 [.var 0])]
def f9 : Fn := ⟨3, 6, b9, false⟩
def b72 : List S := [.if_ (.bi (.isin .tuple) [.var 1]) [.if_ (.or_ (.not_ (.bi (.isin .tuple) [.var 0])) (.cmp .ne (.bi .len [.var 0]) (.bi .len [.var 1]))) [.ret (.con (.bl false))] [], .ret (.bi .all [.comp false [2, 3] (.call 72 [.var 2, .var 3]) (.tp [.nm 2, .nm 3]) .zip2 [.var 0, .var 1] none])] [], .if_ (.bi (.isin .str) [.var 1]) [.ret (.and_ (.bi (.isin .str) [.var 0]) (.cmp .eq (.var 0) (.var 1)))] [], .ret (.and_ (.bi (.isin .int) [.var 0]) (.and_ (.not_ (.bi (.isin .bool) [.var 0])) (.cmp .eq (.var 0) (.var 1))))]
def f72 : Fn := ⟨2, 4, b72, false⟩
def b94 : List S := [.if_ (.cmp .eq (.idx (.var 0) (.con (.int 0))) (.con (.str [110, 117, 109, 98, 101, 114]))) [.ret (.bin .add (.con (.str [110])) (.bi .str [.idx (.var 0) (.con (.int 1))]))] [], .if_ (.cmp .eq (.idx (.var 0) (.con (.int 0))) (.con (.str [116, 101, 120, 116]))) [.ret (.bin .add (.con (.str [116])) (.bi .str [.idx (.var 0) (.con (.int 1))]))] [], .if_ (.cmp .eq (.idx (.var 0) (.con (.int 0))) (.con (.str [99, 104, 111, 105, 99, 101]))) [.ret (.bin .add (.bin .add (.con (.str [99, 40])) (.me .join (.con (.str [32])) [.idx (.var 0) (.con (.int 1))])) (.con (.str [41])))] [], .if_ (.cmp .eq (.idx (.var 0) (.con (.int 0))) (.con (.str [108, 105, 115, 116]))) [.ret (.bin .add (.bin .add (.bin .add (.con (.str [108])) (.bi .str [.idx (.var 0) (.con (.int 2))])) (.con (.str [32]))) (.call 94 [.idx (.var 0) (.con (.int 1))]))] [], .ret (.bin .add (.bin .add (.con (.str [114, 40])) (.me .join (.con (.str [44, 32])) [.comp false [1] (.bin .add (.bin .add (.idx (.var 1) (.con (.int 0))) (.con (.str [32]))) (.call 94 [.idx (.var 1) (.con (.int 1))])) (.nm 1) .seq [.idx (.var 0) (.con (.int 1))] none])) (.con (.str [41])))]
def f94 : Fn := ⟨1, 2, b94, false⟩
def b101 : List S := [.asg (.nm 1) (.con (.int 0)), .while_ [] (.and_ (.cmp .lt (.var 1) (.bi .len [.var 0])) (.cmp .in_ (.idx (.var 0) (.var 1)) (.con (.str [48, 49, 50, 51, 52, 53, 54, 55, 56, 57])))) [.asg (.nm 1) (.bin .add (.var 1) (.con (.int 1)))], .if_ (.or_ (.cmp .eq (.var 1) (.con (.int 0))) (.or_ (.cmp .gt (.var 1) (.con (.int 3))) (.and_ (.cmp .gt (.var 1) (.con (.int 1))) (.cmp .eq (.idx (.var 0) (.con (.int 0))) (.con (.str [48])))))) [.ret (.con .non)] [], .ret (.tup [.bi .int [.slc (.var 0) none (some (.var 1))], .slc (.var 0) (some (.var 1)) none])]
def f101 : Fn := ⟨1, 2, b101, false⟩
def b111 : List S := [.asg (.nm 1) (.con (.int 0)), .while_ [] (.and_ (.cmp .lt (.var 1) (.bi .len [.var 0])) (.cmp .in_ (.idx (.var 0) (.var 1)) (.con (.str [97, 98, 99, 100, 101, 102, 103, 104, 105, 106, 107, 108, 109, 110, 111, 112, 113, 114, 115, 116, 117, 118, 119, 120, 121, 122])))) [.asg (.nm 1) (.bin .add (.var 1) (.con (.int 1)))], .if_ (.or_ (.cmp .eq (.var 1) (.con (.int 0))) (.cmp .gt (.var 1) (.con (.int 8)))) [.ret (.con .non)] [], .ret (.tup [.slc (.var 0) none (some (.var 1)), .slc (.var 0) (some (.var 1)) none])]
def f111 : Fn := ⟨1, 2, b111, false⟩
def b112 : List S := [.asg (.nm 1) (.tup []), .while_ [2] (.or_ (.cmp .eq (.var 1) (.tup [])) (.cmp .eq (.slc (.var 0) none (some (.con (.int 1)))) (.con (.str [32])))) [.asg (.nm 2) (.call 111 [.slc (.var 0) (some (.bi .int [.cmp .ne (.var 1) (.tup [])])) none]), .if_ (.or_ (.cmp .isN (.var 2) (.con .non)) (.or_ (.cmp .in_ (.idx (.var 2) (.con (.int 0))) (.var 1)) (.cmp .eq (.bi .len [.var 1]) (.con (.int 6))))) [.ret (.con .non)] [], .asg (.nm 1) (.bin .add (.var 1) (.tup [.idx (.var 2) (.con (.int 0))])), .asg (.nm 0) (.idx (.var 2) (.con (.int 1)))], .if_ (.cmp .ne (.slc (.var 0) none (some (.con (.int 1)))) (.con (.str [41]))) [.ret (.con .non)] [], .ret (.tup [.tup [.con (.str [99, 104, 111, 105, 99, 101]), .var 1], .slc (.var 0) (some (.con (.int 1))) none])]
def f112 : Fn := ⟨1, 3, b112, false⟩
def b113 : List S := [.asg (.nm 2) (.tup []), .while_ [3, 4] (.cmp .ne (.slc (.var 0) none (some (.con (.int 1)))) (.con (.str [41]))) [.if_ (.cmp .ne (.var 2) (.tup [])) [.if_ (.cmp .ne (.slc (.var 0) none (some (.con (.int 2)))) (.con (.str [44, 32]))) [.ret (.con .non)] [], .asg (.nm 0) (.slc (.var 0) (some (.con (.int 2))) none)] [], .asg (.nm 3) (.call 111 [.var 0]), .if_ (.or_ (.cmp .isN (.var 3) (.con .non)) (.or_ (.cmp .ne (.slc (.idx (.var 3) (.con (.int 1))) none (some (.con (.int 1)))) (.con (.str [32]))) (.or_ (.cmp .eq (.bi .len [.var 2]) (.con (.int 8))) (.cmp .in_ (.idx (.var 3) (.con (.int 0))) (.comp false [5] (.idx (.var 5) (.con (.int 0))) (.nm 5) .seq [.var 2] none))))) [.ret (.con .non)] [], .asg (.nm 4) (.call 115 [.slc (.idx (.var 3) (.con (.int 1))) (some (.con (.int 1))) none, .var 1]), .if_ (.cmp .isN (.var 4) (.con .non)) [.ret (.con .non)] [], .asg (.nm 2) (.bin .add (.var 2) (.tup [.tup [.idx (.var 3) (.con (.int 0)), .idx (.var 4) (.con (.int 0))]])), .asg (.nm 0) (.idx (.var 4) (.con (.int 1)))], .ret (.tup [.tup [.con (.str [114, 101, 99, 111, 114, 100]), .var 2], .slc (.var 0) (some (.con (.int 1))) none])]
def f113 : Fn := ⟨2, 6, b113, false⟩
def b114 : List S := [.if_ (.cmp .eq (.slc (.var 0) none (some (.con (.int 2)))) (.con (.str [99, 40]))) [.ret (.call 112 [.slc (.var 0) (some (.con (.int 2))) none])] [], .if_ (.cmp .nin (.slc (.var 0) none (some (.con (.int 1)))) (.tup [.con (.str [110]), .con (.str [116])])) [.ret (.con .non)] [], .asg (.nm 1) (.call 101 [.slc (.var 0) (some (.con (.int 1))) none]), .if_ (.or_ (.cmp .isN (.var 1) (.con .non)) (.or_ (.and_ (.cmp .eq (.idx (.var 0) (.con (.int 0))) (.con (.str [110]))) (.not_ (.cmp2 .lt .lt (.con (.int 0)) (.idx (.var 1) (.con (.int 0))) (.con (.int 241))))) (.and_ (.cmp .eq (.idx (.var 0) (.con (.int 0))) (.con (.str [116]))) (.cmp .gt (.idx (.var 1) (.con (.int 0))) (.con (.int 20)))))) [.ret (.con .non)] [], .ret (.tup [.tup [.idx (.lst false [.con (.str [110, 117, 109, 98, 101, 114]), .con (.str [116, 101, 120, 116])]) (.bi .int [.cmp .eq (.idx (.var 0) (.con (.int 0))) (.con (.str [116]))]), .idx (.var 1) (.con (.int 0))], .idx (.var 1) (.con (.int 1))])]
def f114 : Fn := ⟨1, 2, b114, false⟩
def b115 : List S := [.if_ (.cmp .eq (.slc (.var 0) none (some (.con (.int 2)))) (.con (.str [114, 40]))) [.if_ (.cmp .eq (.var 1) (.con (.int 0))) [.ret (.con .non)] [], .ret (.call 113 [.slc (.var 0) (some (.con (.int 2))) none, .bin .sub (.var 1) (.con (.int 1))])] [], .if_ (.cmp .ne (.slc (.var 0) none (some (.con (.int 1)))) (.con (.str [108]))) [.ret (.call 114 [.var 0])] [], .asg (.nm 2) (.call 101 [.slc (.var 0) (some (.con (.int 1))) none]), .if_ (.or_ (.cmp .isN (.var 2) (.con .non)) (.or_ (.not_ (.cmp2 .lt .lt (.con (.int 0)) (.idx (.var 2) (.con (.int 0))) (.con (.int 5)))) (.cmp .ne (.slc (.idx (.var 2) (.con (.int 1))) none (some (.con (.int 1)))) (.con (.str [32]))))) [.ret (.con .non)] [], .asg (.nm 3) (.call 114 [.slc (.idx (.var 2) (.con (.int 1))) (some (.con (.int 1))) none]), .if_ (.cmp .isN (.var 3) (.con .non)) [.ret (.con .non)] [], .ret (.tup [.tup [.con (.str [108, 105, 115, 116]), .idx (.var 3) (.con (.int 0)), .idx (.var 2) (.con (.int 0))], .idx (.var 3) (.con (.int 1))])]
def f115 : Fn := ⟨2, 4, b115, false⟩
def b116 : List S := [.asg (.nm 2) (.idx (.con (.str [48, 49, 50, 51, 52, 53, 54, 55, 56, 57, 32, 44, 40, 41, 97, 98, 99, 100, 108, 110, 114, 116, 10, 65, 45, 126, 46])) (.call 5 [.var 0, .con (.int 27)])), .asg (.nm 3) (.call 5 [.var 0, .con (.int 4)]), .asg (.nm 4) (.call 5 [.var 0, .bin .add (.bi .len [.var 1]) (.con (.int 1))]), .if_ (.cmp .eq (.var 3) (.con (.int 0))) [.ret (.bin .add (.bin .add (.slc (.var 1) none (some (.var 4))) (.var 2)) (.slc (.var 1) (some (.bin .add (.var 4) (.con (.int 1)))) none))] [], .if_ (.cmp .eq (.var 3) (.con (.int 1))) [.ret (.bin .add (.bin .add (.slc (.var 1) none (some (.var 4))) (.var 2)) (.slc (.var 1) (some (.var 4)) none))] [], .if_ (.cmp .eq (.var 3) (.con (.int 2))) [.ret (.bin .add (.slc (.var 1) none (some (.var 4))) (.slc (.var 1) (some (.bin .add (.var 4) (.con (.int 1)))) none))] [], .ret (.bin .add (.slc (.var 1) none (some (.var 4))) (.slc (.var 1) (some (.bin .sub (.var 4) (.call 5 [.var 0, .bin .add (.bi .min2 [.var 4, .con (.int 20)]) (.con (.int 1))]))) none))]
def f116 : Fn := ⟨2, 5, b116, false⟩
def b117 : List S := [.asg (.nm 1) (.tup [.con (.str [110, 111, 110, 101]), .con .non]), .tryA [.asg (.nm 1) (.tup [.con (.str [114, 101, 97, 100]), .call 93 [.var 0]])] 2 64 [] [.asg (.nm 1) (.tup [.con (.str [114, 101, 102, 117, 115, 101, 100]), .con (.bl true)])], .ret (.var 1)]
def f117 : Fn := ⟨1, 3, b117, false⟩
def b118 : List S := [.asg (.nm 1) (.call 115 [.var 0, .con (.int 3)]), .asg (.tp [.nm 2, .nm 3]) (.call 117 [.var 0]), .if_ (.or_ (.cmp .isN (.var 1) (.con .non)) (.cmp .ne (.idx (.var 1) (.con (.int 1))) (.con (.str [])))) [.ret (.and_ (.cmp .eq (.var 2) (.con (.str [114, 101, 102, 117, 115, 101, 100]))) (.var 3))] [], .ret (.and_ (.cmp .eq (.var 2) (.con (.str [114, 101, 97, 100]))) (.call 72 [.var 3, .idx (.var 1) (.con (.int 0))]))]
def f118 : Fn := ⟨1, 4, b118, false⟩
def b119 : List S := [.for_ [0, 1, 2, 3, 4, 5, 6] (.nm 1) .seq [.bin .add (.slc (.var 0) none (some (.con (.int 20)))) (.lst false [.con (.int 19)])] [.asg (.nm 4) (.call 4 [.var 1]), .asg (.nm 3) (.call 94 [.call 9 [.var 4, .con (.int 3), .lst true [.con (.int 40)]]]), .for_ [0, 1, 2, 5, 6] (.nm 5) .rng1 [.con (.int 7)] [.if_ (.not_ (.call 118 [.var 3])) [.ret (.con (.bl false))] [], .asg (.nm 3) (.call 116 [.var 4, .var 3])], .asg (.nm 6) (.call 5 [.var 4, .con (.int 60)]), .if_ (.or_ (.not_ (.call 118 [.bin .add (.bin .add (.bin .mul (.con (.str [114, 40, 97, 32])) (.var 6)) (.con (.str [110, 51]))) (.bin .mul (.con (.str [41])) (.var 6))])) (.not_ (.call 118 [.bin .mul (.con (.str [114, 40, 97, 32])) (.var 6)]))) [.ret (.con (.bl false))] []], .for_ [0, 1, 2, 3, 4, 5, 6] (.nm 2) .seq [.lst false [.con .non, .con (.int 7), .con (.bl true), .tup [], .lst false [.con (.str [110, 51])], .tup [.con (.str [110, 117, 109, 98, 101, 114]), .con (.int 3)], .dict0, .con (.str []), .con (.str [110]), .con (.str [116, 48, 50, 49]), .con (.str [108, 50, 32, 32, 110, 51])]] [.if_ (.cmp .ne (.call 117 [.var 2]) (.tup [.con (.str [114, 101, 102, 117, 115, 101, 100]), .con (.bl true)])) [.ret (.con (.bl false))] []], .for_ [0, 1, 2, 3, 4, 5, 6] (.nm 3) .seq [.lst false [.bin .add (.con (.str [110])) (.bin .mul (.con (.str [49])) (.con (.int 4400))), .bin .add (.con (.str [116])) (.bin .mul (.con (.str [49])) (.con (.int 4400))), .bin .add (.bin .add (.con (.str [108])) (.bin .mul (.con (.str [49])) (.con (.int 4400)))) (.con (.str [32, 110, 51])), .bin .add (.bin .add (.con (.str [114, 40, 97, 32, 110])) (.bin .mul (.con (.str [49])) (.con (.int 4400)))) (.con (.str [41]))]] [.if_ (.not_ (.call 118 [.var 3])) [.ret (.con (.bl false))] []], .ret (.call 118 [.bin .add (.bin .add (.bin .mul (.con (.str [114, 40, 97, 32])) (.con (.int 900))) (.con (.str [110, 51]))) (.bin .mul (.con (.str [41])) (.con (.int 900)))])]
def f119 : Fn := ⟨1, 7, b119, true⟩
def b74 : List S := [.if_ (.not_ (.bi (.isin .str) [.var 1])) [.raise_ 64] [], .setFld 65 63 (.var 0) (.var 1), .setFld 65 62 (.var 0) (.con (.int 0))]
def f74 : Fn := ⟨2, 2, b74, false⟩
def b75 : List S := [.ret (.cmp .eq (.slc (.fld 65 63 (.var 0)) (some (.fld 65 62 (.var 0))) (some (.bin .add (.fld 65 62 (.var 0)) (.bi .len [.var 1])))) (.var 1))]
def f75 : Fn := ⟨2, 2, b75, false⟩
def b76 : List S := [.if_ (.not_ (.meth 65 75 (.var 0) [.var 1])) [.raise_ 64] [], .augFld 65 62 (.var 0) (.bi .len [.var 1])]
def f76 : Fn := ⟨2, 2, b76, false⟩
def b77 : List S := [.asg (.nm 2) (.fld 65 62 (.var 0)), .while_ [] (.and_ (.cmp .lt (.fld 65 62 (.var 0)) (.bi .len [.fld 65 63 (.var 0)])) (.cmp .in_ (.idx (.fld 65 63 (.var 0)) (.fld 65 62 (.var 0))) (.var 1))) [.augFld 65 62 (.var 0) (.con (.int 1))], .if_ (.cmp .eq (.fld 65 62 (.var 0)) (.var 2)) [.raise_ 64] [], .ret (.slc (.fld 65 63 (.var 0)) (some (.var 2)) (some (.fld 65 62 (.var 0))))]
def f77 : Fn := ⟨2, 3, b77, false⟩
def b78 : List S := [.asg (.nm 1) (.meth 65 77 (.var 0) [.glo 60]), .if_ (.cmp .gt (.bi .len [.var 1]) (.glo 61)) [.raise_ 64] [], .ret (.bi .int [.var 1])]
def f78 : Fn := ⟨1, 2, b78, false⟩
def b79 : List S := [.ret (.meth 65 77 (.var 0) [.glo 34])]
def f79 : Fn := ⟨1, 1, b79, false⟩
def b80 : List S := [.if_ (.cmp .gt (.bin .add (.fld 65 62 (.var 0)) (.var 1)) (.bi .len [.fld 65 63 (.var 0)])) [.raise_ 64] [], .augFld 65 62 (.var 0) (.var 1), .ret (.slc (.fld 65 63 (.var 0)) (some (.bin .sub (.fld 65 62 (.var 0)) (.var 1))) (some (.fld 65 62 (.var 0))))]
def f80 : Fn := ⟨2, 2, b80, false⟩
def b81 : List S := [.if_ (.cmp .ne (.fld 65 62 (.var 0)) (.bi .len [.fld 65 63 (.var 0)])) [.raise_ 64] []]
def f81 : Fn := ⟨1, 1, b81, false⟩
local macro_rules | `(tactic| solve_by_elim [evW, $[$xs:term],*]) => `(tactic| (try simp only [ss_n, ss_c, s_e, s_r, s_rN, s_a, s_i, s_x, s_p, s_b, s_c, s_f, s_w, v_var, v_con, v_glo, v_bin, v_neg, v_cmp, v_cmp2, v_and, v_or, v_not, v_ite, v_tup, v_lstT, v_lstF, v_cat, v_idx, v_lrep, v_slc, v_call, v_bi, v_me, v_comp, turnC_wp, c_n, c_s, es_n, es_c, eo_n, eo_s, t_var, t_con, t_cm, t_cm2, t_an, t_or', t_no, t_bi, t_call, t_idx, v_dictP, v_dictL, v_mlst, v_zipL, v_fnv, v_tget, v_callv, fnAt_fn, v_callL, cap_n, cap_c, s_sl, t_callv, v_new, v_fld, v_meth, s_sf, s_af, t_fld, t_meth, put_nm, put_tp, putL_n, putL_c, Option.bind_some, ofo_some, ofo_none, ofoE_some, ofoE_none, ofo_ite, ofo_map, ofo_bind, o_add, o_adds, o_addt, o_addl, o_sub, o_mul, o_muls, o_mult, l_rep, c_is, c_nis, is_bl, o_fdiv, o_mod, c_lt, c_le, c_gt, c_ge, c_eq, c_ne, c_in, c_nin, q_int, q_strd, tr_bl, x_tup, x_lst, intOf_int, b_isin, k_ii, k_bi, k_si, k_ss, k_is, k_tt, k_ti, k_ts, o_pow, i_r1, i_r2, i_tup, i_lst, i_en, b_len, b_lenl, b_tup, tup_lst, b_lst, b_int, b_inti, b_trg, b_lrg, b_min, atZ0, atZ1, atZ2, ixZ0, ixZ1, ixZ2, List.length_set, wp_ok, List.getElem?_cons_zero, List.getElem?_cons_succ, List.set_cons_zero, List.set_cons_succ, wipeR, List.length_cons, List.length_nil, List.map_cons, List.map_nil, List.replicate_succ, List.replicate_zero, List.cons_append, List.nil_append, decide_eq_true_eq, beq_iff_eq, Bool.not_eq_true', Bool.true_eq_false, and_self, Nat.zero_le, lim1, lim2, lim3, lim4, lim5, decide_true, decide_false, Bool.not_true, Bool.not_false, ite_true, ite_false, if_true, if_false, Bool.false_eq_true, $[$xs:term],*]))
local macro_rules | `(tactic| solve_by_elim [evW]) => `(tactic| (try simp only [ss_n, ss_c, s_e, s_r, s_rN, s_a, s_i, s_x, s_p, s_b, s_c, s_f, s_w, v_var, v_con, v_glo, v_bin, v_neg, v_cmp, v_cmp2, v_and, v_or, v_not, v_ite, v_tup, v_lstT, v_lstF, v_cat, v_idx, v_lrep, v_slc, v_call, v_bi, v_me, v_comp, turnC_wp, c_n, c_s, es_n, es_c, eo_n, eo_s, t_var, t_con, t_cm, t_cm2, t_an, t_or', t_no, t_bi, t_call, t_idx, v_dictP, v_dictL, v_mlst, v_zipL, v_fnv, v_tget, v_callv, fnAt_fn, v_callL, cap_n, cap_c, s_sl, t_callv, v_new, v_fld, v_meth, s_sf, s_af, t_fld, t_meth, put_nm, put_tp, putL_n, putL_c, Option.bind_some, ofo_some, ofo_none, ofoE_some, ofoE_none, ofo_ite, ofo_map, ofo_bind, o_add, o_adds, o_addt, o_addl, o_sub, o_mul, o_muls, o_mult, l_rep, c_is, c_nis, is_bl, o_fdiv, o_mod, c_lt, c_le, c_gt, c_ge, c_eq, c_ne, c_in, c_nin, q_int, q_strd, tr_bl, x_tup, x_lst, intOf_int, b_isin, k_ii, k_bi, k_si, k_ss, k_is, k_tt, k_ti, k_ts, o_pow, i_r1, i_r2, i_tup, i_lst, i_en, b_len, b_lenl, b_tup, tup_lst, b_lst, b_int, b_inti, b_trg, b_lrg, b_min, atZ0, atZ1, atZ2, ixZ0, ixZ1, ixZ2, List.length_set, wp_ok, List.getElem?_cons_zero, List.getElem?_cons_succ, List.set_cons_zero, List.set_cons_succ, wipeR, List.length_cons, List.length_nil, List.map_cons, List.map_nil, List.replicate_succ, List.replicate_zero, List.cons_append, List.nil_append, decide_eq_true_eq, beq_iff_eq, Bool.not_eq_true', Bool.true_eq_false, and_self, Nat.zero_le, lim1, lim2, lim3, lim4, lim5, decide_true, decide_false, Bool.not_true, Bool.not_false, ite_true, ite_false, if_true, if_false, Bool.false_eq_true]))
/-! decks, draws, names -/
/-- a deck at k, drawn from at most B times -/
def Dk (B : Nat) (k : Nat) (μ μ' : Mu) : Prop := k < μ.length ∧ ∃ a b c : Int, μ' = μ.set k (.lst [.int a, .int b, .int c]) ∧ 0 ≤ b ∧ b ≤ B ∧ 0 ≤ c ∧ c < 2147483647
theorem Dk.get {B k : Nat} {μ μ' : Mu} (h : Dk B k μ μ') : ∃ a b c : Int, μ'[k]? = some (.lst [.int a, .int b, .int c]) ∧ 0 ≤ b ∧ b ≤ B ∧ 0 ≤ c ∧ c < 2147483647 := by
  obtain ⟨h1, a, b, c, rfl, h2⟩ := h
  exact ⟨a, b, c, List.getElem?_set_self h1, h2⟩
theorem Dk.other {B k i : Nat} {μ μ' : Mu} (h : Dk B k μ μ') (hi : i ≠ k) : μ'[i]? = μ[i]? := by
  obtain ⟨h1, a, b, c, rfl, _⟩ := h
  exact List.getElem?_set_ne fun e => hi e.symm
theorem Dk.len {B k : Nat} {μ μ' : Mu} (h : Dk B k μ μ') : μ'.length = μ.length := by
  obtain ⟨h1, a, b, c, rfl, _⟩ := h
  exact List.length_set ..
theorem Dk.mono {B B' k : Nat} {μ μ' : Mu} (h : Dk B k μ μ') (hb : B ≤ B') : Dk B' k μ μ' := by
  obtain ⟨h1, a, b, c, e, h2, h3, h4⟩ := h
  exact ⟨h1, a, b, c, e, h2, by omega, h4⟩
theorem set_id {μ : Mu} {k : Nat} {c : Cell} (h : μ[k]? = some c) : μ.set k c = μ := by
  have h1 := (List.getElem?_eq_some_iff.mp h).1
  apply List.ext_getElem?
  intro i
  by_cases e : k = i
  · subst e; rw [List.getElem?_set_self h1, h]
  · rw [List.getElem?_set_ne e]
theorem Dk.push {B k : Nat} {μ μ' : Mu} (h : Dk B k μ μ') (x : Cell) : Dk B k (μ ++ [x]) (μ' ++ [x]) := by
  obtain ⟨h1, a, b, c, rfl, h2⟩ := h
  exact ⟨by rw [List.length_append]; omega, a, b, c, (List.set_append_left _ _ h1).symm, h2⟩
theorem Dk.pop {B k : Nat} {μ μ' : Mu} {x : Cell} (hk : k < μ.length) (h : Dk B k (μ ++ [x]) μ') : ∃ μ3, μ' = μ3 ++ [x] ∧ Dk B k μ μ3 := by
  obtain ⟨h1, a, b, c, rfl, h2⟩ := h
  exact ⟨_, List.set_append_left _ _ hk, hk, a, b, c, rfl, h2⟩
theorem set_last {μ : Mu} {n : Nat} {x y : Cell} (h : n = μ.length) : (μ ++ [x]).set n y = μ ++ [y] := by
  subst h
  rw [List.set_append_right _ _ (Nat.le_refl _), Nat.sub_self]
  rfl
theorem Dk.finL {B B' k : Nat} {μ μ1 μ3 : Mu} {l : List D} {Q : D → Mu → Prop} (h1 : Dk B k μ μ1) (h3 : Dk B' k μ μ3) (hd : D.flatL l = true) (q : Q (.lst l) μ3) : (Ev.fin μ1 (μ3 ++ [.lst l]) (.loc μ.length)).wp Q := by
  have hl : μ3.length = μ1.length := h3.len.trans h1.len.symm
  have hl1 : μ1.length = μ.length := h1.len
  refine fin_wpL (S := [k]) ⟨by rw [List.length_append]; omega, fun i hi hS => ?_⟩ (fun i hi _ => ?_) (by omega) (by rw [← hl1, ← hl]; exact push_get) hd ?_
  · have hne : i ≠ k := fun e => hS (by simp [e])
    rw [List.getElem?_append_left (by omega), h3.other hne, h1.other hne]
  · have : i = k := by simpa using hi
    subst this
    obtain ⟨a, b, c, e, _⟩ := h3.get
    exact ⟨_, by rw [List.getElem?_append_left (List.getElem?_eq_some_iff.mp e).1]; exact e, rfl⟩
  · rw [← hl, List.take_left]; exact q
section
variable {G : Nat → Option D} {F : Nat → Option Fn} {n : Nat} {μ : Mu}
theorem deck_ok (hF : F 4 = some f4) (cell : Int) : (run G F (n + 1) 4 [.int cell] μ).wp fun d μ' => d = .loc μ.length ∧ ∃ a c : Int, μ' = μ ++ [.lst [.int a, .int 0, .int c]] ∧ 0 ≤ c ∧ c < 2147483647 := by
  refine run_wp hF rfl rfl ?_
  show (exSs G (run G F n) b4 [some (.int cell)] μ).wp _ _ _ _
  unfold b4
  have h1 : 0 ≤ cell % 2147483647 := Int.emod_nonneg _ (by decide)
  have h2 : cell % 2147483647 < 2147483647 := Int.emod_lt_of_pos _ (by decide)
  refine ss_step ?_; intro K hK
  solve_by_elim [evW]
  rw [if_pos (by decide)]
  split
  · rw [if_pos (by decide)]
    exact ⟨by trivial, _, _, rfl, h1, h2⟩
  · simp only [hK]
    solve_by_elim [evW]
    rw [if_pos (by decide)]
    exact ⟨by trivial, _, _, rfl, h1, h2⟩
theorem draw_ok (hF : F 5 = some f5) {B k : Nat} {m : Int} {μ1 : Mu} (h : Dk B k μ μ1) (hB : B < 2 ^ 100) (hm : 0 < m) (hl : m < 1000000) :
    (run G F (n + 1) 5 [.loc k, .int m] μ1).wp fun d μ' => ∃ r : Int, d = .int r ∧ 0 ≤ r ∧ r < m ∧ Dk (B + 1) k μ μ' := by
  obtain ⟨hk, a, b, c, rfl, hb0, hb1, hc0, hc1⟩ := h
  have hg : ∀ {x : Cell}, (μ.set k x)[k]? = some x := List.getElem?_set_self hk
  refine run_wp hF rfl rfl ?_
  have hlog : m.natAbs.log2 < 9000 := log_s (by omega)
  show (exSs G (run G F n) b5 [some (.loc k), some (.int m), none, none] _).wp _ _ _ _
  unfold b5
  refine ss_step ?_; intro K hK
  solve_by_elim [evW, x_loc hg, l_loc hg, hm, hlog, set_set]
  split
  · exact ⟨_, rfl, Int.emod_nonneg _ (by omega), Int.emod_lt_of_pos _ hm, hk, _, _, _, rfl, hb0, by omega, hc0, hc1⟩
  · simp only [hK]
    refine ss_step ?_; intro K2 hK2
    solve_by_elim [evW, x_loc hg, l_loc hg, set_set]
    simp only [hK2]
    have m1 := mul_ok (i := 7919) (j := b + 1) (small_ok (by omega)) (small_ok (by omega))
    have hb2 : (7919 * (b + 1)).natAbs < 2 ^ 200 := by omega
    have m2 := mul_ok (i := 7919 * (b + 1)) (j := b + 1) (small_ok hb2) (small_ok (by omega))
    have hbb : 0 ≤ 7919 * (b + 1) * (b + 1) ∧ 7919 * (b + 1) * (b + 1) < 2 ^ 300 := by
      have h1 : 7919 * (b + 1) < 2 ^ 120 := by omega
      have h2 : b + 1 < 2 ^ 120 := by omega
      refine ⟨Int.mul_nonneg (by omega) (by omega), ?_⟩
      have h3 := Int.mul_lt_mul' (a := 7919 * (b + 1)) (b := b + 1) (c := 2 ^ 120) (d := 2 ^ 120) (by omega) h2 (by omega) (by decide)
      have h4 : (2 : Int) ^ 120 * 2 ^ 120 ≤ 2 ^ 300 := by decide
      omega
    have hx : (c + 7919 * (b + 1) * (b + 1)).natAbs < 2 ^ 1000 := by
      have : (2 : Nat) ^ 301 ≤ 2 ^ 1000 := Nat.pow_le_pow_right (by decide) (by decide)
      have h5 : (c + 7919 * (b + 1) * (b + 1)).natAbs < 2 ^ 301 := by omega
      exact Nat.lt_of_lt_of_le h5 this
    have m3 := mul_ok (i := c + 7919 * (b + 1) * (b + 1)) (j := 48271) hx (small_ok (by omega))
    refine ss_step ?_; intro K3 hK3
    solve_by_elim [evW, x_loc hg, l_loc hg, set_set, m1, m2, m3]
    simp only [hK3]
    obtain ⟨y, hy⟩ : ∃ y : Int, y = (c + 7919 * (b + 1) * (b + 1)) * 48271 % 2147483647 := ⟨_, rfl⟩
    rw [← hy]
    have hy0 : 0 ≤ y ∧ y < 2147483647 := by
      rw [hy]
      exact ⟨Int.emod_nonneg _ (by decide), Int.emod_lt_of_pos _ (by decide)⟩
    have m4 := mul_ok (i := y) (j := y + 69621) (small_ok (by omega)) (small_ok (by omega))
    have m5 : (8 : Int).natAbs.log2 < 9000 := by decide
    solve_by_elim [evW, m4, m5, hm]
    exact ⟨_, rfl, Int.emod_nonneg _ (by omega), Int.emod_lt_of_pos _ hm, hk, _, _, _, rfl, by omega, by omega, hc0, hc1⟩
theorem pick {l : List D} {P : D → Prop} (hP : ∀ d ∈ l, P d) {r : Int} (h0 : 0 ≤ r) (h1 : r < l.length) : ∃ a, atZ l r = some a ∧ P a := by
  obtain ⟨a, e, h⟩ := atZ_int (l := l) h0 h1
  exact ⟨a, e, hP a (List.mem_of_getElem? h)⟩
theorem nm_a : Nm [97] := nm_of (by decide) (by decide) (by decide)
theorem nm_b : Nm [98] := nm_of (by decide) (by decide) (by decide)
theorem nm_red : Nm [114, 101, 100] := nm_of (by decide) (by decide) (by decide)
theorem nm_all : Nm [97, 98, 99, 100, 101, 102, 103, 104] := nm_of (by decide) (by decide) (by decide)
end

section
variable {G : Nat → Option D} {F : Nat → Option Fn} {n : Nat} {μ : Mu}
theorem name_ok (hF : F 5 = some f5) (hF2 : F 6 = some f6) {B k : Nat} {μ1 : Mu} (h : Dk B k μ μ1) (hB : B + 10 < 2 ^ 100) :
    (run G F (n + 2) 6 [.loc k] μ1).wp fun d μ' => ∃ s, d = .str s ∧ Nm s ∧ Dk (B + 10) k μ μ' := by
  refine run_wp hF2 rfl rfl ?_
  show (exSs G (run G F (n + 1)) b6 [some (.loc k), none, none, none] μ1).wp _ _ _ _
  unfold b6
  refine ss_step ?_; intro K hK; solve_by_elim [evW]
  (try simp only [hK])
  refine ss_step ?_; intro K hK
  solve_by_elim [evW]
  refine Res.wp_mono (draw_ok hF h (by omega) (by decide) (by decide)) fun d μ2 hd => ?_
  obtain ⟨r, rfl, hr0, hr1, h2⟩ := hd
  solve_by_elim [evW]
  (try simp only [hK])
  refine ss_step ?_; intro K2 hK2
  solve_by_elim [evW]
  split
  · obtain ⟨a, ea, s, rfl, hs⟩ := pick (P := fun d => ∃ s, d = .str s ∧ Nm s) (l := [D.str [97], D.str [98], D.str [114, 101, 100], D.str [97, 98, 99, 100, 101, 102, 103, 104]]) (by
      intro d hd
      simp only [List.mem_cons, List.not_mem_nil, or_false] at hd
      rcases hd with rfl | rfl | rfl | rfl
      · exact ⟨_, rfl, nm_a⟩
      · exact ⟨_, rfl, nm_b⟩
      · exact ⟨_, rfl, nm_red⟩
      · exact ⟨_, rfl, nm_all⟩) (r := r) hr0 (by show r < 4; omega)
    solve_by_elim [evW, ea]
    exact ⟨s, rfl, hs, h2.mono (by omega)⟩
  · simp only [hK2]
    have e0 : meTy .join μ2 (.str []) = true := rfl
    solve_by_elim [evW, e0]
    refine Res.wp_mono (draw_ok hF h2 (by omega) (by decide) (by decide)) fun d μ3 hd => ?_
    obtain ⟨q, rfl, hq0, hq1, h3⟩ := hd
    solve_by_elim [evW]
    rw [if_pos (by omega)]
    refine comp_wp _ (fun i acc μ' => i ≤ 8 ∧ ∃ cs : List Nat, acc = (cs.map fun c => ([c] : Txt)).map .str ∧ cs.length = i ∧ (∀ x ∈ cs, 97 ≤ x ∧ x < 123) ∧ Dk (B + 2 + i) k μ μ') 0 _ _ ⟨by omega, [], rfl, rfl, by simp, h3⟩ (fun i acc μ' hI => ⟨rfl, fun _ => ?_⟩) ?_ ?_
    · obtain ⟨hi8, cs, rfl, hcs, _⟩ := hI
      rw [List.length_map, List.length_map, lim_val]; omega
    · rintro i d acc μ' hd ⟨hi8, cs, rfl, hcs, hlet, h4⟩
      obtain ⟨rfl, hi⟩ := rngL_get hd
      solve_by_elim [evW]
      refine Res.wp_mono (draw_ok hF h4 (by omega) (by decide) (by decide)) fun d μ4 hd => ?_
      obtain ⟨z, rfl, hz0, hz1, h5⟩ := hd
      have hz : ((z.toNat : Nat) : Int) = z := by omega
      have e1 : idxD μ4 (.str az) (.int z) = some (.str [97 + z.toNat]) := by
        rw [← hz]
        exact idx_str (az_get z.toNat (by omega)) (by decide)
      unfold az at e1
      solve_by_elim [evW, e1]
      exact ⟨by omega, cs ++ [97 + z.toNat], by rw [List.map_append, List.map_append]; rfl, by rw [List.length_append, hcs]; rfl, nlet hlet (by omega), by
        have : B + 2 + (0 + i + 1) = B + 2 + (0 + i) + 1 := by omega
        rw [this]; exact h5⟩
    · rintro acc μ' ⟨hi8, cs, rfl, hcs, hlet, h4⟩
      rw [rngL_len] at hcs hi8 h4
      solve_by_elim [evW]
      rw [m_join (ss := cs.map fun c => [c]) rfl (by rw [sum_ones, List.length_nil, lim_val]; omega), joinT_nil, flat_ones]
      solve_by_elim [evW]
      exact ⟨cs, rfl, nm_of (by omega) (by omega) hlet, h4.mono (by omega)⟩
theorem names_ok (hF : F 5 = some f5) (hF2 : F 6 = some f6) (hF3 : F 7 = some f7) {B k : Nat} {μ1 : Mu} (h : Dk B k μ μ1) (hB : B + 300 < 2 ^ 100) {m : Int} (hm : m ≤ 20) (hm0 : -1000 ≤ m) :
    (run G F (n + 3) 7 [.loc k, .int m] μ1).wp fun d μ' => ∃ l : List Txt, d = .lst (l.map .str) ∧ l.length = m.toNat ∧ l.Nodup ∧ (∀ s ∈ l, Nm s) ∧ Dk (B + 10 * m.toNat) k μ μ' := by
  refine run_wpz hF3 rfl rfl ?_
  have hkl : k < μ.length := h.1
  have hl1 : μ1.length = μ.length := h.len
  show (exSs G (run G F (n + 2)) b7 [some (.loc k), some (.int m), none, none, none, none] μ1).wp _ _ _ _
  unfold b7
  refine ss_step ?_; intro K hK; solve_by_elim [evW]
  (try simp only [hK])
  refine ss_step ?_; intro K hK; solve_by_elim [evW]
  (try simp only [hK])
  refine ss_step ?_; intro K hK
  solve_by_elim [evW]
  rw [if_pos (by omega)]
  refine for_wp _ (fun i ρ μ' => i ≤ m.toNat ∧ ∃ (l : List Txt) (μ3 : Mu) (x1 x4 x5 : Option D), l.length = i ∧ l.Nodup ∧ (∀ s ∈ l, Nm s) ∧ μ' = μ3 ++ [.lst (l.map .str)] ∧ Dk (B + 10 * i) k μ μ3 ∧ ρ = [some (.loc k), x1, some (.str aza), some (.loc μ.length), x4, x5]) 0 _ _ ⟨by omega, [], μ1, _, _, _, rfl, List.nodup_nil, by simp, rfl, h, by rw [hl1]; rfl⟩ (fun _ _ _ _ => rfl) ?_ ?_
  · rintro i d ρ μ' hd ⟨him, l, μ3, x1, x4, x5, hl, hnd, hnm, rfl, h3, rfl⟩
    obtain ⟨rfl, hi⟩ := rngL_get hd
    simp only [put_nm, put_tp, putL_n, putL_c, Option.bind_some, wipeR, List.set_cons_zero, List.set_cons_succ]
    refine ss_step ?_; intro K2 hK2
    solve_by_elim [evW]
    refine Res.wp_mono (name_ok (n := n) hF hF2 (h3.push _) (by omega)) fun d μ4 hd => ?_
    obtain ⟨w, rfl, hw, h4⟩ := hd
    obtain ⟨μ5, rfl, h5⟩ := h4.pop hkl
    have hμ5 : μ5.length = μ.length := h5.len
    have hg : (μ5 ++ [Cell.lst (l.map D.str)])[μ.length]? = some (.lst (l.map .str)) := by rw [← hμ5]; exact push_get
    solve_by_elim [evW]
    simp only [hK2]
    obtain ⟨b, c, rfl, hc⟩ := hw.ex
    obtain ⟨j, hj, hfree⟩ := hole l 21 (rot b c) (fun i j hi hj e => rot_inj b c hc i j (by omega) (by omega) e) (by omega)
    have hb8 : b.length + 1 ≤ lim := by
      have := hw.len
      rw [List.length_append, List.length_singleton] at this
      rw [lim_val]; omega
    refine ss_step ?_; intro K3 hK3
    solve_by_elim [evW]
    refine while_wp (fun m ρ μ2 => μ2 = μ5 ++ [Cell.lst (l.map D.str)] ∧ ∃ x1 x4, m ≤ j ∧ ρ = [some (.loc k), x1, some (.str aza), some (.loc μ.length), x4, some (.str (rot b c (j - m)))]) ?_ j manyTurns _ _ (by rw [show manyTurns = 1000000000 from rfl]; omega) ⟨rfl, _, _, Nat.le_refl _, by
      have : rot b c (j - j) = b ++ [97 + c] := by unfold rot; rw [Nat.sub_self, Nat.add_zero, Nat.mod_eq_of_lt hc]
      rw [this]⟩
    rintro m2 ρ μ2 ⟨rfl, x1, x4, hm2, rfl⟩
    solve_by_elim [evW, in_strs hg]
    have hR := Nm.rot (j := j - m2) hw
    cases hin : l.contains (rot b c (j - m2)) with
    | false =>
      rw [if_neg (by simp)]
      simp only [hK3]
      have hmt := meTy_loc (m := .append) ⟨by decide, by decide⟩ hg
      solve_by_elim [evW, hmt]
      rw [m_app hg, if_pos (by rw [List.length_map, lim_val]; omega), set_last hμ5.symm]
      solve_by_elim [evW]
      refine ⟨by omega, l ++ [rot b c (j - m2)], μ5, _, _, _, by rw [List.length_append, hl]; rfl, ?_, ?_, by rw [List.map_append]; rfl, by
        have : B + 10 * (0 + i + 1) = B + 10 * (0 + i) + 10 := by omega
        rw [this]; exact h5, rfl⟩
      · rw [List.nodup_append]
        refine ⟨hnd, by simp, fun x hx y hy e => ?_⟩
        have : y = rot b c (j - m2) := by simpa using hy
        rw [e, this] at hx
        have : l.contains (rot b c (j - m2)) = true := by simpa using hx
        rw [hin] at this; cases this
      · intro s hs
        rcases List.mem_append.mp hs with hs | hs
        · exact hnm s hs
        · have : s = rot b c (j - m2) := by simpa using hs
          subst this; exact hR
    | true =>
      rw [if_pos rfl]
      cases m2 with
      | zero =>
        rw [Nat.sub_zero] at hin
        exact absurd (by simpa using hin) hfree
      | succ m2 =>
        refine ⟨m2, rfl, ?_⟩
        have hlt : (c + (j - (m2 + 1))) % 26 < 26 := Nat.mod_lt _ (by decide)
        have er : rot b c (j - (m2 + 1)) = b ++ [97 + (c + (j - (m2 + 1))) % 26] := rfl
        rw [er]
        have e1 : meD .index (μ5 ++ [Cell.lst (l.map D.str)]) (.str aza) [.str [97 + (c + (j - (m2 + 1))) % 26]] = .ok (.int ((c + (j - (m2 + 1))) % 26 : Nat)) (μ5 ++ [Cell.lst (l.map D.str)]) := by
          show Res.of ((indexT aza (97 + (c + (j - (m2 + 1))) % 26)).map fun (k : Nat) => D.int k) _ = _
          rw [aza_ix _ hlt]
          rfl
        have e2 : idxD (μ5 ++ [Cell.lst (l.map D.str)]) (.str aza) (.int (1 + ((c + (j - (m2 + 1))) % 26 : Nat))) = some (.str [97 + (c + (j - m2)) % 26]) := by
          have e3 : (1 : Int) + (((c + (j - (m2 + 1))) % 26 : Nat) : Int) = ((1 + (c + (j - (m2 + 1))) % 26 : Nat) : Int) := by omega
          rw [e3]
          have := aza_get ((c + (j - (m2 + 1))) % 26) hlt
          have e4 : ((c + (j - (m2 + 1))) % 26 + 1) % 26 = (c + (j - m2)) % 26 := by omega
          rw [e4] at this
          exact idx_str this (by decide)
        have e4 : meTy .index (μ5 ++ [Cell.lst (l.map D.str)]) (.str aza) = true := rfl
        solve_by_elim [evW, cut_last b _ hb8, last_at b _ hb8, e1, e2, e4]
        rw [if_pos hb8]
        exact ⟨by trivial, _, _, by omega, rfl⟩
  · rintro ρ μ' ⟨him, l, μ3, x1, x4, x5, hl, hnd, hnm, rfl, h3, rfl⟩
    rw [rngL_len, Nat.zero_add] at hl h3
    (try simp only [hK])
    solve_by_elim [evW]
    exact Dk.finL h h3 (flatL_map fun _ _ => rfl) ⟨l, rfl, hl, hnd, hnm, h3⟩
end

/-! ### forms -/
/-- 'record' -/
abbrev wRec : Txt := [114, 101, 99, 111, 114, 100]
def fld (p : Txt × D) : D := .tup [.str p.1, p.2]
inductive Form : Nat → D → Prop
  | leaf {k : Nat} {w : Txt} {r : List D} (hw : w ≠ wRec) (hf : (D.tup (.str w :: r)).flat = true) (hd : (D.tup (.str w :: r)).depth ≤ 4) : Form k (.tup (.str w :: r))
  | recd {k : Nat} {fs : List (Txt × D)} (hn : (fs.map Prod.fst).Nodup) (hl : fs.length ≤ 8) (hs : ∀ p ∈ fs, Form k p.2) : Form (k + 1) (.tup [.str wRec, .tup (fs.map fld)])
/-! what is no record -/
inductive Pl where
  | num (m : Int) | cho (l : List Txt) | txt (m : Int)
def Pl.enc : Pl → D
  | .num m => .tup [.str [110, 117, 109, 98, 101, 114], .int m]
  | .cho l => .tup [.str [99, 104, 111, 105, 99, 101], .tup (l.map .str)]
  | .txt m => .tup [.str [116, 101, 120, 116], .int m]
def Pl.ok : Pl → Prop
  | .num m => 1 ≤ m ∧ m ≤ 240
  | .cho l => 1 ≤ l.length ∧ l.length ≤ 6 ∧ (∀ s ∈ l, Nm s) ∧ l.Nodup
  | .txt m => 0 ≤ m ∧ m ≤ 20
def Plain (d : D) : Prop := ∃ s : Pl, s.ok ∧ d = s.enc
theorem Plain.facts {d : D} (h : Plain d) : ∃ w r, d = .tup (.str w :: r) ∧ w ≠ wRec ∧ d.flat = true ∧ d.depth ≤ 3 := by
  obtain ⟨s, hs, rfl⟩ := h
  cases s with
  | num m => exact ⟨_, _, rfl, by decide, rfl, by show max 0 (max 0 0) + 1 ≤ 3; decide⟩
  | txt m => exact ⟨_, _, rfl, by decide, rfl, by show max 0 (max 0 0) + 1 ≤ 3; decide⟩
  | cho l =>
    refine ⟨_, _, rfl, by decide, ?_, ?_⟩
    · show (true && (D.flatL (l.map .str) && true)) = true
      rw [flatL_map fun _ _ => rfl]; rfl
    · have : D.depthL (l.map D.str) ≤ 0 := depthL_le fun d hd => by
        obtain ⟨t, _, rfl⟩ := List.mem_map.mp hd
        exact Nat.le_refl _
      show max 0 (max (D.depthL (l.map D.str) + 1) 0) + 1 ≤ 3
      omega
/-- a form, records to k deep -/
inductive Fo : Nat → D → Prop
  | pl {k : Nat} {d : D} (h : Plain d) : Fo k d
  | lst {k : Nat} {d : D} (h : Plain d) {m : Int} (h0 : 1 ≤ m) (h1 : m ≤ 4) : Fo k (.tup [.str [108, 105, 115, 116], d, .int m])
  | recd {k : Nat} {fs : List (Txt × D)} (hn : (fs.map Prod.fst).Nodup) (hl : fs.length ≤ 8) (hs : ∀ p ∈ fs, Fo k p.2) (hm : ∀ p ∈ fs, Nm p.1) : Fo (k + 1) (.tup [.str wRec, .tup (fs.map fld)])
theorem Fo.form {k : Nat} {d : D} (h : Fo k d) : Form k d := by
  induction h with
  | pl h =>
    obtain ⟨w, r, rfl, h1, h2, h3⟩ := h.facts
    exact .leaf h1 h2 (by omega)
  | lst h h0 h1 =>
    obtain ⟨w, r', rfl, _, hf, hdd⟩ := h.facts
    refine .leaf (by decide) ?_ ?_
    · show (true && ((D.tup (.str w :: r')).flat && (true && true))) = true
      rw [hf]; rfl
    · show max 0 (max (D.tup (.str w :: r')).depth (max 0 0)) + 1 ≤ 4
      omega
  | recd hn hl hs hm ih => exact .recd hn hl ih

section
variable {G : Nat → Option D} {F : Nat → Option Fn} {n : Nat} {μ : Mu}
theorem plain_ok (hF : F 5 = some f5) (hF2 : F 6 = some f6) (hF3 : F 7 = some f7) (hF4 : F 8 = some f8) {B k : Nat} {μ1 : Mu} (h : Dk B k μ μ1) (hB : B + 600 < 2 ^ 100) :
    (run G F (n + 4) 8 [.loc k] μ1).wp fun d μ' => Plain d ∧ Dk (B + 100) k μ μ' := by
  refine run_wp hF4 rfl rfl ?_
  show (exSs G (run G F (n + 3)) b8 [some (.loc k), none] μ1).wp _ _ _ _
  unfold b8
  refine ss_step ?_; intro K hK
  solve_by_elim [evW]
  refine Res.wp_mono (draw_ok (n := n + 2) hF h (by omega) (by decide) (by decide)) fun d μ2 hd => ?_
  obtain ⟨r, rfl, hr0, hr1, h2⟩ := hd
  solve_by_elim [evW]
  (try simp only [hK])
  refine ss_step ?_; intro K2 hK2
  solve_by_elim [evW]
  split
  · refine Res.wp_mono (draw_ok (n := n + 2) hF h2 (by omega) (by decide) (by decide)) fun d μ3 hd => ?_
    obtain ⟨r3, rfl, hr30, hr31, h3⟩ := hd
    solve_by_elim [evW]
    obtain ⟨a, ea, m, rfl, hm0, hm1⟩ := pick (P := fun d => ∃ m : Int, d = .int m ∧ 0 < m ∧ m ≤ 240) (l := [D.int 12, D.int 240]) (by
      intro d hd
      simp only [List.mem_cons, List.not_mem_nil, or_false] at hd
      rcases hd with rfl | rfl
      · exact ⟨_, rfl, by decide, by decide⟩
      · exact ⟨_, rfl, by decide, by decide⟩) (r := r3) hr30 (by show r3 < 2; omega)
    solve_by_elim [evW, ea]
    refine Res.wp_mono (draw_ok (n := n + 2) hF h3 (by omega) hm0 (by omega)) fun d μ4 hd => ?_
    obtain ⟨r4, rfl, hr40, hr41, h4⟩ := hd
    solve_by_elim [evW]
    exact ⟨⟨.num (1 + r4), ⟨by omega, by omega⟩, rfl⟩, h4.mono (by omega)⟩
  · simp only [hK2]
    refine ss_step ?_; intro K3 hK3
    solve_by_elim [evW]
    split
    · refine Res.wp_mono (draw_ok (n := n + 2) hF h2 (by omega) (by decide) (by decide)) fun d μ3 hd => ?_
      obtain ⟨r3, rfl, hr30, hr31, h3⟩ := hd
      solve_by_elim [evW]
      refine Res.wp_mono (names_ok (n := n) hF hF2 hF3 h3 (by omega) (m := 1 + r3) (by omega) (by omega)) fun d μ4 hd => ?_
      obtain ⟨l, rfl, hl, hnd, hnm, h4⟩ := hd
      solve_by_elim [evW]
      exact ⟨⟨.cho l, ⟨by omega, by omega, hnm, hnd⟩, rfl⟩, h4.mono (by omega)⟩
    · simp only [hK3]
      solve_by_elim [evW]
      refine Res.wp_mono (draw_ok (n := n + 2) hF h2 (by omega) (by decide) (by decide)) fun d μ3 hd => ?_
      obtain ⟨r3, rfl, hr30, hr31, h3⟩ := hd
      solve_by_elim [evW]
      obtain ⟨a, ea, m, rfl, hm0, hm1⟩ := pick (P := fun d => ∃ m : Int, d = .int m ∧ 0 < m ∧ m ≤ 21) (l := [D.int 4, D.int 21]) (by
        intro d hd
        simp only [List.mem_cons, List.not_mem_nil, or_false] at hd
        rcases hd with rfl | rfl
        · exact ⟨_, rfl, by decide, by decide⟩
        · exact ⟨_, rfl, by decide, by decide⟩) (r := r3) hr30 (by show r3 < 2; omega)
      solve_by_elim [evW, ea]
      refine Res.wp_mono (draw_ok (n := n + 2) hF h3 (by omega) hm0 (by omega)) fun d μ4 hd => ?_
      obtain ⟨r4, rfl, hr40, hr41, h4⟩ := hd
      solve_by_elim [evW]
      exact ⟨⟨.txt r4, ⟨by omega, by omega⟩, rfl⟩, h4.mono (by omega)⟩
/-- a deck at k, what is left at kl -/
def St (B k kl : Nat) (μ μ' : Mu) : Prop := kl ≠ k ∧ kl < μ.length ∧ ∃ left : Int, 0 ≤ left ∧ Dk B k (μ.set kl (.lst [.int left])) μ'
theorem St.mono {B B' k kl : Nat} {μ μ' : Mu} (h : St B k kl μ μ') (hb : B ≤ B') : St B' k kl μ μ' := by
  obtain ⟨h1, h2, l, h3, h4⟩ := h
  exact ⟨h1, h2, l, h3, h4.mono hb⟩
theorem left_get {B k kl : Nat} {μ μ' : Mu} {l : Int} (h1 : kl ≠ k) (h2 : kl < μ.length) (h : Dk B k (μ.set kl (.lst [.int l])) μ') : μ'[kl]? = some (.lst [.int l]) := by
  rw [h.other h1]
  exact List.getElem?_set_self h2
theorem left_set {B k kl : Nat} {μ μ' : Mu} {l l2 : Int} (h1 : kl ≠ k) (h : Dk B k (μ.set kl (.lst [.int l])) μ') : Dk B k (μ.set kl (.lst [.int l2])) (μ'.set kl (.lst [.int l2])) := by
  obtain ⟨h2, a, b, c, rfl, h3⟩ := h
  rw [List.length_set] at h2
  refine ⟨by rw [List.length_set]; exact h2, a, b, c, ?_, h3⟩
  rw [List.set_comm _ _ (fun e => h1 e.symm), List.set_set]
theorem form_ok (hF : F 5 = some f5) (hF2 : F 6 = some f6) (hF3 : F 7 = some f7) (hF4 : F 8 = some f8) (hF5 : F 9 = some f9) {k kl : Nat} : ∀ (deep n B : Nat) (dp : Int) (μ1 : Mu), dp = deep → St B k kl μ μ1 → B + 200 * 10 ^ deep < 2 ^ 90 →
    (run G F (n + 5 + deep) 9 [.loc k, .int dp, .loc kl] μ1).wp fun d μ' => Fo deep d ∧ St (B + 200 * 10 ^ deep) k kl μ μ' := by
  intro deep
  induction deep with
  | zero =>
    intro n B dp μ1 hdp h hB
    obtain ⟨hk, hkl, left, hl0, h⟩ := h
    refine run_wp (n := n + 4) hF5 rfl rfl ?_
    show (exSs G (run G F (n + 4)) b9 [some (.loc k), some (.int dp), some (.loc kl), none, none, none] μ1).wp _ _ _ _
    unfold b9
    have hno : (0 < dp) = False := eq_false (by rw [hdp]; decide)
    refine ss_step ?_; intro K hK
    solve_by_elim [evW]
    refine Res.wp_mono (draw_ok (n := n + 3) hF h (by omega) (by decide) (by decide)) fun d μ2 hd => ?_
    obtain ⟨r, rfl, hr0, hr1, h2⟩ := hd
    solve_by_elim [evW]
    (try simp only [hK])
    refine ss_step ?_; intro K2 hK2
    solve_by_elim [evW, hno]
    simp only [hK2]
    refine ss_step ?_; intro K3 hK3
    solve_by_elim [evW]
    split
    · refine Res.wp_mono (plain_ok (n := n) hF hF2 hF3 hF4 h2 (by omega)) fun d μ3 hd => ?_
      obtain ⟨hp, h3⟩ := hd
      refine Res.wp_mono (draw_ok (n := n + 3) hF h3 (by omega) (by decide) (by decide)) fun d μ4 hd => ?_
      obtain ⟨r4, rfl, hr40, hr41, h4⟩ := hd
      solve_by_elim [evW]
      exact ⟨.lst hp (by omega) (by omega), hk, hkl, left, hl0, h4.mono (by omega)⟩
    · simp only [hK3]
      solve_by_elim [evW]
      refine Res.wp_mono (plain_ok (n := n) hF hF2 hF3 hF4 h2 (by omega)) fun d μ3 hd => ?_
      obtain ⟨hp, h3⟩ := hd
      exact ⟨.pl hp, hk, hkl, left, hl0, h3.mono (by omega)⟩
  | succ deep ih =>
    intro n B dp μ1 hdp h hB
    have hp10 : 200 * 10 ^ (deep + 1) = 10 * (200 * 10 ^ deep) := by rw [Nat.pow_succ]; omega
    have hp1 : 200 ≤ 200 * 10 ^ deep := Nat.le_mul_of_pos_right _ (Nat.pow_pos (by decide))
    generalize hC : 200 * 10 ^ deep = C at *
    rw [hp10] at hB ⊢
    obtain ⟨hk, hkl, left, hl0, h⟩ := h
    refine run_wp (n := n + 5 + deep) hF5 rfl rfl ?_
    show (exSs G (run G F (n + 5 + deep)) b9 [some (.loc k), some (.int dp), some (.loc kl), none, none, none] μ1).wp _ _ _ _
    unfold b9
    have hyes : (0 < dp) = True := eq_true (by rw [hdp]; omega)
    have en : n + 5 + deep = n + 4 + deep + 1 := by omega
    have draw : ∀ {B : Nat} {m : Int} {μ1 : Mu} {μ : Mu}, Dk B k μ μ1 → B < 2 ^ 100 → 0 < m → m < 1000 → (run G F (n + 5 + deep) 5 [.loc k, .int m] μ1).wp fun d μ' => ∃ r : Int, d = .int r ∧ 0 ≤ r ∧ r < m ∧ Dk (B + 1) k μ μ' := fun h1 h2 h3 h4 => by
      rw [en]; exact draw_ok hF h1 h2 h3 (by omega)
    have plain : ∀ {B : Nat} {μ1 : Mu} {μ : Mu}, Dk B k μ μ1 → B + 600 < 2 ^ 100 → (run G F (n + 5 + deep) 8 [.loc k] μ1).wp fun d μ' => Plain d ∧ Dk (B + 100) k μ μ' := fun h1 h2 => by
      rw [show n + 5 + deep = n + 1 + deep + 4 from by omega]; exact plain_ok hF hF2 hF3 hF4 h1 h2
    have names : ∀ {B : Nat} {μ1 : Mu} {μ : Mu} {m : Int}, Dk B k μ μ1 → B + 300 < 2 ^ 100 → m ≤ 8 → -1000 ≤ m → (run G F (n + 5 + deep) 7 [.loc k, .int m] μ1).wp fun d μ' => ∃ l : List Txt, d = .lst (l.map .str) ∧ l.length = m.toNat ∧ l.Nodup ∧ (∀ s ∈ l, Nm s) ∧ Dk (B + 10 * m.toNat) k μ μ' := fun h1 h2 h3 h4 => by
      rw [show n + 5 + deep = n + 2 + deep + 3 from by omega]; exact names_ok hF hF2 hF3 h1 h2 (by omega) h4
    refine ss_step ?_; intro K hK
    solve_by_elim [evW]
    refine Res.wp_mono (draw h (by omega) (by decide) (by decide)) fun d μ2 hd => ?_
    obtain ⟨r, rfl, hr0, hr1, h2⟩ := hd
    solve_by_elim [evW]
    (try simp only [hK])
    refine ss_step ?_; intro K2 hK2
    solve_by_elim [evW, hyes]
    split
    · have hg := left_get hk hkl h2
      solve_by_elim [evW, x_loc hg]
      refine Res.wp_mono (draw h2 (by omega) (by decide) (by decide)) fun d μ3 hd => ?_
      obtain ⟨r3, rfl, hr30, hr31, h3⟩ := hd
      solve_by_elim [evW]
      obtain ⟨a, ea, m, rfl, hm0, hm1⟩ := pick (P := fun d => ∃ m : Int, d = .int m ∧ 0 < m ∧ m < 10) (l := [D.int 4, D.int 9]) (by
        intro d hd
        simp only [List.mem_cons, List.not_mem_nil, or_false] at hd
        rcases hd with rfl | rfl
        · exact ⟨_, rfl, by decide, by decide⟩
        · exact ⟨_, rfl, by decide, by decide⟩) (r := if r3 = 1 then 1 else 0) (by split <;> decide) (by split <;> decide)
      solve_by_elim [evW, ea]
      refine Res.wp_mono (draw h3 (by omega) hm0 (by omega)) fun d μ4 hd => ?_
      obtain ⟨r4, rfl, hr40, hr41, h4⟩ := hd
      solve_by_elim [evW]
      obtain ⟨v, hv⟩ : ∃ v : Int, v = if r4 < left then r4 else left := ⟨_, rfl⟩
      rw [← hv]
      have hv1 : 0 ≤ v ∧ v ≤ 8 ∧ v ≤ left := by rw [hv]; split <;> omega
      refine Res.wp_mono (names h4 (by omega) hv1.2.1 (by omega)) fun d μ5 hd => ?_
      obtain ⟨l, rfl, hl, hnd, hnm, h5⟩ := hd
      have hg5 := left_get hk hkl h5
      have hll : ((l.map D.str).length : Int) = v := by rw [List.length_map, hl]; omega
      solve_by_elim [evW, x_loc hg5, l_loc hg5, hll]
      have h6 := left_set (l2 := left - v) hk h5
      have ed : dp - 1 = (deep : Int) := by rw [hdp]; omega
      refine comp_wp _ (fun i acc μ' => ∃ fs : List (Txt × D), fs.map Prod.fst = l.take i ∧ acc = fs.map fld ∧ (∀ p ∈ fs, Fo deep p.2) ∧ St (B + 100 + i * C) k kl μ μ' ∧ i ≤ l.length) 0 _ _ ⟨[], rfl, rfl, by simp, ⟨hk, hkl, left - v, by omega, h6.mono (by omega)⟩, Nat.zero_le _⟩ (fun i acc μ' hI => ⟨rfl, fun _ => ?_⟩) ?_ ?_
      · obtain ⟨fs, h1, rfl, h2, h3, h4⟩ := hI
        have := congrArg List.length h1
        rw [List.length_map, List.length_take] at this
        rw [List.length_map, lim_val]; omega
      · rintro i d acc μ' hd ⟨fs, hf1, rfl, hf2, hst, hil⟩
        rw [List.getElem?_map] at hd
        obtain ⟨w, hw, rfl⟩ : ∃ w, l[i]? = some w ∧ d = .str w := by
          cases e : l[i]? with
          | none => rw [e] at hd; cases hd
          | some w => rw [e] at hd; exact ⟨w, rfl, (Option.some.inj hd).symm⟩
        have hi : i < l.length := (List.getElem?_eq_some_iff.mp hw).1
        rw [Nat.zero_add] at hf1 hst ⊢
        solve_by_elim [evW]
        have hiC : i * C ≤ 8 * C := Nat.mul_le_mul_right C (by omega)
        refine Res.wp_mono (ih n (B + 100 + i * C) (dp - 1) μ' ed hst (by omega)) fun d μ7 hd => ?_
        obtain ⟨hfd, hst7⟩ := hd
        solve_by_elim [evW]
        refine ⟨fs ++ [(w, d)], by rw [List.map_append, hf1, List.take_succ, hw]; rfl, by rw [List.map_append]; rfl, fun p hp => ?_, ?_, hi⟩
        · rcases List.mem_append.mp hp with hp | hp
          · exact hf2 p hp
          · have : p = (w, d) := by simpa using hp
            subst this; exact hfd
        · have e : B + 100 + (i + 1) * C = B + 100 + i * C + C := by rw [Nat.succ_mul]; omega
          rw [e]; exact hst7
      · rintro acc μ' ⟨fs, hf1, rfl, hf2, hst, hil⟩
        rw [List.length_map, Nat.zero_add] at hf1 hst
        rw [List.take_length] at hf1
        solve_by_elim [evW]
        have hfl : fs.length = l.length := by have := congrArg List.length hf1; rwa [List.length_map] at this
        have hiC : l.length * C ≤ 8 * C := Nat.mul_le_mul_right C (by omega)
        exact ⟨.recd (by rw [hf1]; exact hnd) (by omega) hf2 (fun p hp => hnm p.1 (by rw [← hf1]; exact List.mem_map.mpr ⟨p, hp, rfl⟩)), hst.mono (by omega)⟩
    · simp only [hK2]
      refine ss_step ?_; intro K3 hK3
      solve_by_elim [evW]
      split
      · refine Res.wp_mono (plain h2 (by omega)) fun d μ3 hd => ?_
        obtain ⟨hp, h3⟩ := hd
        refine Res.wp_mono (draw h3 (by omega) (by decide) (by decide)) fun d μ4 hd => ?_
        obtain ⟨r4, rfl, hr40, hr41, h4⟩ := hd
        solve_by_elim [evW]
        exact ⟨.lst hp (by omega) (by omega), hk, hkl, left, hl0, h4.mono (by omega)⟩
      · simp only [hK3]
        solve_by_elim [evW]
        refine Res.wp_mono (plain h2 (by omega)) fun d μ3 hd => ?_
        obtain ⟨hp, h3⟩ := hd
        exact ⟨.pl hp, hk, hkl, left, hl0, h3.mono (by omega)⟩
end

/-! plain data -/
mutual
/-- short texts and rows -/
def sml : D → Bool
  | .str s => decide (s.length ≤ 100000)
  | .tup l => decide (l.length ≤ 100000) && smlL l
  | .lst l => decide (l.length ≤ 100000) && smlL l
  | _ => true
def smlL : List D → Bool
  | [] => true
  | d :: ds => sml d && smlL ds
end
theorem smlL_all : ∀ l : List D, smlL l = true ↔ ∀ d ∈ l, sml d = true
  | [] => by simp [smlL]
  | d :: ds => by
    unfold smlL
    rw [Bool.and_eq_true, smlL_all ds]
    simp
/-- plain and short -/
def Gd (d : D) : Prop := d.flat = true ∧ sml d = true
theorem Gd.tup {l : List D} (hl : l.length ≤ 100000) (h : ∀ x ∈ l, Gd x) : Gd (.tup l) :=
  ⟨(flatL_all l).mpr fun x hx => (h x hx).1, by
    show (decide (l.length ≤ 100000) && smlL l) = true
    rw [decide_eq_true hl, Bool.true_and, smlL_all]
    exact fun x hx => (h x hx).2⟩
theorem Gd.lst {l : List D} (hl : l.length ≤ 100000) (h : ∀ x ∈ l, Gd x) : Gd (.lst l) := Gd.tup hl h
theorem Gd.str {s : Txt} (h : s.length ≤ 100000) : Gd (.str s) := ⟨rfl, decide_eq_true h⟩
theorem gd_int (i : Int) : Gd (.int i) := ⟨rfl, rfl⟩
theorem gd_bl (b : Bool) : Gd (.bl b) := ⟨rfl, rfl⟩
theorem gd_non : Gd .non := ⟨rfl, rfl⟩
theorem gd_tup0 : Gd (.tup []) := ⟨rfl, rfl⟩
theorem gd_cons {x : D} {l : List D} (h : Gd x) (hl : ∀ y ∈ l, Gd y) : ∀ y ∈ x :: l, Gd y := fun y hy => by
  rcases List.mem_cons.mp hy with rfl | hy
  · exact h
  · exact hl y hy
theorem gd_nil : ∀ y ∈ ([] : List D), Gd y := fun y hy => by cases hy
def kI : D → Bool
  | .int _ => true
  | .bl _ => true
  | _ => false
def kB : D → Bool
  | .bl _ => true
  | _ => false
def kS : D → Bool
  | .str _ => true
  | _ => false
def kT : D → Bool
  | .tup _ => true
  | _ => false

/-! things, and which of them are forms -/
/-- lists, tuples and dicts of any kind in one another -/
inductive Tg (μ : Mu) : D → Prop
  | gd {d : D} (h : Gd d) : Tg μ d
  | tup {l : List D} (hl : l.length ≤ 100000) (h : ∀ x ∈ l, Tg μ x) : Tg μ (.tup l)
  | lst {l : List D} (hl : l.length ≤ 100000) (h : ∀ x ∈ l, Tg μ x) : Tg μ (.lst l)
  | sl {n : Nat} {l : List D} (h : μ[n]? = some (.lst l)) : Tg μ (.loc n)
  | sd {n : Nat} {l : List (D × D)} (h : μ[n]? = some (.dct l)) : Tg μ (.loc n)
theorem Tg.kinds {μ : Mu} {d : D} (h : Tg μ d) : kindIs μ .int d = some (kI d) ∧ kindIs μ .bool d = some (kB d) ∧ kindIs μ .str d = some (kS d) ∧ kindIs μ .tuple d = some (kT d) := by
  cases h with
  | gd h => cases d <;> first | exact ⟨rfl, rfl, rfl, rfl⟩ | cases h.1
  | tup _ _ => exact ⟨rfl, rfl, rfl, rfl⟩
  | lst _ _ => exact ⟨rfl, rfl, rfl, rfl⟩
  | @sl n l e =>
    have key : ∀ t, kindIs μ t (.loc n) = some (t == Ty.list) := fun t => by
      show (match μ[n]? with | some (.lst _) => some (t == Ty.list) | some (.dct _) => some (t == Ty.dict) | _ => none) = _
      rw [e]
    exact ⟨key _, key _, key _, key _⟩
  | @sd n l e =>
    have key : ∀ t, kindIs μ t (.loc n) = some (t == Ty.dict) := fun t => by
      show (match μ[n]? with | some (.lst _) => some (t == Ty.list) | some (.dct _) => some (t == Ty.dict) | _ => none) = _
      rw [e]
    exact ⟨key _, key _, key _, key _⟩
theorem Gd.elem {l : List D} (h : Gd (.tup l)) : l.length ≤ 100000 ∧ ∀ x ∈ l, Gd x := by
  obtain ⟨h1, h2⟩ := h
  have h2 : (decide (l.length ≤ 100000) && smlL l) = true := h2
  rw [Bool.and_eq_true, decide_eq_true_iff, smlL_all] at h2
  exact ⟨h2.1, fun x hx => ⟨(flatL_all l).mp h1 x hx, h2.2 x hx⟩⟩
theorem Tg.elem {μ : Mu} {l : List D} (h : Tg μ (.tup l)) : l.length ≤ 100000 ∧ ∀ x ∈ l, Tg μ x := by
  cases h with
  | gd h => exact ⟨h.elem.1, fun x hx => .gd (h.elem.2 x hx)⟩
  | tup hl h => exact ⟨hl, h⟩
theorem Tg.str {μ : Mu} {s : Txt} (h : Tg μ (.str s)) : s.length ≤ 100000 := by
  cases h with
  | gd h => exact of_decide_eq_true h.2
def isW (t : Txt) : D → Bool
  | .str s => decide (s = t)
  | _ => false
theorem Tg.eqT {μ : Mu} {d : D} (h : Tg μ d) (t : Txt) : eqD μ d (.str t) = some (isW t d) := by
  have gd : ∀ {d : D}, Gd d → eqD μ d (.str t) = some (isW t d) := fun {d} h => by
    rw [eq_flat (a := d) (b := .str t) h.1 rfl (by show 0 ≤ 64; decide)]
    cases d with
    | str s =>
      show some (s == t) = some (decide (s = t))
      by_cases e : s = t
      · subst e; simp
      · rw [decide_eq_false e, beq_eq_false_iff_ne.mpr e]
    | _ => rfl
  have box : ∀ {d : D}, isBox μ d = true → (∀ x, (seen μ d).eqv (.str x) = false) → isW t d = false → eqD μ d (.str t) = some (isW t d) := fun {d} h1 h2 h3 => by
    unfold eqD
    by_cases c : ((seen μ d).flat && (seen μ (.str t)).flat && decide (min (seen μ d).depth (seen μ (.str t)).depth ≤ 64)) = true
    · rw [if_pos c, h3]; exact congrArg some (h2 t)
    · rw [if_neg c, if_pos (by rw [h1]; rfl), h3]
  cases h with
  | gd h => exact gd h
  | tup _ _ => exact box rfl (fun _ => rfl) rfl
  | lst _ _ => exact box rfl (fun _ => rfl) rfl
  | @sl n l e =>
    refine box ?_ (fun x => ?_) rfl
    · show (match μ[n]? with | some (.lst _) => true | some (.dct _) => true | _ => false) = true
      rw [e]
    · have : seen μ (.loc n) = .lst l := by
        show (match μ[n]? with | some (.lst l) => D.lst l | _ => .loc n) = _
        rw [e]
      rw [this]; rfl
  | @sd n l e =>
    refine box ?_ (fun x => ?_) rfl
    · show (match μ[n]? with | some (.lst _) => true | some (.dct _) => true | _ => false) = true
      rw [e]
    · have : seen μ (.loc n) = .loc n := by
        show (match μ[n]? with | some (.lst l) => D.lst l | _ => .loc n) = _
        rw [e]
      rw [this]; rfl
/-! what is due -/
def lowB (c : Nat) : Bool := az.contains c
def nameB : D → Bool
  | .str s => decide (1 ≤ s.length) && decide (s.length ≤ 8) && s.all lowB
  | _ => false
def txtOf : D → Txt
  | .str s => s
  | _ => []
def wholeB (a b : Int) : D → Bool
  | .int i => decide (a ≤ i) && decide (i ≤ b)
  | _ => false
def namesB (l : List D) : Bool := l.all nameB && decide (l.map txtOf).Nodup
def chosB : D → Bool
  | .tup l => decide (1 ≤ l.length) && decide (l.length ≤ 6) && namesB l
  | _ => false
abbrev wNum : Txt := [110, 117, 109, 98, 101, 114]
abbrev wTxt : Txt := [116, 101, 120, 116]
abbrev wCho : Txt := [99, 104, 111, 105, 99, 101]
abbrev wLst : Txt := [108, 105, 115, 116]
abbrev wRcd : Txt := [114, 101, 99, 111, 114, 100]
def plainB : D → Bool
  | .tup [w, m] => if isW wNum w then wholeB 1 240 m else if isW wTxt w then wholeB 0 20 m else isW wCho w && chosB m
  | _ => false
def headD : D → D
  | .tup (n :: _) => n
  | _ => .non
def fldB (f : D → Bool) : D → Bool
  | .tup [n, x] => nameB n && f x
  | _ => false
def recB (f : D → Bool) : D → Bool
  | .tup l => decide (l.length ≤ 8) && l.all (fldB f) && decide ((l.map headD).map txtOf).Nodup
  | _ => false
def lstQ : List D → Bool
  | [p, m] => plainB p && wholeB 1 4 m
  | _ => false
def recQ (r : D → Bool) : List D → Bool
  | [fs] => r fs
  | _ => false
def baseB (r : D → Bool) : D → Bool
  | .tup (w :: q) => if isW wLst w then lstQ q else if isW wRcd w then recQ r q else plainB (.tup (w :: q))
  | _ => false
def formB : Nat → D → Bool
  | 0 => baseB fun _ => false
  | n + 1 => baseB (recB (formB n))
theorem unl_all : ∀ (r σ : List Txt), ((unl σ r).length = σ.length + r.length) ↔ (r.Nodup ∧ ∀ x ∈ r, x ∉ σ)
  | [], σ => by simp [unl]
  | t :: r, σ => by
    show ((unl (if σ.contains t then σ else σ ++ [t]) r).length = _) ↔ _
    by_cases c : σ.contains t = true
    · rw [if_pos c]
      have hle : (unl σ r).length ≤ σ.length + r.length := by
        have : ∀ (r σ : List Txt), (unl σ r).length ≤ σ.length + r.length := fun r => by
          induction r with
          | nil => intro σ; exact Nat.le_refl _
          | cons t r ih =>
            intro σ
            show (unl (if σ.contains t then σ else σ ++ [t]) r).length ≤ _
            have h1 := ih (if σ.contains t then σ else σ ++ [t])
            have h2 : (if σ.contains t then σ else σ ++ [t]).length ≤ σ.length + 1 := by
              split
              · omega
              · rw [List.length_append]; exact Nat.le_refl _
            rw [List.length_cons]; omega
        exact this r σ
      constructor
      · intro h
        rw [List.length_cons] at h
        omega
      · rintro ⟨_, h⟩
        exact absurd (by simpa using c) (h t List.mem_cons_self)
    · rw [if_neg c]
      have hc : t ∉ σ := fun q => c (by simpa using q)
      have := unl_all r (σ ++ [t])
      rw [List.length_append, List.length_singleton] at this
      rw [List.length_cons, show σ.length + (r.length + 1) = σ.length + 1 + r.length from by omega, this, List.nodup_cons]
      constructor
      · rintro ⟨h1, h2⟩
        refine ⟨⟨fun q => h2 t q (by simp), h1⟩, fun x hx => ?_⟩
        rcases List.mem_cons.mp hx with rfl | hx
        · exact hc
        · exact fun q => h2 x hx (List.mem_append_left _ q)
      · rintro ⟨⟨h1, h2⟩, h3⟩
        refine ⟨h2, fun x hx q => ?_⟩
        rcases List.mem_append.mp q with q | q
        · exact h3 x (List.mem_cons_of_mem _ hx) q
        · have : x = t := by simpa using q
          subst this
          exact h1 hx
theorem unlike_eq (ts : List Txt) : ((unlike ts : Int) == (ts.length : Int)) = decide ts.Nodup := by
  have h := unl_all ts []
  rw [List.length_nil, Nat.zero_add] at h
  have h2 : unlike ts = ts.length ↔ ts.Nodup := ⟨fun e => (h.mp e).1, fun e => h.mpr ⟨e, fun _ _ => by simp⟩⟩
  by_cases e : ts.Nodup
  · rw [decide_eq_true e, beq_iff_eq, h2.mpr e]
  · rw [decide_eq_false e, beq_eq_false_iff_ne]
    intro q
    exact e (h2.mp (by omega))
theorem names_txt {l : List D} (h : l.all nameB = true) : l = (l.map txtOf).map .str := by
  induction l with
  | nil => rfl
  | cons d r ih =>
    rw [List.all_cons, Bool.and_eq_true] at h
    rw [List.map_cons, List.map_cons, ← ih h.2]
    cases d with
    | str s => rfl
    | _ => cases h.1
theorem lenset_t {μ : Mu} {l : List Txt} (hl : l.length ≤ 1000) : biD .lenset μ [.tup (l.map .str)] = some (.int (unlike l)) := by
  show (strsOf (l.map D.str)).bind (fun ss => if ss.length < 4000 then some (D.int (unlike ss)) else none) = _
  rw [strsOf_map]
  show (if l.length < 4000 then some (D.int (unlike l)) else none) = _
  rw [if_pos (by omega)]
theorem lenset_l {μ : Mu} {l : List Txt} (hl : l.length ≤ 1000) : biD .lenset μ [.lst (l.map .str)] = some (.int (unlike l)) := by
  show (strsOf (l.map D.str)).bind (fun ss => if ss.length < 4000 then some (D.int (unlike ss)) else none) = _
  rw [strsOf_map]
  show (if l.length < 4000 then some (D.int (unlike l)) else none) = _
  rw [if_pos (by omega)]
theorem in_az {μ : Mu} {c : Nat} : inD μ (.str [c]) (.str az) = some (lowB c) := rfl
theorem eqzz {a b : Nat} : ((a : Int) == (b : Int)) = decide (a = b) := by
  by_cases h : a = b
  · subst h; simp
  · rw [decide_eq_false h, beq_eq_false_iff_ne]; omega
/-- a comprehension of truths -/
theorem comp_bools {turn : D → Mu → Res (Option D)} {μ : Mu} {l : List D} (hl : l.length ≤ lim) (f : D → Bool) (h : ∀ d ∈ l, turn d μ = .ok (some (.bl (f d))) μ) : compL [] turn l [] μ = .ok ((l.map f).map .bl) μ := by
  rw [comp_pure (f := fun d => some (.bl (f d))) _ _ rfl (by rw [List.length_nil]; omega) h, List.nil_append, List.map_map]
  congr 1
  exact (congrArg (List.filterMap _) (List.map_id l).symm).trans (fm_map (g := id) (h := fun d => D.bl (f d)) (fun _ => rfl) l)
/-- a comprehension that keeps some -/
theorem comp_keep {turn : D → Mu → Res (Option D)} {μ : Mu} {l : List D} (hl : l.length ≤ lim) (f : D → Bool) (h : ∀ d ∈ l, turn d μ = .ok (if f d then some d else none) μ) : compL [] turn l [] μ = .ok (l.filter f) μ := by
  rw [comp_pure (f := fun d => if f d then some d else none) _ _ rfl (by rw [List.length_nil]; omega) h, List.nil_append]
  congr 1
  induction l with
  | nil => rfl
  | cons d r ih =>
    rw [List.length_cons] at hl
    rw [List.filterMap_cons, List.filter_cons, ih (by omega) fun x hx => h x (List.mem_cons_of_mem _ hx)]
    cases f d <;> rfl
theorem b_alls {μ : Mu} (bs : List Bool) : biD .all μ [.lst (bs.map .bl)] = some (.bl (bs.all id)) := by
  have : ∀ bs : List Bool, boolsOf (bs.map .bl) = some bs := fun bs => by
    induction bs with
    | nil => rfl
    | cons b r ih => show (boolsOf (r.map .bl)).map (b :: ·) = _; rw [ih]; rfl
  show ((boolsOf (bs.map .bl)).map fun bs => D.bl (bs.all id)) = _
  rw [this]
  rfl
theorem eq_empty {μ : Mu} {l : List D} (h : D.flatL l = true) : eqD μ (.lst l) (.lst []) = some l.isEmpty := by
  rw [eq_flat (a := .lst l) (b := .lst []) h rfl (by decide)]
  cases l <;> rfl
theorem i_str {s : Txt} {μ : Mu} : itemsD .seq μ [.str s] = some (s.map fun c => .str [c], []) := rfl
theorem len_str {μ : Mu} {s : Txt} (h : s.length ≤ 100000) : biD .len μ [.str s] = some (.int s.length) := by
  show ((if s.length ≤ lim then some (s.length : Int) else none).map D.int) = _
  rw [if_pos (by rw [lim_val]; omega)]
  rfl

local macro_rules | `(tactic| solve_by_elim [evV_b_len, $[$xs:term],*]) => `(tactic| (try simp only [ss_n, ss_c, s_e, s_r, s_rN, s_a, s_i, s_x, s_p, s_b, s_c, s_f, s_w, v_var, v_con, v_glo, v_bin, v_neg, v_cmp, v_cmp2, v_and, v_or, v_not, v_ite, v_tup, v_lstT, v_lstF, v_cat, v_idx, v_lrep, v_slc, v_call, v_bi, v_me, v_comp, turnC_wp, c_n, c_s, es_n, es_c, eo_n, eo_s, t_var, t_con, t_cm, t_cm2, t_an, t_or', t_no, t_bi, t_call, t_idx, v_dictP, v_dictL, v_mlst, v_zipL, v_fnv, v_tget, v_callv, fnAt_fn, v_callL, cap_n, cap_c, s_sl, t_callv, v_new, v_fld, v_meth, s_sf, s_af, t_fld, t_meth, put_nm, put_tp, putL_n, putL_c, Option.bind_some, ofo_some, ofo_none, ofoE_some, ofoE_none, ofo_ite, ofo_map, ofo_bind, o_add, o_adds, o_addt, o_addl, o_sub, o_mul, o_muls, o_mult, l_rep, c_is, c_nis, is_bl, o_fdiv, o_mod, c_lt, c_le, c_gt, c_ge, c_eq, c_ne, c_in, c_nin, q_int, q_strd, tr_bl, x_tup, x_lst, intOf_int, b_isin, k_ii, k_bi, k_si, k_ss, k_is, k_tt, k_ti, k_ts, o_pow, i_r1, i_r2, i_tup, i_lst, i_en, b_lenl, b_tup, tup_lst, b_lst, b_int, b_inti, b_trg, b_lrg, b_min, atZ0, atZ1, atZ2, ixZ0, ixZ1, ixZ2, List.length_set, wp_ok, List.getElem?_cons_zero, List.getElem?_cons_succ, List.set_cons_zero, List.set_cons_succ, wipeR, List.length_cons, List.length_nil, List.map_cons, List.map_nil, List.replicate_succ, List.replicate_zero, List.cons_append, List.nil_append, decide_eq_true_eq, beq_iff_eq, Bool.not_eq_true', Bool.true_eq_false, and_self, Nat.zero_le, lim1, lim2, lim3, lim4, lim5, decide_true, decide_false, Bool.not_true, Bool.not_false, ite_true, ite_false, if_true, if_false, Bool.false_eq_true, $[$xs:term],*]))
/-! is_form -/
section
variable {G : Nat → Option D} {F : Nat → Option Fn} {n : Nat} {μ : Mu}
theorem whole_23 (hF : F 23 = some f23) {d : D} (hd : Tg μ d) (a b : Int) : run G F (n + 1) 23 [d, .int a, .int b] μ = .ok (.bl (wholeB a b d)) μ := by
  refine wp_to (run_wp hF rfl rfl ?_)
  show (exSs G (run G F n) b23 [some d, some (.int a), some (.int b)] μ).wp _ _ _ _
  unfold b23
  obtain ⟨h1, h2, _, _⟩ := hd.kinds
  solve_by_elim [evW, h1, h2]
  cases d with
  | int i =>
    simp only [kI, kB, if_true, Bool.not_false]
    solve_by_elim [evW]
    have hb : wholeB a b (.int i) = (decide (a ≤ i) && decide (i ≤ b)) := rfl
    rw [hb]
    split
    · rename_i ha
      rw [decide_eq_true ha, Bool.true_and]
      exact ⟨rfl, trivial⟩
    · rename_i ha
      rw [decide_eq_false ha, Bool.false_and]
      exact ⟨rfl, trivial⟩
  | bl b =>
    simp only [kI, kB, if_true, Bool.not_true]
    solve_by_elim [evW]
    try exact ⟨rfl, trivial⟩
  | _ =>
    simp only [kI]
    solve_by_elim [evW]
    try exact ⟨rfl, trivial⟩
theorem name_42 (hF : F 42 = some f42) (g34 : G 34 = some (.str az)) (g35 : G 35 = some (.int 8)) {d : D} (hd : Tg μ d) : run G F (n + 1) 42 [d] μ = .ok (.bl (nameB d)) μ := by
  refine wp_to (run_wp hF rfl rfl ?_)
  show (exSs G (run G F n) b42 [some d, none] μ).wp _ _ _ _
  unfold b42
  obtain ⟨_, _, h3, _⟩ := hd.kinds
  refine ss_step ?_; intro K hK
  solve_by_elim [evW, h3]
  cases d with
  | str s =>
    have hl := hd.str
    simp only [kS, Bool.not_true, Bool.false_eq_true, if_false]
    have hb : nameB (.str s) = (decide (1 ≤ s.length) && decide (s.length ≤ 8) && s.all lowB) := rfl
    obtain ⟨kk, hkk⟩ : ∃ kk : Int, (s.length : Int) = kk := ⟨_, rfl⟩
    have hlen := len_str (μ := μ) hl
    rw [hkk] at hlen
    solve_by_elim [evW, hlen, g35]
    by_cases h1 : 1 ≤ kk
    · rw [if_pos h1]
      by_cases h2 : kk ≤ 8
      · have hv : nameB (.str s) = s.all lowB := by rw [hb, decide_eq_true (show 1 ≤ s.length by omega), decide_eq_true (show s.length ≤ 8 by omega)]; rfl
        simp only [h2, decide_true, Bool.not_true, Bool.false_eq_true, if_false, hK, Bool.true_and]
        solve_by_elim [evW, i_str]
        rw [comp_bools (f := fun d => match d with | .str [c] => lowB c | _ => false) (by rw [List.length_map, lim_val]; omega) fun d hd => ?_]
        · solve_by_elim [evW, b_alls]
          rw [List.map_map, List.all_map, hv]
          exact ⟨rfl, trivial⟩
        · obtain ⟨c, hc, rfl⟩ := List.mem_map.mp hd
          refine wp_to ?_
          solve_by_elim [evW, g34, in_az]
      · have hv : nameB (.str s) = false := by rw [hb, decide_eq_false (show ¬ s.length ≤ 8 by omega), Bool.and_false]; rfl
        simp only [h2, decide_false, Bool.not_false, if_true]
        rw [hv]
        (first | exact ⟨rfl, trivial⟩ | exact ⟨trivial, trivial⟩ | exact ⟨trivial, rfl⟩ | exact ⟨rfl, rfl⟩ | trivial)
    · have hv : nameB (.str s) = false := by rw [hb, decide_eq_false (show ¬ 1 ≤ s.length by omega)]; rfl
      rw [if_neg h1]
      (try simp only [Bool.not_false, if_true])
      rw [hv]
      (first | exact ⟨rfl, trivial⟩ | exact ⟨trivial, trivial⟩ | exact ⟨trivial, rfl⟩ | exact ⟨rfl, rfl⟩ | trivial)
  | _ =>
    simp only [kS, Bool.not_false, if_true]
    exact ⟨rfl, trivial⟩
theorem chos_43 (hF : F 42 = some f42) (hF2 : F 43 = some f43) (g34 : G 34 = some (.str az)) (g35 : G 35 = some (.int 8)) (g37 : G 37 = some (.int 6)) {d : D} (hd : Tg μ d) : run G F (n + 2) 43 [d] μ = .ok (.bl (chosB d)) μ := by
  refine wp_to (run_wp hF2 rfl rfl ?_)
  show (exSs G (run G F (n + 1)) b43 [some d, none] μ).wp _ _ _ _
  unfold b43
  obtain ⟨_, _, _, h4⟩ := hd.kinds
  refine ss_step ?_; intro K hK
  solve_by_elim [evW, h4]
  cases d with
  | tup l =>
    obtain ⟨hl, hel⟩ := hd.elem
    simp only [kT, Bool.not_true, Bool.false_eq_true, if_false]
    have hb : chosB (.tup l) = (decide (1 ≤ l.length) && decide (l.length ≤ 6) && namesB l) := rfl
    obtain ⟨kk, hkk⟩ : ∃ kk : Int, (l.length : Int) = kk := ⟨_, rfl⟩
    have hlen : biD .len μ [.tup l] = some (.int kk) := by rw [b_len, hkk]
    solve_by_elim [evV_b_len, hlen, g37]
    by_cases h1 : 1 ≤ kk
    · rw [if_pos h1]
      by_cases h2 : kk ≤ 6
      · have hv : chosB (.tup l) = namesB l := by rw [hb, decide_eq_true (show 1 ≤ l.length by omega), decide_eq_true (show l.length ≤ 6 by omega)]; rfl
        simp only [h2, decide_true, Bool.not_true, Bool.false_eq_true, if_false, hK]
        solve_by_elim [evV_b_len, hlen]
        rw [comp_bools (f := nameB) (by rw [lim_val]; omega) fun d hd => ?_]
        · solve_by_elim [evV_b_len, b_alls]
          have hall : (l.map nameB).all id = l.all nameB := by rw [List.all_map]; rfl
          rw [hall]
          have hn : namesB l = (l.all nameB && decide (l.map txtOf).Nodup) := rfl
          rw [hv]
          cases hal : l.all nameB with
          | false =>
            rw [if_neg (by simp), hn, hal]
            (first | exact ⟨rfl, trivial⟩ | exact ⟨trivial, trivial⟩ | exact ⟨trivial, rfl⟩ | exact ⟨rfl, rfl⟩ | trivial)
          | true =>
            rw [if_pos rfl]
            have el := names_txt hal
            have es : biD .lenset μ [.tup l] = some (.int (unlike (l.map txtOf))) := by
              have := lenset_t (μ := μ) (l := l.map txtOf) (by rw [List.length_map]; omega)
              rwa [← el] at this
            solve_by_elim [evV_b_len, hlen, es]
            have e2 : ((unlike (l.map txtOf) : Int) == kk) = decide (l.map txtOf).Nodup := by
              rw [← hkk, ← unlike_eq, List.length_map]
            rw [hn, hal, Bool.true_and, ← e2]
            (first | exact ⟨rfl, trivial⟩ | exact ⟨trivial, trivial⟩ | exact ⟨trivial, rfl⟩ | exact ⟨rfl, rfl⟩ | trivial)
        · refine wp_to ?_
          solve_by_elim [evW, name_42 (G := G) (n := n) hF g34 g35 (hel d hd)]
      · have hv : chosB (.tup l) = false := by rw [hb, decide_eq_false (show ¬ l.length ≤ 6 by omega), Bool.and_false]; rfl
        simp only [h2, decide_false, Bool.not_false, if_true]
        rw [hv]
        (first | exact ⟨rfl, trivial⟩ | exact ⟨trivial, trivial⟩ | exact ⟨trivial, rfl⟩ | exact ⟨rfl, rfl⟩ | trivial)
    · have hv : chosB (.tup l) = false := by rw [hb, decide_eq_false (show ¬ 1 ≤ l.length by omega)]; rfl
      rw [if_neg h1]
      (try simp only [Bool.not_false, if_true])
      rw [hv]
      (first | exact ⟨rfl, trivial⟩ | exact ⟨trivial, trivial⟩ | exact ⟨trivial, rfl⟩ | exact ⟨rfl, rfl⟩ | trivial)
  | _ =>
    simp only [kT, Bool.not_false, if_true]
    exact ⟨rfl, trivial⟩
theorem tup2 {l : List D} (h : l.length = 2) : ∃ a b, l = [a, b] := by
  rcases l with _ | ⟨a, _ | ⟨b, _ | ⟨c, r⟩⟩⟩
  · cases h
  · cases h
  · exact ⟨a, b, rfl⟩
  · simp only [List.length_cons] at h; omega
theorem plainB_no {l : List D} (h : l.length ≠ 2) : plainB (.tup l) = false := by
  rcases l with _ | ⟨a, _ | ⟨b, _ | ⟨c, r⟩⟩⟩
  · rfl
  · rfl
  · exact absurd rfl h
  · rfl
theorem plainB_kind {d : D} (h : kT d = false) : plainB d = false := by
  cases d <;> first | rfl | cases h
theorem plain_44 (hF : F 23 = some f23) (hF2 : F 42 = some f42) (hF3 : F 43 = some f43) (hF4 : F 44 = some f44) (g34 : G 34 = some (.str az)) (g35 : G 35 = some (.int 8)) (g36 : G 36 = some (.int 240)) (g37 : G 37 = some (.int 6)) (g38 : G 38 = some (.int 20)) {d : D} (hd : Tg μ d) : run G F (n + 3) 44 [d] μ = .ok (.bl (plainB d)) μ := by
  refine wp_to (run_wp hF4 rfl rfl ?_)
  show (exSs G (run G F (n + 2)) b44 [some d, none, none] μ).wp _ _ _ _
  unfold b44
  obtain ⟨_, _, _, h4⟩ := hd.kinds
  refine ss_step ?_; intro K hK
  solve_by_elim [evW, h4]
  by_cases hk : kT d = true
  case neg =>
    have hk : kT d = false := by simpa using hk
    simp only [hk, Bool.not_false, if_true]
    rw [plainB_kind hk]
    (first | exact ⟨rfl, trivial⟩ | exact ⟨trivial, trivial⟩ | exact ⟨trivial, rfl⟩ | exact ⟨rfl, rfl⟩ | trivial)
  simp only [hk, Bool.not_true, Bool.false_eq_true, if_false]
  obtain ⟨l, rfl⟩ : ∃ l, d = .tup l := by cases d <;> first | exact ⟨_, rfl⟩ | cases hk
  obtain ⟨hl, hel⟩ := hd.elem
  obtain ⟨kk, hkk⟩ : ∃ kk : Int, (l.length : Int) = kk := ⟨_, rfl⟩
  have hlen : biD .len μ [.tup l] = some (.int kk) := by rw [b_len, hkk]
  solve_by_elim [evV_b_len, hlen]
  by_cases h2 : kk = 2
  case neg =>
    have : (kk == 2) = false := by rw [beq_eq_false_iff_ne]; exact h2
    simp only [this, Bool.not_false, if_true, h2, not_false_eq_true]
    rw [plainB_no (by omega)]
    (first | exact ⟨rfl, trivial⟩ | exact ⟨trivial, trivial⟩ | exact ⟨trivial, rfl⟩ | exact ⟨rfl, rfl⟩ | trivial)
  subst h2
  obtain ⟨w, m, rfl⟩ := tup2 (l := l) (by omega)
  simp only [BEq.rfl, Bool.not_true, Bool.false_eq_true, if_false, not_true_eq_false, hK]
  have hw := hel w (by simp)
  have hm := hel m (by simp)
  have hb : plainB (.tup [w, m]) = if isW wNum w then wholeB 1 240 m else if isW wTxt w then wholeB 0 20 m else isW wCho w && chosB m := rfl
  have q1 := hw.eqT wNum
  have q2 := hw.eqT wTxt
  have q3 := hw.eqT wCho
  unfold wNum at q1
  unfold wTxt at q2
  unfold wCho at q3
  refine ss_step ?_; intro K1 hK1
  solve_by_elim [evW]
  simp only [hK1]
  refine ss_step ?_; intro K2 hK2
  solve_by_elim [evW, q1]
  by_cases i1 : isW wNum w = true
  · rw [if_pos i1]
    solve_by_elim [evW, g36, whole_23 (G := G) (n := n + 1) hF hm]
    rw [hb, if_pos i1]
    (first | exact ⟨rfl, trivial⟩ | exact ⟨trivial, trivial⟩ | exact ⟨trivial, rfl⟩ | exact ⟨rfl, rfl⟩ | trivial)
  rw [if_neg i1]
  simp only [hK2]
  refine ss_step ?_; intro K3 hK3
  solve_by_elim [evW, q2]
  by_cases i2 : isW wTxt w = true
  · rw [if_pos i2]
    solve_by_elim [evW, g38, whole_23 (G := G) (n := n + 1) hF hm]
    rw [hb, if_neg i1, if_pos i2]
    (first | exact ⟨rfl, trivial⟩ | exact ⟨trivial, trivial⟩ | exact ⟨trivial, rfl⟩ | exact ⟨rfl, rfl⟩ | trivial)
  rw [if_neg i2]
  simp only [hK3]
  solve_by_elim [evW, q3]
  by_cases i3 : isW wCho w = true
  · rw [if_pos i3]
    solve_by_elim [evW, chos_43 (G := G) (n := n) hF2 hF3 g34 g35 g37 hm]
    rw [hb, if_neg i1, if_neg i2, i3]
    (first | exact ⟨rfl, trivial⟩ | exact ⟨trivial, trivial⟩ | exact ⟨trivial, rfl⟩ | exact ⟨rfl, rfl⟩ | trivial)
  · rw [if_neg i3, hb, if_neg i1, if_neg i2]
    rw [show isW [99, 104, 111, 105, 99, 101] w = false by simpa using i3]
    (first | exact ⟨rfl, trivial⟩ | exact ⟨trivial, trivial⟩ | exact ⟨trivial, rfl⟩ | exact ⟨rfl, rfl⟩ | trivial)
theorem fldB_no {f : D → Bool} {l : List D} (h : l.length ≠ 2) : fldB f (.tup l) = false := by
  rcases l with _ | ⟨a, _ | ⟨b, _ | ⟨c, r⟩⟩⟩
  · rfl
  · rfl
  · exact absurd rfl h
  · rfl
theorem field_45 (hF : F 42 = some f42) (hF2 : F 45 = some f45) (g34 : G 34 = some (.str az)) (g35 : G 35 = some (.int 8)) {f : D → Bool} {dp : Int} (hf : ∀ x, Tg μ x → run G F (n + 1) 47 [x, .int dp] μ = .ok (.bl (f x)) μ) {d : D} (hd : Tg μ d) :
    run G F (n + 2) 45 [d, .int dp] μ = .ok (.bl (fldB f d)) μ := by
  refine wp_to (run_wp hF2 rfl rfl ?_)
  show (exSs G (run G F (n + 1)) b45 [some d, some (.int dp)] μ).wp _ _ _ _
  unfold b45
  obtain ⟨_, _, _, h4⟩ := hd.kinds
  refine ss_step ?_; intro K hK
  solve_by_elim [evW, h4]
  by_cases hk : kT d = true
  case neg =>
    have hk : kT d = false := by simpa using hk
    simp only [hk, Bool.not_false, if_true]
    have : fldB f d = false := by cases d <;> first | rfl | cases hk
    rw [this]
    (first | exact ⟨rfl, trivial⟩ | exact ⟨trivial, trivial⟩ | exact ⟨trivial, rfl⟩ | exact ⟨rfl, rfl⟩ | trivial)
  simp only [hk, Bool.not_true, Bool.false_eq_true, if_false]
  obtain ⟨l, rfl⟩ : ∃ l, d = .tup l := by cases d <;> first | exact ⟨_, rfl⟩ | cases hk
  obtain ⟨hl, hel⟩ := hd.elem
  obtain ⟨kk, hkk⟩ : ∃ kk : Int, (l.length : Int) = kk := ⟨_, rfl⟩
  have hlen : biD .len μ [.tup l] = some (.int kk) := by rw [b_len, hkk]
  solve_by_elim [evV_b_len, hlen]
  by_cases h2 : kk = 2
  case neg =>
    have : (kk == 2) = false := by rw [beq_eq_false_iff_ne]; exact h2
    simp only [this, Bool.not_false, if_true, h2, not_false_eq_true]
    rw [fldB_no (by omega)]
    (first | exact ⟨rfl, trivial⟩ | exact ⟨trivial, trivial⟩ | exact ⟨trivial, rfl⟩ | exact ⟨rfl, rfl⟩ | trivial)
  subst h2
  obtain ⟨w, m, rfl⟩ := tup2 (l := l) (by omega)
  simp only [BEq.rfl, Bool.not_true, Bool.false_eq_true, if_false, not_true_eq_false, hK]
  have hw := hel w (by simp)
  have hm := hel m (by simp)
  have hb : fldB f (.tup [w, m]) = (nameB w && f m) := rfl
  solve_by_elim [evW, name_42 (G := G) (n := n) hF g34 g35 hw]
  cases hnw : nameB w with
  | false =>
    rw [hb, hnw]
    (first | exact ⟨rfl, trivial⟩ | exact ⟨trivial, trivial⟩ | exact ⟨trivial, rfl⟩ | exact ⟨rfl, rfl⟩ | trivial)
  | true =>
    solve_by_elim [evW, hf m hm]
    rw [hb, hnw]
    (first | exact ⟨rfl, trivial⟩ | exact ⟨trivial, trivial⟩ | exact ⟨trivial, rfl⟩ | exact ⟨rfl, rfl⟩ | trivial)
theorem fields_46 (hF : F 42 = some f42) (hF2 : F 45 = some f45) (hF3 : F 46 = some f46) (g34 : G 34 = some (.str az)) (g35 : G 35 = some (.int 8)) (g40 : G 40 = some (.int 8)) {f : D → Bool} {dp : Int} (hf : ∀ x, Tg μ x → run G F (n + 1) 47 [x, .int dp] μ = .ok (.bl (f x)) μ) {d : D} (hd : Tg μ d) :
    run G F (n + 3) 46 [d, .int dp] μ = .ok (.bl (recB f d)) μ := by
  refine wp_to (run_wp hF3 rfl rfl ?_)
  show (exSs G (run G F (n + 2)) b46 [some d, some (.int dp), none] μ).wp _ _ _ _
  unfold b46
  obtain ⟨_, _, _, h4⟩ := hd.kinds
  refine ss_step ?_; intro K hK
  solve_by_elim [evW, h4]
  by_cases hk : kT d = true
  case neg =>
    have hk : kT d = false := by simpa using hk
    simp only [hk, Bool.not_false, if_true]
    have : recB f d = false := by cases d <;> first | rfl | cases hk
    rw [this]
    (first | exact ⟨rfl, trivial⟩ | exact ⟨trivial, trivial⟩ | exact ⟨trivial, rfl⟩ | exact ⟨rfl, rfl⟩ | trivial)
  simp only [hk, Bool.not_true, Bool.false_eq_true, if_false]
  obtain ⟨l, rfl⟩ : ∃ l, d = .tup l := by cases d <;> first | exact ⟨_, rfl⟩ | cases hk
  obtain ⟨hl, hel⟩ := hd.elem
  have hb : recB f (.tup l) = (decide (l.length ≤ 8) && l.all (fldB f) && decide ((l.map headD).map txtOf).Nodup) := rfl
  obtain ⟨kk, hkk⟩ : ∃ kk : Int, (l.length : Int) = kk := ⟨_, rfl⟩
  have hlen : biD .len μ [.tup l] = some (.int kk) := by rw [b_len, hkk]
  solve_by_elim [evV_b_len, hlen, g40]
  by_cases h8 : 8 < kk
  · rw [if_pos h8, hb, decide_eq_false (show ¬ l.length ≤ 8 by omega)]
    (first | exact ⟨rfl, trivial⟩ | exact ⟨trivial, trivial⟩ | exact ⟨trivial, rfl⟩ | exact ⟨rfl, rfl⟩ | trivial)
  rw [if_neg h8]
  simp only [hK]
  refine ss_step ?_; intro K2 hK2
  solve_by_elim [evV_b_len, hlen]
  rw [comp_bools (f := fldB f) (by rw [lim_val]; omega) fun d hd => ?_]
  rotate_left
  · refine wp_to ?_
    solve_by_elim [evW, field_45 (G := G) (n := n) hF hF2 g34 g35 hf (hel d hd)]
  solve_by_elim [evV_b_len, b_alls]
  have hall : (l.map (fldB f)).all id = l.all (fldB f) := by rw [List.all_map]; rfl
  rw [hall]
  cases hal : l.all (fldB f) with
  | false =>
    simp only [Bool.not_false, if_true]
    rw [hb, hal, Bool.and_false]
    (first | exact ⟨rfl, trivial⟩ | exact ⟨trivial, trivial⟩ | exact ⟨trivial, rfl⟩ | exact ⟨rfl, rfl⟩ | trivial)
  | true =>
    simp only [Bool.not_true, Bool.false_eq_true, if_false, hK2]
    have hpair : ∀ x ∈ l, ∃ a b, x = .tup [a, b] ∧ nameB a = true := fun x hx => by
      have := List.all_eq_true.mp hal x hx
      unfold fldB at this
      split at this
      · rename_i a b
        rw [Bool.and_eq_true] at this
        exact ⟨a, b, rfl, this.1⟩
      · cases this
    solve_by_elim [evV_b_len, hlen]
    rw [comp_pure (f := fun d => some (headD d)) _ _ rfl (by rw [List.length_nil, lim_val]; omega) ?_]
    rotate_left
    · intro x hx
      obtain ⟨a, b, rfl, _⟩ := hpair x hx
      refine wp_to ?_
      solve_by_elim [evW]
      exact ⟨rfl, trivial⟩
    have e1 : ([] : List D) ++ l.filterMap (fun d => some (headD d)) = ((l.map headD).map txtOf).map .str := by
      rw [List.nil_append, List.filterMap_eq_map']
      refine names_txt (List.all_eq_true.mpr fun x hx => ?_)
      obtain ⟨y, hy, rfl⟩ := List.mem_map.mp hx
      obtain ⟨a, b, rfl, ha⟩ := hpair y hy
      exact ha
    rw [e1]
    have es := lenset_l (μ := μ) (l := (l.map headD).map txtOf) (by rw [List.length_map, List.length_map]; omega)
    have e2 : ((unlike ((l.map headD).map txtOf) : Int) == kk) = decide ((l.map headD).map txtOf).Nodup := by
      rw [← hkk, ← unlike_eq, List.length_map, List.length_map]
    solve_by_elim [evV_b_len, hlen, es]
    rw [hb, hal, decide_eq_true (show l.length ≤ 8 by omega), ← e2]
    (first | exact ⟨rfl, trivial⟩ | exact ⟨trivial, trivial⟩ | exact ⟨trivial, rfl⟩ | exact ⟨rfl, rfl⟩ | trivial)
theorem baseB_kind {r : D → Bool} {d : D} (h : kT d = false) : baseB r d = false := by
  cases d <;> first | rfl | cases h
theorem form_step (h23 : F 23 = some f23) (h42 : F 42 = some f42) (h43 : F 43 = some f43) (h44 : F 44 = some f44) (h47 : F 47 = some f47) (g34 : G 34 = some (.str az)) (g35 : G 35 = some (.int 8)) (g36 : G 36 = some (.int 240)) (g37 : G 37 = some (.int 6)) (g38 : G 38 = some (.int 20)) (g39 : G 39 = some (.int 4))
    {r : D → Bool} {dp : Int} (hr : 0 < dp → ∀ x, Tg μ x → run G F (n + 3) 46 [x, .int (dp - 1)] μ = .ok (.bl (r x)) μ) {d : D} (hd : Tg μ d) :
    run G F (n + 4) 47 [d, .int dp] μ = .ok (.bl (baseB (if 0 < dp then r else fun _ => false) d)) μ := by
  refine wp_to (run_wp h47 rfl rfl ?_)
  show (exSs G (run G F (n + 3)) b47 [some d, some (.int dp)] μ).wp _ _ _ _
  unfold b47
  obtain ⟨_, _, _, h4⟩ := hd.kinds
  have hp := plain_44 (G := G) (n := n) h23 h42 h43 h44 g34 g35 g36 g37 g38 hd
  refine ss_step ?_; intro K hK
  solve_by_elim [evW, h4]
  by_cases hk : kT d = true
  case neg =>
    have hk : kT d = false := by simpa using hk
    simp only [hk, Bool.not_false, if_true]
    rw [baseB_kind hk]
    (first | exact ⟨rfl, trivial⟩ | exact ⟨trivial, trivial⟩ | exact ⟨trivial, rfl⟩ | exact ⟨rfl, rfl⟩ | trivial)
  simp only [hk, Bool.not_true, Bool.false_eq_true, if_false]
  obtain ⟨l, rfl⟩ : ∃ l, d = .tup l := by cases d <;> first | exact ⟨_, rfl⟩ | cases hk
  obtain ⟨hl, hel⟩ := hd.elem
  obtain ⟨kk, hkk⟩ : ∃ kk : Int, (l.length : Int) = kk := ⟨_, rfl⟩
  have hlen : biD .len μ [.tup l] = some (.int kk) := by rw [b_len, hkk]
  solve_by_elim [evV_b_len, hlen]
  cases l with
  | nil =>
    rw [if_pos (by rw [← hkk]; rfl)]
    (first | exact ⟨rfl, trivial⟩ | exact ⟨trivial, trivial⟩ | exact ⟨trivial, rfl⟩ | exact ⟨rfl, rfl⟩ | trivial)
  | cons w q =>
    rw [List.length_cons] at hkk
    rw [if_neg (by omega)]
    simp only [hK]
    have hw := hel w List.mem_cons_self
    have q1 := hw.eqT wLst
    have q2 := hw.eqT wRcd
    unfold wLst at q1
    unfold wRcd at q2
    have hb : baseB (if 0 < dp then r else fun _ => false) (.tup (w :: q)) = if isW wLst w then lstQ q else if isW wRcd w then recQ (if 0 < dp then r else fun _ => false) q else plainB (.tup (w :: q)) := rfl
    refine ss_step ?_; intro K2 hK2
    solve_by_elim [evV_b_len, q1, hlen]
    by_cases i1 : isW wLst w = true
    · rw [if_pos i1]
      rw [if_pos i1] at hb
      solve_by_elim [evV_b_len, hlen]
      by_cases h3 : kk = 3
      · rw [if_pos h3]
        obtain ⟨p, m, rfl⟩ := tup2 (l := q) (by omega)
        have hp2 := plain_44 (G := G) (n := n) h23 h42 h43 h44 g34 g35 g36 g37 g38 (hel p (by simp))
        have hm := whole_23 (G := G) (n := n + 2) h23 (hel m (by simp)) 1 4
        have hb : baseB (if 0 < dp then r else fun _ => false) (.tup [w, p, m]) = (plainB p && wholeB 1 4 m) := hb
        solve_by_elim [evW, hp2, g39, hm]
        cases hpb : plainB p with
        | false => rw [hb, hpb]; (first | exact ⟨rfl, trivial⟩ | exact ⟨trivial, trivial⟩ | exact ⟨trivial, rfl⟩ | exact ⟨rfl, rfl⟩ | trivial)
        | true => rw [hb, hpb]; (first | exact ⟨rfl, trivial⟩ | exact ⟨trivial, trivial⟩ | exact ⟨trivial, rfl⟩ | exact ⟨rfl, rfl⟩ | trivial)
      · rw [if_neg h3]
        have : lstQ q = false := by
          rcases q with _ | ⟨a, _ | ⟨b, _ | ⟨c, r⟩⟩⟩
          · rfl
          · rfl
          · exact absurd (show kk = 3 by simp only [List.length_cons, List.length_nil] at hkk; omega) h3
          · rfl
        rw [hb, this, show (kk == 3) = false from beq_eq_false_iff_ne.mpr h3]
        (first | exact ⟨rfl, trivial⟩ | exact ⟨trivial, trivial⟩ | exact ⟨trivial, rfl⟩ | exact ⟨rfl, rfl⟩ | trivial)
    rw [if_neg i1]
    rw [if_neg i1] at hb
    simp only [hK2]
    refine ss_step ?_; intro K3 hK3
    solve_by_elim [evV_b_len, q2, hlen]
    by_cases i2 : isW wRcd w = true
    · rw [if_pos i2]
      rw [if_pos i2] at hb
      solve_by_elim [evV_b_len, hlen]
      by_cases h3 : kk = 2
      · rw [if_pos h3]
        obtain ⟨fs, rfl⟩ : ∃ a, q = [a] := by
          rcases q with _ | ⟨a, _ | ⟨b, c⟩⟩
          · simp only [List.length_nil] at hkk; omega
          · exact ⟨a, rfl⟩
          · simp only [List.length_cons] at hkk; omega
        have hb : baseB (if 0 < dp then r else fun _ => false) (.tup [w, fs]) = (if 0 < dp then r else fun _ => false) fs := hb
        solve_by_elim [evW]
        by_cases hdp : 0 < dp
        · rw [if_pos hdp]
          rw [if_pos hdp] at hb
          solve_by_elim [evW, hr hdp fs (hel fs (by simp))]
          rw [if_pos hdp, hb]
          (first | exact ⟨rfl, trivial⟩ | exact ⟨trivial, trivial⟩ | exact ⟨trivial, rfl⟩ | exact ⟨rfl, rfl⟩ | trivial)
        · rw [if_neg hdp]
          rw [hb, if_neg hdp, show decide (0 < dp) = false from decide_eq_false hdp]
          (first | exact ⟨rfl, trivial⟩ | exact ⟨trivial, trivial⟩ | exact ⟨trivial, rfl⟩ | exact ⟨rfl, rfl⟩ | trivial)
      · rw [if_neg h3]
        have : recQ (if 0 < dp then r else fun _ => false) q = false := by
          rcases q with _ | ⟨a, _ | ⟨b, c⟩⟩
          · rfl
          · exact absurd (show kk = 2 by simp only [List.length_cons, List.length_nil] at hkk; omega) h3
          · rfl
        rw [hb, this, show (kk == 2) = false from beq_eq_false_iff_ne.mpr h3]
        (first | exact ⟨rfl, trivial⟩ | exact ⟨trivial, trivial⟩ | exact ⟨trivial, rfl⟩ | exact ⟨rfl, rfl⟩ | trivial)
    rw [if_neg i2]
    rw [if_neg i2] at hb
    simp only [hK3]
    solve_by_elim [evW, hp]
    rw [hb]
    (first | exact ⟨rfl, trivial⟩ | exact ⟨trivial, trivial⟩ | exact ⟨trivial, rfl⟩ | exact ⟨rfl, rfl⟩ | trivial)
theorem form_47 (h23 : F 23 = some f23) (h42 : F 42 = some f42) (h43 : F 43 = some f43) (h44 : F 44 = some f44) (h45 : F 45 = some f45) (h46 : F 46 = some f46) (h47 : F 47 = some f47) (g34 : G 34 = some (.str az)) (g35 : G 35 = some (.int 8)) (g36 : G 36 = some (.int 240)) (g37 : G 37 = some (.int 6)) (g38 : G 38 = some (.int 20)) (g39 : G 39 = some (.int 4)) (g40 : G 40 = some (.int 8)) :
    ∀ (k n : Nat) (dp : Int) (d : D), dp = k → Tg μ d → run G F (n + 4 + 3 * k) 47 [d, .int dp] μ = .ok (.bl (formB k d)) μ := by
  intro k
  induction k with
  | zero =>
    intro n dp d hk hd
    have := form_step (G := G) (n := n) (r := fun _ => false) (dp := dp) h23 h42 h43 h44 h47 g34 g35 g36 g37 g38 g39 (fun h => absurd h (by omega)) hd
    rw [if_neg (by omega)] at this
    exact this
  | succ k ih =>
    intro n dp d hk hd
    have hf : 0 < dp → ∀ x, Tg μ x → run G F (n + 3 * k + 3 + 3) 46 [x, .int (dp - 1)] μ = .ok (.bl (recB (formB k) x)) μ := fun _ x hx =>
      fields_46 (n := n + 3 * k + 3) h42 h45 h46 g34 g35 g40 (fun y hy => by
        have := ih n (dp - 1) y (by omega) hy
        rw [show n + 4 + 3 * k = n + 3 * k + 3 + 1 from by omega] at this
        exact this) hx
    have := form_step (n := n + 3 * k + 3) h23 h42 h43 h44 h47 g34 g35 g36 g37 g38 g39 hf hd
    rw [if_pos (by omega)] at this
    rw [show n + 4 + 3 * (k + 1) = n + 3 * k + 3 + 4 from by omega]
    exact this
theorem form_48 (h23 : F 23 = some f23) (h42 : F 42 = some f42) (h43 : F 43 = some f43) (h44 : F 44 = some f44) (h45 : F 45 = some f45) (h46 : F 46 = some f46) (h47 : F 47 = some f47) (h48 : F 48 = some f48) (g34 : G 34 = some (.str az)) (g35 : G 35 = some (.int 8)) (g36 : G 36 = some (.int 240)) (g37 : G 37 = some (.int 6)) (g38 : G 38 = some (.int 20)) (g39 : G 39 = some (.int 4)) (g40 : G 40 = some (.int 8)) (g41 : G 41 = some (.int 3)) {d : D} (hd : Tg μ d) :
    run G F (n + 14) 48 [d] μ = .ok (.bl (formB 3 d)) μ := by
  refine wp_to (run_wp (n := n + 13) h48 rfl rfl ?_)
  show (exSs G (run G F (n + 13)) b48 [some d] μ).wp _ _ _ _
  unfold b48
  have := form_47 (G := G) h23 h42 h43 h44 h45 h46 h47 g34 g35 g36 g37 g38 g39 g40 3 n 3 d rfl hd
  solve_by_elim [evW, g41, this]
end

/-! texts read sign by sign -/
def sgC (T : Txt) (i : Int) : Cell := .obj 65 [(63, .str T), (62, .int i)]
theorem cut_ij {α : Type} (l : List α) {i j : Int} (h0 : 0 ≤ i) (h1 : i ≤ j) : cutL l (some i) (some j) = (l.drop i.toNat).take (j.toNat - i.toNat) := by
  unfold cutL cutZ
  dsimp only
  rw [if_neg (by omega), if_neg (by omega)]
  by_cases hi : i.toNat ≤ l.length
  · rw [Nat.min_eq_left hi]
    by_cases hj : j.toNat ≤ l.length
    · rw [Nat.min_eq_left hj]
    · rw [Nat.min_eq_right (by omega)]
      rw [List.take_of_length_le (by rw [List.length_drop]; omega), List.take_of_length_le (by rw [List.length_drop]; omega)]
  · rw [Nat.min_eq_right (show l.length ≤ i.toNat by omega), Nat.min_eq_right (show l.length ≤ j.toNat by omega), List.drop_of_length_le (show l.length ≤ i.toNat by omega)]
    simp
theorem sl_ij {μ : Mu} {T : Txt} {i j : Int} (h0 : 0 ≤ i) (h1 : i ≤ j) (hl : T.length ≤ 100000) : slcD μ (.str T) (some i) (some j) = some (.str ((T.drop i.toNat).take (j.toNat - i.toNat))) := by
  show (if T.length ≤ lim then some (D.str (cutL T (some i) (some j))) else none) = _
  rw [if_pos (by rw [lim_val]; omega), cut_ij T h0 h1]
theorem len_str' {μ : Mu} {s : Txt} (h : s.length ≤ 100000) : biD .len μ [.str s] = some (.int s.length) := by
  show ((if s.length ≤ lim then some (s.length : Int) else none).map D.int) = _
  rw [if_pos (by rw [lim_val]; omega)]
  rfl
section
variable {μ : Mu} {o : Nat} {T : Txt} {i j : Int}
theorem objAt_loc {c : Nat} {fs : List (Nat × D)} (h : μ[o]? = some (.obj c fs)) : objAt μ c (.loc o) = some (o, fs) := by
  show (match μ[o]? with | some (.obj c' fs) => if c' = c then some (o, fs) else none | _ => none) = _
  rw [h]
  exact if_pos rfl
theorem sg_text (h : μ[o]? = some (sgC T i)) : fldD μ 65 63 (.loc o) = some (.str T) := by
  unfold fldD
  rw [objAt_loc h]
  rfl
theorem sg_at (h : μ[o]? = some (sgC T i)) : fldD μ 65 62 (.loc o) = some (.int i) := by
  unfold fldD
  rw [objAt_loc h]
  rfl
theorem sg_is (h : μ[o]? = some (sgC T i)) : (objAt μ 65 (.loc o)).isSome = true := by
  rw [objAt_loc h]
  rfl
theorem sg_set (h : μ[o]? = some (sgC T i)) : setFd μ 65 62 (.loc o) (.int j) = some (μ.set o (sgC T j)) := by
  unfold setFd
  rw [objAt_loc h]
  rfl
theorem o_i2 {i j : Int} : (i2 (.int i) (.int j) fun i j => some (D.int (i + j))) = some (.int (i + j)) := rfl
end
section
variable {G : Nat → Option D} {F : Nat → Option Fn} {n : Nat} {μ : Mu} {o : Nat} {T : Txt} {i : Int}
theorem init_ok (h74 : F 74 = some f74) (h : μ[o]? = some (.obj 65 [])) : run G F (n + 1) 74 [.loc o, .str T] μ = .ok .non (μ.set o (sgC T 0)) := by
  refine wp_to (run_wp h74 rfl rfl ?_)
  show (exSs G (run G F n) b74 [some (.loc o), some (.str T)] μ).wp _ _ _ _
  unfold b74
  refine ss_step ?_; intro K hK; solve_by_elim [evW]
  (try simp only [hK])
  have e1 : setFd μ 65 63 (.loc o) (.str T) = some (μ.set o (.obj 65 [(63, .str T)])) := by
    unfold setFd
    rw [objAt_loc h]
    rfl
  have e2 : setFd (μ.set o (.obj 65 [(63, .str T)])) 65 62 (.loc o) (.int 0) = some (μ.set o (sgC T 0)) := by
    unfold setFd
    rw [objAt_loc (set_get h)]
    show some ((μ.set o _).set o _) = _
    rw [set_set]
    rfl
  solve_by_elim [evW, k_ss, e1, e2]
  try (first | exact ⟨rfl, trivial⟩ | exact ⟨trivial, trivial⟩ | exact ⟨trivial, rfl⟩ | exact ⟨rfl, rfl⟩ | trivial)
theorem starts_ok (h75 : F 75 = some f75) (h : μ[o]? = some (sgC T i)) (h0 : 0 ≤ i) (hT : T.length ≤ 100000) (s : Txt) (hs : s.length ≤ 100) : run G F (n + 1) 75 [.loc o, .str s] μ = .ok (.bl (decide ((T.drop i.toNat).take s.length = s))) μ := by
  refine wp_to (run_wp h75 rfl rfl ?_)
  show (exSs G (run G F n) b75 [some (.loc o), some (.str s)] μ).wp _ _ _ _
  unfold b75
  obtain ⟨kk, hkk⟩ : ∃ kk : Int, (s.length : Int) = kk := ⟨_, rfl⟩
  have hlen := fun μ => len_str' (μ := μ) (s := s) (by omega)
  rw [hkk] at hlen
  have hsl := fun μ => sl_ij (μ := μ) (T := T) (i := i) (j := i + kk) h0 (by omega) hT
  rw [show (i + kk).toNat - i.toNat = s.length by omega] at hsl
  solve_by_elim [evV_b_len, sg_text h, sg_at h, hlen, hsl]
  try (first | exact ⟨rfl, trivial⟩ | exact ⟨trivial, trivial⟩ | exact ⟨trivial, rfl⟩ | exact ⟨rfl, rfl⟩ | trivial)
theorem past_ok (h75 : F 75 = some f75) (h76 : F 76 = some f76) (h : μ[o]? = some (sgC T i)) (h0 : 0 ≤ i) (hT : T.length ≤ 100000) (s : Txt) (hs : s.length ≤ 100) {r : Txt} (hr : T.drop i.toNat = s ++ r) :
    run G F (n + 2) 76 [.loc o, .str s] μ = .ok .non (μ.set o (sgC T (i + s.length))) := by
  refine wp_to (run_wp h76 rfl rfl ?_)
  show (exSs G (run G F (n + 1)) b76 [some (.loc o), some (.str s)] μ).wp _ _ _ _
  unfold b76
  have hst := starts_ok (G := G) (n := n) h75 h h0 hT s hs
  rw [hr, List.take_left, decide_eq_true rfl] at hst
  obtain ⟨kk, hkk⟩ : ∃ kk : Int, (s.length : Int) = kk := ⟨_, rfl⟩
  have hlen := fun μ => len_str' (μ := μ) (s := s) (by omega)
  rw [hkk] at hlen ⊢
  refine ss_step ?_; intro K hK
  solve_by_elim [evW, sg_is h, hst]
  simp only [hK]
  solve_by_elim [evV_b_len, sg_text h, sg_at h, hlen, o_i2, sg_set h]
  try (first | exact ⟨rfl, trivial⟩ | exact ⟨trivial, trivial⟩ | exact ⟨trivial, rfl⟩ | exact ⟨rfl, rfl⟩ | trivial)
theorem end_ok (h81 : F 81 = some f81) (h : μ[o]? = some (sgC T i)) (hi : i = T.length) (hT : T.length ≤ 100000) : run G F (n + 1) 81 [.loc o] μ = .ok .non μ := by
  refine wp_to (run_wp h81 rfl rfl ?_)
  show (exSs G (run G F n) b81 [some (.loc o)] μ).wp _ _ _ _
  unfold b81
  have hlen := fun μ => len_str' (μ := μ) (s := T) hT
  rw [← hi] at hlen
  solve_by_elim [evV_b_len, sg_text h, sg_at h, hlen, beq_self_eq_true]
  try (first | exact ⟨rfl, trivial⟩ | exact ⟨trivial, trivial⟩ | exact ⟨trivial, rfl⟩ | exact ⟨rfl, rfl⟩ | trivial)
theorem idx_T {μ : Mu} {j : Int} {c : Nat} (h0 : 0 ≤ j) (hT : T.length ≤ 100000) (h : T[j.toNat]? = some c) : idxD μ (.str T) (.int j) = some (.str [c]) := by
  have e : ((j.toNat : Nat) : Int) = j := by omega
  rw [← e]
  exact idx_str h (by rw [lim_val]; omega)
theorem in_T {μ : Mu} {c : Nat} {t : Txt} : inD μ (.str [c]) (.str t) = some (t.contains c) := rfl
/-- the longest text of some signs -/
theorem of_ok (h77 : F 77 = some f77) (h : μ[o]? = some (sgC T i)) (h0 : 0 ≤ i) (hT : T.length ≤ 100000) {cs a b : Txt} (hab : T.drop i.toNat = a ++ b) (ha : a ≠ []) (hac : ∀ c ∈ a, cs.contains c = true) (hb : ∀ c r, b = c :: r → cs.contains c = false) :
    run G F (n + 1) 77 [.loc o, .str cs] μ = .ok (.str a) (μ.set o (sgC T (i + a.length))) := by
  refine wp_to (run_wp h77 rfl rfl ?_)
  show (exSs G (run G F n) b77 [some (.loc o), some (.str cs), none] μ).wp _ _ _ _
  unfold b77
  obtain ⟨kk, hkk⟩ : ∃ kk : Int, (T.length : Int) = kk := ⟨_, rfl⟩
  have hlen := fun μ => len_str' (μ := μ) (s := T) hT
  rw [hkk] at hlen
  have htl : i.toNat + a.length + b.length = T.length := by
    have := congrArg List.length hab
    rw [List.length_drop, List.length_append] at this
    have : 0 < a.length := List.length_pos_iff.mpr ha
    omega
  have hget : ∀ k : Nat, T[i.toNat + k]? = (a ++ b)[k]? := fun k => by rw [← hab, List.getElem?_drop]
  refine ss_step ?_; intro K hK
  solve_by_elim [evW, sg_at h]
  simp only [hK]
  refine ss_step ?_; intro K2 hK2
  solve_by_elim [evW]
  refine while_wp (fun m ρ μ' => ∃ k : Nat, m + k = a.length ∧ μ' = μ.set o (sgC T (i + k)) ∧ ρ = [some (.loc o), some (.str cs), some (.int i)]) ?_ a.length manyTurns _ _ (by rw [show manyTurns = 1000000000 from rfl]; omega) ⟨0, rfl, by
    have : i + ((0 : Nat) : Int) = i := by omega
    rw [this, set_id h], rfl⟩
  · rintro m ρ μ' ⟨k, hk, rfl, rfl⟩
    have hg : (μ.set o (sgC T (i + k)))[o]? = some (sgC T (i + k)) := set_get h
    obtain ⟨j, hj⟩ : ∃ j : Int, i + (k : Int) = j := ⟨_, rfl⟩
    rw [hj] at hg ⊢
    have hjn : j.toNat = i.toNat + k := by omega
    solve_by_elim [evV_b_len, sg_at hg, sg_text hg, hlen]
    by_cases hjk : j < kk
    · rw [if_pos hjk]
      obtain ⟨c, hc⟩ : ∃ c, T[j.toNat]? = some c := ⟨_, List.getElem?_eq_getElem (by omega)⟩
      have hidx := fun μ => idx_T (μ := μ) (by omega : 0 ≤ j) hT hc
      rw [hjn, hget] at hc
      solve_by_elim [evV_b_len, hidx, in_T]
      by_cases hka : k < a.length
      · rw [List.getElem?_append_left hka] at hc
        rw [hac c (List.mem_of_getElem? hc), if_pos rfl]
        obtain ⟨m', rfl⟩ : ∃ m', m = m' + 1 := ⟨m - 1, by omega⟩
        refine ⟨m', rfl, ?_⟩
        solve_by_elim [evV_b_len, sg_at hg, o_i2, sg_set hg, set_set]
        refine ⟨k + 1, by omega, ?_, by trivial⟩
        have : i + ((k + 1 : Nat) : Int) = j + 1 := by omega
        rw [this]
      · have hka : k = a.length := by omega
        rw [List.getElem?_append_right (by omega), hka, Nat.sub_self] at hc
        cases b with
        | nil => cases hc
        | cons d r =>
          cases hc
          rw [hb _ _ rfl, if_neg (by simp)]
          simp only [hK2]
          have e2 : j = i + (a.length : Int) := by omega
          have hne : (j == i) = false := by
            rw [beq_eq_false_iff_ne]
            have : 0 < a.length := List.length_pos_iff.mpr ha
            omega
          have hsl := fun μ => sl_ij (μ := μ) (T := T) (i := i) (j := j) h0 (by omega) hT
          rw [show j.toNat - i.toNat = a.length by omega, hab, List.take_left] at hsl
          refine ss_step ?_; intro K3 hK3
          solve_by_elim [evW, sg_at hg, hne]
          simp only [hK3]
          solve_by_elim [evW, sg_at hg, sg_text hg, hsl]
          rw [e2]
          try (first | exact ⟨rfl, trivial⟩ | exact ⟨trivial, trivial⟩ | exact ⟨trivial, rfl⟩ | exact ⟨rfl, rfl⟩ | trivial)
    · rw [if_neg hjk]
      have hka : k = a.length := by omega
      (try simp only [Bool.false_eq_true, if_false])
      simp only [hK2]
      have e2 : j = i + (a.length : Int) := by omega
      have hne : (j == i) = false := by
        rw [beq_eq_false_iff_ne]
        have : 0 < a.length := List.length_pos_iff.mpr ha
        omega
      have hsl := fun μ => sl_ij (μ := μ) (T := T) (i := i) (j := j) h0 (by omega) hT
      rw [show j.toNat - i.toNat = a.length by omega, hab, List.take_left] at hsl
      refine ss_step ?_; intro K3 hK3
      solve_by_elim [evW, sg_at hg, hne]
      simp only [hK3]
      solve_by_elim [evW, sg_at hg, sg_text hg, hsl]
      rw [e2]
      try (first | exact ⟨rfl, trivial⟩ | exact ⟨trivial, trivial⟩ | exact ⟨trivial, rfl⟩ | exact ⟨rfl, rfl⟩ | trivial)
end

local macro_rules | `(tactic| solve_by_elim [evV_b_int, $[$xs:term],*]) => `(tactic| (try simp only [ss_n, ss_c, s_e, s_r, s_rN, s_a, s_i, s_x, s_p, s_b, s_c, s_f, s_w, v_var, v_con, v_glo, v_bin, v_neg, v_cmp, v_cmp2, v_and, v_or, v_not, v_ite, v_tup, v_lstT, v_lstF, v_cat, v_idx, v_lrep, v_slc, v_call, v_bi, v_me, v_comp, turnC_wp, c_n, c_s, es_n, es_c, eo_n, eo_s, t_var, t_con, t_cm, t_cm2, t_an, t_or', t_no, t_bi, t_call, t_idx, v_dictP, v_dictL, v_mlst, v_zipL, v_fnv, v_tget, v_callv, fnAt_fn, v_callL, cap_n, cap_c, s_sl, t_callv, v_new, v_fld, v_meth, s_sf, s_af, t_fld, t_meth, put_nm, put_tp, putL_n, putL_c, Option.bind_some, ofo_some, ofo_none, ofoE_some, ofoE_none, ofo_ite, ofo_map, ofo_bind, o_add, o_adds, o_addt, o_addl, o_sub, o_mul, o_muls, o_mult, l_rep, c_is, c_nis, is_bl, o_fdiv, o_mod, c_lt, c_le, c_gt, c_ge, c_eq, c_ne, c_in, c_nin, q_int, q_strd, tr_bl, x_tup, x_lst, intOf_int, b_isin, k_ii, k_bi, k_si, k_ss, k_is, k_tt, k_ti, k_ts, o_pow, i_r1, i_r2, i_tup, i_lst, i_en, b_len, b_lenl, b_tup, tup_lst, b_lst, b_inti, b_trg, b_lrg, b_min, atZ0, atZ1, atZ2, ixZ0, ixZ1, ixZ2, List.length_set, wp_ok, List.getElem?_cons_zero, List.getElem?_cons_succ, List.set_cons_zero, List.set_cons_succ, wipeR, List.length_cons, List.length_nil, List.map_cons, List.map_nil, List.replicate_succ, List.replicate_zero, List.cons_append, List.nil_append, decide_eq_true_eq, beq_iff_eq, Bool.not_eq_true', Bool.true_eq_false, and_self, Nat.zero_le, lim1, lim2, lim3, lim4, lim5, decide_true, decide_false, Bool.not_true, Bool.not_false, ite_true, ite_false, if_true, if_false, Bool.false_eq_true, $[$xs:term],*]))
/-! numbers, names and pieces read -/
abbrev figs : Txt := [48, 49, 50, 51, 52, 53, 54, 55, 56, 57]
theorem num_tab : ∀ k < 260, (numT k ≠ [] ∧ (numT k).length ≤ 3 ∧ (∀ c ∈ numT k, figs.contains c = true) ∧ digB (numT k) = true ∧ digV (numT k) = k) := by decide +kernel
theorem int_num {k : Nat} (hk : k < 260) {μ : Mu} : biD .int μ [.str (numT k)] = some (.int k) := by
  obtain ⟨h1, h2, h3, h4, h5⟩ := num_tab k hk
  show (if digB (numT k) = true ∧ numT k ≠ [] ∧ (numT k).length ≤ 640 then some (D.int (digV (numT k))) else none) = _
  rw [if_pos ⟨h4, h1, by omega⟩, h5]
theorem str_num {k : Nat} (hk : k < 260) {μ : Mu} : biD .str μ [.int k] = some (.str (numT k)) := by
  show (if 0 ≤ (k : Int) ∧ (k : Int).natAbs.log2 < 1920 then some (D.str (numT (k : Int).toNat)) else none) = _
  rw [if_pos ⟨by omega, log_le (k := 1920) (by
    have : (k : Int).natAbs < 2 ^ 9 := by omega
    exact Nat.lt_of_lt_of_le this (Nat.pow_le_pow_right (by decide) (by decide))) (by decide)⟩, Int.toNat_natCast]
/-- nothing of some signs begins here -/
def nob (cs : Txt) (r : Txt) : Prop := ∀ c r', r = c :: r' → cs.contains c = false
theorem nob_nil {cs : Txt} : nob cs [] := fun _ _ e => by cases e
theorem nob_cons {cs : Txt} {c : Nat} {r : Txt} (h : cs.contains c = false) : nob cs (c :: r) := fun _ _ e => by cases e; exact h
theorem nm_az {s : Txt} (h : Nm s) : ∀ c ∈ s, az.contains c = true := fun c hc => by
  have := h.sgn c hc
  obtain ⟨k, rfl⟩ : ∃ k, c = 97 + k := ⟨c - 97, by omega⟩
  have hk : k < 26 := by omega
  have : ∀ k < 26, az.contains (97 + k) = true := by decide
  exact this k hk
theorem nm_ne {s : Txt} (h : Nm s) : s ≠ [] := fun e => by
  obtain ⟨b, k, h1, _⟩ := h.ex
  rw [e] at h1
  have := congrArg List.length h1
  rw [List.length_append] at this
  simp at this
section
variable {G : Nat → Option D} {F : Nat → Option Fn} {n : Nat} {μ : Mu} {o : Nat} {T : Txt} {i : Int}
theorem whole_78 (h77 : F 77 = some f77) (h78 : F 78 = some f78) (g60 : G 60 = some (.str figs)) (g61 : G 61 = some (.int 9)) (h : μ[o]? = some (sgC T i)) (h0 : 0 ≤ i) (hT : T.length ≤ 100000) {k : Nat} (hk : k < 260) {r : Txt} (hr : T.drop i.toNat = numT k ++ r) (hn : nob figs r) :
    run G F (n + 2) 78 [.loc o] μ = .ok (.int k) (μ.set o (sgC T (i + (numT k).length))) := by
  refine wp_to (run_wp h78 rfl rfl ?_)
  show (exSs G (run G F (n + 1)) b78 [some (.loc o), none] μ).wp _ _ _ _
  unfold b78
  obtain ⟨h1, h2, h3, h4, h5⟩ := num_tab k hk
  have hof := of_ok (G := G) (F := F) (n := n) h77 h h0 hT hr h1 h3 hn
  obtain ⟨kk, hkk⟩ : ∃ kk : Int, ((numT k).length : Int) = kk := ⟨_, rfl⟩
  have hlen := fun μ => len_str' (μ := μ) (s := numT k) (by omega)
  rw [hkk] at hlen hof ⊢
  have hle : (9 < kk) = False := eq_false (by omega)
  refine ss_step ?_; intro K hK
  solve_by_elim [evW, sg_is h, g60, hof]
  simp only [hK]
  refine ss_step ?_; intro K2 hK2
  solve_by_elim [evV_b_len, hlen, g61, hle]
  simp only [hK2]
  solve_by_elim [evV_b_int, int_num hk]
  try (first | exact ⟨rfl, trivial⟩ | exact ⟨trivial, trivial⟩ | exact ⟨trivial, rfl⟩ | exact ⟨rfl, rfl⟩ | trivial)
theorem name_79 (h77 : F 77 = some f77) (h79 : F 79 = some f79) (g34 : G 34 = some (.str az)) (h : μ[o]? = some (sgC T i)) (h0 : 0 ≤ i) (hT : T.length ≤ 100000) {s : Txt} (hs : Nm s) {r : Txt} (hr : T.drop i.toNat = s ++ r) (hn : nob az r) :
    run G F (n + 2) 79 [.loc o] μ = .ok (.str s) (μ.set o (sgC T (i + s.length))) := by
  refine wp_to (run_wp h79 rfl rfl ?_)
  show (exSs G (run G F (n + 1)) b79 [some (.loc o)] μ).wp _ _ _ _
  unfold b79
  have hof := of_ok (G := G) (F := F) (n := n) h77 h h0 hT hr (nm_ne hs) (nm_az hs) hn
  solve_by_elim [evW, sg_is h, g34, hof]
  try (first | exact ⟨rfl, trivial⟩ | exact ⟨trivial, trivial⟩ | exact ⟨trivial, rfl⟩ | exact ⟨rfl, rfl⟩ | trivial)
theorem some_80 (h80 : F 80 = some f80) (h : μ[o]? = some (sgC T i)) (h0 : 0 ≤ i) (hT : T.length ≤ 100000) {s : Txt} {r : Txt} (hr : T.drop i.toNat = s ++ r) (hi : i ≤ T.length) :
    run G F (n + 1) 80 [.loc o, .int s.length] μ = .ok (.str s) (μ.set o (sgC T (i + s.length))) := by
  refine wp_to (run_wp h80 rfl rfl ?_)
  obtain ⟨tt, htt⟩ : ∃ tt : Int, (T.length : Int) = tt := ⟨_, rfl⟩
  have hl : i.toNat + s.length ≤ T.length := by
    have := congrArg List.length hr
    rw [List.length_drop, List.length_append] at this
    omega
  obtain ⟨kk, hkk⟩ : ∃ kk : Int, (s.length : Int) = kk := ⟨_, rfl⟩
  have hsl := fun μ => sl_ij (μ := μ) (T := T) (i := i) (j := i + kk) h0 (by omega) hT
  rw [show (i + kk).toNat - i.toNat = s.length by omega, hr, List.take_left] at hsl
  have hle : (tt < i + kk) = False := eq_false (by omega)
  have hlen := fun μ => len_str' (μ := μ) (s := T) (by omega)
  rw [htt] at hlen
  rw [hkk]
  show (exSs G (run G F n) b80 [some (.loc o), some (.int kk)] μ).wp _ _ _ _
  unfold b80
  have hg : (μ.set o (sgC T (i + kk)))[o]? = some (sgC T (i + kk)) := set_get h
  refine ss_step ?_; intro K hK
  solve_by_elim [evV_b_len, sg_text h, sg_at h, hlen, hle]
  simp only [hK]
  refine ss_step ?_; intro K2 hK2
  solve_by_elim [evW, sg_at h, o_i2, sg_set h]
  simp only [hK2]
  have e : i + kk - kk = i := by omega
  solve_by_elim [evW, sg_text hg, sg_at hg, e, hsl]
  try (first | exact ⟨rfl, trivial⟩ | exact ⟨trivial, trivial⟩ | exact ⟨trivial, rfl⟩ | exact ⟨rfl, rfl⟩ | trivial)
end

/-! texts with blanks between -/
def jn (p : Txt) : Bool → List Txt → Txt
  | _, [] => []
  | true, t :: ts => t ++ jn p false ts
  | false, t :: ts => p ++ (t ++ jn p false ts)
theorem joinT_jn (p : Txt) : ∀ ts : List Txt, joinT p ts = jn p true ts
  | [] => rfl
  | [t] => by show t = t ++ []; rw [List.append_nil]
  | t :: u :: r => by
    have := joinT_jn p (u :: r)
    show t ++ (p ++ joinT p (u :: r)) = t ++ (p ++ (u ++ jn p false r))
    rw [this]; rfl
theorem jn_len (p : Txt) {L : Nat} : ∀ (b : Bool) (ts : List Txt), (∀ t ∈ ts, t.length ≤ L) → (jn p b ts).length ≤ ts.length * (L + p.length)
  | b, [], _ => by cases b <;> exact Nat.zero_le _
  | b, t :: ts, h => by
    have h1 := jn_len p false ts fun t ht => h t (List.mem_cons_of_mem _ ht)
    have h2 := h t (List.mem_cons_self ..)
    rw [List.length_cons, Nat.succ_mul]
    cases b
    · show (p ++ (t ++ jn p false ts)).length ≤ _
      rw [List.length_append, List.length_append]
      omega
    · show (t ++ jn p false ts).length ≤ _
      rw [List.length_append]
      omega
theorem sum_le {L : Nat} : ∀ ts : List Txt, (∀ t ∈ ts, t.length ≤ L) → (ts.map List.length).sum ≤ ts.length * L
  | [], _ => Nat.zero_le _
  | t :: ts, h => by
    have h1 := sum_le ts fun t ht => h t (List.mem_cons_of_mem _ ht)
    have h2 := h t (List.mem_cons_self ..)
    rw [List.map_cons, List.sum_cons, List.length_cons, Nat.succ_mul]
    omega
theorem jn_step (p : Txt) {ts : List Txt} {k : Nat} {t : Txt} (h : ts[k]? = some t) : jn p (k == 0) (ts.drop k) = (if k = 0 then [] else p) ++ (t ++ jn p false (ts.drop (k + 1))) := by
  obtain ⟨hk, e⟩ := List.getElem?_eq_some_iff.mp h
  rw [List.drop_eq_getElem_cons hk, e]
  cases k with
  | zero => rfl
  | succ k => rfl
theorem drop_add {T u v : Txt} {i : Int} (h0 : 0 ≤ i) (h : T.drop i.toNat = u ++ v) : T.drop (i + u.length).toNat = v := by
  have e : (i + (u.length : Int)).toNat = i.toNat + u.length := by omega
  rw [e, ← List.drop_drop, h, List.drop_left]
theorem drop_le {T u : Txt} {i : Int} {c : Nat} (h0 : 0 ≤ i) (h : T.drop i.toNat = c :: u) : i + 1 + u.length = T.length := by
  have := congrArg List.length h
  rw [List.length_drop, List.length_cons] at this
  omega
theorem m_joinT {μ : Mu} {p : Txt} {a : D} {ss : List Txt} {L : Nat} (h : seqOf μ a = some (ss.map D.str)) (hL : ∀ t ∈ ss, t.length ≤ L) (hl : ss.length * (L + p.length) ≤ 10000000) : meD .join μ (.str p) [a] = .ok (.str (jn p true ss)) μ := by
  have h1 := sum_le ss hL
  have h2 : ss.length * (L + p.length) = ss.length * L + ss.length * p.length := Nat.mul_add ..
  rw [m_join h (by rw [lim_val]; omega), joinT_jn]
theorem i_zipt {μ : Mu} {l r : List D} : itemsD .zip2 μ [.tup l, .tup r] = some ((l.zip r).map fun p => .tup [p.1, p.2], []) := rfl
theorem zip_get {α β : Type} {l : List α} {r : List β} {q : α × β} (h : q ∈ l.zip r) : ∃ i : Nat, l[i]? = some q.1 ∧ r[i]? = some q.2 := by
  obtain ⟨i, hi⟩ := List.mem_iff_getElem?.mp h
  exact ⟨i, (List.getElem?_zip_eq_some.mp hi).1, (List.getElem?_zip_eq_some.mp hi).2⟩
theorem drop_le' {T u v : Txt} {i : Int} (h0 : 0 ≤ i) (h : T.drop i.toNat = u ++ v) (hu : u ≠ []) : i + u.length + v.length = T.length := by
  cases u with
  | nil => exact absurd rfl hu
  | cons c u =>
    have := drop_le (u := u ++ v) h0 h
    rw [List.length_append] at this
    rw [List.length_cons]
    omega

/-! numbers, texts and rows of these alone -/
mutual
def pur : D → Bool
  | .int _ => true
  | .str _ => true
  | .tup l => purL l
  | _ => false
def purL : List D → Bool
  | [] => true
  | d :: ds => pur d && purL ds
end
theorem purL_all : ∀ l : List D, purL l = true ↔ ∀ d ∈ l, pur d = true
  | [] => by simp [purL]
  | d :: ds => by
    unfold purL
    rw [Bool.and_eq_true, purL_all ds]
    simp
mutual
theorem pur_eqv : ∀ a b : D, pur a = true → pur b = true → a.eqv b = D.beq a b
  | .int a, b, _, hb => by cases b <;> first | rfl | cases hb
  | .str a, b, _, hb => by cases b <;> first | rfl | cases hb
  | .tup a, b, ha, hb => by
    cases b with
    | tup b => exact purL_eqv a b ha hb
    | _ => first | rfl | cases hb
  | .non, _, ha, _ => by cases ha
  | .bl _, _, ha, _ => by cases ha
  | .lst _, _, ha, _ => by cases ha
  | .loc _, _, ha, _ => by cases ha
  | .fn _ _, _, ha, _ => by cases ha
theorem purL_eqv : ∀ a b : List D, purL a = true → purL b = true → D.eqvL a b = D.beqL a b
  | [], b, _, _ => by cases b <;> rfl
  | a :: as, b, ha, hb => by
    cases b with
    | nil => rfl
    | cons b bs =>
      unfold purL at ha hb
      rw [Bool.and_eq_true] at ha hb
      unfold D.eqvL D.beqL
      rw [pur_eqv a b ha.1 hb.1, purL_eqv as bs ha.2 hb.2]
end
theorem pur_dec {a b : D} (ha : pur a = true) (hb : pur b = true) : a.eqv b = decide (a = b) := by
  rw [pur_eqv a b ha hb]
  by_cases h : a = b
  · rw [decide_eq_true h, h]; exact D.beq_refl b
  · rw [decide_eq_false h]
    cases e : D.beq a b with
    | true => exact absurd (D.eq_of _ _ e) h
    | false => rfl
mutual
theorem pur_flat : ∀ a : D, pur a = true → a.flat = true
  | .int a, _ => rfl
  | .str a, _ => rfl
  | .tup a, h => purL_flat a h
  | .non, ha => by cases ha
  | .bl _, ha => by cases ha
  | .lst _, ha => by cases ha
  | .loc _, ha => by cases ha
  | .fn _ _, ha => by cases ha
theorem purL_flat : ∀ a : List D, purL a = true → D.flatL a = true
  | [], _ => rfl
  | a :: as, h => by
    unfold purL at h
    rw [Bool.and_eq_true] at h
    unfold D.flatL
    rw [pur_flat a h.1, purL_flat as h.2]
    rfl
end
theorem pur_eq {a b : D} {μ : Mu} (ha : pur a = true) (hb : pur b = true) (hd : b.depth ≤ 64) : eqD μ a b = some (decide (a = b)) := by
  rw [eq_flat (pur_flat a ha) (pur_flat b hb) hd, pur_dec ha hb]
theorem blne {μ : Mu} {a b : Bool} : cmpD .ne μ (.bl a) (.bl b) = some (a != b) := by
  cases a <;> cases b <;> rfl
theorem bleq {μ : Mu} {a b : Bool} : eqD μ (.bl a) (.bl b) = some (a == b) := by
  cases a <;> cases b <;> rfl
section
variable {G : Nat → Option D} {F : Nat → Option Fn}
/-- _law_same of a thing and itself -/
theorem same_72 (h72 : F 72 = some f72) : ∀ (m : Nat) (d : D), pur d = true → sml d = true → d.depth ≤ m → ∀ n μ, run G F (n + 1 + m) 72 [d, d] μ = .ok (.bl true) μ := by
  intro m
  induction m with
  | zero =>
    intro d hd hs hdp n μ
    refine wp_to (run_wp (n := n) h72 rfl rfl ?_)
    show (exSs G (run G F n) b72 [some d, some d, none, none] μ).wp _ _ _ _
    unfold b72
    cases d with
    | int i =>
      solve_by_elim [evW, show kindIs μ .tuple (.int i) = some false from rfl, show kindIs μ .str (.int i) = some false from rfl, k_ii, k_bi, beq_self_eq_true]
      try (first | exact ⟨rfl, trivial⟩ | exact ⟨trivial, trivial⟩ | exact ⟨trivial, rfl⟩ | exact ⟨rfl, rfl⟩ | trivial)
    | str s =>
      solve_by_elim [evW, show kindIs μ .tuple (.str s) = some false from rfl, k_ss]
      try (first | exact ⟨rfl, trivial⟩ | exact ⟨trivial, trivial⟩ | exact ⟨trivial, rfl⟩ | exact ⟨rfl, rfl⟩ | trivial)
    | tup l => exact absurd hdp (by show ¬ D.depthL l + 1 ≤ 0; omega)
    | _ => cases hd
  | succ m ih =>
    intro d hd hs hdp n μ
    refine wp_to (run_wp (n := n + 1 + m) h72 rfl rfl ?_)
    show (exSs G (run G F (n + 1 + m)) b72 [some d, some d, none, none] μ).wp _ _ _ _
    unfold b72
    cases d with
    | int i =>
      solve_by_elim [evW, show kindIs μ .tuple (.int i) = some false from rfl, show kindIs μ .str (.int i) = some false from rfl, k_ii, k_bi, beq_self_eq_true]
      try (first | exact ⟨rfl, trivial⟩ | exact ⟨trivial, trivial⟩ | exact ⟨trivial, rfl⟩ | exact ⟨rfl, rfl⟩ | trivial)
    | str s =>
      solve_by_elim [evW, show kindIs μ .tuple (.str s) = some false from rfl, k_ss]
      try (first | exact ⟨rfl, trivial⟩ | exact ⟨trivial, trivial⟩ | exact ⟨trivial, rfl⟩ | exact ⟨rfl, rfl⟩ | trivial)
    | tup l =>
      have hs : (decide (l.length ≤ 100000) && smlL l) = true := hs
      rw [Bool.and_eq_true, decide_eq_true_iff, smlL_all] at hs
      have hd : purL l = true := hd
      rw [purL_all] at hd
      have hdp : D.depthL l + 1 ≤ m + 1 := hdp
      obtain ⟨kk, hkk⟩ : ∃ kk : Int, (l.length : Int) = kk := ⟨_, rfl⟩
      have hlen : ∀ μ, biD .len μ [.tup l] = some (.int kk) := fun μ => by rw [← hkk]; rfl
      refine ss_step ?_; intro K hK
      solve_by_elim [evV_b_len, k_tt, hlen, beq_self_eq_true, i_zipt]
      rw [comp_bools (f := fun _ => true) (by rw [List.length_map, List.length_zip, lim_val]; omega) fun d hd' => ?_]
      rotate_left
      · obtain ⟨q, hq, rfl⟩ := List.mem_map.mp hd'
        obtain ⟨i, h1, h2⟩ := zip_get hq
        have e : q.2 = q.1 := by rw [h1] at h2; exact (Option.some.inj h2).symm
        have hm := List.mem_of_getElem? h1
        have hle : ∀ (l : List D) (x : D), x ∈ l → x.depth ≤ D.depthL l := fun l => by
          induction l with
          | nil => intro x hx; cases hx
          | cons y r ihl =>
            intro x hx
            show _ ≤ max y.depth (D.depthL r)
            rcases List.mem_cons.mp hx with rfl | hx
            · omega
            · have := ihl x hx; omega
        have hle1 := hle l q.1 hm
        have := ih q.1 (hd _ hm) (hs.2 _ hm) (by omega) n μ
        rw [e]
        refine wp_to ?_
        solve_by_elim [evW, this]
        try (first | exact ⟨rfl, trivial⟩ | exact ⟨trivial, trivial⟩ | exact ⟨trivial, rfl⟩ | exact ⟨rfl, rfl⟩ | trivial)
      solve_by_elim [evW, b_alls]
      refine ⟨?_, trivial⟩
      congr 1
      rw [List.all_eq_true]
      intro b hb
      obtain ⟨_, _, rfl⟩ := List.mem_map.mp hb
      rfl
    | _ => cases hd
end

/-! forms drawn are forms -/
theorem isW_self (t : Txt) : isW t (.str t) = true := decide_eq_true rfl
theorem name_nm {s : Txt} (h : Nm s) : nameB (.str s) = true := by
  have h1 : 1 ≤ s.length := List.length_pos_iff.mpr (nm_ne h)
  have h2 := h.len
  show (decide (1 ≤ s.length) && decide (s.length ≤ 8) && s.all lowB) = true
  have e : s.all lowB = true := List.all_eq_true.mpr fun c hc => nm_az h c hc
  rw [decide_eq_true h1, decide_eq_true h2, e]
  rfl
theorem names_nm {l : List Txt} (h : ∀ s ∈ l, Nm s) (hn : l.Nodup) : namesB (l.map .str) = true := by
  have e : (l.map D.str).map txtOf = l := by
    rw [List.map_map]
    exact (List.map_congr_left fun _ _ => rfl).trans (List.map_id l)
  show ((l.map D.str).all nameB && decide ((l.map D.str).map txtOf).Nodup) = true
  rw [e, decide_eq_true hn, List.all_eq_true.mpr fun d hd => by obtain ⟨s, hs, rfl⟩ := List.mem_map.mp hd; exact name_nm (h s hs)]
  rfl
theorem plainB_ok {p : D} (hp : Plain p) : plainB p = true := by
  obtain ⟨s, hs, rfl⟩ := hp
  cases s with
  | num m =>
    show wholeB 1 240 (.int m) = true
    show (decide (1 ≤ m) && decide (m ≤ 240)) = true
    rw [decide_eq_true hs.1, decide_eq_true hs.2]; rfl
  | txt m =>
    show wholeB 0 20 (.int m) = true
    show (decide (0 ≤ m) && decide (m ≤ 20)) = true
    rw [decide_eq_true hs.1, decide_eq_true hs.2]; rfl
  | cho l =>
    show chosB (.tup (l.map .str)) = true
    show (decide (1 ≤ (l.map D.str).length) && decide ((l.map D.str).length ≤ 6) && namesB (l.map .str)) = true
    rw [List.length_map, decide_eq_true hs.1, decide_eq_true hs.2.1, names_nm hs.2.2.1 hs.2.2.2]; rfl
theorem plain_form {p : D} (hp : Plain p) (r : D → Bool) : baseB r p = true := by
  have h := plainB_ok hp
  obtain ⟨s, hs, rfl⟩ := hp
  cases s <;> exact h
theorem formB_ok {k : Nat} {f : D} (h : Fo k f) : formB k f = true := by
  induction h with
  | @pl k p h => cases k <;> exact plain_form h _
  | @lst k p h m h0 h1 =>
    have e : lstQ [p, .int m] = true := by
      show (plainB p && (decide (1 ≤ m) && decide (m ≤ 4))) = true
      rw [plainB_ok h, decide_eq_true h0, decide_eq_true h1]; rfl
    cases k <;> exact e
  | @recd k fs hn hl hs hm ih =>
    show recB (formB k) (.tup (fs.map fld)) = true
    have e1 : ((fs.map fld).map headD).map txtOf = fs.map Prod.fst := by
      rw [List.map_map, List.map_map]
      exact List.map_congr_left fun _ _ => rfl
    show (decide ((fs.map fld).length ≤ 8) && (fs.map fld).all (fldB (formB k)) && decide (((fs.map fld).map headD).map txtOf).Nodup) = true
    rw [e1, List.length_map, decide_eq_true hl, decide_eq_true hn, List.all_eq_true.mpr fun d hd => by
      obtain ⟨f, hf, rfl⟩ := List.mem_map.mp hd
      show (nameB (.str f.1) && formB k f.2) = true
      rw [name_nm (hm f hf), ih f hf]; rfl]
    rfl

local macro_rules | `(tactic| solve_by_elim [evV_o_adds, $[$xs:term],*]) => `(tactic| (try simp only [ss_n, ss_c, s_e, s_r, s_rN, s_a, s_i, s_x, s_p, s_b, s_c, s_f, s_w, v_var, v_con, v_glo, v_bin, v_neg, v_cmp, v_cmp2, v_and, v_or, v_not, v_ite, v_tup, v_lstT, v_lstF, v_cat, v_idx, v_lrep, v_slc, v_call, v_bi, v_me, v_comp, turnC_wp, c_n, c_s, es_n, es_c, eo_n, eo_s, t_var, t_con, t_cm, t_cm2, t_an, t_or', t_no, t_bi, t_call, t_idx, v_dictP, v_dictL, v_mlst, v_zipL, v_fnv, v_tget, v_callv, fnAt_fn, v_callL, cap_n, cap_c, s_sl, t_callv, v_new, v_fld, v_meth, s_sf, s_af, t_fld, t_meth, put_nm, put_tp, putL_n, putL_c, Option.bind_some, ofo_some, ofo_none, ofoE_some, ofoE_none, ofo_ite, ofo_map, ofo_bind, o_add, o_addt, o_addl, o_sub, o_mul, o_muls, o_mult, l_rep, c_is, c_nis, is_bl, o_fdiv, o_mod, c_lt, c_le, c_gt, c_ge, c_eq, c_ne, c_in, c_nin, q_int, q_strd, tr_bl, x_tup, x_lst, intOf_int, b_isin, k_ii, k_bi, k_si, k_ss, k_is, k_tt, k_ti, k_ts, o_pow, i_r1, i_r2, i_tup, i_lst, i_en, b_len, b_lenl, b_tup, tup_lst, b_lst, b_int, b_inti, b_trg, b_lrg, b_min, atZ0, atZ1, atZ2, ixZ0, ixZ1, ixZ2, List.length_set, wp_ok, List.getElem?_cons_zero, List.getElem?_cons_succ, List.set_cons_zero, List.set_cons_succ, wipeR, List.length_cons, List.length_nil, List.map_cons, List.map_nil, List.replicate_succ, List.replicate_zero, List.cons_append, List.nil_append, decide_eq_true_eq, beq_iff_eq, Bool.not_eq_true', Bool.true_eq_false, and_self, Nat.zero_le, lim1, lim2, lim3, lim4, lim5, decide_true, decide_false, Bool.not_true, Bool.not_false, ite_true, ite_false, if_true, if_false, Bool.false_eq_true, $[$xs:term],*]))
/-! forms written and read -/
def stops (r : Txt) : Prop := nob figs r ∧ nob az r
def bndF : Nat → Nat
  | 0 => 70
  | k + 1 => 8 * bndF k + 98
def fstp (t : Txt) : Prop := ∃ c u, t = c :: u ∧ c ≠ 108 ∧ c ≠ 114
/-- the text of a number, a choice or a text -/
structure Pr (G : Nat → Option D) (F : Nat → Option Fn) (f : D) (t : Txt) : Prop where
  len : t.length ≤ 60
  s88 : ∀ n μ, run G F (n + 1) 88 [f] μ = .ok (.str t) μ
  s94 : ∀ n μ, run G F (n + 1) 94 [f] μ = .ok (.str t) μ
  rd : ∀ n μ o T i r, μ[o]? = some (sgC T i) → 0 ≤ i → T.length ≤ 100000 → T.drop i.toNat = t ++ r → stops r → run G F (n + 4) 90 [.loc o] μ = .ok f (μ.set o (sgC T (i + t.length)))
  fst : fstp t
section
variable {G : Nat → Option D} {F : Nat → Option Fn}
theorem pr_numlike (h75 : F 75 = some f75) (h76 : F 76 = some f76) (h77 : F 77 = some f77) (h78 : F 78 = some f78) (h88 : F 88 = some f88) (h90 : F 90 = some f90) (h94 : F 94 = some f94) (g60 : G 60 = some (.str figs)) (g61 : G 61 = some (.int 9)) {m : Int} (h0 : 0 ≤ m) (h1 : m ≤ 240) :
    Pr G F (Pl.num m).enc (110 :: numT m.toNat) ∧ Pr G F (Pl.txt m).enc (116 :: numT m.toNat) := by
  have hi : ((m.toNat : Nat) : Int) = m := by omega
  have hs : ∀ μ, biD .str μ [.int m] = some (.str (numT m.toNat)) := fun μ => by
    have := str_num (k := m.toNat) (μ := μ) (by omega)
    rw [hi] at this
    exact this
  have htab := num_tab m.toNat (by omega)
  have a1 : ∀ μ c, binD .add μ (.str [c]) (.str (numT m.toNat)) = some (.str (c :: numT m.toNat)) := fun μ c => if_pos (by rw [List.length_singleton, lim_val]; omega)
  constructor
  · refine ⟨by rw [List.length_cons]; omega, fun n μ => ?_, fun n μ => ?_, fun n μ o T j r hg hj hT hr hst => ?_, ⟨_, _, rfl, by decide, by decide⟩⟩
    · refine wp_to (run_wp h88 rfl rfl ?_)
      show (exSs G (run G F n) b88 [some (.tup [.str [110, 117, 109, 98, 101, 114], .int m]), none, none] μ).wp _ _ _ _
      unfold b88
      refine ss_step ?_; intro K hK
      solve_by_elim [evV_o_adds, hs, a1]
      try (first | exact ⟨rfl, trivial⟩ | exact ⟨trivial, trivial⟩ | exact ⟨trivial, rfl⟩ | exact ⟨rfl, rfl⟩ | trivial)
    · refine wp_to (run_wp h94 rfl rfl ?_)
      show (exSs G (run G F n) b94 [some (.tup [.str [110, 117, 109, 98, 101, 114], .int m]), none] μ).wp _ _ _ _
      unfold b94
      refine ss_step ?_; intro K hK
      solve_by_elim [evV_o_adds, hs, a1]
      try (first | exact ⟨rfl, trivial⟩ | exact ⟨trivial, trivial⟩ | exact ⟨trivial, rfl⟩ | exact ⟨rfl, rfl⟩ | trivial)
    · refine wp_to (run_wp h90 rfl rfl ?_)
      show (exSs G (run G F (n + 3)) b90 [some (.loc o)] μ).wp _ _ _ _
      unfold b90
      have hr0 : T.drop j.toNat = [110] ++ (numT m.toNat ++ r) := by rw [hr]; simp
      have hst1 := starts_ok (G := G) (n := n + 2) h75 hg hj hT [110] (by decide)
      rw [hr, decide_eq_true (by rfl)] at hst1
      have hpa := past_ok (G := G) (n := n + 1) h75 h76 hg hj hT [110] (by decide) hr0
      have hr1 := drop_add hj hr0
      rw [show (([110] : Txt).length : Int) = 1 from rfl] at hpa hr1
      have hg1 : (μ.set o (sgC T (j + 1)))[o]? = some (sgC T (j + 1)) := set_get hg
      have hw := whole_78 (G := G) (F := F) (n := n + 1) h77 h78 g60 g61 hg1 (by omega) hT (k := m.toNat) (by omega) hr1 hst.1
      rw [hi, set_set] at hw
      refine ss_step ?_; intro K hK
      solve_by_elim [evW, sg_is hg, hst1, hpa, sg_is hg1, hw]
      refine ⟨rfl, ?_⟩
      congr 2
      omega
  · refine ⟨by rw [List.length_cons]; omega, fun n μ => ?_, fun n μ => ?_, fun n μ o T j r hg hj hT hr hst => ?_, ⟨_, _, rfl, by decide, by decide⟩⟩
    · refine wp_to (run_wp h88 rfl rfl ?_)
      show (exSs G (run G F n) b88 [some (.tup [.str [116, 101, 120, 116], .int m]), none, none] μ).wp _ _ _ _
      unfold b88
      refine ss_step ?_; intro K hK; solve_by_elim [evW]
      rw [if_neg (by decide)]
      (try simp only [hK])
      refine ss_step ?_; intro K hK; solve_by_elim [evW]
      rw [if_neg (by decide)]
      (try simp only [hK])
      refine ss_step ?_; intro K hK
      solve_by_elim [evV_o_adds, hs, a1]
      try (first | exact ⟨rfl, trivial⟩ | exact ⟨trivial, trivial⟩ | exact ⟨trivial, rfl⟩ | exact ⟨rfl, rfl⟩ | trivial)
    · refine wp_to (run_wp h94 rfl rfl ?_)
      show (exSs G (run G F n) b94 [some (.tup [.str [116, 101, 120, 116], .int m]), none] μ).wp _ _ _ _
      unfold b94
      refine ss_step ?_; intro K hK; solve_by_elim [evW]
      rw [if_neg (by decide)]
      (try simp only [hK])
      refine ss_step ?_; intro K hK
      solve_by_elim [evV_o_adds, hs, a1]
      try (first | exact ⟨rfl, trivial⟩ | exact ⟨trivial, trivial⟩ | exact ⟨trivial, rfl⟩ | exact ⟨rfl, rfl⟩ | trivial)
    · refine wp_to (run_wp h90 rfl rfl ?_)
      show (exSs G (run G F (n + 3)) b90 [some (.loc o)] μ).wp _ _ _ _
      unfold b90
      have hr0 : T.drop j.toNat = [116] ++ (numT m.toNat ++ r) := by rw [hr]; simp
      have hst0 := starts_ok (G := G) (n := n + 2) h75 hg hj hT [110] (by decide)
      rw [hr, decide_eq_false (by simp)] at hst0
      have hst1 := starts_ok (G := G) (n := n + 2) h75 hg hj hT [116] (by decide)
      rw [hr, decide_eq_true (by rfl)] at hst1
      have hpa := past_ok (G := G) (n := n + 1) h75 h76 hg hj hT [116] (by decide) hr0
      have hr1 := drop_add hj hr0
      rw [show (([116] : Txt).length : Int) = 1 from rfl] at hpa hr1
      have hg1 : (μ.set o (sgC T (j + 1)))[o]? = some (sgC T (j + 1)) := set_get hg
      have hw := whole_78 (G := G) (F := F) (n := n + 1) h77 h78 g60 g61 hg1 (by omega) hT (k := m.toNat) (by omega) hr1 hst.1
      rw [hi, set_set] at hw
      refine ss_step ?_; intro K hK
      solve_by_elim [evW, sg_is hg, hst0]
      simp only [hK]
      refine ss_step ?_; intro K2 hK2
      solve_by_elim [evW, sg_is hg, hst1, hpa, sg_is hg1, hw]
      refine ⟨rfl, ?_⟩
      congr 2
      omega
/-- the names of a choice, read -/
theorem chos_89 (h75 : F 75 = some f75) (h76 : F 76 = some f76) (h77 : F 77 = some f77) (h79 : F 79 = some f79) (h89 : F 89 = some f89) (g34 : G 34 = some (.str az)) {n o : Nat} {μ : Mu} {T : Txt} {i : Int} {l : List Txt} {r : Txt} (hl0 : 1 ≤ l.length) (hl : l.length ≤ 6) (hn : ∀ s ∈ l, Nm s)
    (ho : μ[o]? = some (sgC T i)) (h0 : 0 ≤ i) (hT : T.length ≤ 100000) (hr : T.drop i.toNat = jn [32] true l ++ 41 :: r) :
    run G F (n + 3) 89 [.loc o] μ = .ok (.tup (l.map .str)) (μ.set o (sgC T (i + (jn [32] true l).length + 1))) := by
  have hoL := (List.getElem?_eq_some_iff.mp ho).1
  have hstp : ∀ (ts : List Txt) (r : Txt), nob az (jn [32] false ts ++ 41 :: r) := fun ts r => by
    cases ts with
    | nil => exact nob_cons (by decide)
    | cons t ts => exact nob_cons (c := 32) (by decide)
  refine wp_to ?_
  refine Res.wp_mono (Q := fun d μ' => d = .tup (l.map .str) ∧ ∃ j : Int, μ' = μ.set o (sgC T j) ∧ j + r.length = T.length) (run_wpz (n := n + 2) h89 rfl rfl ?_) fun d μ' hd => ?_
  rotate_left
  · obtain ⟨rfl, j, rfl, hj⟩ := hd
    refine ⟨rfl, ?_⟩
    have h6 := drop_le' (u := jn [32] true l ++ [41]) (v := r) h0 (by rw [hr]; simp) (by simp)
    rw [List.length_append, List.length_singleton] at h6
    congr 2
    omega
  show (exSs G (run G F (n + 2)) b89 [some (.loc o), none] μ).wp _ _ _ _
  unfold b89
  cases l with
  | nil => simp at hl0
  | cons s ls =>
    have hr0 : T.drop i.toNat = s ++ (jn [32] false ls ++ 41 :: r) := by
      rw [hr]
      show (s ++ jn [32] false ls) ++ 41 :: r = _
      rw [List.append_assoc]
    have hs := hn s (List.mem_cons_self ..)
    have hna := name_79 (G := G) (n := n) h77 h79 g34 ho h0 hT hs hr0 (hstp _ _)
    have hr1 := drop_add h0 hr0
    refine ss_step ?_; intro K hK
    solve_by_elim [evW, sg_is ho, hna]
    simp only [hK]
    refine ss_step ?_; intro K2 hK2
    rw [s_w]
    refine while_wp (fun m ρ μ' => ∃ (k : Nat) (j : Int), m + k = ls.length ∧ 0 ≤ j ∧ μ' = μ.set o (sgC T j) ++ [.lst (((s :: ls.take k)).map .str)] ∧ ρ = [some (.loc o), some (.loc μ.length)] ∧ T.drop j.toNat = jn [32] false (ls.drop k) ++ 41 :: r) ?_ ls.length manyTurns _ _ (by rw [show manyTurns = 1000000000 from rfl]; rw [List.length_cons] at hl; omega) ⟨0, i + s.length, rfl, by omega, rfl, rfl, hr1⟩
    rintro m ρ μ' ⟨k, j, hk, hj, rfl, rfl, hrj⟩
    have hg : (μ.set o (sgC T j) ++ [Cell.lst ((s :: ls.take k).map D.str)])[o]? = some (sgC T j) := push_old (set_get ho)
    have hst := starts_ok (G := G) (n := n + 1) h75 hg hj hT [41] (by decide)
    rw [hrj] at hst
    by_cases hkl : k < ls.length
    · obtain ⟨w, hw⟩ : ∃ w, ls[k]? = some w := ⟨_, List.getElem?_eq_getElem hkl⟩
      obtain ⟨hk1, hk2⟩ := List.getElem?_eq_some_iff.mp hw
      have hdk : ls.drop k = w :: ls.drop (k + 1) := by rw [List.drop_eq_getElem_cons hk1, hk2]
      have hwn := hn w (List.mem_cons_of_mem _ (List.mem_of_getElem? hw))
      rw [hdk] at hst hrj
      have hrj : T.drop j.toNat = [32] ++ (w ++ (jn [32] false (ls.drop (k + 1)) ++ 41 :: r)) := by
        rw [hrj]
        show (32 :: (w ++ jn [32] false (ls.drop (k + 1)))) ++ 41 :: r = _
        simp
      have hfalse : decide (List.take ([41] : Txt).length (jn [32] false (w :: ls.drop (k + 1)) ++ 41 :: r) = [41]) = false := by
        rw [decide_eq_false_iff_not]
        intro e
        have : (32 : Nat) = 41 := by simpa [jn] using e
        omega
      rw [hfalse] at hst
      obtain ⟨m', rfl⟩ : ∃ m', m = m' + 1 := ⟨m - 1, by omega⟩
      (try simp only [wipeR])
      rw [t_no, t_meth, v_meth]
      simp only [v_var, v_con, es_c, es_n, List.getElem?_cons_zero, ofo_some, sg_is hg, hst, wp_ok, tr_bl, if_true, ite_true, Bool.not_false, Bool.true_eq_false]
      refine ⟨m', rfl, ?_⟩
      have hpa := past_ok (G := G) (n := n) h75 h76 hg hj hT [32] (by decide) hrj
      have hr2 := drop_add hj hrj
      rw [show (([32] : Txt).length : Int) = 1 from rfl] at hpa hr2
      rw [List.set_append_left _ _ (by rw [List.length_set]; exact hoL), set_set] at hpa
      have hg1 : (μ.set o (sgC T (j + 1)) ++ [Cell.lst ((s :: ls.take k).map D.str)])[o]? = some (sgC T (j + 1)) := push_old (set_get ho)
      have hna := name_79 (G := G) (n := n) h77 h79 g34 hg1 (by omega) hT hwn hr2 (hstp _ _)
      have hr3 := drop_add (by omega) hr2
      rw [List.set_append_left _ _ (by rw [List.length_set]; exact hoL), set_set] at hna
      have hgq : ∀ c : Cell, (μ.set o c ++ [Cell.lst ((s :: ls.take k).map D.str)])[μ.length]? = some (.lst ((s :: ls.take k).map D.str)) := fun c => by
        have := push_get (μ := μ.set o c) (c := Cell.lst ((s :: ls.take k).map D.str))
        rw [List.length_set] at this
        exact this
      have e2 := meTy_loc (m := .append) ⟨by decide, by decide⟩ (hgq (sgC T (j + 1)))
      have e3 := m_app (x := .str w) (hgq (sgC T (j + 1 + w.length)))
      have hll : ((s :: ls.take k).map D.str).length < lim := by
        rw [List.length_map, List.length_cons, List.length_take, lim_val]
        rw [List.length_cons] at hl
        omega
      rw [if_pos hll, set_last (by rw [List.length_set])] at e3
      generalize hX : (s :: ls.take k).map D.str = X at *
      refine ss_step ?_; intro K3 hK3
      solve_by_elim [evW, sg_is hg, hpa]
      simp only [hK3]
      solve_by_elim [evW, e2, sg_is hg1, hna, e3]
      refine ⟨k + 1, j + 1 + w.length, by omega, by omega, ?_, by trivial, hr3⟩
      rw [List.take_succ, hw, ← hX]
      simp
    · have hkl : k = ls.length := by omega
      rw [show ls.drop k = [] from List.drop_of_length_le (by omega)] at hst hrj
      have hjn : ∀ b : Bool, jn [32] b [] = [] := fun b => by cases b <;> rfl
      rw [hjn, List.nil_append] at hst hrj
      rw [decide_eq_true (by rfl)] at hst
      rw [show ls.take k = ls from List.take_of_length_le (by omega)] at *
      have hmm : (s :: ls).map D.str = .str s :: ls.map D.str := rfl
      rw [hmm] at hst hg
      (try simp only [wipeR])
      rw [hmm, t_no, t_meth, v_meth]
      solve_by_elim [evW, sg_is hg, hst]
      simp only [hK2]
      have hpa := past_ok (G := G) (n := n) h75 h76 hg hj hT [41] (by decide) (r := r) hrj
      rw [show (([41] : Txt).length : Int) = 1 from rfl, List.set_append_left _ _ (by rw [List.length_set]; exact hoL), set_set] at hpa
      have hgq2 : (μ.set o (sgC T (j + 1)) ++ [Cell.lst ((s :: ls).map D.str)])[μ.length]? = some (.lst ((s :: ls).map D.str)) := by
        have := push_get (μ := μ.set o (sgC T (j + 1))) (c := Cell.lst ((s :: ls).map D.str))
        rw [List.length_set] at this
        exact this
      have hfl : D.flatL ((s :: ls).map D.str) = true := flatL_map fun _ _ => rfl
      rw [hmm] at hgq2 hfl
      refine ss_step ?_; intro K3 hK3
      solve_by_elim [evW, sg_is hg, hpa]
      simp only [hK3]
      solve_by_elim [evW, tup_loc hgq2]
      refine fin_wp (S := [o]) ⟨by rw [List.length_append, List.length_set]; omega, fun i' hi hS => ?_⟩ (fun i' hi _ => ?_) hfl ⟨by trivial, j + 1, ?_, drop_le hj hrj⟩
      · have hne : i' ≠ o := fun e => hS (by simp [e])
        rw [List.getElem?_append_left (by rw [List.length_set]; omega), List.getElem?_set_ne fun e => hne e.symm]
      · have : i' = o := by simpa using hi
        subst this
        exact ⟨_, push_old (set_get ho), rfl⟩
      · have e : (μ.set o (sgC T (j + 1))).length = μ.length := List.length_set ..
        rw [← e, List.take_left]
theorem pr_cho (h75 : F 75 = some f75) (h76 : F 76 = some f76) (h77 : F 77 = some f77) (h79 : F 79 = some f79) (h88 : F 88 = some f88) (h89 : F 89 = some f89) (h90 : F 90 = some f90) (h94 : F 94 = some f94) (g34 : G 34 = some (.str az)) {l : List Txt} (hl0 : 1 ≤ l.length) (hl : l.length ≤ 6) (hn : ∀ s ∈ l, Nm s) :
    Pr G F (Pl.cho l).enc (99 :: 40 :: (jn [32] true l ++ [41])) := by
  have hL : ∀ t ∈ l, t.length ≤ 8 := fun t ht => (hn t ht).len
  have hjl := jn_len [32] true l hL
  rw [List.length_singleton] at hjl
  have hj : ∀ μ, meD .join μ (.str [32]) [.tup (l.map .str)] = .ok (.str (jn [32] true l)) μ := fun μ => m_joinT rfl hL (by rw [List.length_singleton]; omega)
  have l1 : ([99, 40] : Txt).length + (jn [32] true l).length ≤ lim := by rw [show ([99, 40] : Txt).length = 2 from rfl, lim_val]; omega
  have l2 : (99 :: 40 :: jn [32] true l).length + ([41] : Txt).length ≤ lim := by rw [List.length_cons, List.length_cons, List.length_singleton, lim_val]; omega
  have a1 : ∀ μ, binD .add μ (.str [99, 40]) (.str (jn [32] true l)) = some (.str (99 :: 40 :: jn [32] true l)) := fun μ => if_pos l1
  have a2 : ∀ μ, binD .add μ (.str (99 :: 40 :: jn [32] true l)) (.str [41]) = some (.str (99 :: 40 :: (jn [32] true l ++ [41]))) := fun μ => if_pos l2
  have e0 : ∀ μ, meTy .join μ (.str [32]) = true := fun _ => rfl
  refine ⟨by rw [List.length_cons, List.length_cons, List.length_append, List.length_singleton]; omega, fun n μ => ?_, fun n μ => ?_, fun n μ o T j r hg hj0 hT hr hst => ?_, ⟨_, _, rfl, by decide, by decide⟩⟩
  · refine wp_to (run_wp h88 rfl rfl ?_)
    show (exSs G (run G F n) b88 [some (.tup [.str [99, 104, 111, 105, 99, 101], .tup (l.map .str)]), none, none] μ).wp _ _ _ _
    unfold b88
    refine ss_step ?_; intro K hK; solve_by_elim [evW]
    rw [if_neg (by decide)]
    (try simp only [hK])
    refine ss_step ?_; intro K hK
    solve_by_elim [evV_o_adds, e0, hj, a1, a2]
    try (first | exact ⟨rfl, trivial⟩ | exact ⟨trivial, trivial⟩ | exact ⟨trivial, rfl⟩ | exact ⟨rfl, rfl⟩ | trivial)
  · refine wp_to (run_wp h94 rfl rfl ?_)
    show (exSs G (run G F n) b94 [some (.tup [.str [99, 104, 111, 105, 99, 101], .tup (l.map .str)]), none] μ).wp _ _ _ _
    unfold b94
    refine ss_step ?_; intro K hK; solve_by_elim [evW]
    rw [if_neg (by decide)]
    (try simp only [hK])
    refine ss_step ?_; intro K hK; solve_by_elim [evW]
    rw [if_neg (by decide)]
    (try simp only [hK])
    refine ss_step ?_; intro K hK
    solve_by_elim [evV_o_adds, e0, hj, a1, a2]
    try (first | exact ⟨rfl, trivial⟩ | exact ⟨trivial, trivial⟩ | exact ⟨trivial, rfl⟩ | exact ⟨rfl, rfl⟩ | trivial)
  · refine wp_to (run_wp h90 rfl rfl ?_)
    show (exSs G (run G F (n + 3)) b90 [some (.loc o)] μ).wp _ _ _ _
    unfold b90
    have hr0 : T.drop j.toNat = [99, 40] ++ (jn [32] true l ++ 41 :: r) := by rw [hr]; simp
    have hst0 := starts_ok (G := G) (n := n + 2) h75 hg hj0 hT [110] (by decide)
    rw [hr, decide_eq_false (by simp)] at hst0
    have hst1 := starts_ok (G := G) (n := n + 2) h75 hg hj0 hT [116] (by decide)
    rw [hr, decide_eq_false (by simp)] at hst1
    have hpa := past_ok (G := G) (n := n + 1) h75 h76 hg hj0 hT [99, 40] (by decide) hr0
    have hr1 := drop_add hj0 hr0
    rw [show (([99, 40] : Txt).length : Int) = 2 from rfl] at hpa hr1
    have hg1 : (μ.set o (sgC T (j + 2)))[o]? = some (sgC T (j + 2)) := set_get hg
    have hch := chos_89 (G := G) (n := n) h75 h76 h77 h79 h89 g34 hl0 hl hn hg1 (by omega) hT hr1
    rw [set_set] at hch
    refine ss_step ?_; intro K hK
    solve_by_elim [evW, sg_is hg, hst0]
    simp only [hK]
    refine ss_step ?_; intro K2 hK2
    solve_by_elim [evW, sg_is hg, hst1]
    simp only [hK2]
    refine ss_step ?_; intro K3 hK3
    solve_by_elim [evW, sg_is hg, hpa]
    simp only [hK3]
    solve_by_elim [evW, hch]
    refine ⟨rfl, ?_⟩
    congr 2
    rw [List.length_append]
    show _ = j + (((jn [32] true l).length + 1 + 1 + 1 : Nat) : Int)
    omega
theorem pr_plain (h75 : F 75 = some f75) (h76 : F 76 = some f76) (h77 : F 77 = some f77) (h78 : F 78 = some f78) (h79 : F 79 = some f79) (h88 : F 88 = some f88) (h89 : F 89 = some f89) (h90 : F 90 = some f90) (h94 : F 94 = some f94) (g34 : G 34 = some (.str az)) (g60 : G 60 = some (.str figs)) (g61 : G 61 = some (.int 9)) {p : D} (hp : Plain p) : ∃ t, Pr G F p t := by
  obtain ⟨s, hs, rfl⟩ := hp
  cases s with
  | num m => exact ⟨_, (pr_numlike h75 h76 h77 h78 h88 h90 h94 g60 g61 (by have := hs.1; omega) hs.2).1⟩
  | txt m => exact ⟨_, (pr_numlike h75 h76 h77 h78 h88 h90 h94 g60 g61 hs.1 (by have := hs.2; omega)).2⟩
  | cho l => exact ⟨_, pr_cho h75 h76 h77 h79 h88 h89 h90 h94 g34 hs.1 hs.2.1 hs.2.2.1⟩
end

theorem stops_cons {c : Nat} {r : Txt} (h1 : figs.contains c = false) (h2 : az.contains c = false) : stops (c :: r) := ⟨nob_cons h1, nob_cons h2⟩
theorem stops_jn {ts : List Txt} {e : Nat} {r : Txt} (h1 : figs.contains e = false) (h2 : az.contains e = false) : stops (jn [44, 32] false ts ++ e :: r) := by
  cases ts with
  | nil => exact stops_cons h1 h2
  | cons t ts => exact stops_cons (c := 44) (by decide) (by decide)
/-- the text of a form -/
structure ShF (G : Nat → Option D) (F : Nat → Option Fn) (a b k : Nat) (f : D) (t : Txt) (L : Nat) : Prop where
  len : t.length ≤ L
  s88 : ∀ n μ, run G F (n + a) 88 [f] μ = .ok (.str t) μ
  s94 : ∀ n μ, run G F (n + a) 94 [f] μ = .ok (.str t) μ
  rd : ∀ n μ o T i r dp, μ[o]? = some (sgC T i) → 0 ≤ i → (k : Int) ≤ dp → T.length ≤ 100000 → T.drop i.toNat = t ++ r → stops r → run G F (n + b) 92 [.loc o, .int dp] μ = .ok f (μ.set o (sgC T (i + t.length)))
section
variable {G : Nat → Option D} {F : Nat → Option Fn}
theorem ShF.more {a b k L a' b' k' L' : Nat} {f : D} {t : Txt} (h : ShF G F a b k f t L) (ha : a ≤ a') (hb : b ≤ b') (hk : k ≤ k') (hL : L ≤ L') : ShF G F a' b' k' f t L' := by
  obtain ⟨x, rfl⟩ : ∃ x, a' = x + a := ⟨a' - a, by omega⟩
  obtain ⟨y, rfl⟩ : ∃ y, b' = y + b := ⟨b' - b, by omega⟩
  exact ⟨Nat.le_trans h.len hL, fun n μ => by rw [← Nat.add_assoc]; exact h.s88 _ μ, fun n μ => by rw [← Nat.add_assoc]; exact h.s94 _ μ, fun n μ o T i r dp h1 h2 h3 h4 h5 h6 => by rw [← Nat.add_assoc]; exact h.rd _ μ o T i r dp h1 h2 (by omega) h4 h5 h6⟩
theorem shf_plain (h75 : F 75 = some f75) (h92 : F 92 = some f92) {p : D} {t : Txt} (h : Pr G F p t) (k : Nat) : ShF G F 1 5 k p t 60 := by
  obtain ⟨c, u, hcu, h1, h2⟩ := h.fst
  refine ⟨h.len, h.s88, h.s94, fun n μ o T j r dp hg hj hdp hT hr hst => ?_⟩
  have hrd := h.rd n μ o T j r hg hj hT hr hst
  have hst0 := starts_ok (G := G) (n := n + 3) h75 hg hj hT [108] (by decide)
  rw [hr, hcu, decide_eq_false (fun e => h1 (by simpa using e))] at hst0
  have hst1 := starts_ok (G := G) (n := n + 3) h75 hg hj hT [114, 40] (by decide)
  rw [hr, hcu, decide_eq_false (fun e => by
    have e : (c :: (u ++ r).take 1) = [114, 40] := e
    injection e with e1 e2
    exact h2 e1)] at hst1
  refine wp_to (run_wp h92 rfl rfl ?_)
  show (exSs G (run G F (n + 4)) b92 [some (.loc o), some (.int dp), none] μ).wp _ _ _ _
  unfold b92
  refine ss_step ?_; intro K hK
  solve_by_elim [evW, sg_is hg, hst0]
  simp only [hK]
  refine ss_step ?_; intro K2 hK2
  solve_by_elim [evW, sg_is hg, hst1]
  simp only [hK2]
  solve_by_elim [evW, hrd]
  try (first | exact ⟨rfl, trivial⟩ | exact ⟨trivial, trivial⟩ | exact ⟨trivial, rfl⟩ | exact ⟨rfl, rfl⟩ | trivial)
theorem shf_list (h75 : F 75 = some f75) (h76 : F 76 = some f76) (h77 : F 77 = some f77) (h78 : F 78 = some f78) (h88 : F 88 = some f88) (h92 : F 92 = some f92) (h94 : F 94 = some f94) (g60 : G 60 = some (.str figs)) (g61 : G 61 = some (.int 9)) {p : D} {t : Txt} (h : Pr G F p t) {m : Int} (h0 : 1 ≤ m) (h4 : m ≤ 4) (k : Nat) :
    ShF G F 2 5 k (.tup [.str [108, 105, 115, 116], p, .int m]) (108 :: (numT m.toNat ++ (32 :: t))) 70 := by
  have hi : ((m.toNat : Nat) : Int) = m := by omega
  have hs : ∀ μ, biD .str μ [.int m] = some (.str (numT m.toNat)) := fun μ => by
    have := str_num (k := m.toNat) (μ := μ) (by omega)
    rw [hi] at this
    exact this
  have htab := num_tab m.toNat (by omega)
  have hlen := h.len
  have a1 : ∀ μ, binD .add μ (.str [108]) (.str (numT m.toNat)) = some (.str (108 :: numT m.toNat)) := fun μ => if_pos (by rw [List.length_singleton, lim_val]; omega)
  have a2 : ∀ μ, binD .add μ (.str (108 :: numT m.toNat)) (.str [32]) = some (.str (108 :: (numT m.toNat ++ [32]))) := fun μ => if_pos (by rw [List.length_singleton, List.length_cons, lim_val]; omega)
  have a3 : ∀ μ, binD .add μ (.str (108 :: (numT m.toNat ++ [32]))) (.str t) = some (.str (108 :: (numT m.toNat ++ (32 :: t)))) := fun μ => by
    show (if (108 :: (numT m.toNat ++ [32])).length + t.length ≤ lim then some (D.str (108 :: (numT m.toNat ++ [32]) ++ t)) else none) = _
    rw [if_pos (by rw [List.length_cons, List.length_append, List.length_singleton, lim_val]; omega)]
    simp
  refine ⟨by rw [List.length_cons, List.length_append, List.length_cons]; omega, fun n μ => ?_, fun n μ => ?_, fun n μ o T j r dp hg hj hdp hT hr hst => ?_⟩
  · refine wp_to (run_wp h88 rfl rfl ?_)
    show (exSs G (run G F (n + 1)) b88 [some (.tup [.str [108, 105, 115, 116], p, .int m]), none, none] μ).wp _ _ _ _
    unfold b88
    refine ss_step ?_; intro K hK; solve_by_elim [evW]
    rw [if_neg (by decide)]
    (try simp only [hK])
    refine ss_step ?_; intro K hK; solve_by_elim [evW]
    rw [if_neg (by decide)]
    (try simp only [hK])
    refine ss_step ?_; intro K hK; solve_by_elim [evW]
    rw [if_neg (by decide)]
    (try simp only [hK])
    refine ss_step ?_; intro K hK
    solve_by_elim [evV_o_adds, hs, a1, a2, h.s88 n, a3]
    try (first | exact ⟨rfl, trivial⟩ | exact ⟨trivial, trivial⟩ | exact ⟨trivial, rfl⟩ | exact ⟨rfl, rfl⟩ | trivial)
  · refine wp_to (run_wp h94 rfl rfl ?_)
    show (exSs G (run G F (n + 1)) b94 [some (.tup [.str [108, 105, 115, 116], p, .int m]), none] μ).wp _ _ _ _
    unfold b94
    refine ss_step ?_; intro K hK; solve_by_elim [evW]
    rw [if_neg (by decide)]
    (try simp only [hK])
    refine ss_step ?_; intro K hK; solve_by_elim [evW]
    rw [if_neg (by decide)]
    (try simp only [hK])
    refine ss_step ?_; intro K hK; solve_by_elim [evW]
    rw [if_neg (by decide)]
    (try simp only [hK])
    refine ss_step ?_; intro K hK
    solve_by_elim [evV_o_adds, hs, a1, a2, h.s94 n, a3]
    try (first | exact ⟨rfl, trivial⟩ | exact ⟨trivial, trivial⟩ | exact ⟨trivial, rfl⟩ | exact ⟨rfl, rfl⟩ | trivial)
  · have hr0 : T.drop j.toNat = [108] ++ (numT m.toNat ++ (32 :: (t ++ r))) := by rw [hr]; simp
    have hst0 := starts_ok (G := G) (n := n + 3) h75 hg hj hT [108] (by decide)
    rw [hr, decide_eq_true (by rfl)] at hst0
    have hpa := past_ok (G := G) (n := n + 2) h75 h76 hg hj hT [108] (by decide) hr0
    have hr1 := drop_add hj hr0
    rw [show (([108] : Txt).length : Int) = 1 from rfl] at hpa hr1
    have hg1 : (μ.set o (sgC T (j + 1)))[o]? = some (sgC T (j + 1)) := set_get hg
    have hw := whole_78 (G := G) (F := F) (n := n + 2) h77 h78 g60 g61 hg1 (by omega) hT (k := m.toNat) (by omega) hr1 (nob_cons (by decide))
    rw [hi, set_set] at hw
    have hr2 := drop_add (by omega) hr1
    obtain ⟨ll, hll⟩ : ∃ ll : Int, ((numT m.toNat).length : Int) = ll := ⟨_, rfl⟩
    rw [hll] at hw hr2
    have hg2 : (μ.set o (sgC T (j + 1 + ll)))[o]? = some (sgC T (j + 1 + ll)) := set_get hg
    have hr2' : T.drop (j + 1 + ll).toNat = [32] ++ (t ++ r) := hr2
    have hpa2 := past_ok (G := G) (n := n + 2) h75 h76 hg2 (by omega) hT [32] (by decide) hr2'
    have hr3 := drop_add (by omega) hr2'
    rw [show (([32] : Txt).length : Int) = 1 from rfl, set_set] at hpa2
    rw [show (([32] : Txt).length : Int) = 1 from rfl] at hr3
    have hg3 : (μ.set o (sgC T (j + 1 + ll + 1)))[o]? = some (sgC T (j + 1 + ll + 1)) := set_get hg
    have hrd := h.rd n _ o T _ r hg3 (by omega) hT hr3 hst
    rw [set_set] at hrd
    refine wp_to (run_wp h92 rfl rfl ?_)
    show (exSs G (run G F (n + 4)) b92 [some (.loc o), some (.int dp), none] μ).wp _ _ _ _
    unfold b92
    refine ss_step ?_; intro K hK
    solve_by_elim [evW, sg_is hg, hst0, hpa, sg_is hg1, hw, sg_is hg2, hpa2, hrd]
    refine ⟨by trivial, ?_⟩
    congr 2
    rw [List.length_append]
    show _ = j + (((numT m.toNat).length + (t.length + 1) + 1 : Nat) : Int)
    omega
/-- one more field of a record -/
theorem field_step (h75 : F 75 = some f75) (h76 : F 76 = some f76) (h77 : F 77 = some f77) (h79 : F 79 = some f79) (g34 : G 34 = some (.str az)) {n o q : Nat} {T : Txt} {j dp : Int} {μ : Mu} {f : D} {s t r : Txt} {acc : List D} {x3 : Option D} {N B C : Rho → Mu → Prop} {R : D → Mu → Prop}
    (ho : μ[o]? = some (sgC T j)) (hq : μ[q]? = some (.lst acc)) (hoq : o ≠ q) (hfl : D.flatL acc = true) (hal : acc.length ≤ 100000) (h0 : 0 ≤ j) (hT : T.length ≤ 100000) (hs : Nm s)
    (hr : T.drop j.toNat = (if acc.length = 0 then [] else [44, 32]) ++ (s ++ (32 :: (t ++ r))))
    (hx : ∀ (μ : Mu) (j : Int), μ[o]? = some (sgC T j) → 0 ≤ j → T.drop j.toNat = t ++ r → run G F (n + 2) 92 [.loc o, .int dp] μ = .ok f (μ.set o (sgC T (j + t.length))))
    (hN : ∀ j2 : Int, 0 ≤ j2 → T.drop j2.toNat = r → N [some (.loc o), some (.int dp), some (.loc q), some (.str s)] ((μ.set o (sgC T j2)).set q (.lst (acc ++ [fld (s, f)])))) :
    (exSs G (run G F (n + 2)) [.if_ (.cmp .ne (.var 2) (.lst false [])) [.expr (.meth 65 76 (.var 0) [.con (.str [44, 32])])] [], .asg (.nm 3) (.meth 65 79 (.var 0) []), .expr (.meth 65 76 (.var 0) [.con (.str [32])]), .expr (.me .append (.var 2) [.tup [.var 3, .call 92 [.var 0, .var 1]]])] [some (.loc o), some (.int dp), some (.loc q), x3] μ).wp N R B C := by
  have hqo : ∀ (c : Cell), (μ.set o c)[q]? = some (.lst acc) := fun c => by rw [List.getElem?_set_ne hoq]; exact hq
  have hlt : acc.length < lim := by rw [lim_val]; omega
  have rest : ∀ (j : Int), 0 ≤ j → T.drop j.toNat = s ++ (32 :: (t ++ r)) → (exSs G (run G F (n + 2)) [.asg (.nm 3) (.meth 65 79 (.var 0) []), .expr (.meth 65 76 (.var 0) [.con (.str [32])]), .expr (.me .append (.var 2) [.tup [.var 3, .call 92 [.var 0, .var 1]]])] [some (.loc o), some (.int dp), some (.loc q), x3] (μ.set o (sgC T j))).wp N R B C := fun j h0 hr => by
    have hg : (μ.set o (sgC T j))[o]? = some (sgC T j) := set_get ho
    have hna := name_79 (G := G) (n := n) h77 h79 g34 hg h0 hT hs hr (nob_cons (by decide))
    rw [set_set] at hna
    have hr1 := drop_add h0 hr
    obtain ⟨ll, hll⟩ : ∃ ll : Int, (s.length : Int) = ll := ⟨_, rfl⟩
    rw [hll] at hna hr1
    have hg1 : (μ.set o (sgC T (j + ll)))[o]? = some (sgC T (j + ll)) := set_get ho
    have hr1' : T.drop (j + ll).toNat = [32] ++ (t ++ r) := hr1
    have hpa := past_ok (G := G) (n := n) h75 h76 hg1 (by omega) hT [32] (by decide) hr1'
    have hr2 := drop_add (by omega) hr1'
    rw [show (([32] : Txt).length : Int) = 1 from rfl, set_set] at hpa
    rw [show (([32] : Txt).length : Int) = 1 from rfl] at hr2
    have hg2 : (μ.set o (sgC T (j + ll + 1)))[o]? = some (sgC T (j + ll + 1)) := set_get ho
    have e1 := hx _ _ hg2 (by omega) hr2
    rw [set_set] at e1
    have e2 := meTy_loc (m := .append) ⟨by decide, by decide⟩ (hqo (sgC T (j + ll + 1)))
    have e3 := m_app (x := .tup [.str s, f]) (hqo (sgC T (j + ll + 1 + t.length)))
    rw [if_pos hlt] at e3
    solve_by_elim [evW, sg_is hg, hna, sg_is hg1, hpa, e2, e1, e3]
    exact hN _ (by omega) (drop_add (by omega) hr2)
  cases acc with
  | nil =>
    rw [List.length_nil, if_pos rfl, List.nil_append] at hr
    have := rest j h0 hr
    rw [set_id ho] at this
    refine ss_step ?_; intro K hK
    solve_by_elim [evW, eq_nil hq hfl, List.isEmpty_nil]
    simp only [hK]
    exact this
  | cons y ys =>
    rw [if_neg (by rw [List.length_cons]; omega)] at hr
    have e0 := past_ok (G := G) (n := n) h75 h76 ho h0 hT [44, 32] (by decide) hr
    have hr1 := drop_add h0 hr
    rw [show (([44, 32] : Txt).length : Int) = 2 from rfl] at e0 hr1
    refine ss_step ?_; intro K hK
    solve_by_elim [evW, eq_nil hq hfl, List.isEmpty_cons, sg_is ho, e0]
    simp only [hK]
    exact rest (j + 2) (by omega) hr1
/-- the fields of a record, read -/
theorem rec_91 (h75 : F 75 = some f75) (h76 : F 76 = some f76) (h77 : F 77 = some f77) (h79 : F 79 = some f79) (h91 : F 91 = some f91) (g34 : G 34 = some (.str az)) {n o : Nat} {T : Txt} {i dp : Int} {μ : Mu} {fs : List (Txt × D)} {ts : List Txt} {r : Txt} (hnm : ∀ f ∈ fs, Nm f.1)
    (ho : μ[o]? = some (sgC T i)) (hfl : D.flatL (fs.map fld) = true) (hl : fs.length ≤ 100000) (h0 : 0 ≤ i) (hT : T.length ≤ 100000) (hts : ts.length = fs.length)
    (hr : T.drop i.toNat = jn [44, 32] true ts ++ 41 :: r)
    (hx : ∀ (k : Nat) (f : Txt × D) (w : Txt), fs[k]? = some f → ts[k]? = some w → ∃ t, w = f.1 ++ (32 :: t) ∧ ∀ (μ : Mu) (j : Int) (s : Txt), μ[o]? = some (sgC T j) → 0 ≤ j → T.drop j.toNat = t ++ s → stops s → run G F (n + 2) 92 [.loc o, .int dp] μ = .ok f.2 (μ.set o (sgC T (j + t.length)))) :
    (run G F (n + 3) 91 [.loc o, .int dp] μ).wp fun d μ' => d = .tup (fs.map fld) ∧ ∃ j : Int, μ' = μ.set o (sgC T j) ∧ 0 ≤ j ∧ j + r.length = T.length := by
  have hoL := (List.getElem?_eq_some_iff.mp ho).1
  have hoq : o ≠ μ.length := by omega
  refine run_wpz h91 rfl rfl ?_
  show (exSs G (run G F (n + 2)) b91 [some (.loc o), some (.int dp), none, none] μ).wp _ _ _ _
  unfold b91
  refine ss_step ?_; intro K hK
  solve_by_elim [evW]
  simp only [hK]
  refine ss_step ?_; intro K2 hK2
  rw [s_w]
  refine while_wp (fun m ρ μ' => ∃ (k : Nat) (j : Int) (x3 : Option D), m + k = fs.length ∧ 0 ≤ j ∧ μ' = μ.set o (sgC T j) ++ [.lst ((fs.take k).map fld)] ∧ ρ = [some (.loc o), some (.int dp), some (.loc μ.length), x3] ∧ T.drop j.toNat = jn [44, 32] (k == 0) (ts.drop k) ++ 41 :: r) ?_ fs.length manyTurns _ _ (by rw [show manyTurns = 1000000000 from rfl]; omega) ⟨0, i, _, rfl, h0, by rw [set_id ho]; rfl, rfl, hr⟩
  rintro m ρ μ' ⟨k, j, x3, hk, hj, rfl, rfl, hrj⟩
  have hg : (μ.set o (sgC T j) ++ [Cell.lst ((fs.take k).map fld)])[o]? = some (sgC T j) := push_old (set_get ho)
  have hgq : (μ.set o (sgC T j) ++ [Cell.lst ((fs.take k).map fld)])[μ.length]? = some (.lst ((fs.take k).map fld)) := by
    have := push_get (μ := μ.set o (sgC T j)) (c := Cell.lst ((fs.take k).map fld))
    rw [List.length_set] at this
    exact this
  have hst := starts_ok (G := G) (n := n + 1) h75 hg hj hT [41] (by decide)
  rw [hrj] at hst
  by_cases hkl : k < fs.length
  · obtain ⟨f, hf⟩ : ∃ f, fs[k]? = some f := ⟨_, List.getElem?_eq_getElem hkl⟩
    obtain ⟨w, hw⟩ : ∃ w, ts[k]? = some w := ⟨_, List.getElem?_eq_getElem (by omega)⟩
    obtain ⟨t, rfl, hxt⟩ := hx k f w hf hw
    have hfn := hnm f (List.mem_of_getElem? hf)
    rw [jn_step _ hw] at hst hrj
    have hfalse : decide (List.take ([41] : Txt).length ((if k = 0 then [] else [44, 32]) ++ (f.1 ++ 32 :: t ++ jn [44, 32] false (ts.drop (k + 1))) ++ 41 :: r) = [41]) = false := by
      rw [decide_eq_false_iff_not]
      split
      · cases e : f.1 with
        | nil => exact absurd e (nm_ne hfn)
        | cons c u =>
          have := hfn.sgn c (by rw [e]; exact List.mem_cons_self ..)
          intro e2
          have : c = 41 := by simpa using e2
          omega
      · intro e
        have : (44 : Nat) = 41 := by simpa using e
        omega
    rw [hfalse] at hst
    obtain ⟨m', rfl⟩ : ∃ m', m = m' + 1 := ⟨m - 1, by omega⟩
    have hlk : ((fs.take k).map fld).length = k := by rw [List.length_map, List.length_take]; omega
    (try simp only [wipeR, List.set_cons_zero, List.set_cons_succ])
    rw [t_no, t_meth, v_meth]
    simp only [v_var, v_con, es_c, es_n, List.getElem?_cons_zero, ofo_some, sg_is hg, hst, wp_ok, tr_bl, if_true, ite_true, Bool.not_false, Bool.true_eq_false]
    refine ⟨m', rfl, ?_⟩
    refine field_step (s := f.1) (t := t) (f := f.2) (r := jn [44, 32] false (ts.drop (k + 1)) ++ 41 :: r) h75 h76 h77 h79 g34 hg hgq hoq ?_ (by omega) hj hT hfn ?_ (fun μ2 j2 h2 h3 h4 => hxt μ2 j2 _ h2 h3 h4 (stops_jn (by decide) (by decide))) ?_
    · rw [flatL_all] at hfl ⊢
      intro d hd
      obtain ⟨q, hq, rfl⟩ := List.mem_map.mp hd
      exact hfl _ (List.mem_map.mpr ⟨q, List.mem_of_mem_take hq, rfl⟩)
    · rw [hlk, hrj]
      simp
    · intro j2 hj2 hr2
      refine ⟨k + 1, j2, _, by omega, hj2, ?_, rfl, ?_⟩
      · rw [List.set_append_left _ _ (by rw [List.length_set]; exact hoL), set_set, set_last (by rw [List.length_set]), List.take_succ, hf, List.map_append]
        rfl
      · rw [hr2]
        rfl
  · have hkl : k = fs.length := by omega
    rw [show ts.drop k = [] from List.drop_of_length_le (by omega)] at hst hrj
    have hjn : ∀ b : Bool, jn [44, 32] b [] = [] := fun b => by cases b <;> rfl
    rw [hjn, List.nil_append] at hst hrj
    rw [decide_eq_true (by rfl)] at hst
    rw [show fs.take k = fs from List.take_of_length_le (by omega)] at *
    (try simp only [wipeR, List.set_cons_zero, List.set_cons_succ])
    rw [t_no, t_meth, v_meth]
    solve_by_elim [evW, sg_is hg, hst]
    simp only [hK2]
    have hpa := past_ok (G := G) (n := n) h75 h76 hg hj hT [41] (by decide) (r := r) hrj
    rw [show (([41] : Txt).length : Int) = 1 from rfl, List.set_append_left _ _ (by rw [List.length_set]; exact hoL), set_set] at hpa
    have hgq2 : (μ.set o (sgC T (j + 1)) ++ [Cell.lst (fs.map fld)])[μ.length]? = some (.lst (fs.map fld)) := by
      have := push_get (μ := μ.set o (sgC T (j + 1))) (c := Cell.lst (fs.map fld))
      rw [List.length_set] at this
      exact this
    refine ss_step ?_; intro K3 hK3
    solve_by_elim [evW, sg_is hg, hpa]
    simp only [hK3]
    solve_by_elim [evW, tup_loc hgq2]
    refine fin_wp (S := [o]) ⟨by rw [List.length_append, List.length_set]; omega, fun i' hi hS => ?_⟩ (fun i' hi _ => ?_) hfl ⟨by trivial, j + 1, ?_, by omega, drop_le hj hrj⟩
    · have hne : i' ≠ o := fun e => hS (by simp [e])
      rw [List.getElem?_append_left (by rw [List.length_set]; omega), List.getElem?_set_ne fun e => hne e.symm]
    · have : i' = o := by simpa using hi
      subst this
      exact ⟨_, push_old (set_get ho), rfl⟩
    · have e : (μ.set o (sgC T (j + 1))).length = μ.length := List.length_set ..
      rw [← e, List.take_left]
end

theorem comp_txts {turn : D → Mu → Res (Option D)} {μ : Mu} {l : List D} (hl : l.length ≤ lim) (f : D → Txt) (h : ∀ d ∈ l, turn d μ = .ok (some (.str (f d))) μ) : compL [] turn l [] μ = .ok ((l.map f).map .str) μ := by
  rw [comp_pure (f := fun d => some (.str (f d))) _ _ rfl (by rw [List.length_nil]; omega) h, List.nil_append, List.map_map]
  congr 1
  exact (congrArg (List.filterMap _) (List.map_id l).symm).trans (fm_map (g := id) (h := fun d => D.str (f d)) (fun _ => rfl) l)
/-- a field, written -/
def wt (g : D → Txt) : D → Txt
  | .tup [.str s, x] => s ++ 32 :: g x
  | _ => []
theorem wt_map (g : D → Txt) (fs : List (Txt × D)) : (fs.map fld).map (wt g) = fs.map fun f => f.1 ++ 32 :: g f.2 := by
  rw [List.map_map]
  rfl
theorem bndF_le {k : Nat} (hk : k ≤ 2) : bndF k ≤ 8000 := by
  match k, hk with
  | 0, _ => decide
  | 1, _ => decide
  | 2, _ => decide
theorem bndF_ge : ∀ k, 70 ≤ bndF k
  | 0 => Nat.le_refl _
  | k + 1 => by have := bndF_ge k; show 70 ≤ 8 * bndF k + 98; omega
theorem Fo.flat' {k : Nat} {f : D} (h : Fo k f) : f.flat = true ∧ pur f = true ∧ sml f = true ∧ f.depth ≤ 4 + 3 * k := by
  have plain : ∀ {p : D}, Plain p → p.flat = true ∧ pur p = true ∧ sml p = true ∧ p.depth ≤ 3 := fun {p} hp => by
    obtain ⟨w, r, _, _, h1, h2⟩ := hp.facts
    obtain ⟨s, hs, rfl⟩ := hp
    refine ⟨h1, ?_, ?_, h2⟩
    · cases s with
      | num m => rfl
      | txt m => rfl
      | cho l =>
        show (true && (purL (l.map .str) && true)) = true
        rw [(purL_all _).mpr fun d hd => by obtain ⟨_, _, rfl⟩ := List.mem_map.mp hd; rfl]
        rfl
    · cases s with
      | num m => rfl
      | txt m => rfl
      | cho l =>
        have hl := hs.2.1
        have e : smlL (l.map .str) = true := (smlL_all _).mpr fun d hd => by
          obtain ⟨t, ht, rfl⟩ := List.mem_map.mp hd
          have := (hs.2.2.1 t ht).len
          exact decide_eq_true (by omega)
        show (true && (true && ((decide ((l.map D.str).length ≤ 100000) && smlL (l.map .str)) && true))) = true
        rw [e, decide_eq_true (by rw [List.length_map]; omega)]
        rfl
  induction h with
  | pl h => obtain ⟨h1, h2, h3, h4⟩ := plain h; exact ⟨h1, h2, h3, by omega⟩
  | @lst k d h m h0 h1 =>
    obtain ⟨h1, h2, h3, h4⟩ := plain h
    refine ⟨?_, ?_, ?_, ?_⟩
    · show (true && (d.flat && (true && true))) = true
      rw [h1]; rfl
    · show (true && (pur d && (true && true))) = true
      rw [h2]; rfl
    · show (true && (true && (sml d && (true && true)))) = true
      rw [h3]; rfl
    · show max 0 (max d.depth (max 0 0)) + 1 ≤ _
      omega
  | @recd k fs hn hl hs hm ih =>
    have e1 : D.flatL (fs.map fld) = true := flatL_map fun f hf => by
      show (true && (f.2.flat && true)) = true
      rw [(ih f hf).1]; rfl
    have e2 : purL (fs.map fld) = true := (purL_all _).mpr fun d hd => by
      obtain ⟨f, hf, rfl⟩ := List.mem_map.mp hd
      show (true && (pur f.2 && true)) = true
      rw [(ih f hf).2.1]; rfl
    have e3 : smlL (fs.map fld) = true := (smlL_all _).mpr fun d hd => by
      obtain ⟨f, hf, rfl⟩ := List.mem_map.mp hd
      have := (hm f hf).len
      show (true && (decide (f.1.length ≤ 100000) && (sml f.2 && true))) = true
      rw [(ih f hf).2.2.1, decide_eq_true (by omega)]; rfl
    have e4 : D.depthL (fs.map fld) ≤ 5 + 3 * k := depthL_le fun d hd => by
      obtain ⟨f, hf, rfl⟩ := List.mem_map.mp hd
      have := (ih f hf).2.2.2
      show max 0 (max f.2.depth 0) + 1 ≤ _
      omega
    refine ⟨?_, ?_, ?_, ?_⟩
    · show (true && (D.flatL (fs.map fld) && true)) = true
      rw [e1]; rfl
    · show (true && (purL (fs.map fld) && true)) = true
      rw [e2]; rfl
    · show (true && (true && ((decide ((fs.map fld).length ≤ 100000) && smlL (fs.map fld)) && true))) = true
      rw [e3, decide_eq_true (by rw [List.length_map]; omega)]; rfl
    · show max 0 (max (D.depthL (fs.map fld) + 1) 0) + 1 ≤ _
      omega
section
variable {G : Nat → Option D} {F : Nat → Option Fn}
theorem pickG (G : Nat → Option D) (F : Nat → Option Fn) (a b k L : Nat) : ∃ g : D → Txt, ∀ f, (∃ t, ShF G F a b k f t L) → ShF G F a b k f (g f) L := by
  refine ⟨fun f => open Classical in if h : ∃ t, ShF G F a b k f t L then Classical.choose h else [], fun f h => ?_⟩
  dsimp only
  rw [dif_pos h]
  exact Classical.choose_spec h
theorem shf_rec (h75 : F 75 = some f75) (h76 : F 76 = some f76) (h77 : F 77 = some f77) (h79 : F 79 = some f79) (h88 : F 88 = some f88) (h91 : F 91 = some f91) (h92 : F 92 = some f92) (h94 : F 94 = some f94) (g34 : G 34 = some (.str az)) {k : Nat} (hk3 : bndF k ≤ 8000) {fs : List (Txt × D)} (h8 : fs.length ≤ 8) (hm : ∀ f ∈ fs, Nm f.1) (hfl : D.flatL (fs.map fld) = true) {g : D → Txt} (hg : ∀ f ∈ fs, ShF G F (2 + k) (5 + 2 * k) k f.2 (g f.2) (bndF k)) {ts : List Txt} (hts : ts = fs.map fun f => f.1 ++ 32 :: g f.2) :
    ShF G F (3 + k) (7 + 2 * k) (k + 1) (.tup [.str wRec, .tup (fs.map fld)]) (114 :: 40 :: (jn [44, 32] true ts ++ [41])) (bndF (k + 1)) := by
  have hL : ∀ t ∈ ts, t.length ≤ bndF k + 9 := fun t ht => by
    rw [hts] at ht
    obtain ⟨f, hf, rfl⟩ := List.mem_map.mp ht
    have h1 := (hg f hf).len
    have h2 := (hm f hf).len
    rw [List.length_append, List.length_cons]
    omega
  have hlt : ts.length = fs.length := by rw [hts, List.length_map]
  have hjl := jn_len [44, 32] true ts hL
  rw [show ([44, 32] : Txt).length = 2 from rfl] at hjl
  have hmul : ts.length * (bndF k + 9 + 2) ≤ 8 * (bndF k + 9 + 2) := Nat.mul_le_mul_right _ (by omega)
  have hj : ∀ μ, meD .join μ (.str [44, 32]) [.lst (ts.map .str)] = .ok (.str (jn [44, 32] true ts)) μ := fun μ => m_joinT rfl hL (by rw [show ([44, 32] : Txt).length = 2 from rfl]; omega)
  have l1 : ([114, 40] : Txt).length + (jn [44, 32] true ts).length ≤ lim := by rw [show ([114, 40] : Txt).length = 2 from rfl, lim_val]; omega
  have l2 : (114 :: 40 :: jn [44, 32] true ts).length + ([41] : Txt).length ≤ lim := by rw [List.length_cons, List.length_cons, List.length_singleton, lim_val]; omega
  have a1 : ∀ μ, binD .add μ (.str [114, 40]) (.str (jn [44, 32] true ts)) = some (.str (114 :: 40 :: jn [44, 32] true ts)) := fun μ => if_pos l1
  have a2 : ∀ μ, binD .add μ (.str (114 :: 40 :: jn [44, 32] true ts)) (.str [41]) = some (.str (114 :: 40 :: (jn [44, 32] true ts ++ [41]))) := fun μ => if_pos l2
  have b1 : ∀ (μ : Mu) (f : Txt × D), f ∈ fs → binD .add μ (.str f.1) (.str [32]) = some (.str (f.1 ++ [32])) := fun μ f hf => if_pos (by have := (hm f hf).len; rw [List.length_singleton, lim_val]; omega)
  have b2 : ∀ (μ : Mu) (f : Txt × D), f ∈ fs → binD .add μ (.str (f.1 ++ [32])) (.str (g f.2)) = some (.str (f.1 ++ 32 :: g f.2)) := fun μ f hf => by
    have h1 := (hm f hf).len
    have h2 := (hg f hf).len
    show (if (f.1 ++ [32]).length + (g f.2).length ≤ lim then some (D.str (f.1 ++ [32] ++ g f.2)) else none) = _
    rw [if_pos (by rw [List.length_append, List.length_singleton, lim_val]; omega)]
    simp
  have e0 : ∀ μ, meTy .join μ (.str [44, 32]) = true := fun _ => rfl
  have hlim : (fs.map fld).length ≤ lim := by rw [List.length_map, lim_val]; omega
  refine ⟨by rw [List.length_cons, List.length_cons, List.length_append, List.length_singleton]; show _ ≤ 8 * bndF k + 98; omega, fun n μ => ?_, fun n μ => ?_, fun n μ o T j r dp hg0 hj0 hdp hT hr hst => ?_⟩
  · rw [show n + (3 + k) = n + (2 + k) + 1 by omega]
    refine wp_to (run_wp (n := n + (2 + k)) h88 rfl rfl ?_)
    show (exSs G (run G F (n + (2 + k))) b88 [some (.tup [.str wRec, .tup (fs.map fld)]), none, none] μ).wp _ _ _ _
    unfold b88
    refine ss_step ?_; intro K hK; solve_by_elim [evW]
    rw [if_neg (by decide)]
    (try simp only [hK])
    refine ss_step ?_; intro K hK; solve_by_elim [evW]
    rw [if_neg (by decide)]
    (try simp only [hK])
    refine ss_step ?_; intro K hK; solve_by_elim [evW]
    rw [if_neg (by decide)]
    (try simp only [hK])
    refine ss_step ?_; intro K hK; solve_by_elim [evW]
    rw [if_neg (by decide)]
    (try simp only [hK])
    solve_by_elim [evW, e0]
    rw [comp_txts (f := wt g) hlim fun d hd => ?_]
    rotate_left
    · obtain ⟨f, hf, rfl⟩ := List.mem_map.mp hd
      refine wp_to ?_
      unfold fld
      solve_by_elim [evV_o_adds, b1 μ f hf, (hg f hf).s88 n μ, b2 μ f hf]
      try (first | exact ⟨rfl, trivial⟩ | exact ⟨trivial, trivial⟩ | exact ⟨trivial, rfl⟩ | exact ⟨rfl, rfl⟩ | trivial)
    rw [wt_map, ← hts]
    solve_by_elim [evV_o_adds, hj, a1, a2]
    try (first | exact ⟨rfl, trivial⟩ | exact ⟨trivial, trivial⟩ | exact ⟨trivial, rfl⟩ | exact ⟨rfl, rfl⟩ | trivial)
  · rw [show n + (3 + k) = n + (2 + k) + 1 by omega]
    refine wp_to (run_wp (n := n + (2 + k)) h94 rfl rfl ?_)
    show (exSs G (run G F (n + (2 + k))) b94 [some (.tup [.str wRec, .tup (fs.map fld)]), none] μ).wp _ _ _ _
    unfold b94
    refine ss_step ?_; intro K hK; solve_by_elim [evW]
    rw [if_neg (by decide)]
    (try simp only [hK])
    refine ss_step ?_; intro K hK; solve_by_elim [evW]
    rw [if_neg (by decide)]
    (try simp only [hK])
    refine ss_step ?_; intro K hK; solve_by_elim [evW]
    rw [if_neg (by decide)]
    (try simp only [hK])
    refine ss_step ?_; intro K hK; solve_by_elim [evW]
    rw [if_neg (by decide)]
    (try simp only [hK])
    solve_by_elim [evW, e0]
    rw [comp_txts (f := wt g) hlim fun d hd => ?_]
    rotate_left
    · obtain ⟨f, hf, rfl⟩ := List.mem_map.mp hd
      refine wp_to ?_
      unfold fld
      solve_by_elim [evV_o_adds, b1 μ f hf, (hg f hf).s94 n μ, b2 μ f hf]
      try (first | exact ⟨rfl, trivial⟩ | exact ⟨trivial, trivial⟩ | exact ⟨trivial, rfl⟩ | exact ⟨rfl, rfl⟩ | trivial)
    rw [wt_map, ← hts]
    solve_by_elim [evV_o_adds, hj, a1, a2]
    try (first | exact ⟨rfl, trivial⟩ | exact ⟨trivial, trivial⟩ | exact ⟨trivial, rfl⟩ | exact ⟨rfl, rfl⟩ | trivial)
  · rw [show n + (7 + 2 * k) = n + 6 + 2 * k + 1 by omega]
    refine wp_to (run_wp (n := n + 6 + 2 * k) h92 rfl rfl ?_)
    show (exSs G (run G F (n + 6 + 2 * k)) b92 [some (.loc o), some (.int dp), none] μ).wp _ _ _ _
    unfold b92
    have hr0 : T.drop j.toNat = [114, 40] ++ (jn [44, 32] true ts ++ 41 :: r) := by rw [hr]; simp
    have hst0 := starts_ok (G := G) (n := n + 5 + 2 * k) h75 hg0 hj0 hT [108] (by decide)
    rw [hr, decide_eq_false (by simp)] at hst0
    have hst1 := starts_ok (G := G) (n := n + 5 + 2 * k) h75 hg0 hj0 hT [114, 40] (by decide)
    rw [hr, decide_eq_true (by rfl)] at hst1
    have hpa := past_ok (G := G) (n := n + 4 + 2 * k) h75 h76 hg0 hj0 hT [114, 40] (by decide) hr0
    have hr1 := drop_add hj0 hr0
    rw [show (([114, 40] : Txt).length : Int) = 2 from rfl] at hpa hr1
    rw [show n + 4 + 2 * k + 2 = n + 6 + 2 * k by omega] at hpa
    rw [show n + 5 + 2 * k + 1 = n + 6 + 2 * k by omega] at hst0 hst1
    have hg1 : (μ.set o (sgC T (j + 2)))[o]? = some (sgC T (j + 2)) := set_get hg0
    have hl91 := rec_91 (G := G) (n := n + 3 + 2 * k) (fs := fs) (ts := ts) (dp := dp - 1) h75 h76 h77 h79 h91 g34 hm hg1 hfl (by omega) (by omega) hT hlt hr1 (fun i f w h1 h2 => by
      have hf := List.mem_of_getElem? h1
      rw [hts, List.getElem?_map, h1] at h2
      refine ⟨g f.2, (Option.some.inj h2).symm, fun μ2 j2 s2 h4 h5 h6 h7 => ?_⟩
      have := (hg f hf).rd n μ2 o T j2 s2 (dp - 1) h4 h5 (by omega) hT h6 h7
      rw [show n + (5 + 2 * k) = n + 3 + 2 * k + 2 by omega] at this
      exact this)
    rw [show n + 3 + 2 * k + 3 = n + 6 + 2 * k by omega] at hl91
    have hd0 : (dp == 0) = false := by rw [beq_eq_false_iff_ne]; omega
    refine ss_step ?_; intro K hK
    solve_by_elim [evW, sg_is hg0, hst0]
    simp only [hK]
    refine ss_step ?_; intro K2 hK2
    solve_by_elim [evW, sg_is hg0, hst1, hd0, hpa]
    try rw [if_neg (by omega)]
    refine Res.wp_mono hl91 fun d μ' hd => ?_
    obtain ⟨rfl, j3, rfl, hj3, hr3⟩ := hd
    solve_by_elim [evW]
    refine ⟨by trivial, ?_⟩
    rw [set_set]
    have h6 := drop_le (u := 40 :: (jn [44, 32] true ts ++ [41]) ++ r) hj0 hr
    rw [List.length_append, List.length_cons] at h6
    congr 2
    show _ = j + (((jn [44, 32] true ts ++ [41]).length + 1 + 1 : Nat) : Int)
    omega
theorem shf_fo (h75 : F 75 = some f75) (h76 : F 76 = some f76) (h77 : F 77 = some f77) (h78 : F 78 = some f78) (h79 : F 79 = some f79) (h88 : F 88 = some f88) (h89 : F 89 = some f89) (h90 : F 90 = some f90) (h91 : F 91 = some f91) (h92 : F 92 = some f92) (h94 : F 94 = some f94) (g34 : G 34 = some (.str az)) (g60 : G 60 = some (.str figs)) (g61 : G 61 = some (.int 9)) {k : Nat} {f : D} (hf : Fo k f) : k ≤ 3 → ∃ t, ShF G F (2 + k) (5 + 2 * k) k f t (bndF k) := by
  induction hf with
  | @pl k p h =>
    intro _
    obtain ⟨t, ht⟩ := pr_plain h75 h76 h77 h78 h79 h88 h89 h90 h94 g34 g60 g61 h
    have := bndF_ge k
    exact ⟨t, (shf_plain h75 h92 ht k).more (by omega) (by omega) (Nat.le_refl _) (by omega)⟩
  | @lst k p h m h0 h1 =>
    intro _
    obtain ⟨t, ht⟩ := pr_plain h75 h76 h77 h78 h79 h88 h89 h90 h94 g34 g60 g61 h
    have := bndF_ge k
    exact ⟨_, (shf_list h75 h76 h77 h78 h88 h92 h94 g60 g61 ht h0 h1 k).more (by omega) (by omega) (Nat.le_refl _) this⟩
  | @recd k fs hn hl8 hs hm ih =>
    intro hk
    have hfl : D.flatL (fs.map fld) = true := flatL_map fun f hf => by
      show (true && (f.2.flat && true)) = true
      rw [((hs f hf).flat').1]; rfl
    obtain ⟨g, hg⟩ := pickG G F (2 + k) (5 + 2 * k) k (bndF k)
    exact ⟨_, (shf_rec h75 h76 h77 h79 h88 h91 h92 h94 g34 (bndF_le (by omega)) hl8 hm hfl (g := g) (fun f hf => hg f.2 (ih f hf (by omega))) rfl).more (by omega) (by omega) (Nat.le_refl _) (Nat.le_refl _)⟩
/-- a text tells one form alone -/
theorem ShF.one {a b k L a' k' L' : Nat} {f f' : D} {t : Txt} (h : ShF G F a b k f t L) (h' : ShF G F a' b k' f' t L') (hk : k ≤ 100) (hk' : k' ≤ 100) (ht : t.length ≤ 100000) : f = f' := by
  have h1 := h.rd 0 [sgC t 0] 0 t 0 [] 100 rfl (by decide) (by omega) ht (by rw [List.append_nil]; rfl) ⟨nob_nil, nob_nil⟩
  have h2 := h'.rd 0 [sgC t 0] 0 t 0 [] 100 rfl (by decide) (by omega) ht (by rw [List.append_nil]; rfl) ⟨nob_nil, nob_nil⟩
  rw [h1] at h2
  injection h2
end

/-! any text, read: a refusal or a thing -/
/-- NoText, the reader somewhere else -/
def exT (μ : Mu) (o : Nat) (T : Txt) : Ex → Mu → Prop := fun x μ' => x = ⟨64, .non⟩ ∧ ∃ j Z, μ' = μ.set o (sgC T j) ++ Z
theorem exT_of {μ : Mu} {o : Nat} {T : Txt} {j : Int} (c : Cell) (h : μ[o]? = some c) {x : Ex} {μ' : Mu} (q : exT (μ.set o (sgC T j)) o T x μ') : exT μ o T x μ' := by
  obtain ⟨rfl, i, Z, rfl⟩ := q
  exact ⟨rfl, i, Z, by rw [set_set]⟩
theorem exT_here {μ : Mu} {o : Nat} {T : Txt} {i : Int} (h : μ[o]? = some (sgC T i)) : exT μ o T ⟨64, .non⟩ μ := ⟨rfl, i, [], by rw [set_id h, List.append_nil]⟩
theorem exT_set {μ : Mu} {o : Nat} {T : Txt} {j : Int} : exT μ o T ⟨64, .non⟩ (μ.set o (sgC T j)) := ⟨rfl, j, [], by rw [List.append_nil]⟩
/-- such a refusal leaves a def -/
theorem exT_fin {μ : Mu} {o : Nat} {T : Txt} {j0 : Int} {l : Cell} (ho : o < μ.length) {x : Ex} {μ' : Mu} (q : exT (μ.set o (sgC T j0) ++ [l]) o T x μ') : finX μ (exT μ o T) x μ' := by
  obtain ⟨rfl, j, Z, rfl⟩ := q
  have e : (μ.set o (sgC T j0) ++ [l]).set o (sgC T j) ++ Z = μ.set o (sgC T j) ++ (l :: Z) := by rw [List.set_append_left _ _ (by rw [List.length_set]; exact ho), set_set, List.append_assoc]; rfl
  have hl : (μ.set o (sgC T j)).length = μ.length := List.length_set ..
  rw [e]
  refine ⟨?_, rfl, j, [], ?_⟩
  · rw [Bool.and_eq_true]
    refine ⟨cut_ok (S := [o]) ⟨by rw [List.length_append, hl]; omega, fun i' hi hS => ?_⟩ fun i' hi _ => ?_, rfl⟩
    · have hne : i' ≠ o := fun e => hS (by simp [e])
      rw [List.getElem?_append_left (by omega), List.getElem?_set_ne fun e => hne e.symm]
    · have : i' = o := by simpa using hi
      subst this
      exact ⟨sgC T j, by rw [List.getElem?_append_left (by omega)]; exact List.getElem?_set_self ho, rfl⟩
  · rw [List.append_nil, ← hl, List.take_left]
section
variable {G : Nat → Option D} {F : Nat → Option Fn} {n : Nat} {μ : Mu} {o : Nat} {T : Txt} {i : Int}
/-- the reader is at j -/
def At (lo : Int) (μ : Mu) (o : Nat) (T : Txt) (μ' : Mu) : Prop := ∃ j : Int, lo ≤ j ∧ j ≤ T.length ∧ μ' = μ.set o (sgC T j)
theorem At.mono {a b : Int} {μ μ' : Mu} {o : Nat} {T : Txt} (h : At a μ o T μ') (hb : b ≤ a) : At b μ o T μ' := by
  obtain ⟨j, h1, h2, h3⟩ := h
  exact ⟨j, by omega, h2, h3⟩
theorem past_x (h75 : F 75 = some f75) (h76 : F 76 = some f76) (h : μ[o]? = some (sgC T i)) (h0 : 0 ≤ i) (hT : T.length ≤ 100000) (s : Txt) (hs : s.length ≤ 100) (hs1 : s ≠ []) :
    (run G F (n + 2) 76 [.loc o, .str s] μ).wp (fun d μ' => d = .non ∧ At (i + 1) μ o T μ') (exT μ o T) := by
  by_cases hp : (T.drop i.toNat).take s.length = s
  · have hr : T.drop i.toNat = s ++ (T.drop i.toNat).drop s.length := by
      have := List.take_append_drop s.length (T.drop i.toNat)
      rw [hp] at this
      exact this.symm
    rw [past_ok h75 h76 h h0 hT s hs hr]
    have := drop_le' h0 hr hs1
    have hp := List.length_pos_iff.mpr hs1
    exact .mk ⟨rfl, _, by omega, by omega, rfl⟩
  · refine run_wp h76 rfl rfl ?_
    show (exSs G (run G F (n + 1)) b76 [some (.loc o), some (.str s)] μ).wp _ _ _ _ _
    unfold b76
    have hst := starts_ok (G := G) (n := n) h75 h h0 hT s hs
    rw [decide_eq_false hp] at hst
    refine ss_step ?_; intro K hK
    solve_by_elim [evW, sg_is h, hst, s_ra]
    exact exT_here h
theorem of_x (h77 : F 77 = some f77) (h : μ[o]? = some (sgC T i)) (h0 : 0 ≤ i) (hiT : i ≤ T.length) (hT : T.length ≤ 100000) (cs : Txt) :
    (run G F (n + 1) 77 [.loc o, .str cs] μ).wp (fun d μ' => (∃ a : Txt, d = .str a ∧ a ≠ [] ∧ a.length ≤ T.length ∧ ∀ c ∈ a, cs.contains c = true) ∧ At (i + 1) μ o T μ') (exT μ o T) := by
  have hspl : ∀ l : Txt, ∃ a b : Txt, l = a ++ b ∧ (∀ c ∈ a, cs.contains c = true) ∧ nob cs b := fun l => by
    induction l with
    | nil => exact ⟨[], [], rfl, by simp, nob_nil⟩
    | cons c r ih =>
      cases hc : cs.contains c with
      | true =>
        obtain ⟨a, b, e, h1, h2⟩ := ih
        refine ⟨c :: a, b, by rw [e]; rfl, fun x hx => ?_, h2⟩
        rcases List.mem_cons.mp hx with rfl | hx
        · exact hc
        · exact h1 x hx
      | false => exact ⟨[], c :: r, rfl, by simp, nob_cons hc⟩
  obtain ⟨a, b, hab, ha, hb⟩ := hspl (T.drop i.toNat)
  cases a with
  | cons c a =>
    rw [of_ok h77 h h0 hT hab (by simp) ha hb]
    have := drop_le' h0 hab (by simp)
    have hl : (c :: a).length = a.length + 1 := rfl
    exact .mk ⟨⟨_, rfl, by simp, by omega, ha⟩, _, by omega, by omega, rfl⟩
  | nil =>
    refine run_wp h77 rfl rfl ?_
    show (exSs G (run G F n) b77 [some (.loc o), some (.str cs), none] μ).wp _ _ _ _ _
    unfold b77
    obtain ⟨kk, hkk⟩ : ∃ kk : Int, (T.length : Int) = kk := ⟨_, rfl⟩
    have hlen := fun μ => len_str' (μ := μ) (s := T) hT
    rw [hkk] at hlen
    refine ss_step ?_; intro K hK
    solve_by_elim [evW, sg_at h]
    simp only [hK]
    refine ss_step ?_; intro K2 hK2
    solve_by_elim [evW]
    have hout : K2 [some (.loc o), some (.str cs), some (.int i)] μ := by
      simp only [hK2]
      refine ss_step ?_; intro K3 hK3
      solve_by_elim [evW, sg_at h, beq_self_eq_true, s_ra]
      exact exT_here h
    refine while_wp (fun m ρ μ' => m = 0 ∧ μ' = μ ∧ ρ = [some (.loc o), some (.str cs), some (.int i)]) ?_ 0 manyTurns _ _ (by decide) ⟨rfl, rfl, rfl⟩
    rintro m ρ μ' ⟨rfl, rfl, rfl⟩
    solve_by_elim [evV_b_len, sg_at h, sg_text h, hlen]
    by_cases hjk : i < kk
    · rw [if_pos hjk]
      obtain ⟨c, hc⟩ : ∃ c, T[i.toNat]? = some c := ⟨_, List.getElem?_eq_getElem (by omega)⟩
      have hidx := fun μ => idx_T (μ := μ) h0 hT hc
      have hcb : (T.drop i.toNat)[0]? = some c := by rw [List.getElem?_drop]; exact hc
      rw [hab] at hcb
      solve_by_elim [evV_b_len, hidx, in_T]
      cases b with
      | nil => cases hcb
      | cons d r =>
        cases hcb
        rw [hb _ _ rfl, if_neg (by simp)]
        exact hout
    · rw [if_neg hjk]
      (try simp only [Bool.false_eq_true, if_false])
      exact hout
theorem whole_x (h77 : F 77 = some f77) (h78 : F 78 = some f78) (g60 : G 60 = some (.str figs)) (g61 : G 61 = some (.int 9)) (h : μ[o]? = some (sgC T i)) (h0 : 0 ≤ i) (hiT : i ≤ T.length) (hT : T.length ≤ 100000) :
    (run G F (n + 2) 78 [.loc o] μ).wp (fun d μ' => (∃ m : Nat, d = .int m) ∧ At (i + 1) μ o T μ') (exT μ o T) := by
  refine run_wp h78 rfl rfl ?_
  show (exSs G (run G F (n + 1)) b78 [some (.loc o), none] μ).wp _ _ _ _ _
  unfold b78
  refine ss_step ?_; intro K hK
  solve_by_elim [evW, sg_is h, g60]
  refine Res.wp_mono (of_x (G := G) (F := F) (n := n) h77 h h0 hiT hT figs) fun d μ' hd => ?_
  obtain ⟨⟨a, rfl, hne, hal, hac⟩, j, hj0, hj1, rfl⟩ := hd
  solve_by_elim [evW]
  simp only [hK]
  obtain ⟨kk, hkk⟩ : ∃ kk : Int, (a.length : Int) = kk := ⟨_, rfl⟩
  have hlen := fun μ => len_str' (μ := μ) (s := a) (by omega)
  rw [hkk] at hlen
  refine ss_step ?_; intro K2 hK2
  solve_by_elim [evV_b_len, hlen, g61, s_ra]
  by_cases h9 : 9 < kk
  · rw [if_pos h9]
    exact exT_set
  · rw [if_neg h9]
    simp only [hK2]
    have hdig : digB a = true := by
      unfold digB
      rw [List.all_eq_true]
      intro c hc
      have h1 : c ∈ figs := by simpa using hac c hc
      have : ∀ c ∈ figs, (decide (48 ≤ c) && decide (c ≤ 57)) = true := by decide
      exact this c h1
    have hint : ∀ μ, biD .int μ [.str a] = some (.int (digV a)) := fun μ => by
      show (if digB a = true ∧ a ≠ [] ∧ a.length ≤ 640 then some (D.int (digV a)) else none) = _
      rw [if_pos ⟨hdig, hne, by omega⟩]
    solve_by_elim [evV_b_int, hint]
    exact ⟨⟨_, rfl⟩, j, hj0, hj1, rfl⟩
theorem nam_x (h77 : F 77 = some f77) (h79 : F 79 = some f79) (g34 : G 34 = some (.str az)) (h : μ[o]? = some (sgC T i)) (h0 : 0 ≤ i) (hiT : i ≤ T.length) (hT : T.length ≤ 100000) :
    (run G F (n + 2) 79 [.loc o] μ).wp (fun d μ' => (∃ a : Txt, d = .str a ∧ a.length ≤ T.length) ∧ At (i + 1) μ o T μ') (exT μ o T) := by
  refine run_wp h79 rfl rfl ?_
  show (exSs G (run G F (n + 1)) b79 [some (.loc o)] μ).wp _ _ _ _ _
  unfold b79
  solve_by_elim [evW, sg_is h, g34]
  refine Res.wp_mono (of_x (G := G) (F := F) (n := n) h77 h h0 hiT hT az) fun d μ' hd => ?_
  obtain ⟨⟨a, rfl, hne, hal, hac⟩, hat⟩ := hd
  exact ⟨⟨a, rfl, hal⟩, hat⟩
theorem some_x (h80 : F 80 = some f80) (h : μ[o]? = some (sgC T i)) (h0 : 0 ≤ i) (hiT : i ≤ T.length) (hT : T.length ≤ 100000) (m : Nat) :
    (run G F (n + 1) 80 [.loc o, .int m] μ).wp (fun d μ' => (∃ a : Txt, d = .str a ∧ a.length ≤ T.length) ∧ At i μ o T μ') (exT μ o T) := by
  by_cases hm : i.toNat + m ≤ T.length
  · have hr : T.drop i.toNat = (T.drop i.toNat).take m ++ (T.drop i.toNat).drop m := (List.take_append_drop ..).symm
    have hl : ((T.drop i.toNat).take m).length = m := by rw [List.length_take, List.length_drop]; omega
    have := some_80 (G := G) (n := n) h80 h h0 hT hr hiT
    rw [hl] at this
    rw [this]
    exact .mk ⟨⟨_, rfl, by omega⟩, _, by omega, by omega, rfl⟩
  · refine run_wp h80 rfl rfl ?_
    obtain ⟨tt, htt⟩ : ∃ tt : Int, (T.length : Int) = tt := ⟨_, rfl⟩
    obtain ⟨mm, hmm⟩ : ∃ mm : Int, (m : Int) = mm := ⟨_, rfl⟩
    have hlen := fun μ => len_str' (μ := μ) (s := T) (by omega)
    rw [htt] at hlen
    rw [hmm]
    show (exSs G (run G F n) b80 [some (.loc o), some (.int mm)] μ).wp _ _ _ _ _
    unfold b80
    have hle : (tt < i + mm) = True := eq_true (by omega)
    refine ss_step ?_; intro K hK
    solve_by_elim [evV_b_len, sg_text h, sg_at h, hlen, hle, s_ra]
    exact exT_here h
theorem end_x (h81 : F 81 = some f81) (h : μ[o]? = some (sgC T i)) (hT : T.length ≤ 100000) : (run G F (n + 1) 81 [.loc o] μ).wp (fun d μ' => d = .non ∧ μ' = μ ∧ i = T.length) (exT μ o T) := by
  refine run_wp h81 rfl rfl ?_
  show (exSs G (run G F n) b81 [some (.loc o)] μ).wp _ _ _ _ _
  unfold b81
  have hlen := fun μ => len_str' (μ := μ) (s := T) hT
  solve_by_elim [evV_b_len, sg_text h, sg_at h, hlen, s_ra]
  by_cases hi : i = T.length
  · rw [if_neg (by simp [hi])]
    exact ⟨trivial, trivial, hi⟩
  · rw [if_pos (by simp [hi])]
    exact exT_here h
end

/-! what is_form takes is a form -/
theorem isW_of {t : Txt} {d : D} (h : isW t d = true) : d = .str t := by
  cases d with
  | str s =>
    have : s = t := of_decide_eq_true h
    rw [this]
  | _ => cases h
theorem nameB_nm {d : D} (h : nameB d = true) : ∃ s, d = .str s ∧ Nm s := by
  cases d with
  | str s =>
    have h : (decide (1 ≤ s.length) && decide (s.length ≤ 8) && s.all lowB) = true := h
    rw [Bool.and_eq_true, Bool.and_eq_true, decide_eq_true_eq, decide_eq_true_eq, List.all_eq_true] at h
    obtain ⟨⟨h1, h2⟩, h3⟩ := h
    have rng : ∀ c ∈ s, 97 ≤ c ∧ c < 123 := fun c hc => by
      have := h3 c hc
      unfold lowB az at this
      simp only [List.contains_cons, List.contains_nil, Bool.or_false, Bool.or_eq_true, beq_iff_eq] at this
      omega
    refine ⟨s, rfl, h2, rng, ?_⟩
    have hne : s ≠ [] := by
      intro e
      rw [e] at h1
      simp at h1
    obtain ⟨q1, q2⟩ := rng _ (List.getLast_mem hne)
    refine ⟨s.dropLast, s.getLast hne - 97, ?_, by omega⟩
    rw [show 97 + (s.getLast hne - 97) = s.getLast hne by omega]
    exact (List.dropLast_concat_getLast hne).symm
  | _ => cases h
theorem names_of {l : List D} (h : l.all nameB = true) : ∃ ss : List Txt, l = ss.map .str ∧ ∀ s ∈ ss, Nm s := by
  refine ⟨l.map txtOf, names_txt h, fun s hs => ?_⟩
  obtain ⟨d, hd, rfl⟩ := List.mem_map.mp hs
  obtain ⟨s, rfl, hn⟩ := nameB_nm (List.all_eq_true.mp h d hd)
  exact hn
theorem plainB_pl {p : D} (h : plainB p = true) : Plain p := by
  unfold plainB at h
  split at h
  · rename_i w m
    split at h
    · rename_i hw
      rw [isW_of hw]
      cases m with
      | int i =>
        have h : (decide (1 ≤ i) && decide (i ≤ 240)) = true := h
        rw [Bool.and_eq_true, decide_eq_true_eq, decide_eq_true_eq] at h
        exact ⟨.num i, h, rfl⟩
      | _ => cases h
    · split at h
      · rename_i hw
        rw [isW_of hw]
        cases m with
        | int i =>
          have h : (decide (0 ≤ i) && decide (i ≤ 20)) = true := h
          rw [Bool.and_eq_true, decide_eq_true_eq, decide_eq_true_eq] at h
          exact ⟨.txt i, h, rfl⟩
        | _ => cases h
      · rw [Bool.and_eq_true] at h
        obtain ⟨hw, h⟩ := h
        rw [isW_of hw]
        cases m with
        | tup l =>
          have h : (decide (1 ≤ l.length) && decide (l.length ≤ 6) && (l.all nameB && decide (l.map txtOf).Nodup)) = true := h
          rw [Bool.and_eq_true, Bool.and_eq_true, Bool.and_eq_true, decide_eq_true_eq, decide_eq_true_eq, decide_eq_true_eq] at h
          obtain ⟨⟨h1, h2⟩, h3, h4⟩ := h
          obtain ⟨ss, rfl, hn⟩ := names_of h3
          have e : (ss.map D.str).map txtOf = ss := by
            rw [List.map_map]
            exact (List.map_congr_left fun _ _ => rfl).trans (List.map_id ss)
          rw [e] at h4
          rw [List.length_map] at h1 h2
          exact ⟨.cho ss, ⟨h1, h2, hn, h4⟩, rfl⟩
        | _ => cases h
  · cases h
theorem base_fo {k : Nat} {r : D → Bool} {d : D} (h : baseB r d = true) (hr : ∀ x, r x = true → Fo k (.tup [.str wRec, x])) : Fo k d := by
  unfold baseB at h
  split at h
  · rename_i w q
    split at h
    · rename_i hw
      rw [isW_of hw]
      unfold lstQ at h
      split at h
      · rename_i p m
        rw [Bool.and_eq_true] at h
        obtain ⟨h1, h2⟩ := h
        cases m with
        | int i =>
          have h2 : (decide (1 ≤ i) && decide (i ≤ 4)) = true := h2
          rw [Bool.and_eq_true, decide_eq_true_eq, decide_eq_true_eq] at h2
          exact .lst (plainB_pl h1) h2.1 h2.2
        | _ => cases h2
      · cases h
    · split at h
      · rename_i hw
        rw [isW_of hw]
        unfold recQ at h
        split at h
        · exact hr _ h
        · cases h
      · exact .pl (plainB_pl h)
  · cases h
theorem formB_fo : ∀ (k : Nat) (d : D), formB k d = true → Fo k d
  | 0, d, h => base_fo h fun x hx => (by cases hx)
  | k + 1, d, h => by
    refine base_fo (r := recB (formB k)) h fun x hx => ?_
    unfold recB at hx
    split at hx
    · rename_i l
      rw [Bool.and_eq_true, Bool.and_eq_true, decide_eq_true_eq, decide_eq_true_eq, List.all_eq_true] at hx
      obtain ⟨⟨h1, h2⟩, h3⟩ := hx
      have key : ∀ d ∈ l, ∃ (s : Txt) (f : D), d = fld (s, f) ∧ Nm s ∧ Fo k f := fun d hd => by
        have := h2 d hd
        unfold fldB at this
        split at this
        · rename_i n x
          rw [Bool.and_eq_true] at this
          obtain ⟨q1, q2⟩ := this
          obtain ⟨s, rfl, hn⟩ := nameB_nm q1
          exact ⟨s, x, rfl, hn, formB_fo k x q2⟩
        · cases this
      obtain ⟨fs, rfl, hfs⟩ : ∃ fs : List (Txt × D), l = fs.map fld ∧ ∀ p ∈ fs, Nm p.1 ∧ Fo k p.2 := by
        clear h1 h2 h3 h
        induction l with
        | nil => exact ⟨[], rfl, fun p hp => by cases hp⟩
        | cons d r ih =>
          obtain ⟨fs, rfl, hfs⟩ := ih fun x hx => key x (List.mem_cons_of_mem _ hx)
          obtain ⟨s, f, rfl, hn, hf⟩ := key d List.mem_cons_self
          refine ⟨(s, f) :: fs, rfl, fun p hp => ?_⟩
          rcases List.mem_cons.mp hp with rfl | hp
          · exact ⟨hn, hf⟩
          · exact hfs p hp
      have e1 : ((fs.map fld).map headD).map txtOf = fs.map Prod.fst := by
        rw [List.map_map, List.map_map]
        exact List.map_congr_left fun _ _ => rfl
      rw [e1] at h3
      rw [List.length_map] at h1
      exact .recd h3 h1 (fun p hp => (hfs p hp).2) fun p hp => (hfs p hp).1
    · cases hx

local macro_rules | `(tactic| solve_by_elim [evV_ss_c, $[$xs:term],*]) => `(tactic| (try simp only [ss_n, s_e, s_r, s_rN, s_a, s_i, s_x, s_p, s_b, s_c, s_f, s_w, v_var, v_con, v_glo, v_bin, v_neg, v_cmp, v_cmp2, v_and, v_or, v_not, v_ite, v_tup, v_lstT, v_lstF, v_cat, v_idx, v_lrep, v_slc, v_call, v_bi, v_me, v_comp, turnC_wp, c_n, c_s, es_n, es_c, eo_n, eo_s, t_var, t_con, t_cm, t_cm2, t_an, t_or', t_no, t_bi, t_call, t_idx, v_dictP, v_dictL, v_mlst, v_zipL, v_fnv, v_tget, v_callv, fnAt_fn, v_callL, cap_n, cap_c, s_sl, t_callv, v_new, v_fld, v_meth, s_sf, s_af, t_fld, t_meth, put_nm, put_tp, putL_n, putL_c, Option.bind_some, ofo_some, ofo_none, ofoE_some, ofoE_none, ofo_ite, ofo_map, ofo_bind, o_add, o_adds, o_addt, o_addl, o_sub, o_mul, o_muls, o_mult, l_rep, c_is, c_nis, is_bl, o_fdiv, o_mod, c_lt, c_le, c_gt, c_ge, c_eq, c_ne, c_in, c_nin, q_int, q_strd, tr_bl, x_tup, x_lst, intOf_int, b_isin, k_ii, k_bi, k_si, k_ss, k_is, k_tt, k_ti, k_ts, o_pow, i_r1, i_r2, i_tup, i_lst, i_en, b_len, b_lenl, b_tup, tup_lst, b_lst, b_int, b_inti, b_trg, b_lrg, b_min, atZ0, atZ1, atZ2, ixZ0, ixZ1, ixZ2, List.length_set, wp_ok, List.getElem?_cons_zero, List.getElem?_cons_succ, List.set_cons_zero, List.set_cons_succ, wipeR, List.length_cons, List.length_nil, List.map_cons, List.map_nil, List.replicate_succ, List.replicate_zero, List.cons_append, List.nil_append, decide_eq_true_eq, beq_iff_eq, Bool.not_eq_true', Bool.true_eq_false, and_self, Nat.zero_le, lim1, lim2, lim3, lim4, lim5, decide_true, decide_false, Bool.not_true, Bool.not_false, ite_true, ite_false, if_true, if_false, Bool.false_eq_true, $[$xs:term],*]))
/-! any text, read as a form: a refusal or a thing -/
def Tn (d : D) : Prop := pur d = true ∧ sml d = true
theorem Tn.row {l : List D} (h : ∀ x ∈ l, Tn x) (hl : l.length ≤ 100000) : Tn (.tup l) := by
  refine ⟨(purL_all l).mpr fun x hx => (h x hx).1, ?_⟩
  show (decide (l.length ≤ 100000) && smlL l) = true
  rw [decide_eq_true hl, Bool.true_and, smlL_all]
  exact fun x hx => (h x hx).2
theorem Tn.int (i : Int) : Tn (.int i) := ⟨rfl, rfl⟩
theorem Tn.str {s : Txt} (h : s.length ≤ 100000) : Tn (.str s) := ⟨rfl, decide_eq_true h⟩
theorem Tn.two {a b : D} (ha : Tn a) (hb : Tn b) : Tn (.tup [a, b]) := Tn.row (fun x hx => by
  simp only [List.mem_cons, List.not_mem_nil, or_false] at hx
  rcases hx with rfl | rfl <;> assumption) (by simp)
theorem Tn.three {a b c : D} (ha : Tn a) (hb : Tn b) (hc : Tn c) : Tn (.tup [a, b, c]) := Tn.row (fun x hx => by
  simp only [List.mem_cons, List.not_mem_nil, or_false] at hx
  rcases hx with rfl | rfl | rfl <;> assumption) (by simp)
theorem Tn.add {l : List D} {x : D} (h : ∀ y ∈ l, Tn y) (hx : Tn x) : ∀ y ∈ l ++ [x], Tn y := fun y hy => by
  rcases List.mem_append.mp hy with hy | hy
  · exact h y hy
  · rw [List.mem_singleton.mp hy]; exact hx
section
variable {G : Nat → Option D} {F : Nat → Option Fn}
/-- the end of a def that has laid a list behind the reader -/
theorem fin_row {μ : Mu} {o : Nat} {T : Txt} {i j1 : Int} {acc : List D} (ho : μ[o]? = some (sgC T i)) (hall : ∀ x ∈ acc, Tn x) (hacc : acc.length ≤ 100000) {lo : Int} (hj1 : lo ≤ j1) (hj1T : j1 ≤ T.length) {X : Ex → Mu → Prop} :
    (fin μ (μ.set o (sgC T j1) ++ [.lst acc]) (.tup acc)).wp (fun d μ' => Tn d ∧ At lo μ o T μ') X := by
  have hoL := (List.getElem?_eq_some_iff.mp ho).1
  have hfl : D.flatL acc = true := purL_flat _ ((purL_all _).mpr fun x hx => (hall x hx).1)
  refine fin_wp (S := [o]) ⟨by rw [List.length_append, List.length_set]; omega, fun i' hi hS => ?_⟩ (fun i' hi _ => ?_) hfl ⟨Tn.row hall hacc, j1, hj1, hj1T, ?_⟩
  · have hne : i' ≠ o := fun e => hS (by simp [e])
    rw [List.getElem?_append_left (by rw [List.length_set]; omega), List.getElem?_set_ne fun e => hne e.symm]
  · have : i' = o := by simpa using hi
    subst this
    exact ⟨sgC T j1, push_old (set_get ho), rfl⟩
  · have e : (μ.set o (sgC T j1)).length = μ.length := List.length_set ..
    rw [← e, List.take_left]
theorem chos_x (h75 : F 75 = some f75) (h76 : F 76 = some f76) (h77 : F 77 = some f77) (h79 : F 79 = some f79) (h89 : F 89 = some f89) (g34 : G 34 = some (.str az)) {n o : Nat} {T : Txt} {i : Int} {μ : Mu}
    (ho : μ[o]? = some (sgC T i)) (h0 : 0 ≤ i) (hi : i ≤ T.length) (hT : T.length ≤ 90000) :
    (run G F (n + 3) 89 [.loc o] μ).wp (fun d μ' => Tn d ∧ At i μ o T μ') (exT μ o T) := by
  have hoL := (List.getElem?_eq_some_iff.mp ho).1
  have hoq : o ≠ μ.length := by omega
  refine run_wpzX h89 rfl rfl ?_
  show (exSs G (run G F (n + 2)) b89 [some (.loc o), none] μ).wp _ _ _ _ _
  unfold b89
  have xfin : ∀ {x μ'}, exT μ o T x μ' → finX μ (exT μ o T) x μ' := fun {x μ'} q => by
    obtain ⟨rfl, j, Z, rfl⟩ := q
    have hl : (μ.set o (sgC T j)).length = μ.length := List.length_set ..
    refine ⟨?_, rfl, j, [], ?_⟩
    · rw [Bool.and_eq_true]
      refine ⟨cut_ok (S := [o]) ⟨by rw [List.length_append, hl]; omega, fun i' hi hS => ?_⟩ fun i' hi _ => ?_, rfl⟩
      · have hne : i' ≠ o := fun e => hS (by simp [e])
        rw [List.getElem?_append_left (by omega), List.getElem?_set_ne fun e => hne e.symm]
      · have : i' = o := by simpa using hi
        subst this
        exact ⟨sgC T j, by rw [List.getElem?_append_left (by omega)]; exact List.getElem?_set_self hoL, rfl⟩
    · rw [List.append_nil, ← hl, List.take_left]
  refine ss_step ?_; intro K hK
  solve_by_elim [evW, sg_is ho]
  refine Res.wp_mono (nam_x (G := G) (n := n) h77 h79 g34 ho h0 hi (by omega)) (fun d μ' hd => ?_) fun x μ' q => xfin q
  obtain ⟨⟨a, rfl, hal⟩, j0, hj0, hj0T, rfl⟩ := hd
  simp only [hK]
  refine ss_step ?_; intro K2 hK2
  rw [s_w]
  refine while_wp (fun m ρ μ' => ∃ (j : Int) (acc : List D), i + 1 ≤ j ∧ j ≤ T.length ∧ (T.length : Int) + 1 ≤ m + j ∧ acc.length + i ≤ j ∧ (∀ x ∈ acc, Tn x) ∧ μ' = μ.set o (sgC T j) ++ [.lst acc] ∧ ρ = [some (.loc o), some (.loc μ.length)]) ?_ (T.length + 1) manyTurns _ _ (by rw [show manyTurns = 1000000000 from rfl]; omega) ⟨j0, [.str a], by omega, hj0T, by omega, by rw [List.length_singleton]; omega, fun x hx => by rw [List.mem_singleton.mp hx]; exact Tn.str (by omega), rfl, by rw [List.length_set]⟩
  rintro m ρ μ' ⟨j, acc, hij, hjT, hm, hacc, hall, rfl, rfl⟩
  have hg : (μ.set o (sgC T j) ++ [Cell.lst acc])[o]? = some (sgC T j) := push_old (set_get ho)
  have hgq : (μ.set o (sgC T j) ++ [Cell.lst acc])[μ.length]? = some (.lst acc) := by
    have := push_get (μ := μ.set o (sgC T j)) (c := Cell.lst acc)
    rw [List.length_set] at this
    exact this
  have hst := starts_ok (G := G) (n := n + 1) h75 hg (by omega) (by omega) [41] (by decide)
  (try simp only [wipeR])
  rw [t_no, t_meth, v_meth]
  simp only [v_var, v_con, es_c, es_n, List.getElem?_cons_zero, ofo_some, sg_is hg, hst, wp_ok, tr_bl, if_true, ite_true]
  cases decide (List.take ([41] : Txt).length (T.drop j.toNat) = [41]) with
  | false =>
    rw [Bool.not_false, if_pos rfl]
    obtain ⟨m', rfl⟩ : ∃ m', m = m' + 1 := ⟨m - 1, by omega⟩
    refine ⟨m', rfl, ?_⟩
    refine ss_step ?_; intro K3 hK3
    solve_by_elim [evW, sg_is hg]
    refine Res.wp_mono (past_x (G := G) (n := n) h75 h76 hg (by omega) (by omega) [32] (by decide) (by simp)) (fun d μ' hd => ?_) fun x μ' q => exT_fin hoL q
    obtain ⟨rfl, j1, hj1, hj1T, rfl⟩ := hd
    simp only [hK3]
    rw [List.set_append_left _ _ (by rw [List.length_set]; exact hoL), set_set]
    have hg1 : (μ.set o (sgC T j1) ++ [Cell.lst acc])[o]? = some (sgC T j1) := push_old (set_get ho)
    have hgq1 : (μ.set o (sgC T j1) ++ [Cell.lst acc])[μ.length]? = some (.lst acc) := by
      have := push_get (μ := μ.set o (sgC T j1)) (c := Cell.lst acc)
      rw [List.length_set] at this
      exact this
    have e2 := meTy_loc (m := .append) ⟨by decide, by decide⟩ hgq1
    solve_by_elim [evW, e2, sg_is hg1]
    refine Res.wp_mono (nam_x (G := G) (n := n) h77 h79 g34 hg1 (by omega) hj1T (by omega)) (fun d μ' hd => ?_) fun x μ' q => exT_fin hoL q
    obtain ⟨⟨a2, rfl, ha2⟩, j2, hj2, hj2T, rfl⟩ := hd
    rw [List.set_append_left _ _ (by rw [List.length_set]; exact hoL), set_set]
    have hgq2 : (μ.set o (sgC T j2) ++ [Cell.lst acc])[μ.length]? = some (.lst acc) := by
      have := push_get (μ := μ.set o (sgC T j2)) (c := Cell.lst acc)
      rw [List.length_set] at this
      exact this
    have e3 := m_app (x := .str a2) hgq2
    rw [if_pos (by rw [lim_val]; omega), set_last (by rw [List.length_set])] at e3
    solve_by_elim [evW, e3]
    exact ⟨j2, acc ++ [.str a2], by omega, hj2T, by omega, by rw [List.length_append, List.length_singleton]; omega, Tn.add hall (Tn.str (by omega)), (by first | rfl | trivial), (by first | rfl | trivial)⟩
  | true =>
    rw [Bool.not_true, if_neg (by simp)]
    simp only [hK2]
    refine ss_step ?_; intro K3 hK3
    solve_by_elim [evW, sg_is hg]
    refine Res.wp_mono (past_x (G := G) (n := n) h75 h76 hg (by omega) (by omega) [41] (by decide) (by simp)) (fun d μ' hd => ?_) fun x μ' q => exT_fin hoL q
    obtain ⟨rfl, j1, hj1, hj1T, rfl⟩ := hd
    simp only [hK3]
    rw [List.set_append_left _ _ (by rw [List.length_set]; exact hoL), set_set]
    have hgq2 : (μ.set o (sgC T j1) ++ [Cell.lst acc])[μ.length]? = some (.lst acc) := by
      have := push_get (μ := μ.set o (sgC T j1)) (c := Cell.lst acc)
      rw [List.length_set] at this
      exact this
    solve_by_elim [evW, tup_loc hgq2]
    exact fin_row ho hall (by omega) (by omega) hj1T
theorem plain_x (h75 : F 75 = some f75) (h76 : F 76 = some f76) (h77 : F 77 = some f77) (h78 : F 78 = some f78) (h79 : F 79 = some f79) (h89 : F 89 = some f89) (h90 : F 90 = some f90) (g34 : G 34 = some (.str az)) (g60 : G 60 = some (.str figs)) (g61 : G 61 = some (.int 9)) {n o : Nat} {T : Txt} {i : Int} {μ : Mu}
    (ho : μ[o]? = some (sgC T i)) (h0 : 0 ≤ i) (hi : i ≤ T.length) (hT : T.length ≤ 90000) :
    (run G F (n + 4) 90 [.loc o] μ).wp (fun d μ' => Tn d ∧ At i μ o T μ') (exT μ o T) := by
  refine run_wp h90 rfl rfl ?_
  show (exSs G (run G F (n + 3)) b90 [some (.loc o)] μ).wp _ _ _ _ _
  unfold b90
  have hs1 := starts_ok (G := G) (n := n + 2) h75 ho h0 (by omega) [110] (by decide)
  have hs2 := starts_ok (G := G) (n := n + 2) h75 ho h0 (by omega) [116] (by decide)
  have num : ∀ (w : Txt) (c : Nat) {N B C : Rho → Mu → Prop}, w.length ≤ 100 → (exSs G (run G F (n + 3)) [.expr (.meth 65 76 (.var 0) [.con (.str [c])]), .ret (.tup [.con (.str w), .meth 65 78 (.var 0) []])] [some (.loc o)] μ).wp N (fun d μ' => Tn d ∧ At i μ o T μ') B C (exT μ o T) := fun w c N B C hw => by
    refine ss_step ?_; intro K hK
    solve_by_elim [evW, sg_is ho]
    refine Res.wp_mono (past_x (G := G) (n := n + 1) h75 h76 ho h0 (by omega) [c] (by simp) (by simp)) (fun d μ' hd => ?_) fun _ _ q => q
    obtain ⟨rfl, j1, hj1, hj1T, rfl⟩ := hd
    simp only [hK]
    have ho1 : (μ.set o (sgC T j1))[o]? = some (sgC T j1) := set_get ho
    solve_by_elim [evW, sg_is ho1]
    refine Res.wp_mono (whole_x (G := G) (F := F) (n := n + 1) h77 h78 g60 g61 ho1 (by omega) hj1T (by omega)) (fun d μ' hd => ?_) fun x μ' hx => exT_of (sgC T i) ho hx
    obtain ⟨⟨q, rfl⟩, j2, hj2, hj2T, rfl⟩ := hd
    rw [set_set]
    exact ⟨Tn.two (Tn.str (by omega)) (Tn.int _), j2, by omega, hj2T, rfl⟩
  refine ss_step ?_; intro K hK
  cases e1 : decide (List.take ([110] : Txt).length (T.drop i.toNat) = [110]) with
  | true =>
    rw [e1] at hs1
    solve_by_elim [evV_ss_c, sg_is ho, hs1]
    exact num _ 110 (by decide)
  | false =>
    rw [e1] at hs1
    solve_by_elim [evV_ss_c, sg_is ho, hs1]
    simp only [hK]
    refine ss_step ?_; intro K2 hK2
    cases e2 : decide (List.take ([116] : Txt).length (T.drop i.toNat) = [116]) with
    | true =>
      rw [e2] at hs2
      solve_by_elim [evV_ss_c, sg_is ho, hs2]
      exact num _ 116 (by decide)
    | false =>
      rw [e2] at hs2
      solve_by_elim [evV_ss_c, sg_is ho, hs2]
      simp only [hK2]
      refine ss_step ?_; intro K3 hK3
      solve_by_elim [evW, sg_is ho]
      refine Res.wp_mono (past_x (G := G) (n := n + 1) h75 h76 ho h0 (by omega) [99, 40] (by decide) (by simp)) (fun d μ' hd => ?_) fun _ _ q => q
      obtain ⟨rfl, j1, hj1, hj1T, rfl⟩ := hd
      simp only [hK3]
      have ho1 : (μ.set o (sgC T j1))[o]? = some (sgC T j1) := set_get ho
      solve_by_elim [evW]
      refine Res.wp_mono (chos_x (G := G) (n := n) h75 h76 h77 h79 h89 g34 ho1 (by omega) hj1T hT) (fun d μ' hd => ?_) fun x μ' hx => exT_of (sgC T i) ho hx
      obtain ⟨hd, j2, hj2, hj2T, rfl⟩ := hd
      rw [set_set]
      exact ⟨Tn.two (Tn.str (by decide)) hd, j2, by omega, hj2T, rfl⟩
end

section
variable {G : Nat → Option D} {F : Nat → Option Fn}
theorem fields_x (h75 : F 75 = some f75) (h76 : F 76 = some f76) (h77 : F 77 = some f77) (h79 : F 79 = some f79) (h91 : F 91 = some f91) (g34 : G 34 = some (.str az)) {n o : Nat} {T : Txt} {i dp : Int} {μ : Mu}
    (ho : μ[o]? = some (sgC T i)) (h0 : 0 ≤ i) (hi : i ≤ T.length) (hT : T.length ≤ 90000)
    (hx : ∀ (μ : Mu) (j : Int), μ[o]? = some (sgC T j) → 0 ≤ j → j ≤ T.length → (run G F (n + 3) 92 [.loc o, .int dp] μ).wp (fun d μ' => Tn d ∧ At j μ o T μ') (exT μ o T)) :
    (run G F (n + 4) 91 [.loc o, .int dp] μ).wp (fun d μ' => Tn d ∧ At i μ o T μ') (exT μ o T) := by
  have hoL := (List.getElem?_eq_some_iff.mp ho).1
  have hoq : o ≠ μ.length := by omega
  refine run_wpzX h91 rfl rfl ?_
  show (exSs G (run G F (n + 3)) b91 [some (.loc o), some (.int dp), none, none] μ).wp _ _ _ _ _
  unfold b91
  refine ss_step ?_; intro K hK
  solve_by_elim [evW]
  simp only [hK]
  refine ss_step ?_; intro K2 hK2
  rw [s_w]
  refine while_wp (fun m ρ μ' => ∃ (j : Int) (acc : List D) (x3 : Option D), i ≤ j ∧ j ≤ T.length ∧ (T.length : Int) + 1 ≤ m + j ∧ acc.length + i ≤ j ∧ (∀ x ∈ acc, Tn x) ∧ μ' = μ.set o (sgC T j) ++ [.lst acc] ∧ ρ = [some (.loc o), some (.int dp), some (.loc μ.length), x3]) ?_ (T.length + 1) manyTurns _ _ (by rw [show manyTurns = 1000000000 from rfl]; omega) ⟨i, [], none, by omega, hi, by omega, by simp, by simp, by rw [set_id ho], rfl⟩
  rintro m ρ μ' ⟨j, acc, x3, hij, hjT, hm, hacc, hall, rfl, rfl⟩
  have gets : ∀ j : Int, (μ.set o (sgC T j) ++ [Cell.lst acc])[o]? = some (sgC T j) ∧ (μ.set o (sgC T j) ++ [Cell.lst acc])[μ.length]? = some (.lst acc) := fun j => ⟨push_old (set_get ho), by
    have := push_get (μ := μ.set o (sgC T j)) (c := Cell.lst acc)
    rw [List.length_set] at this
    exact this⟩
  have sets : ∀ j j2 : Int, (μ.set o (sgC T j) ++ [Cell.lst acc]).set o (sgC T j2) = μ.set o (sgC T j2) ++ [.lst acc] := fun j j2 => by
    rw [List.set_append_left _ _ (by rw [List.length_set]; exact hoL), set_set]
  obtain ⟨hg, hgq⟩ := gets j
  have hfl : D.flatL acc = true := purL_flat _ ((purL_all _).mpr fun x hx => (hall x hx).1)
  have hst := starts_ok (G := G) (n := n + 2) h75 hg (by omega) (by omega) [41] (by decide)
  (try simp only [wipeR, List.set_cons_zero, List.set_cons_succ])
  rw [t_no, t_meth, v_meth]
  simp only [v_var, v_con, es_c, es_n, List.getElem?_cons_zero, ofo_some, sg_is hg, hst, wp_ok, tr_bl, if_true, ite_true]
  cases decide (List.take ([41] : Txt).length (T.drop j.toNat) = [41]) with
  | false =>
    rw [Bool.not_false, if_pos rfl]
    obtain ⟨m', rfl⟩ : ∃ m', m = m' + 1 := ⟨m - 1, by omega⟩
    refine ⟨m', rfl, ?_⟩
    refine ss_step ?_; intro K3 hK3
    have go : ∀ j1 : Int, j ≤ j1 → j1 ≤ T.length → K3 [some (.loc o), some (.int dp), some (.loc μ.length), none] (μ.set o (sgC T j1) ++ [.lst acc]) := fun j1 hj1 hj1T => by
      simp only [hK3]
      obtain ⟨hg1, _⟩ := gets j1
      refine ss_step ?_; intro K4 hK4
      solve_by_elim [evW, sg_is hg1]
      refine Res.wp_mono (nam_x (G := G) (n := n + 1) h77 h79 g34 hg1 (by omega) hj1T (by omega)) (fun d μ' hd => ?_) fun x μ' q => exT_fin hoL q
      obtain ⟨⟨a, rfl, hal⟩, j2, hj2, hj2T, rfl⟩ := hd
      rw [sets]
      obtain ⟨hg2, _⟩ := gets j2
      simp only [hK4]
      refine ss_step ?_; intro K5 hK5
      solve_by_elim [evW, sg_is hg2]
      refine Res.wp_mono (past_x (G := G) (n := n + 1) h75 h76 hg2 (by omega) (by omega) [32] (by decide) (by simp)) (fun d μ' hd => ?_) fun x μ' q => exT_fin hoL q
      obtain ⟨rfl, j3, hj3, hj3T, rfl⟩ := hd
      rw [sets]
      obtain ⟨hg3, hgq3⟩ := gets j3
      simp only [hK5]
      have e2 := meTy_loc (m := .append) ⟨by decide, by decide⟩ hgq3
      solve_by_elim [evW, e2]
      refine Res.wp_mono (hx _ j3 hg3 (by omega) hj3T) (fun d μ' hd => ?_) fun x μ' q => exT_fin hoL q
      obtain ⟨hdt, j4, hj4, hj4T, rfl⟩ := hd
      rw [sets]
      obtain ⟨_, hgq4⟩ := gets j4
      have e3 := m_app (x := .tup [.str a, d]) hgq4
      rw [if_pos (by rw [lim_val]; omega), set_last (by rw [List.length_set])] at e3
      solve_by_elim [evW, e3]
      exact ⟨j4, acc ++ [.tup [.str a, d]], _, by omega, hj4T, by omega, by rw [List.length_append, List.length_singleton]; omega, Tn.add hall (Tn.two (Tn.str (by omega)) hdt), (by first | rfl | trivial), (by first | rfl | trivial)⟩
    cases ha : acc with
    | nil =>
      have he := eq_nil hgq hfl
      rw [ha, List.isEmpty_nil] at he
      have go := go j (by omega) hjT
      rw [ha] at go
      solve_by_elim [evW, he]
      exact go
    | cons y ys =>
      have he := eq_nil hgq hfl
      rw [ha, List.isEmpty_cons] at he
      rw [ha] at hg
      solve_by_elim [evW, he, sg_is hg]
      rw [← ha] at hg
      have hp := past_x (G := G) (n := n + 1) h75 h76 hg (by omega) (by omega) [44, 32] (by decide) (by simp)
      rw [ha] at hp
      refine Res.wp_mono hp (fun d μ' hd => ?_) fun x μ' q => exT_fin hoL q
      obtain ⟨rfl, j1, hj1, hj1T, rfl⟩ := hd
      have := sets j j1
      rw [ha] at this
      rw [this]
      have go := go j1 (by omega) hj1T
      rw [ha] at go
      exact go
  | true =>
    rw [Bool.not_true, if_neg (by simp)]
    simp only [hK2]
    refine ss_step ?_; intro K3 hK3
    solve_by_elim [evW, sg_is hg]
    refine Res.wp_mono (past_x (G := G) (n := n + 1) h75 h76 hg (by omega) (by omega) [41] (by decide) (by simp)) (fun d μ' hd => ?_) fun x μ' q => exT_fin hoL q
    obtain ⟨rfl, j1, hj1, hj1T, rfl⟩ := hd
    simp only [hK3]
    rw [sets]
    obtain ⟨_, hgq2⟩ := gets j1
    solve_by_elim [evW, tup_loc hgq2]
    exact fin_row ho hall (by omega) (by omega) hj1T
theorem form_step_x (h75 : F 75 = some f75) (h76 : F 76 = some f76) (h77 : F 77 = some f77) (h78 : F 78 = some f78) (h79 : F 79 = some f79) (h89 : F 89 = some f89) (h90 : F 90 = some f90) (h92 : F 92 = some f92) (g34 : G 34 = some (.str az)) (g60 : G 60 = some (.str figs)) (g61 : G 61 = some (.int 9)) {T : Txt} (hT : T.length ≤ 90000)
    {n o : Nat} {i kk : Int} {μ : Mu} (ho : μ[o]? = some (sgC T i)) (h0 : 0 ≤ i) (hi : i ≤ T.length)
    (hrec : kk ≠ 0 → ∀ (μ : Mu) (j : Int), μ[o]? = some (sgC T j) → 0 ≤ j → j ≤ T.length → (run G F (n + 4) 91 [.loc o, .int (kk - 1)] μ).wp (fun d μ' => Tn d ∧ At j μ o T μ') (exT μ o T)) :
    (run G F (n + 5) 92 [.loc o, .int kk] μ).wp (fun d μ' => Tn d ∧ At i μ o T μ') (exT μ o T) := by
  refine run_wp h92 rfl rfl ?_
  show (exSs G (run G F (n + 4)) b92 [some (.loc o), some (.int kk), none] μ).wp _ _ _ _ _
  unfold b92
  have hs1 := starts_ok (G := G) (n := n + 3) h75 ho h0 (by omega) [108] (by decide)
  have hs2 := starts_ok (G := G) (n := n + 3) h75 ho h0 (by omega) [114, 40] (by decide)
  refine ss_step ?_; intro K hK
  cases e1 : decide (List.take ([108] : Txt).length (T.drop i.toNat) = [108]) with
  | true =>
    rw [e1] at hs1
    solve_by_elim [evV_ss_c, sg_is ho, hs1]
    refine ss_step ?_; intro K2 hK2
    solve_by_elim [evW, sg_is ho]
    refine Res.wp_mono (past_x (G := G) (n := n + 2) h75 h76 ho h0 (by omega) [108] (by decide) (by simp)) (fun d μ' hd => ?_) fun _ _ q => q
    obtain ⟨rfl, j1, hj1, hj1T, rfl⟩ := hd
    simp only [hK2]
    have ho1 : (μ.set o (sgC T j1))[o]? = some (sgC T j1) := set_get ho
    refine ss_step ?_; intro K3 hK3
    solve_by_elim [evW, sg_is ho1]
    refine Res.wp_mono (whole_x (G := G) (F := F) (n := n + 2) h77 h78 g60 g61 ho1 (by omega) hj1T (by omega)) (fun d μ' hd => ?_) fun x μ' hx => exT_of (sgC T i) ho hx
    obtain ⟨⟨q, rfl⟩, j2, hj2, hj2T, rfl⟩ := hd
    rw [set_set]
    simp only [hK3]
    have ho2 : (μ.set o (sgC T j2))[o]? = some (sgC T j2) := set_get ho
    refine ss_step ?_; intro K4 hK4
    solve_by_elim [evW, sg_is ho2]
    refine Res.wp_mono (past_x (G := G) (n := n + 2) h75 h76 ho2 (by omega) (by omega) [32] (by decide) (by simp)) (fun d μ' hd => ?_) fun x μ' hx => exT_of (sgC T i) ho hx
    obtain ⟨rfl, j3, hj3, hj3T, rfl⟩ := hd
    rw [set_set]
    simp only [hK4]
    have ho3 : (μ.set o (sgC T j3))[o]? = some (sgC T j3) := set_get ho
    solve_by_elim [evW]
    refine Res.wp_mono (plain_x (G := G) (n := n) h75 h76 h77 h78 h79 h89 h90 g34 g60 g61 ho3 (by omega) hj3T hT) (fun d μ' hd => ?_) fun x μ' hx => exT_of (sgC T i) ho hx
    obtain ⟨hd, j4, hj4, hj4T, rfl⟩ := hd
    rw [set_set]
    solve_by_elim [evW]
    exact ⟨Tn.three (Tn.str (by decide)) hd (Tn.int _), j4, by omega, hj4T, rfl⟩
  | false =>
    rw [e1] at hs1
    solve_by_elim [evV_ss_c, sg_is ho, hs1]
    simp only [hK]
    refine ss_step ?_; intro K2 hK2
    cases e2 : decide (List.take ([114, 40] : Txt).length (T.drop i.toNat) = [114, 40]) with
    | true =>
      rw [e2] at hs2
      solve_by_elim [evV_ss_c, sg_is ho, hs2]
      refine ss_step ?_; intro K3 hK3
      by_cases hk : kk = 0
      · subst hk
        solve_by_elim [evW, beq_self_eq_true, s_ra]
        exact exT_here ho
      · have hkf : (kk = 0) = False := eq_false hk
        solve_by_elim [evW, hkf]
        simp only [hK3]
        refine ss_step ?_; intro K4 hK4
        solve_by_elim [evW, sg_is ho]
        refine Res.wp_mono (past_x (G := G) (n := n + 2) h75 h76 ho h0 (by omega) [114, 40] (by decide) (by simp)) (fun d μ' hd => ?_) fun _ _ q => q
        obtain ⟨rfl, j1, hj1, hj1T, rfl⟩ := hd
        simp only [hK4]
        have ho1 : (μ.set o (sgC T j1))[o]? = some (sgC T j1) := set_get ho
        solve_by_elim [evW]
        refine Res.wp_mono (hrec hk _ j1 ho1 (by omega) hj1T) (fun d μ' hd => ?_) fun x μ' hx => exT_of (sgC T i) ho hx
        obtain ⟨hd, j2, hj2, hj2T, rfl⟩ := hd
        rw [set_set]
        exact ⟨Tn.two (Tn.str (by decide)) hd, j2, by omega, hj2T, rfl⟩
    | false =>
      rw [e2] at hs2
      solve_by_elim [evV_ss_c, sg_is ho, hs2]
      simp only [hK2]
      solve_by_elim [evW]
      exact plain_x (G := G) (n := n) h75 h76 h77 h78 h79 h89 h90 g34 g60 g61 ho h0 hi hT
theorem form_x (h75 : F 75 = some f75) (h76 : F 76 = some f76) (h77 : F 77 = some f77) (h78 : F 78 = some f78) (h79 : F 79 = some f79) (h89 : F 89 = some f89) (h90 : F 90 = some f90) (h91 : F 91 = some f91) (h92 : F 92 = some f92) (g34 : G 34 = some (.str az)) (g60 : G 60 = some (.str figs)) (g61 : G 61 = some (.int 9)) {T : Txt} (hT : T.length ≤ 90000) :
    ∀ (k : Nat) (kk : Int), kk = k → ∀ {n o : Nat} {i : Int} {μ : Mu}, μ[o]? = some (sgC T i) → 0 ≤ i → i ≤ T.length → (run G F (n + 5 + 2 * k) 92 [.loc o, .int kk] μ).wp (fun d μ' => Tn d ∧ At i μ o T μ') (exT μ o T) := by
  intro k
  induction k with
  | zero =>
    intro kk hkk n o i μ ho h0 hi
    exact form_step_x h75 h76 h77 h78 h79 h89 h90 h92 g34 g60 g61 hT ho h0 hi fun h => absurd hkk h
  | succ k ih =>
    intro kk hkk n o i μ ho h0 hi
    have := form_step_x (n := n + 2 + 2 * k) (kk := kk) h75 h76 h77 h78 h79 h89 h90 h92 g34 g60 g61 hT ho h0 hi fun _ μ' j hg hj hjT => by
      have := fields_x (n := n + 2 + 2 * k) (dp := kk - 1) h75 h76 h77 h79 h91 g34 hg hj hjT hT fun μ2 j2 hg2 hj2 hj2T => by
        have := ih (kk - 1) (by omega) (n := n) hg2 hj2 hj2T
        rw [show n + 5 + 2 * k = n + 2 + 2 * k + 3 by omega] at this
        exact this
      exact this
    rw [show n + 2 + 2 * k + 5 = n + 5 + 2 * (k + 1) by omega] at this
    exact this
end

/-! how a form is written -/
theorem fld_inj : ∀ (a b : List (Txt × D)), a.map fld = b.map fld → a = b := fun a => by
  induction a with
  | nil => intro b h; cases b <;> first | rfl | cases h
  | cons x r ih =>
    intro b h
    cases b with
    | nil => cases h
    | cons y r' =>
      rw [List.map_cons, List.map_cons] at h
      injection h with h1 h2
      have : x = y := by
        obtain ⟨a, b⟩ := x
        obtain ⟨c, d⟩ := y
        simpa [fld] using h1
      rw [this, ih r' h2]
inductive PlW : D → Txt → Prop
  | num {m : Int} (h0 : 1 ≤ m) (h1 : m ≤ 240) : PlW (Pl.num m).enc (110 :: numT m.toNat)
  | txt {m : Int} (h0 : 0 ≤ m) (h1 : m ≤ 20) : PlW (Pl.txt m).enc (116 :: numT m.toNat)
  | cho {l : List Txt} (h0 : 1 ≤ l.length) (h1 : l.length ≤ 6) (hn : ∀ s ∈ l, Nm s) (hd : l.Nodup) : PlW (Pl.cho l).enc (99 :: 40 :: (jn [32] true l ++ [41]))
def wtf (fs : List (Txt × D)) (us : List Txt) : List Txt := (fs.zip us).map fun q => q.1.1 ++ 32 :: q.2
inductive WrF : Nat → D → Txt → Prop
  | pl {k : Nat} {p : D} {t : Txt} (h : PlW p t) : WrF k p t
  | lst {k : Nat} {p : D} {t : Txt} {m : Int} (h : PlW p t) (h0 : 1 ≤ m) (h1 : m ≤ 4) : WrF k (.tup [.str [108, 105, 115, 116], p, .int m]) (108 :: (numT m.toNat ++ (32 :: t)))
  | recd {k : Nat} {fs : List (Txt × D)} {us : List Txt} (hn : (fs.map Prod.fst).Nodup) (hl : fs.length ≤ 8) (hm : ∀ p ∈ fs, Nm p.1) (hu : us.length = fs.length) (h : ∀ (i : Nat) (f : Txt × D) (u : Txt), fs[i]? = some f → us[i]? = some u → WrF k f.2 u) :
      WrF (k + 1) (.tup [.str wRec, .tup (fs.map fld)]) (114 :: 40 :: (jn [44, 32] true (wtf fs us) ++ [41]))
theorem plw_plain {p : D} {t : Txt} (h : PlW p t) : Plain p := by
  cases h with
  | num h0 h1 => exact ⟨.num _, ⟨h0, h1⟩, rfl⟩
  | txt h0 h1 => exact ⟨.txt _, ⟨h0, h1⟩, rfl⟩
  | cho h0 h1 hn hd => exact ⟨.cho _, ⟨h0, h1, hn, hd⟩, rfl⟩
theorem wrf_fo {k : Nat} {f : D} {t : Txt} (h : WrF k f t) : Fo k f := by
  induction h with
  | pl h => exact .pl (plw_plain h)
  | lst h h0 h1 => exact .lst (plw_plain h) h0 h1
  | recd hn hl hm hu h ih =>
    refine .recd hn hl (fun p hp => ?_) hm
    obtain ⟨i, hi⟩ := List.mem_iff_getElem?.mp hp
    exact ih i p _ hi (List.getElem?_eq_getElem (by rw [hu]; exact (List.getElem?_eq_some_iff.mp hi).1))
theorem wtf_map (fs : List (Txt × D)) (g : D → Txt) : wtf fs (fs.map fun f => g f.2) = fs.map fun f => f.1 ++ 32 :: g f.2 := by
  induction fs with
  | nil => rfl
  | cons f r ih =>
    show _ :: wtf r (r.map fun f => g f.2) = _
    rw [ih]
    rfl
section
variable {G : Nat → Option D} {F : Nat → Option Fn}
theorem plw_all (h75 : F 75 = some f75) (h76 : F 76 = some f76) (h77 : F 77 = some f77) (h78 : F 78 = some f78) (h79 : F 79 = some f79) (h88 : F 88 = some f88) (h89 : F 89 = some f89) (h90 : F 90 = some f90) (h94 : F 94 = some f94) (g34 : G 34 = some (.str az)) (g60 : G 60 = some (.str figs)) (g61 : G 61 = some (.int 9)) {p : D} (hp : Plain p) : ∃ t, Pr G F p t ∧ PlW p t := by
  obtain ⟨s, hs, rfl⟩ := hp
  cases s with
  | num m => exact ⟨_, (pr_numlike h75 h76 h77 h78 h88 h90 h94 g60 g61 (by have := hs.1; omega) hs.2).1, .num hs.1 hs.2⟩
  | txt m => exact ⟨_, (pr_numlike h75 h76 h77 h78 h88 h90 h94 g60 g61 hs.1 (by have := hs.2; omega)).2, .txt hs.1 hs.2⟩
  | cho l => exact ⟨_, pr_cho h75 h76 h77 h79 h88 h89 h90 h94 g34 hs.1 hs.2.1 hs.2.2.1, .cho hs.1 hs.2.1 hs.2.2.1 hs.2.2.2⟩
theorem pickW (P : D → Txt → Prop) : ∃ g : D → Txt, ∀ f, (∃ t, P f t) → P f (g f) := by
  classical
  refine ⟨fun f => if h : ∃ t, P f t then Classical.choose h else [], fun f h => ?_⟩
  dsimp only
  rw [dif_pos h]
  exact Classical.choose_spec h
theorem shw_fo (h75 : F 75 = some f75) (h76 : F 76 = some f76) (h77 : F 77 = some f77) (h78 : F 78 = some f78) (h79 : F 79 = some f79) (h88 : F 88 = some f88) (h89 : F 89 = some f89) (h90 : F 90 = some f90) (h91 : F 91 = some f91) (h92 : F 92 = some f92) (h94 : F 94 = some f94) (g34 : G 34 = some (.str az)) (g60 : G 60 = some (.str figs)) (g61 : G 61 = some (.int 9)) {k : Nat} {f : D} (hf : Fo k f) : k ≤ 3 → ∃ t, ShF G F (2 + k) (5 + 2 * k) k f t (bndF k) ∧ WrF k f t := by
  induction hf with
  | @pl k p h =>
    intro _
    obtain ⟨t, ht, hw⟩ := plw_all h75 h76 h77 h78 h79 h88 h89 h90 h94 g34 g60 g61 h
    have := bndF_ge k
    exact ⟨t, (shf_plain h75 h92 ht k).more (by omega) (by omega) (Nat.le_refl _) (by omega), .pl hw⟩
  | @lst k p h m h0 h1 =>
    intro _
    obtain ⟨t, ht, hw⟩ := plw_all h75 h76 h77 h78 h79 h88 h89 h90 h94 g34 g60 g61 h
    have := bndF_ge k
    exact ⟨_, (shf_list h75 h76 h77 h78 h88 h92 h94 g60 g61 ht h0 h1 k).more (by omega) (by omega) (Nat.le_refl _) this, .lst hw h0 h1⟩
  | @recd k fs hn hl8 hs hm ih =>
    intro hk
    have hfl : D.flatL (fs.map fld) = true := flatL_map fun f hf => by
      show (true && (f.2.flat && true)) = true
      rw [((hs f hf).flat').1]; rfl
    obtain ⟨g, hg⟩ := pickW fun f t => ShF G F (2 + k) (5 + 2 * k) k f t (bndF k) ∧ WrF k f t
    refine ⟨_, (shf_rec h75 h76 h77 h79 h88 h91 h92 h94 g34 (bndF_le (by omega)) hl8 hm hfl (g := g) (fun f hf => (hg f.2 (ih f hf (by omega))).1) rfl).more (by omega) (by omega) (Nat.le_refl _) (Nat.le_refl _), ?_⟩
    rw [← wtf_map]
    refine .recd hn hl8 hm (List.length_map ..) fun i f u h1 h2 => ?_
    rw [List.getElem?_map, h1] at h2
    cases h2
    exact (hg f.2 (ih f (List.mem_of_getElem? h1) (by omega))).2
end
theorem plw_uniq {p : D} {t t' : Txt} (h : PlW p t) (h' : PlW p t') : t = t' := by
  cases h with
  | @num m h0 h1 =>
    generalize hf : (Pl.num m).enc = f at h'
    cases h' with
    | @num m' _ _ =>
      have e : m = m' := by simpa [Pl.enc] using hf
      rw [e]
    | txt _ _ => simp [Pl.enc] at hf
    | cho _ _ _ _ => simp [Pl.enc] at hf
  | @txt m h0 h1 =>
    generalize hf : (Pl.txt m).enc = f at h'
    cases h' with
    | @txt m' _ _ =>
      have e : m = m' := by simpa [Pl.enc] using hf
      rw [e]
    | num _ _ => simp [Pl.enc] at hf
    | cho _ _ _ _ => simp [Pl.enc] at hf
  | @cho l h0 h1 hn hd =>
    generalize hf : (Pl.cho l).enc = f at h'
    cases h' with
    | @cho l' _ _ _ _ =>
      have e : l.map D.str = l'.map D.str := by simpa [Pl.enc] using hf
      have inj : ∀ a b : List Txt, a.map D.str = b.map D.str → a = b := fun a => by
        induction a with
        | nil => intro b h; cases b with | nil => rfl | cons _ _ => cases h
        | cons x xs ih =>
          intro b h
          cases b with
          | nil => cases h
          | cons y ys =>
            rw [List.map_cons, List.map_cons] at h
            injection h with h1 h2
            injection h1 with h1
            rw [h1, ih ys h2]
      rw [inj _ _ e]
    | num _ _ => simp [Pl.enc] at hf
    | txt _ _ => simp [Pl.enc] at hf

theorem wrf_pl {k : Nat} {f : D} {t : Txt} (h : WrF k f t) (hp : Plain f) : PlW f t := by
  obtain ⟨s, hs, rfl⟩ := hp
  generalize hf : s.enc = f at h
  cases h with
  | pl h => exact h
  | lst h h0 h1 => cases s <;> simp [Pl.enc] at hf
  | recd => cases s <;> simp [Pl.enc] at hf
theorem wrf_lst {k : Nat} {p : D} {m : Int} {t : Txt} (h : WrF k (.tup [.str [108, 105, 115, 116], p, .int m]) t) : ∃ u, PlW p u ∧ 1 ≤ m ∧ m ≤ 4 ∧ t = 108 :: (numT m.toNat ++ (32 :: u)) := by
  generalize hf : D.tup [.str [108, 105, 115, 116], p, .int m] = f at h
  cases h with
  | pl h =>
    subst hf
    obtain ⟨s, hs, e⟩ := plw_plain h
    cases s <;> simp [Pl.enc] at e
  | @lst _ p' u m' h h0 h1 =>
    injection hf with hf
    injection hf with _ hf
    injection hf with e1 hf
    injection hf with e2 _
    injection e2 with e2
    subst e1
    subst e2
    exact ⟨u, h, h0, h1, rfl⟩
  | recd => simp at hf
theorem wrf_rec {k : Nat} {fs : List (Txt × D)} {t : Txt} (h : WrF k (.tup [.str wRec, .tup (fs.map fld)]) t) : ∃ j us, k = j + 1 ∧ us.length = fs.length ∧ (∀ (i : Nat) (f : Txt × D) (u : Txt), fs[i]? = some f → us[i]? = some u → WrF j f.2 u) ∧ t = 114 :: 40 :: (jn [44, 32] true (wtf fs us) ++ [41]) ∧ (fs.map Prod.fst).Nodup ∧ fs.length ≤ 8 ∧ ∀ p ∈ fs, Nm p.1 := by
  generalize hf : D.tup [.str wRec, .tup (fs.map fld)] = f at h
  cases h with
  | pl h =>
    subst hf
    obtain ⟨s, hs, e⟩ := plw_plain h
    cases s <;> simp [Pl.enc] at e
  | lst h => simp at hf
  | @recd j fs' us hn hl hm hu h =>
    injection hf with hf
    injection hf with _ hf
    injection hf with e1 _
    injection e1 with e1
    have e1 := fld_inj _ _ e1
    subst e1
    exact ⟨j, us, rfl, hu, h, rfl, hn, hl, hm⟩
theorem wrf_uniq {k : Nat} {f : D} {t : Txt} (h : WrF k f t) : ∀ {k' : Nat} {t' : Txt}, WrF k' f t' → t = t' := by
  induction h with
  | pl h =>
    intro k' t' h'
    exact plw_uniq h (wrf_pl h' (plw_plain h))
  | lst h h0 h1 =>
    intro k' t' h'
    obtain ⟨u, hu, _, _, rfl⟩ := wrf_lst h'
    rw [plw_uniq h hu]
  | @recd k fs us hn hl hm hu h ih =>
    intro k' t' h'
    obtain ⟨j, us', rfl, hu', hw, rfl, _⟩ := wrf_rec h'
    have : us = us' := by
      apply List.ext_getElem?
      intro i
      by_cases hi : i < fs.length
      · have e1 : fs[i]? = some (fs[i]) := List.getElem?_eq_getElem _
        have e2 : us[i]? = some (us[i]'(by omega)) := List.getElem?_eq_getElem _
        have e3 : us'[i]? = some (us'[i]'(by omega)) := List.getElem?_eq_getElem _
        rw [e2, e3]
        congr 1
        exact ih i _ _ e1 e2 (hw i _ _ e1 e3)
      · rw [List.getElem?_eq_none (by omega), List.getElem?_eq_none (by omega)]
    rw [this]
/-- the defs -/
structure HF (G : Nat → Option D) (F : Nat → Option Fn) : Prop where
  h23 : F 23 = some f23
  h42 : F 42 = some f42
  h43 : F 43 = some f43
  h44 : F 44 = some f44
  h45 : F 45 = some f45
  h46 : F 46 = some f46
  h47 : F 47 = some f47
  h48 : F 48 = some f48
  h72 : F 72 = some f72
  h74 : F 74 = some f74
  h75 : F 75 = some f75
  h76 : F 76 = some f76
  h77 : F 77 = some f77
  h78 : F 78 = some f78
  h79 : F 79 = some f79
  h81 : F 81 = some f81
  h88 : F 88 = some f88
  h89 : F 89 = some f89
  h90 : F 90 = some f90
  h91 : F 91 = some f91
  h92 : F 92 = some f92
  h93 : F 93 = some f93
  h94 : F 94 = some f94
  g34 : G 34 = some (.str az)
  g35 : G 35 = some (.int 8)
  g36 : G 36 = some (.int 240)
  g37 : G 37 = some (.int 6)
  g38 : G 38 = some (.int 20)
  g39 : G 39 = some (.int 4)
  g40 : G 40 = some (.int 8)
  g41 : G 41 = some (.int 3)
  g60 : G 60 = some (.str figs)
  g61 : G 61 = some (.int 9)
theorem exT_out {μ : Mu} {T : Txt} {j : Int} {x : Ex} {μ' : Mu} (q : exT (μ ++ [sgC T j]) μ.length T x μ') : finX μ (fun x μ' => x = ⟨64, .non⟩ ∧ μ' = μ) x μ' := by
  obtain ⟨rfl, i, Z, rfl⟩ := q
  rw [set_last rfl, List.append_assoc]
  refine ⟨?_, rfl, List.take_left ..⟩
  rw [Bool.and_eq_true]
  exact ⟨cut_ok (S := []) (Fr.push _) (by simp), rfl⟩
section
variable {G : Nat → Option D} {F : Nat → Option Fn}
theorem HF.shw (H : HF G F) {f : D} (hf : Fo 3 f) : ∃ t, ShF G F 5 11 3 f t (bndF 3) ∧ WrF 3 f t := shw_fo H.h75 H.h76 H.h77 H.h78 H.h79 H.h88 H.h89 H.h90 H.h91 H.h92 H.h94 H.g34 H.g60 H.g61 hf (Nat.le_refl 3)
/-- any text, read as a form: refused, or it is the text of the form -/
theorem read_anyF (H : HF G F) {T : Txt} (hT : T.length ≤ 90000) (n : Nat) (μ : Mu) :
    (run G F (n + 52) 93 [.str T] μ).wp (fun d μ' => μ' = μ ∧ Fo 3 d ∧ WrF 3 d T) (fun x μ' => x = ⟨64, .non⟩ ∧ μ' = μ) := by
  have hi := init_ok (G := G) (n := n + 50) (T := T) H.h74 (push_get (μ := μ) (c := .obj 65 []))
  rw [set_last rfl] at hi
  have hg : (μ ++ [sgC T 0])[μ.length]? = some (sgC T 0) := push_get
  refine run_wpzX (n := n + 51) H.h93 rfl rfl ?_
  show (exSs G (run G F (n + 51)) b93 [some (.str T), none, none] μ).wp _ _ _ _ _
  unfold b93
  refine ss_step ?_; intro K hK
  solve_by_elim [evW, hi]
  simp only [hK]
  refine ss_step ?_; intro K2 hK2
  have hv := form_x (G := G) H.h75 H.h76 H.h77 H.h78 H.h79 H.h89 H.h90 H.h91 H.h92 H.g34 H.g60 H.g61 hT 3 3 rfl (n := n + 40) hg (by decide) (by omega)
  solve_by_elim [evW, H.g41]
  refine Res.wp_mono hv (fun d μ' hd => ?_) fun x μ' hx => exT_out hx
  obtain ⟨ht, j, hj0, hjT, rfl⟩ := hd
  rw [set_last rfl]
  simp only [hK2]
  have hg2 : (μ ++ [sgC T j])[μ.length]? = some (sgC T j) := push_get
  refine ss_step ?_; intro K3 hK3
  have he := end_x (G := G) (n := n + 50) H.h81 hg2 (by omega)
  solve_by_elim [evW, sg_is hg2]
  refine Res.wp_mono he (fun d' μ' hd => ?_) fun x μ' hx => exT_out hx
  obtain ⟨rfl, rfl, hj⟩ := hd
  simp only [hK3]
  have hiv := form_48 (G := G) (n := n + 37) (μ := μ ++ [sgC T j]) H.h23 H.h42 H.h43 H.h44 H.h45 H.h46 H.h47 H.h48 H.g34 H.g35 H.g36 H.g37 H.g38 H.g39 H.g40 H.g41 (.gd ⟨pur_flat d ht.1, ht.2⟩)
  refine ss_step ?_; intro K4 hK4
  cases hb : formB 3 d with
  | false =>
    rw [hb] at hiv
    solve_by_elim [evW, hiv, s_ra]
    exact exT_out (exT_here hg2)
  | true =>
    rw [hb] at hiv
    have hfo := formB_fo 3 d hb
    obtain ⟨t, hts, hw⟩ := H.shw hfo
    have hs := hts.s88 (n + 46) (μ ++ [sgC T j])
    by_cases e : t = T
    · subst e
      solve_by_elim [evW, hiv, hs, s_ra]
      simp only [hK4]
      solve_by_elim [evW]
      exact fin_more (pur_flat d ht.1) ⟨rfl, hfo, hw⟩
    · solve_by_elim [evW, hiv, hs, s_ra]
      rw [if_pos (by rw [decide_eq_false e])]
      exact exT_out (exT_here hg2)
end

/-! the law's own reader: figures and letters -/
theorem spl (cs : Txt) : ∀ l : Txt, ∃ a b : Txt, l = a ++ b ∧ (∀ c ∈ a, cs.contains c = true) ∧ nob cs b := fun l => by
  induction l with
  | nil => exact ⟨[], [], rfl, by simp, nob_nil⟩
  | cons c r ih =>
    cases hc : cs.contains c with
    | true =>
      obtain ⟨a, b, e, h1, h2⟩ := ih
      refine ⟨c :: a, b, by rw [e]; rfl, fun x hx => ?_, h2⟩
      rcases List.mem_cons.mp hx with rfl | hx
      · exact hc
      · exact h1 x hx
    | false => exact ⟨[], c :: r, rfl, by simp, nob_cons hc⟩
/-- how a text is split so is told -/
theorem spl_one {cs a b a' b' : Txt} (h : a ++ b = a' ++ b') (h1 : ∀ c ∈ a, cs.contains c = true) (h2 : nob cs b) (h3 : ∀ c ∈ a', cs.contains c = true) (h4 : nob cs b') : a = a' ∧ b = b' := by
  induction a generalizing a' with
  | nil =>
    cases a' with
    | nil => exact ⟨rfl, h⟩
    | cons c a' =>
      have := h2 c (a' ++ b') h
      rw [h3 c List.mem_cons_self] at this
      cases this
  | cons c a ih =>
    cases a' with
    | nil =>
      have := h4 c (a ++ b) h.symm
      rw [h1 c List.mem_cons_self] at this
      cases this
    | cons c' a' =>
      rw [List.cons_append, List.cons_append] at h
      injection h with e h
      obtain ⟨q1, q2⟩ := ih h (fun x hx => h1 x (List.mem_cons_of_mem _ hx)) fun x hx => h3 x (List.mem_cons_of_mem _ hx)
      exact ⟨by rw [e, q1], q2⟩
theorem cut_to {T : Txt} {j : Int} (h : 0 ≤ j) : cutL T none (some j) = T.take j.toNat := by
  unfold cutL cutZ
  dsimp only
  rw [if_neg (by omega)]
  by_cases hj : j.toNat ≤ T.length
  · rw [Nat.min_eq_left hj, List.drop_zero, Nat.sub_zero]
  · rw [Nat.min_eq_right (by omega), List.drop_zero, Nat.sub_zero, List.take_of_length_le (Nat.le_refl _), List.take_of_length_le (by omega)]
theorem cut_from {T : Txt} {i : Int} (h : 0 ≤ i) : cutL T (some i) none = T.drop i.toNat := by
  unfold cutL cutZ
  dsimp only
  rw [if_neg (by omega)]
  by_cases hj : i.toNat ≤ T.length
  · rw [Nat.min_eq_left hj, List.take_of_length_le (by rw [List.length_drop]; omega)]
  · rw [Nat.min_eq_right (by omega), List.drop_of_length_le (show T.length ≤ i.toNat by omega), List.drop_length]
    simp
theorem sl_to {μ : Mu} {T : Txt} {j : Int} (h : 0 ≤ j) (hT : T.length ≤ 100000) : slcD μ (.str T) none (some j) = some (.str (T.take j.toNat)) := by
  show (if T.length ≤ lim then some (D.str (cutL T none (some j))) else none) = _
  rw [if_pos (by rw [lim_val]; omega), cut_to h]
theorem sl_from {μ : Mu} {T : Txt} {i : Int} (h : 0 ≤ i) (hT : T.length ≤ 100000) : slcD μ (.str T) (some i) none = some (.str (T.drop i.toNat)) := by
  show (if T.length ≤ lim then some (D.str (cutL T (some i) none)) else none) = _
  rw [if_pos (by rw [lim_val]; omega), cut_from h]
section
variable {G : Nat → Option D} {F : Nat → Option Fn} {n : Nat} {μ : Mu}
/-- the index behind the signs -/
theorem while_at {call : Nat → List D → Mu → Res D} {cs a b : Txt} {N B C : Rho → Mu → Prop} {R : D → Mu → Prop} {X : Ex → Mu → Prop} (hT : (a ++ b).length ≤ 100000) (ha : ∀ c ∈ a, cs.contains c = true) (hb : nob cs b) (h : N [some (.str (a ++ b)), some (.int a.length)] μ) :
    (exS G call (.while_ [] (.and_ (.cmp .lt (.var 1) (.bi .len [.var 0])) (.cmp .in_ (.idx (.var 0) (.var 1)) (.con (.str cs)))) [.asg (.nm 1) (.bin .add (.var 1) (.con (.int 1)))]) [some (.str (a ++ b)), some (.int 0)] μ).wp N R B C X := by
  obtain ⟨kk, hkk⟩ : ∃ kk : Int, ((a ++ b).length : Int) = kk := ⟨_, rfl⟩
  have hlen := fun μ => len_str' (μ := μ) (s := a ++ b) hT
  rw [hkk] at hlen
  have hlab : (a ++ b).length = a.length + b.length := List.length_append
  rw [s_w]
  refine while_wp (fun m ρ μ' => ∃ k : Nat, m + k = a.length ∧ μ' = μ ∧ ρ = [some (.str (a ++ b)), some (.int (k : Int))]) ?_ a.length manyTurns _ _ (by rw [show manyTurns = 1000000000 from rfl]; omega) ⟨0, rfl, rfl, rfl⟩
  rintro m ρ μ' ⟨k, hk, rfl, rfl⟩
  obtain ⟨j, hj⟩ : ∃ j : Int, (k : Int) = j := ⟨_, rfl⟩
  rw [hj]
  have hjn : j.toNat = k := by omega
  solve_by_elim [evV_b_len, hlen]
  by_cases hjk : j < kk
  · rw [if_pos hjk]
    obtain ⟨c, hc⟩ : ∃ c, (a ++ b)[j.toNat]? = some c := ⟨_, List.getElem?_eq_getElem (by omega)⟩
    have hidx := fun μ => idx_T (μ := μ) (by omega : 0 ≤ j) hT hc
    rw [hjn] at hc
    solve_by_elim [evV_b_len, hidx, in_T]
    by_cases hka : k < a.length
    · rw [List.getElem?_append_left hka] at hc
      rw [ha c (List.mem_of_getElem? hc), if_pos rfl]
      obtain ⟨m', rfl⟩ : ∃ m', m = m' + 1 := ⟨m - 1, by omega⟩
      refine ⟨m', rfl, ?_⟩
      solve_by_elim [evV_b_len, o_add]
      refine ⟨k + 1, by omega, by trivial, ?_⟩
      have : ((k + 1 : Nat) : Int) = j + 1 := by omega
      rw [this]
    · have hka : k = a.length := by omega
      rw [List.getElem?_append_right (by omega), hka, Nat.sub_self] at hc
      cases b with
      | nil => cases hc
      | cons d r =>
        cases hc
        rw [hb _ _ rfl, if_neg (by simp)]
        rw [show j = (a.length : Int) by omega]
        exact h
  · rw [if_neg hjk]
    have hka : k = a.length := by omega
    (try simp only [Bool.false_eq_true, if_false])
    rw [show j = (a.length : Int) by omega]
    exact h
/-- figures that tell a number -/
def figOk (a : Txt) : Bool := decide (a ≠ []) && decide (a.length ≤ 3) && !(decide (1 < a.length) && decide (a[0]? = some 48))
theorem fig_101 (h101 : F 101 = some f101) {a b : Txt} (hT : (a ++ b).length ≤ 100000) (ha : ∀ c ∈ a, figs.contains c = true) (hb : nob figs b) :
    run G F (n + 1) 101 [.str (a ++ b)] μ = .ok (if figOk a = true then .tup [.int (digV a), .str b] else .non) μ := by
  refine wp_to (run_wp h101 rfl rfl ?_)
  show (exSs G (run G F n) b101 [some (.str (a ++ b)), none] μ).wp _ _ _ _
  unfold b101
  refine ss_step ?_; intro K hK
  solve_by_elim [evW]
  simp only [hK]
  refine ss_step ?_; intro K2 hK2
  refine while_at (b := b) hT ha hb ?_
  simp only [hK2]
  obtain ⟨k, hk⟩ : ∃ k : Int, (a.length : Int) = k := ⟨_, rfl⟩
  rw [hk]
  have hl : (a ++ b).length = a.length + b.length := List.length_append
  refine ss_step ?_; intro K3 hK3
  by_cases h0 : a = []
  · have hf : figOk a = false := by unfold figOk; rw [decide_eq_false (by simpa using h0)] <;> rfl
    subst h0
    have hk0 : k = 0 := by rw [← hk]; rfl
    subst hk0
    rw [hf]
    solve_by_elim [evW, beq_self_eq_true]
    try (first | exact ⟨rfl, trivial⟩ | exact ⟨trivial, trivial⟩ | exact ⟨trivial, rfl⟩ | exact ⟨rfl, rfl⟩ | trivial)
  · have hpos := List.length_pos_iff.mpr h0
    have e0 : (k == 0) = false := by rw [beq_eq_false_iff_ne]; omega
    have en : decide (a ≠ []) = true := decide_eq_true h0
    by_cases h3 : 3 < k
    · have hf : figOk a = false := by unfold figOk; rw [decide_eq_false (show ¬ a.length ≤ 3 by omega), Bool.and_false, Bool.false_and]
      have e4 : (3 < k) = True := eq_true h3
      rw [hf]
      solve_by_elim [evW, e0, e4]
      try (first | exact ⟨rfl, trivial⟩ | exact ⟨trivial, trivial⟩ | exact ⟨trivial, rfl⟩ | exact ⟨rfl, rfl⟩ | trivial)
    · have e3 : decide (a.length ≤ 3) = true := decide_eq_true (by omega)
      have e4 : (3 < k) = False := eq_false h3
      have hd : digB a = true := by
        unfold digB
        rw [List.all_eq_true]
        intro c hc
        have := ha c hc
        simp only [figs, List.contains_cons, List.contains_nil, Bool.or_false, Bool.or_eq_true, beq_iff_eq] at this
        rw [Bool.and_eq_true, decide_eq_true_eq, decide_eq_true_eq]
        omega
      have hint : ∀ μ, biD .int μ [.str a] = some (.int (digV a)) := fun μ => by
        show (if digB a = true ∧ a ≠ [] ∧ a.length ≤ 640 then some (D.int (digV a)) else none) = _
        rw [if_pos ⟨hd, h0, by omega⟩]
      have hto : ∀ μ, slcD μ (.str (a ++ b)) none (some k) = some (.str a) := fun μ => by rw [sl_to (by omega) hT, show k.toNat = a.length by omega, List.take_left]
      have hfr : ∀ μ, slcD μ (.str (a ++ b)) (some k) none = some (.str b) := fun μ => by rw [sl_from (by omega) hT, show k.toNat = a.length by omega, List.drop_left]
      obtain ⟨c, hc⟩ : ∃ c, a[0]? = some c := ⟨_, List.getElem?_eq_getElem hpos⟩
      have hidx : ∀ μ, idxD μ (.str (a ++ b)) (.int 0) = some (.str [c]) := fun μ => idx_T (j := 0) (by decide) hT (by rw [show (0 : Int).toNat = 0 from rfl, List.getElem?_append_left hpos]; exact hc)
      by_cases h1 : 1 < k
      · have e1 : decide (1 < a.length) = true := decide_eq_true (by omega)
        have e5 : (1 < k) = True := eq_true h1
        by_cases hz : c = 48
        · subst hz
          have hf : figOk a = false := by unfold figOk; rw [hc, e1, decide_eq_true rfl]; simp
          rw [hf]
          solve_by_elim [evW, e0, e4, e5, hidx, beq_self_eq_true]
          try (first | exact ⟨rfl, trivial⟩ | exact ⟨trivial, trivial⟩ | exact ⟨trivial, rfl⟩ | exact ⟨rfl, rfl⟩ | trivial)
        · have hf : figOk a = true := by unfold figOk; rw [hc, e1, en, e3, decide_eq_false fun e => hz (Option.some.inj e)]; rfl
          have eq1 : ([c] = ([48] : Txt)) = False := eq_false fun e => hz (by injection e)
          rw [hf]
          solve_by_elim [evW, e0, e4, e5, hidx, eq1]
          simp only [hK3]
          solve_by_elim [evV_b_int, hto, hint, hfr]
          exact ⟨by rw [hf]; rfl, trivial⟩
      · have hf : figOk a = true := by unfold figOk; rw [decide_eq_false (show ¬ 1 < a.length by omega), en, e3]; rfl
        have e5 : (1 < k) = False := eq_false h1
        rw [hf]
        solve_by_elim [evW, e0, e4, e5]
        simp only [hK3]
        solve_by_elim [evV_b_int, hto, hint, hfr]
        exact ⟨by rw [hf]; rfl, trivial⟩
end
theorem fig_tab0 : ∀ k < 260, figOk (numT k) = true := by decide +kernel
theorem fig_tab1 : ∀ x < 10, numT (digV [48 + x]) = [48 + x] ∧ digV [48 + x] < 1000 := by decide +kernel
theorem fig_tab2 : ∀ x < 10, ∀ y < 10, x ≠ 0 → numT (digV [48 + x, 48 + y]) = [48 + x, 48 + y] ∧ digV [48 + x, 48 + y] < 1000 := by decide +kernel
theorem fig_tab3 : ∀ x < 10, ∀ y < 10, ∀ z < 10, x ≠ 0 → numT (digV [48 + x, 48 + y, 48 + z]) = [48 + x, 48 + y, 48 + z] ∧ digV [48 + x, 48 + y, 48 + z] < 1000 := by decide +kernel
theorem fig_num {a : Txt} (h : ∀ c ∈ a, figs.contains c = true) (ho : figOk a = true) : numT (digV a) = a ∧ digV a < 1000 := by
  have dg : ∀ c ∈ a, ∃ x, x < 10 ∧ c = 48 + x := fun c hc => by
    have := h c hc
    simp only [figs, List.contains_cons, List.contains_nil, Bool.or_false, Bool.or_eq_true, beq_iff_eq] at this
    exact ⟨c - 48, by omega, by omega⟩
  unfold figOk at ho
  match a, h, ho, dg with
  | [], _, ho, _ => simp at ho
  | [c], _, _, dg =>
    obtain ⟨x, hx, rfl⟩ := dg c (by simp)
    exact fig_tab1 x hx
  | [c, d], _, ho, dg =>
    obtain ⟨x, hx, rfl⟩ := dg c (by simp)
    obtain ⟨y, hy, rfl⟩ := dg d (by simp)
    refine fig_tab2 x hx y hy fun e => ?_
    subst e
    simp at ho
  | [c, d, e], _, ho, dg =>
    obtain ⟨x, hx, rfl⟩ := dg c (by simp)
    obtain ⟨y, hy, rfl⟩ := dg d (by simp)
    obtain ⟨z, hz, rfl⟩ := dg e (by simp)
    refine fig_tab3 x hx y hy z hz fun e => ?_
    subst e
    simp at ho
  | _ :: _ :: _ :: _ :: _, _, ho, _ => simp at ho
theorem isnon {l : List D} : isD (.tup l) .non = some false := rfl
theorem isnon2 : isD .non .non = some true := rfl
theorem sg_sl {μ : Mu} {b : Txt} (hb : b.length ≤ 100000) : slcD μ (.str b) none (some 1) = some (.str (b.take 1)) := sl_to (j := 1) (by decide) hb
theorem sg_sl2 {μ : Mu} {b : Txt} (hb : b.length ≤ 100000) : slcD μ (.str b) none (some 2) = some (.str (b.take 2)) := sl_to (j := 2) (by decide) hb

/-! rows of values, read by the law's own reader -/
theorem jn_app (p : Txt) : ∀ (b : Bool) (x y : List Txt), jn p b (x ++ y) = jn p b x ++ jn p (b && x.isEmpty) y
  | b, [], y => by cases b <;> rfl
  | true, t :: ts, y => by
    show t ++ jn p false (ts ++ y) = (t ++ jn p false ts) ++ jn p false y
    rw [jn_app p false ts y, List.append_assoc]
    rfl
  | false, t :: ts, y => by
    show p ++ (t ++ jn p false (ts ++ y)) = (p ++ (t ++ jn p false ts)) ++ jn p false y
    rw [jn_app p false ts y]
    simp only [List.append_assoc]
    rfl
structure Row (W : Nat → D → Txt → Prop) (l : List D) (ts : List Txt) : Prop where
  len : ts.length = l.length
  it : ∀ (i : Nat) (x : D) (t : Txt), l[i]? = some x → ts[i]? = some t → W i x t
def SpecB (sp : Txt) (W : Nat → D → Txt → Prop) (Q : List D → Prop) (e : Nat) (T : Txt) (res : D) : Prop :=
  (∀ l ts r, Row W l ts → Q l → T = jn sp true ts ++ e :: r → res = .tup [.tup l, .str r]) ∧ (res = .non ∨ ∃ l ts r, Row W l ts ∧ Q l ∧ T = jn sp true ts ++ e :: r ∧ res = .tup [.tup l, .str r])
structure Pre (sp : Txt) (W : Nat → D → Txt → Prop) (Q : List D → Prop) (e : Nat) (T : Txt) (acc : List D) (ts : List Txt) (U : Txt) : Prop where
  row : Row W acc ts
  eq : T = jn sp true ts ++ U
  un : ∀ l ts' r, Row W l ts' → Q l → T = jn sp true ts' ++ e :: r → acc.length ≤ l.length ∧ l.take acc.length = acc ∧ ts'.take acc.length = ts
section
variable {sp : Txt} {W : Nat → D → Txt → Prop} {Q : List D → Prop} {e : Nat} {T U V : Txt} {acc : List D} {ts : List Txt}
theorem Pre.zero : Pre sp W Q e T [] [] T := ⟨⟨rfl, fun i x t h => by simp at h⟩, rfl, fun l ts' r _ _ _ => ⟨Nat.zero_le _, rfl, rfl⟩⟩
theorem Pre.rest (P : Pre sp W Q e T acc ts U) {l : List D} {ts' : List Txt} {r : Txt} (h : Row W l ts') (q : Q l) (ht : T = jn sp true ts' ++ e :: r) : U = jn sp acc.isEmpty (ts'.drop acc.length) ++ e :: r := by
  obtain ⟨h1, h2, h3⟩ := P.un l ts' r h q ht
  have e1 : ts' = ts ++ ts'.drop acc.length := by
    conv => lhs; rw [← List.take_append_drop acc.length ts', h3]
  have ei : ts.isEmpty = acc.isEmpty := by
    have := P.row.len
    cases ts <;> cases acc <;> first | rfl | (simp at this)
  rw [e1, jn_app, P.eq, Bool.true_and, ei, List.append_assoc] at ht
  have ht := List.append_cancel_left ht
  exact ht
theorem Pre.tail (P : Pre sp W Q e T acc ts U) (hU : U = (if acc.isEmpty then [] else sp) ++ V) {l : List D} {ts' : List Txt} {r : Txt} (h : Row W l ts') (q : Q l) (ht : T = jn sp true ts' ++ e :: r) (hlt : acc.length < l.length) :
    ∃ x t, l[acc.length]? = some x ∧ ts'[acc.length]? = some t ∧ W acc.length x t ∧ V = t ++ (jn sp false (ts'.drop (acc.length + 1)) ++ e :: r) := by
  have hr := P.rest h q ht
  obtain ⟨x, hx⟩ : ∃ x, l[acc.length]? = some x := ⟨_, List.getElem?_eq_getElem hlt⟩
  obtain ⟨t, ht'⟩ : ∃ t, ts'[acc.length]? = some t := ⟨_, List.getElem?_eq_getElem (by rw [h.len]; exact hlt)⟩
  refine ⟨x, t, hx, ht', h.it _ _ _ hx ht', ?_⟩
  obtain ⟨hk, e1⟩ := List.getElem?_eq_some_iff.mp ht'
  rw [List.drop_eq_getElem_cons hk, e1, hU] at hr
  cases ha : acc.isEmpty with
  | true =>
    rw [ha] at hr
    have hr : V = (t ++ jn sp false (ts'.drop (acc.length + 1))) ++ e :: r := hr
    rw [hr, List.append_assoc]
  | false =>
    rw [ha] at hr
    have hr : sp ++ V = (sp ++ (t ++ jn sp false (ts'.drop (acc.length + 1)))) ++ e :: r := hr
    rw [List.append_assoc] at hr
    rw [List.append_cancel_left hr, List.append_assoc]
theorem Pre.add (P : Pre sp W Q e T acc ts U) (hU : U = (if acc.isEmpty then [] else sp) ++ V) (hst : ∀ ts r, stops (jn sp false ts ++ e :: r)) {res d : D} {t r' : Txt} (hc : ∀ d t r, W acc.length d t → stops r → V = t ++ r → res = .tup [d, .str r]) (hw : W acc.length d t) (hV : V = t ++ r') (hres : res = .tup [d, .str r'])
    (hlt : ∀ l ts' r, Row W l ts' → Q l → T = jn sp true ts' ++ e :: r → acc.length < l.length) : Pre sp W Q e T (acc ++ [d]) (ts ++ [t]) r' := by
  have ei : ts.isEmpty = acc.isEmpty := by
    have := P.row.len
    cases ts <;> cases acc <;> first | rfl | (simp at this)
  refine ⟨⟨by rw [List.length_append, List.length_append, P.row.len]; rfl, fun i x u h1 h2 => ?_⟩, ?_, fun l ts' r h q ht => ?_⟩
  · by_cases hi : i < acc.length
    · rw [List.getElem?_append_left hi] at h1
      rw [List.getElem?_append_left (by rw [P.row.len]; exact hi)] at h2
      exact P.row.it i x u h1 h2
    · rw [List.getElem?_append_right (by omega)] at h1
      rw [List.getElem?_append_right (by rw [P.row.len]; omega), P.row.len] at h2
      have hi0 : i - acc.length = 0 := by
        by_cases hz : i - acc.length = 0
        · exact hz
        · rw [List.getElem?_eq_none (by rw [List.length_singleton]; omega)] at h1
          cases h1
      rw [hi0] at h1 h2
      cases h1
      cases h2
      rw [show i = acc.length by omega]
      exact hw
  · rw [jn_app, P.eq, hU, hV, Bool.true_and, ei, List.append_assoc]
    congr 1
    cases acc.isEmpty
    · show sp ++ (t ++ r') = (sp ++ (t ++ [])) ++ r'
      rw [List.append_nil, List.append_assoc]
    · show t ++ r' = (t ++ []) ++ r'
      rw [List.append_nil]
  · obtain ⟨h1, h2, h3⟩ := P.un l ts' r h q ht
    have hl := hlt l ts' r h q ht
    obtain ⟨x, u, hx, hu, hwx, hVx⟩ := P.tail hU h q ht hl
    have := hc x u _ hwx (hst _ _) hVx
    rw [hres] at this
    injection this with this
    injection this with e1 e2
    injection e2 with e2 _
    injection e2 with e2
    subst e1
    have et : t = u := by
      rw [hV, e2] at hVx
      exact List.append_cancel_right hVx
    subst et
    refine ⟨by rw [List.length_append]; exact hl, ?_, ?_⟩
    · rw [List.length_append, List.length_singleton, List.take_succ, h2, hx]
      rfl
    · rw [List.length_append, List.length_singleton, List.take_succ, h3, hu]
      rfl
end
theorem tup_nil {μ : Mu} {l : List D} (h : D.flatL l = true) : eqD μ (.tup l) (.tup []) = some l.isEmpty := by
  rw [eq_flat (show (D.tup l).flat = true from h) rfl (by decide)]
  cases l <;> rfl
theorem add_tup {μ : Mu} {a b : List D} (h : a.length + b.length ≤ lim) : binD .add μ (.tup a) (.tup b) = some (.tup (a ++ b)) := if_pos h
theorem len_tup {μ : Mu} {l : List D} : biD .len μ [.tup l] = some (.int l.length) := rfl

local macro_rules | `(tactic| solve_by_elim [evV_b_len_b_lenl, $[$xs:term],*]) => `(tactic| (try simp only [ss_n, ss_c, s_e, s_r, s_rN, s_a, s_i, s_x, s_p, s_b, s_c, s_f, s_w, v_var, v_con, v_glo, v_bin, v_neg, v_cmp, v_cmp2, v_and, v_or, v_not, v_ite, v_tup, v_lstT, v_lstF, v_cat, v_idx, v_lrep, v_slc, v_call, v_bi, v_me, v_comp, turnC_wp, c_n, c_s, es_n, es_c, eo_n, eo_s, t_var, t_con, t_cm, t_cm2, t_an, t_or', t_no, t_bi, t_call, t_idx, v_dictP, v_dictL, v_mlst, v_zipL, v_fnv, v_tget, v_callv, fnAt_fn, v_callL, cap_n, cap_c, s_sl, t_callv, v_new, v_fld, v_meth, s_sf, s_af, t_fld, t_meth, put_nm, put_tp, putL_n, putL_c, Option.bind_some, ofo_some, ofo_none, ofoE_some, ofoE_none, ofo_ite, ofo_map, ofo_bind, o_add, o_adds, o_addt, o_addl, o_sub, o_mul, o_muls, o_mult, l_rep, c_is, c_nis, is_bl, o_fdiv, o_mod, c_lt, c_le, c_gt, c_ge, c_eq, c_ne, c_in, c_nin, q_int, q_strd, tr_bl, x_tup, x_lst, intOf_int, b_isin, k_ii, k_bi, k_si, k_ss, k_is, k_tt, k_ti, k_ts, o_pow, i_r1, i_r2, i_tup, i_lst, i_en, b_tup, tup_lst, b_lst, b_int, b_inti, b_trg, b_lrg, b_min, atZ0, atZ1, atZ2, ixZ0, ixZ1, ixZ2, List.length_set, wp_ok, List.getElem?_cons_zero, List.getElem?_cons_succ, List.set_cons_zero, List.set_cons_succ, wipeR, List.length_cons, List.length_nil, List.map_cons, List.map_nil, List.replicate_succ, List.replicate_zero, List.cons_append, List.nil_append, decide_eq_true_eq, beq_iff_eq, Bool.not_eq_true', Bool.true_eq_false, and_self, Nat.zero_le, lim1, lim2, lim3, lim4, lim5, decide_true, decide_false, Bool.not_true, Bool.not_false, ite_true, ite_false, if_true, if_false, Bool.false_eq_true, $[$xs:term],*]))
local macro_rules | `(tactic| solve_by_elim [evV_o_addt, $[$xs:term],*]) => `(tactic| (try simp only [ss_n, ss_c, s_e, s_r, s_rN, s_a, s_i, s_x, s_p, s_b, s_c, s_f, s_w, v_var, v_con, v_glo, v_bin, v_neg, v_cmp, v_cmp2, v_and, v_or, v_not, v_ite, v_tup, v_lstT, v_lstF, v_cat, v_idx, v_lrep, v_slc, v_call, v_bi, v_me, v_comp, turnC_wp, c_n, c_s, es_n, es_c, eo_n, eo_s, t_var, t_con, t_cm, t_cm2, t_an, t_or', t_no, t_bi, t_call, t_idx, v_dictP, v_dictL, v_mlst, v_zipL, v_fnv, v_tget, v_callv, fnAt_fn, v_callL, cap_n, cap_c, s_sl, t_callv, v_new, v_fld, v_meth, s_sf, s_af, t_fld, t_meth, put_nm, put_tp, putL_n, putL_c, Option.bind_some, ofo_some, ofo_none, ofoE_some, ofoE_none, ofo_ite, ofo_map, ofo_bind, o_add, o_adds, o_addl, o_sub, o_mul, o_muls, o_mult, l_rep, c_is, c_nis, is_bl, o_fdiv, o_mod, c_lt, c_le, c_gt, c_ge, c_eq, c_ne, c_in, c_nin, q_int, q_strd, tr_bl, x_tup, x_lst, intOf_int, b_isin, k_ii, k_bi, k_si, k_ss, k_is, k_tt, k_ti, k_ts, o_pow, i_r1, i_r2, i_tup, i_lst, i_en, b_len, b_lenl, b_tup, tup_lst, b_lst, b_int, b_inti, b_trg, b_lrg, b_min, atZ0, atZ1, atZ2, ixZ0, ixZ1, ixZ2, List.length_set, wp_ok, List.getElem?_cons_zero, List.getElem?_cons_succ, List.set_cons_zero, List.set_cons_succ, wipeR, List.length_cons, List.length_nil, List.map_cons, List.map_nil, List.replicate_succ, List.replicate_zero, List.cons_append, List.nil_append, decide_eq_true_eq, beq_iff_eq, Bool.not_eq_true', Bool.true_eq_false, and_self, Nat.zero_le, lim1, lim2, lim3, lim4, lim5, decide_true, decide_false, Bool.not_true, Bool.not_false, ite_true, ite_false, if_true, if_false, Bool.false_eq_true, $[$xs:term],*]))
/-! choices, read by the law's own reader -/
theorem in_tup {μ : Mu} {l : List Txt} {s : Txt} : inD μ (.str s) (.tup (l.map .str)) = some (l.contains s) := by
  unfold inD
  dsimp only
  have hf : D.flatL (l.map D.str) = true := flatL_map fun _ _ => rfl
  show (if ((D.str s).flat && D.flatL (l.map D.str) && decide ((D.str s).depth ≤ 64)) = true then some ((l.map D.str).any fun x => x.eqv (.str s)) else none) = _
  rw [hf, any_str]
  rfl
theorem nm_if {a : Txt} (ha : ∀ c ∈ a, az.contains c = true) (h0 : a ≠ []) (h8 : a.length ≤ 8) : Nm a := by
  have : nameB (.str a) = true := by
    show (decide (1 ≤ a.length) && decide (a.length ≤ 8) && a.all lowB) = true
    rw [decide_eq_true (show 1 ≤ a.length from List.length_pos_iff.mpr h0), decide_eq_true h8, List.all_eq_true.mpr (show ∀ c ∈ a, lowB c = true from ha)]
    rfl
  obtain ⟨s, e, h⟩ := nameB_nm this
  cases e
  exact h
section
variable {G : Nat → Option D} {F : Nat → Option Fn}
theorem word_111 (h111 : F 111 = some f111) {a b : Txt} (hT : (a ++ b).length ≤ 100000) (ha : ∀ c ∈ a, az.contains c = true) (hb : nob az b) (n : Nat) (μ : Mu) :
    run G F (n + 1) 111 [.str (a ++ b)] μ = .ok (if a ≠ [] ∧ a.length ≤ 8 then .tup [.str a, .str b] else .non) μ := by
  refine wp_to (run_wp h111 rfl rfl ?_)
  show (exSs G (run G F n) b111 [some (.str (a ++ b)), none] μ).wp _ _ _ _
  unfold b111
  refine ss_step ?_; intro K hK
  solve_by_elim [evW]
  simp only [hK]
  refine ss_step ?_; intro K2 hK2
  refine while_at (cs := az) (b := b) hT ha hb ?_
  simp only [hK2]
  obtain ⟨k, hk⟩ : ∃ k : Int, (a.length : Int) = k := ⟨_, rfl⟩
  rw [hk]
  refine ss_step ?_; intro K3 hK3
  by_cases h0 : a = []
  · rw [if_neg (fun h => h.1 h0)]
    have hk0 : k = 0 := by rw [← hk, h0]; rfl
    subst hk0
    solve_by_elim [evW, beq_self_eq_true]
    try (first | exact ⟨rfl, trivial⟩ | exact ⟨trivial, trivial⟩ | exact ⟨trivial, rfl⟩ | exact ⟨rfl, rfl⟩ | trivial)
  · have hpos := List.length_pos_iff.mpr h0
    have e0 : (k = 0) = False := eq_false (by omega)
    by_cases h8 : a.length ≤ 8
    · have e8 : (8 < k) = False := eq_false (by omega)
      have hto : ∀ μ, slcD μ (.str (a ++ b)) none (some k) = some (.str a) := fun μ => by rw [sl_to (by omega) hT, show k.toNat = a.length by omega, List.take_left]
      have hfr : ∀ μ, slcD μ (.str (a ++ b)) (some k) none = some (.str b) := fun μ => by rw [sl_from (by omega) hT, show k.toNat = a.length by omega, List.drop_left]
      rw [if_pos ⟨h0, h8⟩]
      solve_by_elim [evW, e0, e8]
      simp only [hK3]
      solve_by_elim [evW, hto, hfr]
      exact ⟨by rw [if_pos ⟨h0, h8⟩], trivial⟩
    · have e8 : (8 < k) = True := eq_true (by omega)
      rw [if_neg (fun h => h8 h.2)]
      solve_by_elim [evW, e0, e8]
      try (first | exact ⟨rfl, trivial⟩ | exact ⟨trivial, trivial⟩ | exact ⟨trivial, rfl⟩ | exact ⟨rfl, rfl⟩ | trivial)
abbrev WC : Nat → D → Txt → Prop := fun _ x t => x = .str t ∧ Nm t
abbrev QC : List D → Prop := fun l => 1 ≤ l.length ∧ l.length ≤ 6 ∧ l.Nodup
theorem row_strs {l : List D} {ts : List Txt} (h : Row WC l ts) : l = ts.map .str ∧ ∀ s ∈ ts, Nm s := by
  have e : l = ts.map .str := by
    apply List.ext_getElem?
    intro i
    rw [List.getElem?_map]
    by_cases hi : i < l.length
    · have e1 : l[i]? = some (l[i]) := List.getElem?_eq_getElem _
      have e2 : ts[i]? = some (ts[i]'(by rw [h.len]; exact hi)) := List.getElem?_eq_getElem _
      rw [e1, e2, (h.it i _ _ e1 e2).1]
      rfl
    · rw [List.getElem?_eq_none (by omega), List.getElem?_eq_none (by rw [h.len]; omega)]
      rfl
  refine ⟨e, fun s hs => ?_⟩
  obtain ⟨i, hi⟩ := List.mem_iff_getElem?.mp hs
  exact (h.it i (.str s) s (by rw [e, List.getElem?_map, hi]; rfl) hi).2
theorem nodup_str {ss : List Txt} : (ss.map D.str).Nodup ↔ ss.Nodup := by
  unfold List.Nodup
  rw [List.pairwise_map]
  exact ⟨fun h => h.imp fun h e => h (by rw [e]), fun h => h.imp fun h e => h (by injection e)⟩
def SpecC (T : Txt) (res : D) : Prop := (∀ l ts r, Row WC l ts → QC l → T = jn [32] true ts ++ 41 :: r → res = .tup [.tup [.str wCho, .tup l], .str r]) ∧
  (res = .non ∨ ∃ l ts r, Row WC l ts ∧ QC l ∧ T = jn [32] true ts ++ 41 :: r ∧ res = .tup [.tup [.str wCho, .tup l], .str r])
theorem choice_112 (h111 : F 111 = some f111) (h112 : F 112 = some f112) {T : Txt} (hT : T.length ≤ 100000) (n : Nat) (μ : Mu) :
    (run G F (n + 2) 112 [.str T] μ).wp (fun res μ' => μ' = μ ∧ SpecC T res) (fun _ _ => False) := by
  refine run_wp h112 rfl rfl ?_
  show (exSs G (run G F (n + 1)) b112 [some (.str T), none, none] μ).wp _ _ _ _ _
  unfold b112
  have hstp : ∀ ts r, stops (jn [32] false ts ++ 41 :: r) := fun ts r => by
    cases ts with
    | nil => exact stops_cons (by decide) (by decide)
    | cons t ts => exact stops_cons (c := 32) (by decide) (by decide)
  refine ss_step ?_; intro K hK
  solve_by_elim [evW]
  simp only [hK]
  refine ss_step ?_; intro K2 hK2
  rw [s_w]
  refine while_wp (fun m ρ μ' => ∃ (acc : List D) (ts : List Txt) (U : Txt) (x2 : Option D), m + acc.length = 7 ∧ acc.length ≤ 6 ∧ acc.Nodup ∧ Pre [32] WC QC 41 T acc ts U ∧ μ' = μ ∧ ρ = [some (.str U), some (.tup acc), x2]) ?_ 7 manyTurns _ _ (by rw [show manyTurns = 1000000000 from rfl]; omega) ⟨[], [], T, none, rfl, by simp, List.nodup_nil, Pre.zero, rfl, rfl⟩
  rintro m ρ μ' ⟨acc, ts, U, x2, hm, h6, hnd, P, rfl, rfl⟩
  have hUl : U.length ≤ 100000 := by
    have := congrArg List.length P.eq
    rw [List.length_append] at this
    omega
  have hsl := fun μ => sg_sl (μ := μ) hUl
  obtain ⟨hacc, hnm⟩ := row_strs P.row
  have hfl : D.flatL acc = true := by rw [hacc]; exact flatL_map fun _ _ => rfl
  have he := fun μ => tup_nil (μ := μ) hfl
  have rest0 : ∀ l ts' r, Row WC l ts' → QC l → T = jn [32] true ts' ++ 41 :: r → ¬ acc.length < l.length → U = 41 :: r ∧ l = acc := fun l ts' r h q ht hk => by
    obtain ⟨q1, q2, q3⟩ := P.un l ts' r h q ht
    have hr := P.rest h q ht
    rw [List.drop_of_length_le (by rw [h.len]; omega), show jn [32] acc.isEmpty [] = [] by cases acc.isEmpty <;> rfl] at hr
    rw [List.take_of_length_le (by omega)] at q2
    exact ⟨hr, q2⟩
  (try simp only [wipeR, List.set_cons_zero, List.set_cons_succ])
  by_cases hgo : acc = [] ∨ U.take 1 = [32]
  · have ht : evT G (run G F (n + 1)) (.or_ (.cmp .eq (.var 1) (.tup [])) (.cmp .eq (.slc (.var 0) none (some (.con (.int 1)))) (.con (.str [32])))) [some (.str U), some (.tup acc), none] μ' = .ok true μ' := by
      refine wp_to ?_
      cases ha : acc.isEmpty with
      | true =>
        rw [ha] at he
        solve_by_elim [evW, he]
        try (first | exact ⟨rfl, trivial⟩ | exact ⟨trivial, trivial⟩ | exact ⟨trivial, rfl⟩ | exact ⟨rfl, rfl⟩ | trivial)
      | false =>
        rw [ha] at he
        have hu : U.take 1 = [32] := hgo.resolve_left fun e => by rw [e] at ha; cases ha
        solve_by_elim [evW, he, hsl, hu, beq_self_eq_true]
        try (first | exact ⟨rfl, trivial⟩ | exact ⟨trivial, trivial⟩ | exact ⟨trivial, rfl⟩ | exact ⟨rfl, rfl⟩ | trivial)
    rw [ht, wp_ok, if_pos rfl]
    obtain ⟨m', rfl⟩ : ∃ m', m = m' + 1 := ⟨m - 1, by omega⟩
    refine ⟨m', rfl, ?_⟩
    have hlt : ∀ l ts' r, Row WC l ts' → QC l → T = jn [32] true ts' ++ 41 :: r → acc.length < l.length := fun l ts' r h q ht => by
      by_cases hk : acc.length < l.length
      · exact hk
      · exfalso
        obtain ⟨e1, e2⟩ := rest0 l ts' r h q ht hk
        rcases hgo with hgo | hgo
        · have := q.1
          rw [e2, hgo] at this
          exact absurd this (by simp)
        · rw [e1] at hgo
          exact absurd hgo (by simp)
    refine ss_step ?_; intro K3 hK3
    have go : ∀ a b, U = (if acc.isEmpty then [] else [32]) ++ (a ++ b) → (∀ c ∈ a, az.contains c = true) → nob az b → K3 [some (.str U), some (.tup acc), some (if a ≠ [] ∧ a.length ≤ 8 then .tup [.str a, .str b] else .non)] μ' := fun a b hV ha hb => by
      simp only [hK3]
      refine ss_step ?_; intro K4 hK4
      have got : ∀ l ts' r, Row WC l ts' → QC l → T = jn [32] true ts' ++ 41 :: r → Nm a ∧ l[acc.length]? = some (.str a) := fun l ts' r h q ht => by
        obtain ⟨x, t, hx, _, ⟨rfl, hnt⟩, hVx⟩ := P.tail hV h q ht (hlt l ts' r h q ht)
        obtain ⟨rfl, _⟩ := spl_one hVx ha hb (nm_az hnt) (hstp _ _).2
        exact ⟨hnt, hx⟩
      have nope : (Nm a → a ∈ ts ∨ acc.length = 6) → SpecC T .non := fun hor => by
        refine ⟨fun l ts' r h q ht => ?_, .inl rfl⟩
        exfalso
        obtain ⟨hn, hx⟩ := got l ts' r h q ht
        have hk := hlt l ts' r h q ht
        obtain ⟨q1, q2, q3⟩ := P.un l ts' r h q ht
        rcases hor hn with hor | hor
        · have hin : D.str a ∈ l.take acc.length := by
            rw [q2, hacc]
            exact List.mem_map.mpr ⟨a, hor, rfl⟩
          obtain ⟨i, hi⟩ := List.mem_iff_getElem?.mp hin
          have hil : i < acc.length := by
            have := (List.getElem?_eq_some_iff.mp hi).1
            rw [List.length_take] at this
            omega
          rw [List.getElem?_take_of_lt hil] at hi
          have := (List.getElem?_inj (by omega) q.2.2).mp (hi.trans hx.symm)
          omega
        · have := q.2.1
          omega
      by_cases hok : a ≠ [] ∧ a.length ≤ 8
      · rw [if_pos hok]
        have hna := nm_if ha hok.1 hok.2
        have hin : ∀ μ, inD μ (.str a) (.tup acc) = some (ts.contains a) := fun μ => by
          conv => lhs; rw [hacc]
          exact in_tup
        obtain ⟨kk, hkk⟩ : ∃ kk : Int, (acc.length : Int) = kk := ⟨_, rfl⟩
        have hlen : ∀ μ, biD .len μ [.tup acc] = some (.int kk) := fun μ => by rw [← hkk]; exact len_tup
        cases hc : ts.contains a with
        | true =>
          rw [hc] at hin
          solve_by_elim [evV_b_len_b_lenl, isnon, hin]
          exact ⟨by trivial, nope fun _ => .inl (List.contains_iff_mem.mp hc)⟩
        | false =>
          rw [hc] at hin
          by_cases hk : kk = 6
          · have hkf : (kk = 6) = True := eq_true hk
            solve_by_elim [evV_b_len_b_lenl, isnon, hin, hlen, hkf]
            exact ⟨by trivial, nope fun _ => .inr (by omega)⟩
          · have hkf : (kk = 6) = False := eq_false hk
            solve_by_elim [evV_b_len_b_lenl, isnon, hin, hlen, hkf]
            simp only [hK4]
            have ha2 : ∀ μ, binD .add μ (.tup acc) (.tup [.str a]) = some (.tup (acc ++ [.str a])) := fun μ => add_tup (by rw [List.length_singleton, lim_val]; omega)
            solve_by_elim [evV_o_addt, ha2]
            refine ⟨acc ++ [.str a], ts ++ [a], b, _, by rw [List.length_append, List.length_singleton]; omega, by rw [List.length_append, List.length_singleton]; omega, ?_, P.add (res := .tup [.str a, .str b]) hV hstp (fun d t r hw hst e => ?_) ⟨rfl, hna⟩ rfl rfl hlt, (by first | rfl | trivial), (by first | rfl | trivial)⟩
            · rw [List.nodup_append]
              refine ⟨hnd, by simp, fun x hx y hy e => ?_⟩
              rw [List.mem_singleton.mp hy] at e
              rw [e, hacc] at hx
              obtain ⟨s, hs, e2⟩ := List.mem_map.mp hx
              cases e2
              rw [List.contains_iff_mem.mpr hs] at hc
              cases hc
            · obtain ⟨rfl, hnt⟩ := hw
              obtain ⟨rfl, rfl⟩ := spl_one e ha hb (nm_az hnt) hst.2
              rfl
      · rw [if_neg hok]
        solve_by_elim [evW, isnon2]
        exact ⟨by trivial, nope fun hn => absurd ⟨nm_ne hn, hn.len⟩ hok⟩
    cases ha : acc.isEmpty with
    | true =>
      rw [ha] at he
      obtain ⟨a, b, hab, h1, h2⟩ := spl az U
      have hs0 : ∀ μ, slcD μ (.str U) (some 0) none = some (.str (a ++ b)) := fun μ => by rw [sl_from (i := 0) (by decide) hUl, ← hab]; rfl
      have hw := fun μ => word_111 (G := G) h111 (a := a) (b := b) (by rw [← hab]; exact hUl) h1 h2 n μ
      solve_by_elim [evW, he, hs0, hw]
      exact go a b (by rw [ha]; exact hab) h1 h2
    | false =>
      rw [ha] at he
      have hu : U.take 1 = [32] := hgo.resolve_left fun e => by rw [e] at ha; cases ha
      obtain ⟨V, rfl⟩ : ∃ V, U = 32 :: V := by
        cases U with
        | nil => cases hu
        | cons c w =>
          have : c = 32 := by simpa using hu
          exact ⟨w, by rw [this]⟩
      obtain ⟨a, b, hab, h1, h2⟩ := spl az V
      have hs0 : ∀ μ, slcD μ (.str (32 :: V)) (some 1) none = some (.str (a ++ b)) := fun μ => by rw [sl_from (i := 1) (by decide) hUl, ← hab]; rfl
      have hw := fun μ => word_111 (G := G) h111 (a := a) (b := b) (by rw [← hab]; rw [List.length_cons] at hUl; omega) h1 h2 n μ
      solve_by_elim [evW, he, hs0, hw]
      exact go a b (by rw [ha, ← hab]; rfl) h1 h2
  · have hne : acc ≠ [] := fun e => hgo (.inl e)
    have hu : U.take 1 ≠ [32] := fun e => hgo (.inr e)
    have ha : acc.isEmpty = false := by cases acc <;> first | rfl | exact absurd rfl hne
    rw [ha] at he
    have huf : (U.take 1 = [32]) = False := eq_false hu
    have ht : evT G (run G F (n + 1)) (.or_ (.cmp .eq (.var 1) (.tup [])) (.cmp .eq (.slc (.var 0) none (some (.con (.int 1)))) (.con (.str [32])))) [some (.str U), some (.tup acc), none] μ' = .ok false μ' := by
      refine wp_to ?_
      solve_by_elim [evW, he, hsl, huf]
      try (first | exact ⟨rfl, trivial⟩ | exact ⟨trivial, trivial⟩ | exact ⟨trivial, rfl⟩ | exact ⟨rfl, rfl⟩ | trivial)
    rw [ht, wp_ok, if_neg (by simp)]
    simp only [hK2]
    have hend : ∀ l ts' r, Row WC l ts' → QC l → T = jn [32] true ts' ++ 41 :: r → U = 41 :: r ∧ l = acc := fun l ts' r h q ht => by
      by_cases hk : acc.length < l.length
      · exfalso
        have hr := P.rest h q ht
        rw [ha] at hr
        obtain ⟨hk', e1⟩ := List.getElem?_eq_some_iff.mp (show ts'[acc.length]? = some _ from List.getElem?_eq_getElem (by rw [h.len]; exact hk))
        rw [List.drop_eq_getElem_cons hk'] at hr
        rw [hr] at hu
        exact hu rfl
      · exact rest0 l ts' r h q ht hk
    have hd1 : ∀ μ, slcD μ (.str U) (some 1) none = some (.str (U.drop 1)) := fun μ => sl_from (i := 1) (by decide) hUl
    refine ss_step ?_; intro K3 hK3
    by_cases hc : U.take 1 = [41]
    · obtain ⟨r0, rfl⟩ : ∃ r0, U = 41 :: r0 := by
        cases U with
        | nil => cases hc
        | cons c w =>
          have : c = 41 := by simpa using hc
          exact ⟨w, by rw [this]⟩
      solve_by_elim [evW, hsl, hc, beq_self_eq_true]
      simp only [hK3]
      solve_by_elim [evW, hd1]
      refine ⟨by trivial, fun l ts' r h q ht => ?_, .inr ⟨acc, ts, r0, P.row, ⟨List.length_pos_iff.mpr hne, h6, hnd⟩, P.eq, rfl⟩⟩
      obtain ⟨e1, rfl⟩ := hend l ts' r h q ht
      injection e1 with _ e1
      rw [e1]
      rfl
    · have hcf : (U.take 1 = [41]) = False := eq_false hc
      solve_by_elim [evW, hsl, hcf]
      refine ⟨by trivial, fun l ts' r h q ht => ?_, .inl rfl⟩
      exfalso
      obtain ⟨e1, _⟩ := hend l ts' r h q ht
      rw [e1] at hc
      exact hc rfl
end

def SpecP (T : Txt) (res : D) : Prop := (∀ p t r, PlW p t → stops r → T = t ++ r → res = .tup [p, .str r]) ∧ (res = .non ∨ ∃ p t r, res = .tup [p, .str r] ∧ T = t ++ r ∧ PlW p t)
/-- what begins the text of a number, a choice, a text -/
theorem plw_cases {p : D} {t : Txt} (h : PlW p t) : (∃ m : Int, p = (Pl.num m).enc ∧ 1 ≤ m ∧ m ≤ 240 ∧ t = 110 :: numT m.toNat) ∨ (∃ m : Int, p = (Pl.txt m).enc ∧ 0 ≤ m ∧ m ≤ 20 ∧ t = 116 :: numT m.toNat) ∨
    ∃ l : List Txt, p = (Pl.cho l).enc ∧ 1 ≤ l.length ∧ l.length ≤ 6 ∧ (∀ s ∈ l, Nm s) ∧ l.Nodup ∧ t = 99 :: 40 :: (jn [32] true l ++ [41]) := by
  cases h with
  | num h0 h1 => exact .inl ⟨_, rfl, h0, h1, rfl⟩
  | txt h0 h1 => exact .inr (.inl ⟨_, rfl, h0, h1, rfl⟩)
  | cho h0 h1 hn hd => exact .inr (.inr ⟨_, rfl, h0, h1, hn, hd, rfl⟩)
section
variable {G : Nat → Option D} {F : Nat → Option Fn}
theorem short_114 (h101 : F 101 = some f101) (h111 : F 111 = some f111) (h112 : F 112 = some f112) (h114 : F 114 = some f114) {T : Txt} (hT : T.length ≤ 100000) (n : Nat) (μ : Mu) :
    (run G F (n + 3) 114 [.str T] μ).wp (fun res μ' => μ' = μ ∧ SpecP T res) (fun _ _ => False) := by
  refine run_wp h114 rfl rfl ?_
  show (exSs G (run G F (n + 2)) b114 [some (.str T), none] μ).wp _ _ _ _ _
  unfold b114
  have hsl1 := fun μ => sg_sl (μ := μ) hT
  have hsl2 := fun μ => sg_sl2 (μ := μ) hT
  have hd1 : ∀ μ, slcD μ (.str T) (some 1) none = some (.str (T.drop 1)) := fun μ => sl_from (i := 1) (by decide) hT
  have hd2 : ∀ μ, slcD μ (.str T) (some 2) none = some (.str (T.drop 2)) := fun μ => sl_from (i := 2) (by decide) hT
  refine ss_step ?_; intro K hK
  by_cases hc : T.take 2 = [99, 40]
  · obtain ⟨U, rfl⟩ : ∃ U, T = 99 :: 40 :: U := by
      match T, hc with
      | a :: b :: U, hc =>
        have : a = 99 ∧ b = 40 := by simpa using hc
        exact ⟨U, by rw [this.1, this.2]⟩
    rw [List.length_cons, List.length_cons] at hT
    have hch := choice_112 (G := G) h111 h112 (T := U) (by omega) n μ
    solve_by_elim [evW, hsl2, hc, beq_self_eq_true, hd2, List.drop_succ_cons, List.drop_zero]
    refine Res.wp_mono hch (fun res ν hres => ?_) fun _ _ h => h
    obtain ⟨rfl, s1, s2⟩ := hres
    refine ⟨by trivial, fun p t r hp hst e => ?_, ?_⟩
    · rcases plw_cases hp with ⟨m, rfl, _, _, rfl⟩ | ⟨m, rfl, _, _, rfl⟩ | ⟨l, rfl, h0, h1, hn, hd, rfl⟩
      · injection e with e _
        exact absurd e (by decide)
      · injection e with e _
        exact absurd e (by decide)
      · rw [List.cons_append, List.cons_append] at e
        injection e with _ e
        injection e with _ e
        refine s1 (l.map .str) l r ⟨(List.length_map ..).symm, fun i x t q1 q2 => ?_⟩ ⟨by rw [List.length_map]; exact h0, by rw [List.length_map]; exact h1, nodup_str.mpr hd⟩ (by rw [e, List.append_assoc]; rfl)
        rw [List.getElem?_map, q2] at q1
        cases q1
        exact ⟨rfl, hn t (List.mem_of_getElem? q2)⟩
    · rcases s2 with rfl | ⟨l, ts, r, hrow, hq, rfl, rfl⟩
      · exact .inl rfl
      · obtain ⟨rfl, hn⟩ := row_strs hrow
        obtain ⟨q1, q2, q3⟩ := hq
        rw [List.length_map] at q1 q2
        exact .inr ⟨_, 99 :: 40 :: (jn [32] true ts ++ [41]), r, rfl, by rw [List.cons_append, List.cons_append, List.append_assoc]; rfl, .cho q1 q2 hn (nodup_str.mp q3)⟩
  · have hcf : (T.take 2 = [99, 40]) = False := eq_false hc
    solve_by_elim [evV_ss_c, hsl2, hcf]
    simp only [hK]
    have hin : ∀ μ, inD μ (.str (T.take 1)) (.tup [.str [110], .str [116]]) = some (([[110], [116]] : List Txt).contains (T.take 1)) := fun μ => in_tup (l := [[110], [116]])
    refine ss_step ?_; intro K2 hK2
    cases hnt : ([[110], [116]] : List Txt).contains (T.take 1) with
    | false =>
      rw [hnt] at hin
      solve_by_elim [evW, hsl1, hin]
      refine ⟨by trivial, fun p t r hp hst e => ?_, .inl rfl⟩
      exfalso
      rcases plw_cases hp with ⟨m, rfl, _, _, rfl⟩ | ⟨m, rfl, _, _, rfl⟩ | ⟨l, rfl, h0, h1, hn, hd, rfl⟩
      · rw [e] at hnt
        exact absurd hnt (by simp)
      · rw [e] at hnt
        exact absurd hnt (by simp)
      · rw [e] at hc
        exact hc rfl
    | true =>
      rw [hnt] at hin
      solve_by_elim [evV_ss_c, hsl1, hin]
      simp only [hK2]
      obtain ⟨c, U, rfl, hcc⟩ : ∃ c U, T = c :: U ∧ (c = 110 ∨ c = 116) := by
        cases T with
        | nil => cases hnt
        | cons c U =>
          refine ⟨c, U, rfl, ?_⟩
          have : [c] = [110] ∨ [c] = [116] := by simpa using hnt
          rcases this with e | e
          · exact .inl (by injection e)
          · exact .inr (by injection e)
      obtain ⟨a, b, rfl, ha, hb⟩ := spl figs U
      rw [List.length_cons] at hT
      have hfig := fun n μ => fig_101 (G := G) (n := n) (μ := μ) h101 (a := a) (b := b) (by omega) ha hb
      have hidx : ∀ μ, idxD μ (.str (c :: (a ++ b))) (.int 0) = some (.str [c]) := fun μ => idx_T (j := 0) (by decide) (by rw [List.length_cons]; omega) rfl
      have comp : ∀ p t r, PlW p t → stops r → c :: (a ++ b) = t ++ r → figOk a = true ∧ b = r ∧ ((c = 110 ∧ 1 ≤ (digV a : Int) ∧ (digV a : Int) ≤ 240 ∧ p = (Pl.num (digV a)).enc) ∨ (c = 116 ∧ (digV a : Int) ≤ 20 ∧ p = (Pl.txt (digV a)).enc)) := fun p t r hp hst e => by
        rcases plw_cases hp with ⟨m, rfl, h0, h1, rfl⟩ | ⟨m, rfl, h0, h1, rfl⟩ | ⟨l, rfl, h0, h1, hn, hd, rfl⟩
        · rw [List.cons_append] at e
          injection e with e1 e
          obtain ⟨q1, q2, q3, q4, q5⟩ := num_tab m.toNat (by omega)
          obtain ⟨rfl, rfl⟩ := spl_one e ha hb q3 hst.1
          refine ⟨fig_tab0 _ (by omega), rfl, .inl ⟨e1, by rw [q5]; omega, by rw [q5]; omega, ?_⟩⟩
          rw [q5, show ((m.toNat : Nat) : Int) = m by omega]
        · rw [List.cons_append] at e
          injection e with e1 e
          obtain ⟨q1, q2, q3, q4, q5⟩ := num_tab m.toNat (by omega)
          obtain ⟨rfl, rfl⟩ := spl_one e ha hb q3 hst.1
          refine ⟨fig_tab0 _ (by omega), rfl, .inr ⟨e1, by rw [q5]; omega, ?_⟩⟩
          rw [q5, show ((m.toNat : Nat) : Int) = m by omega]
        · rw [List.cons_append] at e
          injection e with e1 e
          omega
      refine ss_step ?_; intro K3 hK3
      solve_by_elim [evW, hd1, List.drop_succ_cons, List.drop_zero, hfig]
      simp only [hK3]
      refine ss_step ?_; intro K4 hK4
      cases hf : figOk a with
      | false =>
        (try simp only [Bool.false_eq_true, if_false])
        solve_by_elim [evW, isnon2]
        refine ⟨by trivial, fun p t r hp hst e => ?_, .inl rfl⟩
        rw [(comp p t r hp hst e).1] at hf
        cases hf
      | true =>
        (try simp only [if_true])
        obtain ⟨v1, v2⟩ := fig_num ha hf
        obtain ⟨vv, hvv⟩ : ∃ v : Int, (digV a : Int) = v := ⟨_, rfl⟩
        rw [hvv] at comp ⊢
        have hv0 : 0 ≤ vv := by omega
        rcases hcc with rfl | rfl
        · by_cases hv : 0 < vv ∧ vv < 241
          · have e1 : (0 < vv) = True := eq_true hv.1
            have e2 : (vv < 241) = True := eq_true hv.2
            have e3 : (([110] : Txt) = [116]) = False := eq_false (by decide)
            solve_by_elim [evW, isnon, hidx, e1, e2, e3, beq_self_eq_true]
            simp only [hK4]
            solve_by_elim [evW, hidx, e3]
            refine ⟨by trivial, fun p t r hp hst e => ?_, .inr ⟨_, 110 :: a, b, rfl, rfl, ?_⟩⟩
            · obtain ⟨_, rfl, h | h⟩ := comp p t r hp hst e
              · rw [h.2.2.2]
                rfl
              · exact absurd h.1 (by decide)
            · have := PlW.num (m := vv) (by omega) (by omega)
              rw [show vv.toNat = digV a by omega, v1] at this
              exact this
          · have e0 : ∀ k : Bool → Prop, True := fun _ => trivial
            have : SpecP (110 :: (a ++ b)) .non := by
              refine ⟨fun p t r hp hst e => ?_, .inl rfl⟩
              obtain ⟨_, _, h | h⟩ := comp p t r hp hst e
              · omega
              · exact absurd h.1 (by decide)
            by_cases h1 : 0 < vv
            · have e1 : (0 < vv) = True := eq_true h1
              have e2 : (vv < 241) = False := eq_false fun h => hv ⟨h1, h⟩
              solve_by_elim [evW, isnon, hidx, e1, e2, beq_self_eq_true]
              exact ⟨by trivial, this⟩
            · have e1 : (0 < vv) = False := eq_false h1
              solve_by_elim [evW, isnon, hidx, e1, beq_self_eq_true]
              exact ⟨by trivial, this⟩
        · have e3 : (([116] : Txt) = [110]) = False := eq_false (by decide)
          by_cases hv : 20 < vv
          · have e1 : (20 < vv) = True := eq_true hv
            solve_by_elim [evW, isnon, hidx, e1, e3, beq_self_eq_true]
            refine ⟨by trivial, fun p t r hp hst e => ?_, .inl rfl⟩
            obtain ⟨_, _, h | h⟩ := comp p t r hp hst e
            · exact absurd h.1 (by decide)
            · omega
          · have e1 : (20 < vv) = False := eq_false hv
            solve_by_elim [evW, isnon, hidx, e1, e3, beq_self_eq_true]
            simp only [hK4]
            solve_by_elim [evW, hidx, beq_self_eq_true]
            refine ⟨by trivial, fun p t r hp hst e => ?_, .inr ⟨_, 116 :: a, b, rfl, rfl, ?_⟩⟩
            · obtain ⟨_, rfl, h | h⟩ := comp p t r hp hst e
              · exact absurd h.1 (by decide)
              · rw [h.2.2]
                rfl
            · have := PlW.txt (m := vv) (by omega) (by omega)
              rw [show vv.toNat = digV a by omega, v1] at this
              exact this
end

def SpecF (k : Nat) (T : Txt) (res : D) : Prop := (∀ f t r, WrF k f t → stops r → T = t ++ r → res = .tup [f, .str r]) ∧ (res = .non ∨ ∃ f t r, res = .tup [f, .str r] ∧ T = t ++ r ∧ WrF k f t)
abbrev WG (k : Nat) : Nat → D → Txt → Prop := fun _ x t => ∃ (s : Txt) (f : D) (u : Txt), x = fld (s, f) ∧ Nm s ∧ WrF k f u ∧ t = s ++ 32 :: u
def nms (l : List D) : List Txt := l.map fun x => txtOf (headD x)
abbrev QG : List D → Prop := fun l => l.length ≤ 8 ∧ (nms l).Nodup
def SpecG (k : Nat) (T : Txt) (res : D) : Prop := (∀ l ts r, Row (WG k) l ts → QG l → T = jn [44, 32] true ts ++ 41 :: r → res = .tup [.tup [.str wRec, .tup l], .str r]) ∧
  (res = .non ∨ ∃ l ts r, Row (WG k) l ts ∧ QG l ∧ T = jn [44, 32] true ts ++ 41 :: r ∧ res = .tup [.tup [.str wRec, .tup l], .str r])
theorem in_lst {μ : Mu} {l : List Txt} {s : Txt} : inD μ (.str s) (.lst (l.map .str)) = some (l.contains s) := by
  unfold inD
  dsimp only
  have hf : D.flatL (l.map D.str) = true := flatL_map fun _ _ => rfl
  show (if ((D.str s).flat && D.flatL (l.map D.str) && decide ((D.str s).depth ≤ 64)) = true then some ((l.map D.str).any fun x => x.eqv (.str s)) else none) = _
  rw [hf, any_str]
  rfl
def ReadsF (G : Nat → Option D) (F : Nat → Option Fn) (A k : Nat) : Prop := ∀ V : Txt, V.length ≤ 100000 → ∀ n μ, (run G F (n + A) 115 [.str V, .int (k : Nat)] μ).wp (fun res μ' => μ' = μ ∧ SpecF k V res) (fun _ _ => False)
section
variable {G : Nat → Option D} {F : Nat → Option Fn}
theorem fields_113 (h111 : F 111 = some f111) (h113 : F 113 = some f113) {k : Nat} {A : Nat} (hpart : ReadsF G F (A + 1) k) {T : Txt} (hT : T.length ≤ 100000) (n : Nat) (μ : Mu) :
    (run G F (n + A + 2) 113 [.str T, .int (k : Nat)] μ).wp (fun res μ' => μ' = μ ∧ SpecG k T res) (fun _ _ => False) := by
  obtain ⟨dp, hdp⟩ : ∃ dp : Int, ((k : Nat) : Int) = dp := ⟨_, rfl⟩
  unfold ReadsF at hpart
  rw [hdp] at hpart ⊢
  refine run_wp (n := n + A + 1) h113 rfl rfl ?_
  show (exSs G (run G F (n + A + 1)) b113 [some (.str T), some (.int dp), none, none, none, none] μ).wp _ _ _ _ _
  unfold b113
  have hstp : ∀ ts r, stops (jn [44, 32] false ts ++ 41 :: r) := fun ts r => stops_jn (by decide) (by decide)
  refine ss_step ?_; intro K hK
  solve_by_elim [evW]
  simp only [hK]
  refine ss_step ?_; intro K2 hK2
  rw [s_w]
  refine while_wp (fun m ρ μ' => ∃ (acc : List D) (ts : List Txt) (U : Txt) (x3 x4 x5 : Option D), m + acc.length = 9 ∧ acc.length ≤ 8 ∧ (nms acc).Nodup ∧ Pre [44, 32] (WG k) QG 41 T acc ts U ∧ μ' = μ ∧ ρ = [some (.str U), some (.int dp), some (.tup acc), x3, x4, x5]) ?_ 9 manyTurns _ _ (by rw [show manyTurns = 1000000000 from rfl]; omega) ⟨[], [], T, none, none, none, rfl, by simp, List.nodup_nil, Pre.zero, rfl, rfl⟩
  rintro m ρ μ' ⟨acc, ts, U, x3, x4, x5, hm, h8, hnd, P, rfl, rfl⟩
  have hUl : U.length ≤ 100000 := by
    have := congrArg List.length P.eq
    rw [List.length_append] at this
    omega
  have hsl := fun μ => sg_sl (μ := μ) hUl
  have hsl2 := fun μ => sg_sl2 (μ := μ) hUl
  have hd1 : ∀ μ, slcD μ (.str U) (some 1) none = some (.str (U.drop 1)) := fun μ => sl_from (i := 1) (by decide) hUl
  have hd2 : ∀ μ, slcD μ (.str U) (some 2) none = some (.str (U.drop 2)) := fun μ => sl_from (i := 2) (by decide) hUl
  have items : ∀ x ∈ acc, ∃ (s : Txt) (f : D), x = fld (s, f) ∧ Nm s ∧ Fo k f := fun x hx => by
    obtain ⟨i, hi⟩ := List.mem_iff_getElem?.mp hx
    obtain ⟨t, ht⟩ : ∃ t, ts[i]? = some t := ⟨_, List.getElem?_eq_getElem (by rw [P.row.len]; exact (List.getElem?_eq_some_iff.mp hi).1)⟩
    obtain ⟨s, f, u, rfl, hn, hw, _⟩ := P.row.it i x t hi ht
    exact ⟨s, f, rfl, hn, wrf_fo hw⟩
  have hfl : D.flatL acc = true := (flatL_all acc).mpr fun x hx => by
    obtain ⟨s, f, rfl, _, hf⟩ := items x hx
    show (true && (f.flat && true)) = true
    rw [hf.flat'.1]
    rfl
  have he := fun μ => tup_nil (μ := μ) hfl
  have rest0 : ∀ l ts' r, Row (WG k) l ts' → QG l → T = jn [44, 32] true ts' ++ 41 :: r → ¬ acc.length < l.length → U = 41 :: r ∧ l = acc := fun l ts' r h q ht hk => by
    obtain ⟨q1, q2, q3⟩ := P.un l ts' r h q ht
    have hr := P.rest h q ht
    rw [List.drop_of_length_le (by rw [h.len]; omega), show jn [44, 32] acc.isEmpty [] = [] by cases acc.isEmpty <;> rfl] at hr
    rw [List.take_of_length_le (by omega)] at q2
    exact ⟨hr, q2⟩
  (try simp only [wipeR, List.set_cons_zero, List.set_cons_succ])
  by_cases hu : U.take 1 = [41]
  · obtain ⟨r0, rfl⟩ : ∃ r0, U = 41 :: r0 := by
      cases U with
      | nil => cases hu
      | cons c w =>
        have : c = 41 := by simpa using hu
        exact ⟨w, by rw [this]⟩
    solve_by_elim [evW, hsl, hu, beq_self_eq_true]
    simp only [hK2]
    solve_by_elim [evW, hd1]
    refine ⟨by trivial, fun l ts' r h q ht => ?_, .inr ⟨acc, ts, r0, P.row, ⟨h8, hnd⟩, P.eq, rfl⟩⟩
    by_cases hk : acc.length < l.length
    · exfalso
      cases ha : acc.isEmpty with
      | true =>
        obtain ⟨x, t, _, _, ⟨s, f, u, rfl, hn, _, rfl⟩, hV⟩ := P.tail (V := 41 :: r0) (by rw [ha]; rfl) h q ht hk
        cases e : s with
        | nil => exact nm_ne hn e
        | cons c w =>
          rw [e] at hV
          injection hV with hV _
          have := hn.sgn c (by rw [e]; exact List.mem_cons_self)
          omega
      | false =>
        have hr := P.rest h q ht
        rw [ha] at hr
        obtain ⟨hk', e1⟩ := List.getElem?_eq_some_iff.mp (show ts'[acc.length]? = some _ from List.getElem?_eq_getElem (by rw [h.len]; exact hk))
        rw [List.drop_eq_getElem_cons hk'] at hr
        injection hr with hr _
        exact absurd hr (by decide)
    · obtain ⟨e1, rfl⟩ := rest0 l ts' r h q ht hk
      injection e1 with _ e1
      rw [e1]
      rfl
  · have huf : (U.take 1 = [41]) = False := eq_false hu
    obtain ⟨m', rfl⟩ : ∃ m', m = m' + 1 := ⟨m - 1, by omega⟩
    solve_by_elim [evV_ss_c, hsl, huf]
    refine ⟨m', rfl, ?_⟩
    have hlt : ∀ l ts' r, Row (WG k) l ts' → QG l → T = jn [44, 32] true ts' ++ 41 :: r → acc.length < l.length := fun l ts' r h q ht => by
      by_cases hk : acc.length < l.length
      · exact hk
      · exfalso
        rw [(rest0 l ts' r h q ht hk).1] at hu
        exact hu rfl
    refine ss_step ?_; intro K3 hK3
    have go : ∀ V, U = (if acc.isEmpty then [] else [44, 32]) ++ V → K3 [some (.str V), some (.int dp), some (.tup acc), none, none, x5] μ' := fun V hV => by
      have hVl : V.length ≤ 100000 := by
        have := congrArg List.length hV
        rw [List.length_append] at this
        omega
      simp only [hK3]
      obtain ⟨a, b, hab, ha, hb⟩ := spl az V
      subst hab
      rw [List.length_append] at hVl
      have hw := fun μ => word_111 (G := G) h111 (a := a) (b := b) (by rw [List.length_append]; exact hVl) ha hb (n + A) μ
      refine ss_step ?_; intro K4 hK4
      solve_by_elim [evW, hw]
      simp only [hK4]
      have got : ∀ l ts' r, Row (WG k) l ts' → QG l → T = jn [44, 32] true ts' ++ 41 :: r → ∃ f u R, Nm a ∧ b = 32 :: (u ++ R) ∧ WrF k f u ∧ stops R ∧ l[acc.length]? = some (fld (a, f)) := fun l ts' r h q ht => by
        obtain ⟨x, t, hx, _, ⟨s, f, u, rfl, hn, hwf, rfl⟩, hVx⟩ := P.tail hV h q ht (hlt l ts' r h q ht)
        rw [List.append_assoc] at hVx
        obtain ⟨rfl, rfl⟩ := spl_one hVx ha hb (nm_az hn) (nob_cons (by decide))
        exact ⟨f, u, _, hn, rfl, hwf, hstp _ _, hx⟩
      have nope : (∀ f u R, Nm a → b = 32 :: (u ++ R) → WrF k f u → stops R → a ∉ nms acc → acc.length < 8 → False) → SpecG k T .non := fun hno => by
        refine ⟨fun l ts' r h q ht => ?_, .inl rfl⟩
        exfalso
        obtain ⟨f, u, R, hn, hbe, hwf, hst, hx⟩ := got l ts' r h q ht
        have hk := hlt l ts' r h q ht
        obtain ⟨q1, q2, q3⟩ := P.un l ts' r h q ht
        refine hno f u R hn hbe hwf hst (fun hin => ?_) (by have := q.1; omega)
        obtain ⟨y, hy, he⟩ := List.mem_map.mp hin
        rw [← q2] at hy
        obtain ⟨i, hi⟩ := List.mem_iff_getElem?.mp hy
        have hil : i < acc.length := by
          have := (List.getElem?_eq_some_iff.mp hi).1
          rw [List.length_take] at this
          omega
        rw [List.getElem?_take_of_lt hil] at hi
        have e1 : (nms l)[i]? = some a := by
          unfold nms
          rw [List.getElem?_map, hi]
          exact congrArg some he
        have e2 : (nms l)[acc.length]? = some a := by
          unfold nms
          rw [List.getElem?_map, hx]
          rfl
        have := (List.getElem?_inj (by unfold nms; rw [List.length_map]; omega) q.2).mp (e1.trans e2.symm)
        omega
      refine ss_step ?_; intro K5 hK5
      by_cases hok : a ≠ [] ∧ a.length ≤ 8
      · rw [if_pos hok]
        have hna := nm_if ha hok.1 hok.2
        have hslb := fun μ => sg_sl (μ := μ) (b := b) (by omega)
        by_cases hb1 : b.take 1 = [32]
        · obtain ⟨B, rfl⟩ : ∃ B, b = 32 :: B := by
            cases b with
            | nil => cases hb1
            | cons c w =>
              have : c = 32 := by simpa using hb1
              exact ⟨w, by rw [this]⟩
          rw [List.length_cons] at hVl
          have hdb : ∀ μ, slcD μ (.str (32 :: B)) (some 1) none = some (.str B) := fun μ => sl_from (i := 1) (by decide) (by rw [List.length_cons]; omega)
          obtain ⟨kk, hkk⟩ : ∃ kk : Int, (acc.length : Int) = kk := ⟨_, rfl⟩
          have hlen : ∀ μ, biD .len μ [.tup acc] = some (.int kk) := fun μ => by rw [← hkk]; exact len_tup
          by_cases hk : kk = 8
          · have hkf : (kk = 8) = True := eq_true hk
            solve_by_elim [evV_b_len_b_lenl, isnon, hslb, hb1, hlen, hkf, beq_self_eq_true]
            exact ⟨by trivial, nope fun _ _ _ _ _ _ _ _ _ => by omega⟩
          · have hkf : (kk = 8) = False := eq_false hk
            solve_by_elim [evV_b_len_b_lenl, isnon, hslb, hb1, hlen, hkf, beq_self_eq_true]
            rw [comp_txts (f := fun x => txtOf (headD x)) (by rw [lim_val]; omega) fun x hx => ?_]
            rotate_left
            · obtain ⟨s, f, rfl, _, _⟩ := items x hx
              refine wp_to ?_
              unfold fld
              solve_by_elim [evW]
              try (first | exact ⟨rfl, trivial⟩ | exact ⟨trivial, trivial⟩ | exact ⟨trivial, rfl⟩ | exact ⟨rfl, rfl⟩ | trivial)
            have hin : ∀ μ, inD μ (.str a) (.lst ((acc.map fun x => txtOf (headD x)).map .str)) = some ((nms acc).contains a) := fun μ => in_lst
            cases hc : (nms acc).contains a with
            | true =>
              rw [hc] at hin
              solve_by_elim [evW, hin]
              exact ⟨by trivial, nope fun _ _ _ _ _ _ _ hni _ => hni (List.contains_iff_mem.mp hc)⟩
            | false =>
              rw [hc] at hin
              solve_by_elim [evW, hin]
              simp only [hK5]
              refine ss_step ?_; intro K6 hK6
              solve_by_elim [evW, hdb]
              refine Res.wp_mono (hpart B (by omega) n μ') (fun res ν hres => ?_) fun _ _ h => h.elim
              obtain ⟨rfl, s1, s2⟩ := hres
              simp only [hK6]
              refine ss_step ?_; intro K7 hK7
              rcases s2 with rfl | ⟨f, u, r', rfl, rfl, hwf⟩
              · solve_by_elim [evW, isnon2]
                refine ⟨by trivial, nope fun f u R _ hbe hwf hst _ _ => ?_⟩
                injection hbe with _ hbe
                have := s1 f u R hwf hst hbe
                cases this
              · solve_by_elim [evW, isnon]
                simp only [hK7]
                have ha2 : ∀ μ, binD .add μ (.tup acc) (.tup [.tup [.str a, f]]) = some (.tup (acc ++ [.tup [.str a, f]])) := fun μ => add_tup (by rw [List.length_singleton, lim_val]; omega)
                solve_by_elim [evV_o_addt, ha2]
                refine ⟨acc ++ [.tup [.str a, f]], ts ++ [a ++ 32 :: u], r', _, _, _, by rw [List.length_append, List.length_singleton]; omega, by rw [List.length_append, List.length_singleton]; omega, ?_, P.add (res := .tup [.tup [.str a, f], .str r']) hV hstp (fun d t r hw hst e => ?_) ⟨a, f, u, rfl, hna, hwf, rfl⟩ (by rw [List.append_assoc]; rfl) rfl hlt, (by first | rfl | trivial), (by first | rfl | trivial)⟩
                · show (nms (acc ++ [fld (a, f)])).Nodup
                  unfold nms
                  rw [List.map_append, List.nodup_append]
                  refine ⟨hnd, by simp, fun x hx y hy e => ?_⟩
                  have hy : y = a := List.mem_singleton.mp hy
                  rw [e, hy] at hx
                  rw [show (nms acc).contains a = true from List.contains_iff_mem.mpr hx] at hc
                  cases hc
                · obtain ⟨s, g, w, rfl, hn, hwg, rfl⟩ := hw
                  rw [List.append_assoc] at e
                  obtain ⟨rfl, e2⟩ := spl_one e ha hb (nm_az hn) (nob_cons (by decide))
                  injection e2 with _ e2
                  have := s1 g w r hwg hst e2
                  injection this with this
                  injection this with e3 this
                  injection this with e4 _
                  injection e4 with e4
                  subst e3
                  subst e4
                  rfl
        · have hb1f : (b.take 1 = [32]) = False := eq_false hb1
          solve_by_elim [evW, isnon, hslb, hb1f]
          refine ⟨by trivial, nope fun f u R _ hbe _ _ _ _ => ?_⟩
          rw [hbe] at hb1
          exact hb1 rfl
      · rw [if_neg hok]
        solve_by_elim [evW, isnon2]
        exact ⟨by trivial, nope fun _ _ _ hn _ _ _ _ _ => absurd ⟨nm_ne hn, hn.len⟩ hok⟩
    cases hae : acc.isEmpty with
    | true =>
      rw [hae] at he
      solve_by_elim [evW, he]
      exact go U (by rw [hae]; rfl)
    | false =>
      rw [hae] at he
      by_cases hb2 : U.take 2 = [44, 32]
      · solve_by_elim [evW, he, hsl2, hb2, beq_self_eq_true, hd2]
        refine go (U.drop 2) ?_
        rw [hae]
        match U, hb2 with
        | x :: y :: w, hb2 =>
          have : x = 44 ∧ y = 32 := by simpa using hb2
          rw [this.1, this.2]
          rfl
      · have hbf : (U.take 2 = [44, 32]) = False := eq_false hb2
        solve_by_elim [evW, he, hsl2, hbf]
        refine ⟨by trivial, fun l ts' r h q ht => ?_, .inl rfl⟩
        exfalso
        have hk := hlt l ts' r h q ht
        have hr := P.rest h q ht
        rw [hae] at hr
        obtain ⟨hk', e1⟩ := List.getElem?_eq_some_iff.mp (show ts'[acc.length]? = some _ from List.getElem?_eq_getElem (by rw [h.len]; exact hk))
        rw [List.drop_eq_getElem_cons hk'] at hr
        rw [hr] at hb2
        exact hb2 rfl
end

section
variable {G : Nat → Option D} {F : Nat → Option Fn}
/-- a row of fields is that of a record -/
theorem rowG {k : Nat} {l : List D} {ts : List Txt} (h : Row (WG k) l ts) (q : QG l) : ∃ fs us, l = fs.map fld ∧ ts = wtf fs us ∧ us.length = fs.length ∧ fs.length ≤ 8 ∧ (fs.map Prod.fst).Nodup ∧ (∀ p ∈ fs, Nm p.1) ∧ ∀ (i : Nat) (f : Txt × D) (u : Txt), fs[i]? = some f → us[i]? = some u → WrF k f.2 u := by
  have key : ∀ (l : List D) (ts : List Txt), ts.length = l.length → (∀ (i : Nat) (x : D) (t : Txt), l[i]? = some x → ts[i]? = some t → WG k i x t) → ∃ (fs : List (Txt × D)) (us : List Txt), l = fs.map fld ∧ ts = wtf fs us ∧ us.length = fs.length ∧ (∀ p ∈ fs, Nm p.1) ∧ ∀ (i : Nat) (f : Txt × D) (u : Txt), fs[i]? = some f → us[i]? = some u → WrF k f.2 u := fun l => by
    induction l with
    | nil =>
      intro ts hl _
      cases ts with
      | nil => exact ⟨[], [], rfl, rfl, rfl, fun p hp => (by cases hp), fun i f u h => by simp at h⟩
      | cons _ _ => cases hl
    | cons x l ih =>
      intro ts hl h
      cases ts with
      | nil => cases hl
      | cons t ts =>
        obtain ⟨fs, us, rfl, rfl, e1, e2, e3⟩ := ih ts (by simpa using hl) fun i x t h1 h2 => h (i + 1) x t h1 h2
        obtain ⟨s, f, u, rfl, hn, hw, rfl⟩ := h 0 x t rfl rfl
        refine ⟨(s, f) :: fs, u :: us, rfl, rfl, by rw [List.length_cons, List.length_cons, e1], fun p hp => ?_, fun i g v h1 h2 => ?_⟩
        · rcases List.mem_cons.mp hp with rfl | hp
          · exact hn
          · exact e2 p hp
        · cases i with
          | zero =>
            cases h1
            cases h2
            exact hw
          | succ i => exact e3 i g v h1 h2
  obtain ⟨fs, us, rfl, rfl, e1, e2, e3⟩ := key l ts h.len h.it
  have e4 : nms (fs.map fld) = fs.map Prod.fst := by
    unfold nms
    rw [List.map_map]
    exact List.map_congr_left fun _ _ => rfl
  obtain ⟨q1, q2⟩ := q
  rw [List.length_map] at q1
  rw [e4] at q2
  exact ⟨fs, us, rfl, rfl, e1, q1, q2, e2, e3⟩
theorem rowG_of {k : Nat} {fs : List (Txt × D)} {us : List Txt} (hn : (fs.map Prod.fst).Nodup) (hl : fs.length ≤ 8) (hm : ∀ p ∈ fs, Nm p.1) (hu : us.length = fs.length) (h : ∀ (i : Nat) (f : Txt × D) (u : Txt), fs[i]? = some f → us[i]? = some u → WrF k f.2 u) : Row (WG k) (fs.map fld) (wtf fs us) ∧ QG (fs.map fld) := by
  have e4 : nms (fs.map fld) = fs.map Prod.fst := by
    unfold nms
    rw [List.map_map]
    exact List.map_congr_left fun _ _ => rfl
  refine ⟨⟨by unfold wtf; rw [List.length_map, List.length_map, List.length_zip]; omega, fun i x t h1 h2 => ?_⟩, by rw [List.length_map]; exact hl, by rw [e4]; exact hn⟩
  unfold wtf at h2
  rw [List.getElem?_map] at h1 h2
  cases ef : fs[i]? with
  | none => rw [ef] at h1; cases h1
  | some f =>
    rw [ef] at h1
    cases h1
    have hi := (List.getElem?_eq_some_iff.mp ef).1
    have eu : us[i]? = some (us[i]'(by omega)) := List.getElem?_eq_getElem _
    rw [List.getElem?_zip_eq_some (z := (f, us[i]'(by omega))) |>.mpr ⟨ef, eu⟩] at h2
    cases h2
    exact ⟨f.1, f.2, _, rfl, hm f (List.mem_of_getElem? ef), h i f _ ef eu, rfl⟩
theorem wrf_cases {k : Nat} {f : D} {t : Txt} (h : WrF k f t) : PlW f t ∨ (∃ p u m, f = .tup [.str [108, 105, 115, 116], p, .int m] ∧ PlW p u ∧ 1 ≤ m ∧ m ≤ 4 ∧ t = 108 :: (numT m.toNat ++ (32 :: u))) ∨
    ∃ j fs us, k = j + 1 ∧ f = .tup [.str wRec, .tup (fs.map fld)] ∧ t = 114 :: 40 :: (jn [44, 32] true (wtf fs us) ++ [41]) ∧ Row (WG j) (fs.map fld) (wtf fs us) ∧ QG (fs.map fld) := by
  cases h with
  | pl h => exact .inl h
  | lst h h0 h1 => exact .inr (.inl ⟨_, _, _, rfl, h, h0, h1, rfl⟩)
  | recd hn hl hm hu h =>
    obtain ⟨q1, q2⟩ := rowG_of hn hl hm hu h
    exact .inr (.inr ⟨_, _, _, rfl, rfl, rfl, q1, q2⟩)
theorem plw_fst {p : D} {t : Txt} (h : PlW p t) : ∃ c u, t = c :: u ∧ c ≠ 108 ∧ c ≠ 114 := by
  rcases plw_cases h with ⟨m, rfl, _, _, rfl⟩ | ⟨m, rfl, _, _, rfl⟩ | ⟨l, rfl, _, _, _, _, rfl⟩
  · exact ⟨_, _, rfl, by decide, by decide⟩
  · exact ⟨_, _, rfl, by decide, by decide⟩
  · exact ⟨_, _, rfl, by decide, by decide⟩
end

section
variable {G : Nat → Option D} {F : Nat → Option Fn}
theorem form_step_115 (h101 : F 101 = some f101) (h111 : F 111 = some f111) (h112 : F 112 = some f112) (h114 : F 114 = some f114) (h115 : F 115 = some f115) {k A : Nat}
    (hrec : ∀ j, k = j + 1 → ∀ V : Txt, V.length ≤ 100000 → ∀ n μ, (run G F (n + A + 3) 113 [.str V, .int (j : Nat)] μ).wp (fun res μ' => μ' = μ ∧ SpecG j V res) (fun _ _ => False)) : ReadsF G F (A + 4) k := fun T hT n μ => by
  obtain ⟨dp, hdp⟩ : ∃ dp : Int, ((k : Nat) : Int) = dp := ⟨_, rfl⟩
  rw [hdp]
  refine run_wp (n := n + A + 3) h115 rfl rfl ?_
  show (exSs G (run G F (n + A + 3)) b115 [some (.str T), some (.int dp), none, none] μ).wp _ _ _ _ _
  unfold b115
  have hsl1 := fun μ => sg_sl (μ := μ) hT
  have hsl2 := fun μ => sg_sl2 (μ := μ) hT
  have hd1 : ∀ μ, slcD μ (.str T) (some 1) none = some (.str (T.drop 1)) := fun μ => sl_from (i := 1) (by decide) hT
  have hd2 : ∀ μ, slcD μ (.str T) (some 2) none = some (.str (T.drop 2)) := fun μ => sl_from (i := 2) (by decide) hT
  refine ss_step ?_; intro K hK
  by_cases hc : T.take 2 = [114, 40]
  · obtain ⟨U, rfl⟩ : ∃ U, T = 114 :: 40 :: U := by
      match T, hc with
      | a :: b :: U, hc =>
        have : a = 114 ∧ b = 40 := by simpa using hc
        exact ⟨U, by rw [this.1, this.2]⟩
    rw [List.length_cons, List.length_cons] at hT
    have comp : ∀ f t r, WrF k f t → 114 :: 40 :: U = t ++ r → ∃ j fs us, k = j + 1 ∧ f = .tup [.str wRec, .tup (fs.map fld)] ∧ U = jn [44, 32] true (wtf fs us) ++ 41 :: r ∧ Row (WG j) (fs.map fld) (wtf fs us) ∧ QG (fs.map fld) := fun f t r hw e => by
      rcases wrf_cases hw with h | ⟨p, u, m, rfl, _, _, _, rfl⟩ | ⟨j, fs, us, rfl, rfl, rfl, h1, h2⟩
      · obtain ⟨c, u, rfl, _, h2⟩ := plw_fst h
        injection e with e _
        exact absurd e.symm h2
      · injection e with e _
        exact absurd e (by decide)
      · rw [List.cons_append, List.cons_append] at e
        injection e with _ e
        injection e with _ e
        exact ⟨j, fs, us, rfl, rfl, by rw [e, List.append_assoc]; rfl, h1, h2⟩
    solve_by_elim [evV_ss_c, hsl2, hc, beq_self_eq_true]
    refine ss_step ?_; intro K2 hK2
    by_cases hk : dp = 0
    · have hkf : (dp = 0) = True := eq_true hk
      solve_by_elim [evW, hkf]
      refine ⟨by trivial, fun f t r hw hst e => ?_, .inl rfl⟩
      obtain ⟨j, _, _, rfl, _⟩ := comp f t r hw e
      omega
    · have hkf : (dp = 0) = False := eq_false hk
      obtain ⟨j, rfl⟩ : ∃ j, k = j + 1 := ⟨k - 1, by omega⟩
      have hr := hrec j rfl U (by omega) n μ
      rw [show ((j : Nat) : Int) = dp - 1 by omega] at hr
      solve_by_elim [evW, hkf]
      simp only [hK2]
      solve_by_elim [evW, hd2, List.drop_succ_cons, List.drop_zero]
      refine Res.wp_mono hr (fun res ν hres => ?_) fun _ _ h => h
      obtain ⟨rfl, s1, s2⟩ := hres
      refine ⟨by trivial, fun f t r hw hst e => ?_, ?_⟩
      · obtain ⟨j', fs, us, e1, rfl, hU, h1, h2⟩ := comp f t r hw e
        cases e1
        exact s1 _ _ r h1 h2 hU
      · rcases s2 with rfl | ⟨l, ts, r, hrow, hq, rfl, rfl⟩
        · exact .inl rfl
        · obtain ⟨fs, us, rfl, rfl, q1, q2, q3, q4, q5⟩ := rowG hrow hq
          exact .inr ⟨_, 114 :: 40 :: (jn [44, 32] true (wtf fs us) ++ [41]), r, rfl, by rw [List.cons_append, List.cons_append, List.append_assoc]; rfl, .recd q3 q2 q4 q1 q5⟩
  · have hcf : (T.take 2 = [114, 40]) = False := eq_false hc
    solve_by_elim [evV_ss_c, hsl2, hcf]
    simp only [hK]
    refine ss_step ?_; intro K2 hK2
    by_cases hl : T.take 1 = [108]
    · obtain ⟨U, rfl⟩ : ∃ U, T = 108 :: U := by
        cases T with
        | nil => cases hl
        | cons c w =>
          have : c = 108 := by simpa using hl
          exact ⟨w, by rw [this]⟩
      rw [List.length_cons] at hT
      obtain ⟨a, b, rfl, ha, hb⟩ := spl figs U
      rw [List.length_append] at hT
      have hfig := fun n μ => fig_101 (G := G) (n := n) (μ := μ) h101 (a := a) (b := b) (by rw [List.length_append]; omega) ha hb
      have comp : ∀ f t r, WrF k f t → stops r → 108 :: (a ++ b) = t ++ r → ∃ p u, f = .tup [.str [108, 105, 115, 116], p, .int (digV a)] ∧ PlW p u ∧ figOk a = true ∧ 1 ≤ (digV a : Int) ∧ (digV a : Int) ≤ 4 ∧ b = 32 :: (u ++ r) := fun f t r hw hst e => by
        rcases wrf_cases hw with h | ⟨p, u, m, rfl, hp, h0, h1, rfl⟩ | ⟨j, fs, us, rfl, rfl, rfl, h1, h2⟩
        · obtain ⟨c, u, rfl, h2, _⟩ := plw_fst h
          injection e with e _
          exact absurd e.symm h2
        · rw [List.cons_append, List.append_assoc] at e
          injection e with _ e
          obtain ⟨q1, q2, q3, q4, q5⟩ := num_tab m.toNat (by omega)
          obtain ⟨rfl, rfl⟩ := spl_one e ha hb q3 (nob_cons (by decide))
          exact ⟨p, u, by rw [q5, show ((m.toNat : Nat) : Int) = m by omega], hp, fig_tab0 _ (by omega), by rw [q5]; omega, by rw [q5]; omega, rfl⟩
        · injection e with e _
          exact absurd e (by decide)
      solve_by_elim [evV_ss_c, hsl1, hl, beq_self_eq_true]
      simp only [hK2]
      refine ss_step ?_; intro K3 hK3
      solve_by_elim [evW, hd1, List.drop_succ_cons, List.drop_zero, hfig]
      simp only [hK3]
      refine ss_step ?_; intro K4 hK4
      cases hf : figOk a with
      | false =>
        (try simp only [Bool.false_eq_true, if_false])
        solve_by_elim [evW, isnon2]
        refine ⟨by trivial, fun f t r hw hst e => ?_, .inl rfl⟩
        obtain ⟨_, _, _, _, h, _⟩ := comp f t r hw hst e
        rw [h] at hf
        cases hf
      | true =>
        (try simp only [if_true])
        obtain ⟨v1, v2⟩ := fig_num ha hf
        obtain ⟨vv, hvv⟩ : ∃ v : Int, (digV a : Int) = v := ⟨_, rfl⟩
        rw [hvv] at comp ⊢
        have hslb := fun μ => sg_sl (μ := μ) (b := b) (by omega)
        by_cases hv : 0 < vv ∧ vv < 5
        · have e1 : (0 < vv) = True := eq_true hv.1
          have e2 : (vv < 5) = True := eq_true hv.2
          by_cases hb1 : b.take 1 = [32]
          · obtain ⟨B, rfl⟩ : ∃ B, b = 32 :: B := by
              cases b with
              | nil => cases hb1
              | cons c w =>
                have : c = 32 := by simpa using hb1
                exact ⟨w, by rw [this]⟩
            rw [List.length_cons] at hT
            have hdb : ∀ μ, slcD μ (.str (32 :: B)) (some 1) none = some (.str B) := fun μ => sl_from (i := 1) (by decide) (by rw [List.length_cons]; omega)
            solve_by_elim [evW, isnon, e1, e2, hslb, hb1, beq_self_eq_true]
            simp only [hK4]
            refine ss_step ?_; intro K5 hK5
            solve_by_elim [evW, hdb]
            refine Res.wp_mono (short_114 (G := G) h101 h111 h112 h114 (T := B) (by omega) (n + A) μ) (fun res ν hres => ?_) fun _ _ h => h
            obtain ⟨rfl, s1, s2⟩ := hres
            simp only [hK5]
            refine ss_step ?_; intro K6 hK6
            rcases s2 with rfl | ⟨p, u, r, rfl, rfl, hp⟩
            · solve_by_elim [evW, isnon2]
              refine ⟨by trivial, fun f t r hw hst e => ?_, .inl rfl⟩
              obtain ⟨p, u, rfl, hp, _, _, _, hbe⟩ := comp f t r hw hst e
              injection hbe with _ hbe
              have := s1 p u r hp hst hbe
              cases this
            · solve_by_elim [evW, isnon]
              simp only [hK6]
              solve_by_elim [evW]
              refine ⟨by trivial, fun f t r' hw hst e => ?_, .inr ⟨_, 108 :: (a ++ 32 :: u), r, rfl, by simp, ?_⟩⟩
              · obtain ⟨p', u', rfl, hp', _, _, _, hbe⟩ := comp f t r' hw hst e
                injection hbe with _ hbe
                have := s1 p' u' r' hp' hst hbe
                injection this with this
                injection this with e1 this
                injection this with e2 _
                injection e2 with e2
                subst e1
                subst e2
                rfl
              · have := WrF.lst (k := k) (m := vv) hp (by omega) (by omega)
                rw [show vv.toNat = digV a by omega, v1] at this
                exact this
          · have hb1f : (b.take 1 = [32]) = False := eq_false hb1
            solve_by_elim [evW, isnon, e1, e2, hslb, hb1f]
            refine ⟨by trivial, fun f t r hw hst e => ?_, .inl rfl⟩
            obtain ⟨_, _, _, _, _, _, _, hbe⟩ := comp f t r hw hst e
            rw [hbe] at hb1
            exact absurd rfl hb1
        · have none : SpecF k (108 :: (a ++ b)) .non := by
            refine ⟨fun f t r hw hst e => ?_, .inl rfl⟩
            obtain ⟨_, _, _, _, _, h1, h2, _⟩ := comp f t r hw hst e
            omega
          by_cases h1 : 0 < vv
          · have e1 : (0 < vv) = True := eq_true h1
            have e2 : (vv < 5) = False := eq_false fun h => hv ⟨h1, h⟩
            solve_by_elim [evW, isnon, e1, e2]
            exact ⟨by trivial, none⟩
          · have e1 : (0 < vv) = False := eq_false h1
            solve_by_elim [evW, isnon, e1]
            exact ⟨by trivial, none⟩
    · have hlf : (T.take 1 = [108]) = False := eq_false hl
      solve_by_elim [evW, hsl1, hlf]
      refine Res.wp_mono (short_114 (G := G) h101 h111 h112 h114 hT (n + A) μ) (fun res ν hres => ?_) fun _ _ h => h
      obtain ⟨rfl, s1, s2⟩ := hres
      refine ⟨by trivial, fun f t r hw hst e => ?_, ?_⟩
      · rcases wrf_cases hw with h | ⟨p, u, m, rfl, hp, h0, h1, rfl⟩ | ⟨j, fs, us, rfl, rfl, rfl, h1, h2⟩
        · exact s1 f t r h hst e
        · rw [e] at hl
          exact absurd rfl hl
        · rw [e] at hc
          exact absurd rfl hc
      · rcases s2 with rfl | ⟨p, t, r, rfl, rfl, hp⟩
        · exact .inl rfl
        · exact .inr ⟨p, t, r, rfl, rfl, .pl hp⟩
theorem form_115 (h101 : F 101 = some f101) (h111 : F 111 = some f111) (h112 : F 112 = some f112) (h113 : F 113 = some f113) (h114 : F 114 = some f114) (h115 : F 115 = some f115) : ∀ k : Nat, ReadsF G F (4 + 2 * k) k := fun k => by
  induction k with
  | zero => exact form_step_115 (A := 0) h101 h111 h112 h114 h115 fun j h => by cases h
  | succ k ih =>
    have := form_step_115 (k := k + 1) (A := 2 + 2 * k) h101 h111 h112 h114 h115 fun j hj V hV n μ => by
      cases hj
      have := fields_113 (G := G) h111 h113 (k := k) (A := 3 + 2 * k) (by rw [show 3 + 2 * k + 1 = 4 + 2 * k by omega]; exact ih) hV n μ
      rw [show n + (3 + 2 * k) + 2 = n + (2 + 2 * k) + 3 by omega] at this
      exact this
    rw [show 2 + 2 * k + 4 = 4 + 2 * (k + 1) by omega] at this
    exact this
end

section
variable {G : Nat → Option D} {F : Nat → Option Fn}
theorem read_93 (h23 : F 23 = some f23) (h42 : F 42 = some f42) (h43 : F 43 = some f43) (h44 : F 44 = some f44) (h45 : F 45 = some f45) (h46 : F 46 = some f46) (h47 : F 47 = some f47) (h48 : F 48 = some f48) (h74 : F 74 = some f74) (h81 : F 81 = some f81) (h93 : F 93 = some f93) (g34 : G 34 = some (.str az)) (g35 : G 35 = some (.int 8)) (g36 : G 36 = some (.int 240)) (g37 : G 37 = some (.int 6)) (g38 : G 38 = some (.int 20)) (g39 : G 39 = some (.int 4)) (g40 : G 40 = some (.int 8)) (g41 : G 41 = some (.int 3)) {f : D} {t : Txt} {L a b k : Nat} (ha : a ≤ 50) (hb : b ≤ 50) (hk : k ≤ 3) (h : ShF G F a b k f t L) (hL : L ≤ 100000) (hf : Fo 3 f) (n : Nat) (μ : Mu) :
    run G F (n + 52) 93 [.str t] μ = .ok f μ := by
  have h := h.more ha hb hk (Nat.le_refl _)
  have ht := Nat.le_trans h.len hL
  have hi := init_ok (G := G) (n := n + 50) (T := t) h74 (push_get (μ := μ) (c := .obj 65 []))
  rw [set_last rfl] at hi
  have hg : (μ ++ [sgC t 0])[μ.length]? = some (sgC t 0) := push_get
  have hr := h.rd (n + 1) (μ ++ [sgC t 0]) μ.length t 0 [] 3 hg (by decide) (by decide) ht (by rw [List.append_nil]; rfl) ⟨nob_nil, nob_nil⟩
  rw [set_last rfl, Int.zero_add] at hr
  have hg2 : (μ ++ [sgC t t.length])[μ.length]? = some (sgC t t.length) := push_get
  have he := end_ok (G := G) (n := n + 50) h81 hg2 rfl ht
  obtain ⟨hfl, _, hsm, _⟩ := hf.flat'
  have hiv := form_48 (G := G) (n := n + 37) (μ := μ ++ [sgC t t.length]) h23 h42 h43 h44 h45 h46 h47 h48 g34 g35 g36 g37 g38 g39 g40 g41 (.gd ⟨hfl, hsm⟩)
  rw [formB_ok hf] at hiv
  have hs := h.s88 (n + 1) (μ ++ [sgC t t.length])
  refine wp_to (run_wpz (n := n + 51) h93 rfl rfl ?_)
  show (exSs G (run G F (n + 51)) b93 [some (.str t), none, none] μ).wp _ _ _ _
  unfold b93
  rw [show n + 1 + 50 = n + 51 by omega] at hr hs
  refine ss_step ?_; intro K hK
  solve_by_elim [evW, hi]
  simp only [hK]
  refine ss_step ?_; intro K2 hK2
  solve_by_elim [evW, g41, hr]
  simp only [hK2]
  refine ss_step ?_; intro K3 hK3
  solve_by_elim [evW, sg_is hg2, he]
  simp only [hK3]
  refine ss_step ?_; intro K4 hK4
  solve_by_elim [evW, hiv, hs]
  simp only [hK4]
  solve_by_elim [evW]
  exact fin_more hfl ⟨rfl, rfl⟩
end

/-! 'read', 'refused' -/
abbrev wRead : Txt := [114, 101, 97, 100]
abbrev wRef : Txt := [114, 101, 102, 117, 115, 101, 100]
section
variable {G : Nat → Option D} {F : Nat → Option Fn} {n : Nat} {μ : Mu}
theorem told_ok (h117 : F 117 = some f117) {x d : D} (h : run G F n 93 [x] μ = .ok d μ) : run G F (n + 1) 117 [x] μ = .ok (.tup [.str wRead, d]) μ := by
  refine wp_to (run_wp h117 rfl rfl ?_)
  show (exSs G (run G F n) b117 [some x, none, none] μ).wp _ _ _ _ _
  unfold b117
  refine ss_step ?_; intro K hK
  solve_by_elim [evW]
  simp only [hK]
  refine ss_step ?_; intro K2 hK2
  refine s_trA ?_
  solve_by_elim [evW, h]
  simp only [hK2]
  solve_by_elim [evW]
  try (first | exact ⟨rfl, trivial⟩ | exact ⟨trivial, trivial⟩ | exact ⟨trivial, rfl⟩ | exact ⟨rfl, rfl⟩ | trivial)
theorem told_ex (h117 : F 117 = some f117) {x : D} (h : run G F n 93 [x] μ = .ex ⟨64, .non⟩ μ) : run G F (n + 1) 117 [x] μ = .ok (.tup [.str wRef, .bl true]) μ := by
  refine wp_to (run_wp h117 rfl rfl ?_)
  show (exSs G (run G F n) b117 [some x, none, none] μ).wp _ _ _ _ _
  unfold b117
  refine ss_step ?_; intro K hK
  solve_by_elim [evW]
  simp only [hK]
  refine ss_step ?_; intro K2 hK2
  rw [s_txA (x := ⟨64, .non⟩) (ρ' := [some x, some (.tup [.str [110, 111, 110, 101], .non]), none]) (μ' := μ) ?_ rfl (Nat.lt_succ_self 2)]
  · refine wp_kill ?_
    solve_by_elim [evW]
    simp only [hK2]
    solve_by_elim [evW]
    try (first | exact ⟨rfl, trivial⟩ | exact ⟨trivial, trivial⟩ | exact ⟨trivial, rfl⟩ | exact ⟨rfl, rfl⟩ | trivial)
  · have e : evE G (run G F n) (.call 93 [.var 0]) [some x, some (.tup [.str [110, 111, 110, 101], .non]), none] μ = .ex ⟨64, .non⟩ μ := h
    simp only [exSs, exS, evE, evP, truP, evEs, Res.bind, Res.out] at e ⊢
    rw [e]
theorem init_bad (h74 : F 74 = some f74) {o : Nat} {d : D} (hk : kindIs μ .str d = some false) : (run G F (n + 1) 74 [.loc o, d] μ).wp (fun _ _ => False) (fun x μ' => x = ⟨64, .non⟩ ∧ μ' = μ) := by
  refine run_wp h74 rfl rfl ?_
  show (exSs G (run G F n) b74 [some (.loc o), some d] μ).wp _ _ _ _ _
  unfold b74
  refine ss_step ?_; intro K hK
  solve_by_elim [evW, hk, s_ra]
  try trivial
theorem read_bad (h93 : F 93 = some f93) (h74 : F 74 = some f74) {d : D} (hk : kindIs (μ ++ [.obj 65 []]) .str d = some false) : run G F (n + 2) 93 [d] μ = .ex ⟨64, .non⟩ μ := by
  have key : (run G F (n + 2) 93 [d] μ).wp (fun _ _ => False) (fun x μ' => x = ⟨64, .non⟩ ∧ μ' = μ) := by
    refine run_wpzX (n := n + 1) h93 rfl rfl ?_
    show (exSs G (run G F (n + 1)) b93 [some d, none, none] μ).wp _ _ _ _ _
    unfold b93
    refine ss_step ?_; intro K hK
    have hi := init_bad (G := G) (n := n) (o := μ.length) h74 hk
    solve_by_elim [evW]
    refine Res.wp_mono hi (fun _ _ h => h.elim) fun x μ' hx => ?_
    obtain ⟨rfl, rfl⟩ := hx
    refine ⟨?_, rfl, List.take_left ..⟩
    rw [Bool.and_eq_true]
    exact ⟨cut_ok (S := []) (Fr.push _) (by simp), rfl⟩
  rcases wp_eqX key with ⟨_, _, _, h⟩ | ⟨x, μ', e, rfl, rfl⟩
  · exact h.elim
  · exact e
/-- the law's own reader and its askers -/
structure HL (G : Nat → Option D) (F : Nat → Option Fn) : Prop extends HF G F where
  h101 : F 101 = some f101
  h111 : F 111 = some f111
  h112 : F 112 = some f112
  h113 : F 113 = some f113
  h114 : F 114 = some f114
  h115 : F 115 = some f115
  h117 : F 117 = some f117
  h118 : F 118 = some f118
theorem right_118 (H : HL G F) {T : Txt} (hT : T.length ≤ 90000) : run G F (n + 60) 118 [.str T] μ = .ok (.bl true) μ := by
  refine wp_to (run_wp (n := n + 59) H.h118 rfl rfl ?_)
  show (exSs G (run G F (n + 59)) b118 [some (.str T), none, none, none] μ).wp _ _ _ _ _
  unfold b118
  refine ss_step ?_; intro K hK
  have hp := form_115 (G := G) H.h101 H.h111 H.h112 H.h113 H.h114 H.h115 3 T (by omega) (n + 49) μ
  rw [show n + 49 + (4 + 2 * 3) = n + 59 by omega] at hp
  have hp : (run G F (n + 59) 115 [.str T, .int 3] μ).wp (fun res μ' => μ' = μ ∧ SpecF 3 T res) (fun _ _ => False) := hp
  solve_by_elim [evW]
  refine Res.wp_mono hp (fun res ν hres => ?_) fun _ _ h => h
  obtain ⟨rfl, s1, s2⟩ := hres
  simp only [hK]
  refine ss_step ?_; intro K2 hK2
  have hr := read_anyF (G := G) H.toHF hT (n + 6) ν
  rw [show n + 6 + 52 = n + 58 by omega] at hr
  rcases wp_eqX hr with ⟨d, μ1, e, rfl, hfo, hs⟩ | ⟨x, μ1, e, rfl, rfl⟩
  · have ht := told_ok H.h117 e
    have hres := s1 d T [] hs ⟨nob_nil, nob_nil⟩ (List.append_nil T).symm
    subst hres
    obtain ⟨hf1, hf2, hf3, hf4⟩ := hfo.flat'
    have hsm := same_72 (G := G) H.h72 13 d hf2 hf3 (by omega) (n + 45) μ1
    rw [show n + 45 + 1 + 13 = n + 59 by omega] at hsm
    solve_by_elim [evW, ht]
    simp only [hK2]
    refine ss_step ?_; intro K3 hK3
    solve_by_elim [evW, isnon, beq_self_eq_true]
    simp only [hK3]
    solve_by_elim [evW, hsm, beq_self_eq_true]
    try (first | exact ⟨rfl, trivial⟩ | exact ⟨trivial, trivial⟩ | exact ⟨trivial, rfl⟩ | exact ⟨rfl, rfl⟩ | trivial)
  · have ht := told_ex H.h117 e
    solve_by_elim [evW, ht]
    simp only [hK2]
    refine ss_step ?_; intro K3 hK3
    rcases s2 with rfl | ⟨d, t, r, rfl, hTr, hw⟩
    · solve_by_elim [evW, isnon2, beq_self_eq_true]
      try (first | exact ⟨rfl, trivial⟩ | exact ⟨trivial, trivial⟩ | exact ⟨trivial, rfl⟩ | exact ⟨rfl, rfl⟩ | trivial)
    · cases r with
      | nil =>
        exfalso
        rw [List.append_nil] at hTr
        subst hTr
        have hfo := wrf_fo hw
        obtain ⟨t', ht', hw'⟩ := H.toHF.shw hfo
        have := wrf_uniq hw hw'
        subst this
        have hrd := read_93 (G := G) (n := n + 6) H.h23 H.h42 H.h43 H.h44 H.h45 H.h46 H.h47 H.h48 H.h74 H.h81 H.h93 H.g34 H.g35 H.g36 H.g37 H.g38 H.g39 H.g40 H.g41 (by decide) (by decide) (Nat.le_refl 3) ht' (by decide) hfo μ1
        rw [show n + 6 + 52 = n + 58 by omega, e] at hrd
        cases hrd
      | cons c r =>
        have hne : ((c :: r) == ([] : Txt)) = false := rfl
        solve_by_elim [evW, isnon, hne, beq_self_eq_true, reduceCtorEq]
        try (first | exact ⟨rfl, trivial⟩ | exact ⟨trivial, trivial⟩ | exact ⟨trivial, rfl⟩ | exact ⟨rfl, rfl⟩ | trivial)
end

local macro_rules | `(tactic| solve_by_elim [evV_b_min_o_adds, $[$xs:term],*]) => `(tactic| (try simp only [ss_n, ss_c, s_e, s_r, s_rN, s_a, s_i, s_x, s_p, s_b, s_c, s_f, s_w, v_var, v_con, v_glo, v_bin, v_neg, v_cmp, v_cmp2, v_and, v_or, v_not, v_ite, v_tup, v_lstT, v_lstF, v_cat, v_idx, v_lrep, v_slc, v_call, v_bi, v_me, v_comp, turnC_wp, c_n, c_s, es_n, es_c, eo_n, eo_s, t_var, t_con, t_cm, t_cm2, t_an, t_or', t_no, t_bi, t_call, t_idx, v_dictP, v_dictL, v_mlst, v_zipL, v_fnv, v_tget, v_callv, fnAt_fn, v_callL, cap_n, cap_c, s_sl, t_callv, v_new, v_fld, v_meth, s_sf, s_af, t_fld, t_meth, put_nm, put_tp, putL_n, putL_c, Option.bind_some, ofo_some, ofo_none, ofoE_some, ofoE_none, ofo_ite, ofo_map, ofo_bind, o_add, o_addt, o_addl, o_sub, o_mul, o_muls, o_mult, l_rep, c_is, c_nis, is_bl, o_fdiv, o_mod, c_lt, c_le, c_gt, c_ge, c_eq, c_ne, c_in, c_nin, q_int, q_strd, tr_bl, x_tup, x_lst, intOf_int, b_isin, k_ii, k_bi, k_si, k_ss, k_is, k_tt, k_ti, k_ts, o_pow, i_r1, i_r2, i_tup, i_lst, i_en, b_len, b_lenl, b_tup, tup_lst, b_lst, b_int, b_inti, b_trg, b_lrg, atZ0, atZ1, atZ2, ixZ0, ixZ1, ixZ2, List.length_set, wp_ok, List.getElem?_cons_zero, List.getElem?_cons_succ, List.set_cons_zero, List.set_cons_succ, wipeR, List.length_cons, List.length_nil, List.map_cons, List.map_nil, List.replicate_succ, List.replicate_zero, List.cons_append, List.nil_append, decide_eq_true_eq, beq_iff_eq, Bool.not_eq_true', Bool.true_eq_false, and_self, Nat.zero_le, lim1, lim2, lim3, lim4, lim5, decide_true, decide_false, Bool.not_true, Bool.not_false, ite_true, ite_false, if_true, if_false, Bool.false_eq_true, $[$xs:term],*]))
/-! texts spoilt -/
abbrev spoils : Txt := [48, 49, 50, 51, 52, 53, 54, 55, 56, 57, 32, 44, 40, 41, 97, 98, 99, 100, 108, 110, 114, 116, 10, 65, 45, 126, 46]
section
variable {G : Nat → Option D} {F : Nat → Option Fn} {n : Nat} {μ : Mu}
theorem add_str {μ : Mu} {a b : Txt} (h : a.length + b.length ≤ lim) : binD .add μ (.str a) (.str b) = some (.str (a ++ b)) := if_pos h
theorem spoilt_116 (h5 : F 5 = some f5) (h116 : F 116 = some f116) {B k : Nat} {μ1 : Mu} (h : Dk B k μ μ1) (hB : B + 10 < 2 ^ 100) {T : Txt} (hT : T.length ≤ 80000) :
    (run G F (n + 2) 116 [.loc k, .str T] μ1).wp fun d μ' => ∃ U : Txt, d = .str U ∧ U.length ≤ T.length + 25 ∧ Dk (B + 4) k μ μ' := by
  refine run_wp h116 rfl rfl ?_
  show (exSs G (run G F (n + 1)) b116 [some (.loc k), some (.str T), none, none, none] μ1).wp _ _ _ _
  unfold b116
  obtain ⟨kk, hkk⟩ : ∃ kk : Int, (T.length : Int) = kk := ⟨_, rfl⟩
  have hlen := fun μ => len_str' (μ := μ) (s := T) (by omega)
  rw [hkk] at hlen
  refine ss_step ?_; intro K hK
  solve_by_elim [evW]
  refine Res.wp_mono (draw_ok (n := n) (m := 27) h5 h (by omega) (by decide) (by decide)) fun d μ2 hd => ?_
  obtain ⟨r, rfl, hr0, hr1, h2⟩ := hd
  obtain ⟨c, hc⟩ : ∃ c, spoils[r.toNat]? = some c := ⟨_, List.getElem?_eq_getElem (show r.toNat < spoils.length by show r.toNat < 27; omega)⟩
  have hix : ∀ μ, idxD μ (.str spoils) (.int r) = some (.str [c]) := fun μ => idx_T hr0 (by decide) hc
  solve_by_elim [evW, hix]
  simp only [hK]
  refine ss_step ?_; intro K2 hK2
  solve_by_elim [evW]
  refine Res.wp_mono (draw_ok (n := n) (m := 4) h5 h2 (by omega) (by decide) (by decide)) fun d μ3 hd => ?_
  obtain ⟨w, rfl, hw0, hw1, h3⟩ := hd
  simp only [hK2]
  refine ss_step ?_; intro K3 hK3
  solve_by_elim [evV_b_len, hlen]
  refine Res.wp_mono (draw_ok (n := n) (m := kk + 1) h5 h3 (by omega) (by omega) (by omega)) fun d μ4 hd => ?_
  obtain ⟨j, rfl, hj0, hj1, h4⟩ := hd
  simp only [hK3]
  have hto : ∀ μ, slcD μ (.str T) none (some j) = some (.str (T.take j.toNat)) := fun μ => sl_to hj0 (by omega)
  have hfr : ∀ μ, slcD μ (.str T) (some j) none = some (.str (T.drop j.toNat)) := fun μ => sl_from hj0 (by omega)
  have hfr1 : ∀ μ, slcD μ (.str T) (some (j + 1)) none = some (.str (T.drop (j + 1).toNat)) := fun μ => sl_from (by omega) (by omega)
  have l1 : (T.take j.toNat).length ≤ T.length := by rw [List.length_take]; omega
  have l2 : (T.drop j.toNat).length ≤ T.length := by rw [List.length_drop]; omega
  have l3 : (T.drop (j + 1).toNat).length ≤ T.length := by rw [List.length_drop]; omega
  have a1 : ∀ μ, binD .add μ (.str (T.take j.toNat)) (.str [c]) = some (.str (T.take j.toNat ++ [c])) := fun μ => add_str (by rw [List.length_singleton, lim_val]; omega)
  have a2 : ∀ μ, binD .add μ (.str (T.take j.toNat ++ [c])) (.str (T.drop (j + 1).toNat)) = some (.str (T.take j.toNat ++ [c] ++ T.drop (j + 1).toNat)) := fun μ => add_str (by rw [List.length_append, List.length_singleton, lim_val]; omega)
  have a3 : ∀ μ, binD .add μ (.str (T.take j.toNat ++ [c])) (.str (T.drop j.toNat)) = some (.str (T.take j.toNat ++ [c] ++ T.drop j.toNat)) := fun μ => add_str (by rw [List.length_append, List.length_singleton, lim_val]; omega)
  have a4 : ∀ μ, binD .add μ (.str (T.take j.toNat)) (.str (T.drop (j + 1).toNat)) = some (.str (T.take j.toNat ++ T.drop (j + 1).toNat)) := fun μ => add_str (by rw [lim_val]; omega)
  have h4' : Dk (B + 4) k μ μ4 := h4.mono (by omega)
  refine ss_step ?_; intro K4 hK4
  by_cases w0 : w = 0
  · subst w0
    solve_by_elim [evV_o_adds, hto, hfr1, a1, a2, beq_self_eq_true]
    exact ⟨_, rfl, by rw [List.length_append, List.length_append, List.length_take, List.length_drop, List.length_singleton]; omega, h4'⟩
  · have e0 : (w = 0) = False := eq_false w0
    solve_by_elim [evW, e0]
    simp only [hK4]
    refine ss_step ?_; intro K5 hK5
    by_cases w1 : w = 1
    · subst w1
      solve_by_elim [evV_o_adds, hto, hfr, a1, a3, beq_self_eq_true]
      exact ⟨_, rfl, by rw [List.length_append, List.length_append, List.length_take, List.length_drop, List.length_singleton]; omega, h4'⟩
    · have e1 : (w = 1) = False := eq_false w1
      solve_by_elim [evW, e1]
      simp only [hK5]
      refine ss_step ?_; intro K6 hK6
      by_cases w2 : w = 2
      · subst w2
        solve_by_elim [evV_o_adds, hto, hfr1, a4, beq_self_eq_true]
        exact ⟨_, rfl, by rw [List.length_append, List.length_take, List.length_drop]; omega, h4'⟩
      · have e2 : (w = 2) = False := eq_false w2
        solve_by_elim [evW, e2]
        simp only [hK6]
        obtain ⟨mm, hmm⟩ : ∃ mm : Int, (if 20 < j then 20 else j) = mm := ⟨_, rfl⟩
        have hmm0 : 0 ≤ mm ∧ mm ≤ 20 ∧ mm ≤ j := by
          rw [← hmm]
          split <;> omega
        have hmin : ∀ μ, biD .min2 μ [.int j, .int 20] = some (.int mm) := fun μ => by rw [b_min, hmm]
        solve_by_elim [evV_b_min_o_adds, hto, hmin]
        refine Res.wp_mono (draw_ok (n := n) (m := mm + 1) h5 h4 (by omega) (by omega) (by omega)) fun d μ5 hd => ?_
        obtain ⟨q, rfl, hq0, hq1, h5⟩ := hd
        have hfr2 : ∀ μ, slcD μ (.str T) (some (j - q)) none = some (.str (T.drop (j - q).toNat)) := fun μ => sl_from (by omega) (by omega)
        have l4 : (T.drop (j - q).toNat).length ≤ T.length := by rw [List.length_drop]; omega
        have a5 : ∀ μ, binD .add μ (.str (T.take j.toNat)) (.str (T.drop (j - q).toNat)) = some (.str (T.take j.toNat ++ T.drop (j - q).toNat)) := fun μ => add_str (by rw [lim_val]; omega)
        solve_by_elim [evV_o_adds, hfr2, a5]
        exact ⟨_, rfl, by rw [List.length_append, List.length_take, List.length_drop]; omega, h5⟩
end

theorem kinds_no {μ : Mu} {d : D} (h : d = .non ∨ d = .int 7 ∨ d = .bl true ∨ (∃ l, d = .tup l) ∨ (∃ l, d = .lst l) ∨ ∃ n c, d = .loc n ∧ μ[n]? = some (.dct c)) : kindIs μ .str d = some false := by
  rcases h with rfl | rfl | rfl | ⟨l, rfl⟩ | ⟨l, rfl⟩ | ⟨n, c, rfl, e⟩
  · rfl
  · rfl
  · rfl
  · rfl
  · rfl
  · show (match μ[n]? with | some (.lst _) => some (Ty.str == Ty.list) | some (.dct _) => some (Ty.str == Ty.dict) | _ => none) = _
    rw [e]
    rfl
theorem no_wr {k : Nat} {d : D} {T : Txt} (h : WrF k d T) : T ≠ [] ∧ T ≠ [110] ∧ T ≠ [116, 48, 50, 49] ∧ T ≠ [108, 50, 32, 32, 110, 51] := by
  have hfirst : ∀ {p : D} {t : Txt}, PlW p t → ∃ c u, t = c :: u ∧ c ≠ 32 := fun h => by
    rcases plw_cases h with ⟨m, rfl, _, _, rfl⟩ | ⟨m, rfl, _, _, rfl⟩ | ⟨l, rfl, _, _, _, _, rfl⟩
    · exact ⟨_, _, rfl, by decide⟩
    · exact ⟨_, _, rfl, by decide⟩
    · exact ⟨_, _, rfl, by decide⟩
  rcases wrf_cases h with h | ⟨p, u, m, rfl, hp, h0, h1, rfl⟩ | ⟨j, fs, us, rfl, rfl, rfl, _, _⟩
  · rcases plw_cases h with ⟨m, rfl, h0, h1, rfl⟩ | ⟨m, rfl, h0, h1, rfl⟩ | ⟨l, rfl, _, _, _, _, rfl⟩
    · obtain ⟨q1, _⟩ := num_tab m.toNat (by omega)
      exact ⟨by simp, fun e => q1 (by injection e), fun e => (by injection e with e _; exact absurd e (by decide)), fun e => (by injection e with e _; exact absurd e (by decide))⟩
    · have hf := fig_tab0 m.toNat (by omega)
      refine ⟨by simp, fun e => (by injection e with e _; exact absurd e (by decide)), fun e => ?_, fun e => (by injection e with e _; exact absurd e (by decide))⟩
      injection e with _ e
      rw [e] at hf
      exact absurd hf (by decide)
    · exact ⟨by simp, fun e => (by injection e with e _; exact absurd e (by decide)), fun e => (by injection e with e _; exact absurd e (by decide)), fun e => (by injection e with e _; exact absurd e (by decide))⟩
  · refine ⟨by simp, fun e => (by injection e with e _; exact absurd e (by decide)), fun e => (by injection e with e _; exact absurd e (by decide)), fun e => ?_⟩
    injection e with _ e
    obtain ⟨q1, q2, q3, q4, q5⟩ := num_tab m.toNat (by omega)
    obtain ⟨_, e2⟩ := spl_one (cs := figs) (a' := [50]) (b' := [32, 32, 110, 51]) e q3 (nob_cons (by decide)) (by decide) (nob_cons (by decide))
    injection e2 with _ e2
    obtain ⟨c, w, rfl, hc⟩ := hfirst hp
    injection e2 with e2 _
    exact hc e2
  · exact ⟨by simp, fun e => (by injection e with e _; exact absurd e (by decide)), fun e => (by injection e with e _; exact absurd e (by decide)), fun e => (by injection e with e _; exact absurd e (by decide))⟩
theorem mulx {s : Txt} {j : Int} (h0 : 0 ≤ j) (h1 : j ≤ 5000) (hs : s.length ≤ 10) : ∃ X : Txt, (∀ μ, binD .mul μ (.str s) (.int j) = some (.str X)) ∧ X.length ≤ 10 * j.toNat := by
  have hl : s.length * j.toNat ≤ 10 * j.toNat := Nat.mul_le_mul_right _ hs
  refine ⟨(List.replicate j.toNat s).flatten, fun μ => ?_, ?_⟩
  · rw [o_muls, if_pos ⟨by omega, by omega, by rw [lim_val]; omega⟩]
  · rw [List.length_flatten, List.map_replicate, List.sum_replicate_nat]
    rw [Nat.mul_comm]
    exact hl
section
variable {G : Nat → Option D} {F : Nat → Option Fn} {n : Nat} {μ : Mu}
theorem no_read (H : HL G F) {T : Txt} (hT : T.length ≤ 100) (h : T = [] ∨ T = [110] ∨ T = [116, 48, 50, 49] ∨ T = [108, 50, 32, 32, 110, 51]) : run G F (n + 52) 93 [.str T] μ = .ex ⟨64, .non⟩ μ := by
  rcases wp_eqX (read_anyF (G := G) H.toHF (T := T) (by omega) n μ) with ⟨d, μ1, e, rfl, hfo, hw⟩ | ⟨x, μ1, e, rfl, rfl⟩
  · obtain ⟨h1, h2, h3, h4⟩ := no_wr hw
    rcases h with h | h | h | h
    · exact absurd h h1
    · exact absurd h h2
    · exact absurd h h3
    · exact absurd h h4
  · exact e
end
theorem bndF3 : bndF 3 ≤ 60000 := by decide

local macro_rules | `(tactic| solve_by_elim [evV_o_adds_o_muls, $[$xs:term],*]) => `(tactic| (try simp only [ss_n, ss_c, s_e, s_r, s_rN, s_a, s_i, s_x, s_p, s_b, s_c, s_f, s_w, v_var, v_con, v_glo, v_bin, v_neg, v_cmp, v_cmp2, v_and, v_or, v_not, v_ite, v_tup, v_lstT, v_lstF, v_cat, v_idx, v_lrep, v_slc, v_call, v_bi, v_me, v_comp, turnC_wp, c_n, c_s, es_n, es_c, eo_n, eo_s, t_var, t_con, t_cm, t_cm2, t_an, t_or', t_no, t_bi, t_call, t_idx, v_dictP, v_dictL, v_mlst, v_zipL, v_fnv, v_tget, v_callv, fnAt_fn, v_callL, cap_n, cap_c, s_sl, t_callv, v_new, v_fld, v_meth, s_sf, s_af, t_fld, t_meth, put_nm, put_tp, putL_n, putL_c, Option.bind_some, ofo_some, ofo_none, ofoE_some, ofoE_none, ofo_ite, ofo_map, ofo_bind, o_add, o_addt, o_addl, o_sub, o_mul, o_mult, l_rep, c_is, c_nis, is_bl, o_fdiv, o_mod, c_lt, c_le, c_gt, c_ge, c_eq, c_ne, c_in, c_nin, q_int, q_strd, tr_bl, x_tup, x_lst, intOf_int, b_isin, k_ii, k_bi, k_si, k_ss, k_is, k_tt, k_ti, k_ts, o_pow, i_r1, i_r2, i_tup, i_lst, i_en, b_len, b_lenl, b_tup, tup_lst, b_lst, b_int, b_inti, b_trg, b_lrg, b_min, atZ0, atZ1, atZ2, ixZ0, ixZ1, ixZ2, List.length_set, wp_ok, List.getElem?_cons_zero, List.getElem?_cons_succ, List.set_cons_zero, List.set_cons_succ, wipeR, List.length_cons, List.length_nil, List.map_cons, List.map_nil, List.replicate_succ, List.replicate_zero, List.cons_append, List.nil_append, decide_eq_true_eq, beq_iff_eq, Bool.not_eq_true', Bool.true_eq_false, and_self, Nat.zero_le, lim1, lim2, lim3, lim4, lim5, decide_true, decide_false, Bool.not_true, Bool.not_false, ite_true, ite_false, if_true, if_false, Bool.false_eq_true, $[$xs:term],*]))
theorem law_true (ns : List Int) (h : ns.length ≤ 63) (G : Nat → Option D) (F : Nat → Option Fn) (h4 : F 4 = some f4) (h5 : F 5 = some f5) (h6 : F 6 = some f6) (h7 : F 7 = some f7) (h8 : F 8 = some f8) (h9 : F 9 = some f9) (h23 : F 23 = some f23) (h42 : F 42 = some f42) (h43 : F 43 = some f43) (h44 : F 44 = some f44) (h45 : F 45 = some f45) (h46 : F 46 = some f46) (h47 : F 47 = some f47) (h48 : F 48 = some f48) (h72 : F 72 = some f72) (h74 : F 74 = some f74) (h75 : F 75 = some f75) (h76 : F 76 = some f76) (h77 : F 77 = some f77) (h78 : F 78 = some f78) (h79 : F 79 = some f79) (h81 : F 81 = some f81) (h88 : F 88 = some f88) (h89 : F 89 = some f89) (h90 : F 90 = some f90) (h91 : F 91 = some f91) (h92 : F 92 = some f92) (h93 : F 93 = some f93) (h94 : F 94 = some f94) (h101 : F 101 = some f101) (h111 : F 111 = some f111) (h112 : F 112 = some f112) (h113 : F 113 = some f113) (h114 : F 114 = some f114) (h115 : F 115 = some f115) (h116 : F 116 = some f116) (h117 : F 117 = some f117) (h118 : F 118 = some f118) (h119 : F 119 = some f119) (g34 : G 34 = some (.str az)) (g35 : G 35 = some (.int 8)) (g36 : G 36 = some (.int 240)) (g37 : G 37 = some (.int 6)) (g38 : G 38 = some (.int 20)) (g39 : G 39 = some (.int 4)) (g40 : G 40 = some (.int 8)) (g41 : G 41 = some (.int 3)) (g60 : G 60 = some (.str figs)) (g61 : G 61 = some (.int 9)) : ∃ μ, run G F 110 119 [.lst (ns.map .int)] [] = .ok (.bl true) μ := by
  have H0 : HF G F := ⟨h23, h42, h43, h44, h45, h46, h47, h48, h72, h74, h75, h76, h77, h78, h79, h81, h88, h89, h90, h91, h92, h93, h94, g34, g35, g36, g37, g38, g39, g40, g41, g60, g61⟩
  have H : HL G F := ⟨H0, h101, h111, h112, h113, h114, h115, h117, h118⟩
  have key : (run G F 110 119 [.lst (ns.map .int)] []).wp fun d _ => d = .bl true := by
    refine run_wpz (n := 109) h119 rfl rfl ?_
    show (exSs G (run G F 109) b119 [some (.lst (ns.map .int)), none, none, none, none, none, none] []).wp _ _ _ _
    unfold b119
    refine ss_step ?_; intro K0 hK0
    solve_by_elim [evW]
    rw [show slcD [] (.lst (ns.map D.int)) none (some 20) = some (.lst ((ns.map D.int).take 20)) from sl_take 20]
    solve_by_elim [evW]
    rw [if_pos (by rw [List.length_take, lim_val]; omega)]
    solve_by_elim [evW]
    refine for_wp _ (fun i ρ μ' => ∃ (x0 x1 x2 x3 x4 x5 x6 : Option D), ρ = [x0, x1, x2, x3, x4, x5, x6]) 0 _ _ ⟨_, _, _, _, _, _, _, rfl⟩ (fun _ _ _ _ => rfl) ?_ ?_
    · rintro i d ρ μ' hd ⟨x0, x1, x2, x3, x4, x5, x6, rfl⟩
      obtain ⟨c, rfl⟩ : ∃ c : Int, d = .int c := by
        have hm := List.mem_of_getElem? hd
        rcases List.mem_append.mp hm with hm | hm
        · obtain ⟨c, _, rfl⟩ := List.mem_map.mp (List.mem_of_mem_take hm)
          exact ⟨c, rfl⟩
        · have : d = .int 19 := by simpa using hm
          exact ⟨19, this⟩
      simp only [put_nm, put_tp, putL_n, putL_c, Option.bind_some, wipeR, List.set_cons_zero, List.set_cons_succ]
      refine ss_step ?_; intro K1 hK1
      solve_by_elim [evW]
      refine Res.wp_mono (deck_ok (n := 108) h4 c) fun d μ1 hd => ?_
      obtain ⟨rfl, a, b, rfl, hb0, hb1⟩ := hd
      solve_by_elim [evW]
      simp only [hK1]
      have hDk : Dk 0 μ'.length (μ' ++ [.lst [.int a, .int 0, .int b]]) (μ' ++ [.lst [.int a, .int 0, .int b]]) := ⟨by rw [List.length_append, List.length_singleton]; omega, a, 0, b, (set_id push_get).symm, by decide, by decide, hb0, hb1⟩
      generalize hk : μ'.length = k at *
      generalize (μ' ++ [Cell.lst [.int a, .int 0, .int b]]) = μ1 at *
      refine ss_step ?_; intro K2 hK2
      solve_by_elim [evW]
      have hst : St 0 k μ1.length (μ1 ++ [.lst [.int 40]]) (μ1 ++ [.lst [.int 40]]) := by
        refine ⟨by have := hDk.1; omega, by rw [List.length_append, List.length_singleton]; omega, 40, by decide, ?_⟩
        rw [set_id push_get]
        exact hDk.push _
      refine Res.wp_mono (form_ok h5 h6 h7 h8 h9 3 101 0 3 _ rfl hst (by decide)) fun form μ4 hd => ?_
      obtain ⟨hform, hst4⟩ := hd
      obtain ⟨t, ht, _⟩ := H0.shw hform
      have ht2 := ht.s94 104 μ4
      have htl : t.length ≤ 60000 := Nat.le_trans ht.len bndF3
      solve_by_elim [evW, ht2]
      simp only [hK2]
      obtain ⟨_, _, left, _, hDk4⟩ := hst4
      generalize ((μ1 ++ [Cell.lst [D.int 40]]).set μ1.length (Cell.lst [D.int left])) = M at *
      obtain ⟨B5, hB5, hDk5⟩ : ∃ B, B < 2 ^ 90 ∧ Dk B k M μ4 := ⟨_, by decide, hDk4⟩
      refine ss_step ?_; intro K6 hK6
      solve_by_elim [evW]
      refine for_wp _ (fun i ρ μ6 => ∃ (U : Txt) (y0 y1 y2 y5 y6 : Option D), i ≤ 7 ∧ U.length ≤ 60000 + 25 * i ∧ Dk (B5 + 4 * i) k M μ6 ∧ ρ = [y0, y1, y2, some (.str U), some (.loc k), y5, y6]) 0 _ _ ⟨t, _, _, _, _, _, by decide, by omega, by simpa using hDk5, rfl⟩ (fun _ _ _ _ => rfl) ?_ ?_
      · rintro i d ρ μ6 hd ⟨U, y0, y1, y2, y5, y6, hi6, hUl, hD6, rfl⟩
        obtain ⟨rfl, hi⟩ := rngL_get hd
        have hi : i < 7 := hi
        have r3 := right_118 (n := 49) (μ := μ6) H (T := U) (by omega)
        simp only [put_nm, put_tp, putL_n, putL_c, Option.bind_some, wipeR, List.set_cons_zero, List.set_cons_succ]
        refine ss_step ?_; intro K7 hK7
        solve_by_elim [evW, r3]
        simp only [hK7]
        solve_by_elim [evW]
        refine Res.wp_mono (spoilt_116 (n := 107) h5 h116 hD6 (by omega) (T := U) (by omega)) fun d μ7 hd => ?_
        obtain ⟨U2, rfl, hU2, hD7⟩ := hd
        exact ⟨U2, _, _, _, _, _, by omega, by omega, hD7.mono (by omega), rfl⟩
      · rintro ρ μ6 ⟨U, y0, y1, y2, y5, y6, hi6, hUl, hD6, rfl⟩
        have hi7 : (0 : Nat) + (rngL 0 (7 : Int).toNat).length ≤ 7 := hi6
        (try simp only [wipeR, List.set_cons_zero, List.set_cons_succ])
        simp only [hK6]
        refine ss_step ?_; intro K8 hK8
        solve_by_elim [evW]
        refine Res.wp_mono (draw_ok (n := 108) (m := 60) h5 hD6 (by omega) (by decide) (by decide)) fun d μ7 hd => ?_
        obtain ⟨q, rfl, hq0, hq1, _⟩ := hd
        simp only [hK8]
        obtain ⟨X1, m1, l1⟩ := mulx (s := [114, 40, 97, 32]) (j := q) hq0 (by omega) (by decide)
        obtain ⟨X2, m2, l2⟩ := mulx (s := [41]) (j := q) hq0 (by omega) (by decide)
        have a1 : ∀ μ, binD .add μ (.str X1) (.str [110, 51]) = some (.str (X1 ++ [110, 51])) := fun μ => add_str (by rw [show ([110, 51] : Txt).length = 2 from rfl, lim_val]; omega)
        have a2 : ∀ μ, binD .add μ (.str (X1 ++ [110, 51])) (.str X2) = some (.str (X1 ++ [110, 51] ++ X2)) := fun μ => add_str (by rw [List.length_append, show ([110, 51] : Txt).length = 2 from rfl, lim_val]; omega)
        have r4 := right_118 (n := 49) (μ := μ7) H (T := X1 ++ [110, 51] ++ X2) (by rw [List.length_append, List.length_append, show ([110, 51] : Txt).length = 2 from rfl]; omega)
        have r5 := right_118 (n := 49) (μ := μ7) H (T := X1) (by omega)
        solve_by_elim [evV_o_adds_o_muls, m1, m2, a1, a2, r4, r5]
        exact ⟨_, _, _, _, _, _, _, rfl⟩
    · rintro ρ μ' ⟨x0, x1, x2, x3, x4, x5, x6, rfl⟩
      (try simp only [wipeR, List.set_cons_zero, List.set_cons_succ])
      simp only [hK0]
      refine ss_step ?_; intro K1 hK1
      solve_by_elim [evW]
      rw [show evE G (run G F 109) E.dict0 _ μ' = .ok (.loc μ'.length) (μ' ++ [.dct []]) from rfl]
      solve_by_elim [evW]
      refine for_wp _ (fun i ρ μ7 => ∃ (y0 y1 y2 y3 y4 y5 y6 : Option D), μ7 = μ' ++ [.dct []] ∧ ρ = [y0, y1, y2, y3, y4, y5, y6]) 0 _ _ ⟨_, _, _, _, _, _, _, rfl, rfl⟩ (fun _ _ _ _ => rfl) ?_ ?_
      · rintro i d ρ μ7 hd ⟨y0, y1, y2, y3, y4, y5, y6, rfl, rfl⟩
        have hrd : run G F 108 93 [d] (μ' ++ [.dct []]) = .ex ⟨64, .non⟩ (μ' ++ [.dct []]) := by
          have kno := fun h => read_bad (G := G) (n := 106) (μ := μ' ++ [.dct []]) h93 h74 (d := d) (kinds_no h)
          have tno : ∀ T : Txt, T.length ≤ 100 → T = [] ∨ T = [110] ∨ T = [116, 48, 50, 49] ∨ T = [108, 50, 32, 32, 110, 51] → run G F 108 93 [.str T] (μ' ++ [.dct []]) = .ex ⟨64, .non⟩ (μ' ++ [.dct []]) := fun T h1 h2 => no_read (n := 56) H h1 h2
          have hm := List.mem_of_getElem? hd
          simp only [List.mem_cons, List.not_mem_nil, or_false] at hm
          rcases hm with e | e | e | e | e | e | e | e | e | e | e
          · exact kno (.inl e)
          · exact kno (.inr (.inl e))
          · exact kno (.inr (.inr (.inl e)))
          · exact kno (.inr (.inr (.inr (.inl ⟨_, e⟩))))
          · exact kno (.inr (.inr (.inr (.inr (.inl ⟨_, e⟩)))))
          · exact kno (.inr (.inr (.inr (.inl ⟨_, e⟩))))
          · exact kno (.inr (.inr (.inr (.inr (.inr ⟨_, [], e, push_old push_get⟩)))))
          · rw [e]; exact tno _ (by decide) (.inl rfl)
          · rw [e]; exact tno _ (by decide) (.inr (.inl rfl))
          · rw [e]; exact tno _ (by decide) (.inr (.inr (.inl rfl)))
          · rw [e]; exact tno _ (by decide) (.inr (.inr (.inr rfl)))
        have htd := told_ex h117 hrd
        have heq : eqD (μ' ++ [.dct []]) (.tup [.str wRef, .bl true]) (.tup [.str wRef, .bl true]) = some true := by
          rw [eq_flat rfl rfl (by decide)]
          rfl
        simp only [put_nm, put_tp, putL_n, putL_c, Option.bind_some, wipeR, List.set_cons_zero, List.set_cons_succ]
        refine ss_step ?_; intro K9 hK9
        solve_by_elim [evW, htd, heq]
        simp only [hK9]
        solve_by_elim [evW]
        exact ⟨_, _, _, _, _, _, _, (by first | rfl | trivial), (by first | rfl | trivial)⟩
      · rintro ρ μ7 ⟨y0, y1, y2, y3, y4, y5, y6, rfl, rfl⟩
        (try simp only [wipeR, List.set_cons_zero, List.set_cons_succ])
        simp only [hK1]
        generalize (μ' ++ [Cell.dct []]) = M at *
        obtain ⟨X, m1, l1⟩ := mulx (s := [49]) (j := 4400) (by decide) (by decide) (by decide)
        have l1 : X.length ≤ 44000 := l1
        have ad : ∀ (s : Txt), s.length ≤ 10 → ∀ μ, binD .add μ (.str s) (.str X) = some (.str (s ++ X)) := fun s hs μ => add_str (by rw [lim_val]; omega)
        have a1 : ∀ μ, binD .add μ (.str [110]) (.str X) = some (.str (110 :: X)) := ad [110] (by decide)
        have a2 : ∀ μ, binD .add μ (.str [116]) (.str X) = some (.str (116 :: X)) := ad [116] (by decide)
        have a3 : ∀ μ, binD .add μ (.str [108]) (.str X) = some (.str (108 :: X)) := ad [108] (by decide)
        have a4 : ∀ μ, binD .add μ (.str [114, 40, 97, 32, 110]) (.str X) = some (.str (114 :: 40 :: 97 :: 32 :: 110 :: X)) := ad [114, 40, 97, 32, 110] (by decide)
        have a5 : ∀ μ, binD .add μ (.str (108 :: X)) (.str [32, 110, 51]) = some (.str (108 :: (X ++ [32, 110, 51]))) := fun μ => add_str (a := 108 :: X) (by rw [List.length_cons, show ([32, 110, 51] : Txt).length = 3 from rfl, lim_val]; omega)
        have a6 : ∀ μ, binD .add μ (.str (114 :: 40 :: 97 :: 32 :: 110 :: X)) (.str [41]) = some (.str (114 :: 40 :: 97 :: 32 :: 110 :: (X ++ [41]))) := fun μ => add_str (a := 114 :: 40 :: 97 :: 32 :: 110 :: X) (by simp only [List.length_cons, List.length_nil, lim_val]; omega)
        obtain ⟨Y, m2, l2⟩ := mulx (s := [114, 40, 97, 32]) (j := 900) (by decide) (by decide) (by decide)
        obtain ⟨Z, m3, l3⟩ := mulx (s := [41]) (j := 900) (by decide) (by decide) (by decide)
        have l2 : Y.length ≤ 9000 := l2
        have l3 : Z.length ≤ 9000 := l3
        refine ss_step ?_; intro K2 hK2
        solve_by_elim [evV_o_adds_o_muls, m1, a1, a2, a3, a4, a5, a6]
        refine for_wp _ (fun i ρ μ7 => ∃ (y0 y1 y2 y3 y4 y5 y6 : Option D), μ7 = M ∧ ρ = [y0, y1, y2, y3, y4, y5, y6]) 0 _ _ ⟨_, _, _, _, _, _, _, rfl, rfl⟩ (fun _ _ _ _ => rfl) ?_ ?_
        · rintro i d ρ μ7 hd ⟨y0, y1, y2, y3, y4, y5, y6, rfl, rfl⟩
          obtain ⟨T, rfl, hT⟩ : ∃ T : Txt, d = .str T ∧ T.length ≤ 90000 := by
            have hm := List.mem_of_getElem? hd
            simp only [List.mem_cons, List.not_mem_nil, or_false] at hm
            rcases hm with e | e | e | e
            · exact ⟨_, e, by simp only [List.length_cons]; omega⟩
            · exact ⟨_, e, by simp only [List.length_cons]; omega⟩
            · exact ⟨_, e, by simp only [List.length_cons, List.length_append, List.length_nil]; omega⟩
            · exact ⟨_, e, by simp only [List.length_cons, List.length_append, List.length_nil]; omega⟩
          have r6 := right_118 (n := 49) (μ := μ7) H (T := T) hT
          simp only [put_nm, put_tp, putL_n, putL_c, Option.bind_some, wipeR, List.set_cons_zero, List.set_cons_succ]
          refine ss_step ?_; intro K9 hK9
          solve_by_elim [evW, r6]
          simp only [hK9]
          solve_by_elim [evW]
          exact ⟨_, _, _, _, _, _, _, (by first | rfl | trivial), (by first | rfl | trivial)⟩
        · rintro ρ μ7 ⟨y0, y1, y2, y3, y4, y5, y6, rfl, rfl⟩
          (try simp only [wipeR, List.set_cons_zero, List.set_cons_succ])
          simp only [hK2]
          have b1 : ∀ μ, binD .add μ (.str Y) (.str [110, 51]) = some (.str (Y ++ [110, 51])) := fun μ => add_str (by rw [show ([110, 51] : Txt).length = 2 from rfl, lim_val]; omega)
          have b2 : ∀ μ, binD .add μ (.str (Y ++ [110, 51])) (.str Z) = some (.str (Y ++ [110, 51] ++ Z)) := fun μ => add_str (by rw [List.length_append, show ([110, 51] : Txt).length = 2 from rfl, lim_val]; omega)
          have r7 := right_118 (n := 49) (μ := μ7) H (T := Y ++ [110, 51] ++ Z) (by rw [List.length_append, List.length_append, show ([110, 51] : Txt).length = 2 from rfl]; omega)
          solve_by_elim [evV_o_adds_o_muls, m2, m3, b1, b2, r7]
          exact fin_end rfl fun _ => rfl
  obtain ⟨d, μ, e, rfl⟩ := wp_eq key
  exact ⟨μ, e⟩


end LawX
set_option Elab.async false
set_option linter.all false
set_option maxRecDepth 100000
set_option maxHeartbeats 0
namespace LawX
open PySem PySem.Spec PyProof.Rows L2 Ev
def gC : List Cn := [.str 34 "SMALL" [97, 98, 99, 100, 101, 102, 103, 104, 105, 106, 107, 108, 109, 110, 111, 112, 113, 114, 115, 116, 117, 118, 119, 120, 121, 122], .int 35 "MOST_LETTERS" (8), .int 36 "MOST_NUMBER" (240), .int 37 "MOST_CHOICES" (6), .int 38 "MOST_SIGNS" (20), .int 39 "MOST_THINGS" (4), .int 40 "MOST_FIELDS" (8), .int 41 "MOST_DEEP" (3), .str 60 "FIGURES" [48, 49, 50, 51, 52, 53, 54, 55, 56, 57], .int 61 "MOST_FIGURES" (9)]
def top (i : Nat) : Stmt := PySem.Challenge.pw_everreader_k71_texts_of_no_form.main.body.getD i (.Pass ⟨0, 0, 0, 0⟩)
def d42 : DI := ⟨42, "is_name", none, "is_name", (top 16), ["thing", "sign"], ["thing"], f42⟩
def d23 : DI := ⟨23, "is_whole", none, "is_whole", (top 17), ["thing", "least", "most"], ["thing", "least", "most"], f23⟩
def d43 : DI := ⟨43, "are_choices", none, "are_choices", (top 25), ["thing", "one"], ["thing"], f43⟩
def d44 : DI := ⟨44, "is_plain", none, "is_plain", (top 26), ["thing", "word", "more"], ["thing"], f44⟩
def d45 : DI := ⟨45, "is_field", none, "is_field", (top 27), ["thing", "deep"], ["thing", "deep"], f45⟩
def d46 : DI := ⟨46, "are_fields", none, "are_fields", (top 28), ["thing", "deep", "one"], ["thing", "deep"], f46⟩
def d47 : DI := ⟨47, "is_form_to", none, "is_form_to", (top 29), ["thing", "deep"], ["thing", "deep"], f47⟩
def d48 : DI := ⟨48, "is_form", none, "is_form", (top 30), ["thing"], ["thing"], f48⟩
def d88 : DI := ⟨88, "show_form", none, "show_form", (top 36), ["form", "name", "inner"], ["form"], f88⟩
def d89 : DI := ⟨89, "choices_part", none, "choices_part", (top 37), ["signs", "found"], ["signs"], f89⟩
def d90 : DI := ⟨90, "plain_part", none, "plain_part", (top 38), ["signs"], ["signs"], f90⟩
def d91 : DI := ⟨91, "fields_part", none, "fields_part", (top 39), ["signs", "deep", "found", "name"], ["signs", "deep"], f91⟩
def d92 : DI := ⟨92, "form_part", none, "form_part", (top 40), ["signs", "deep", "many"], ["signs", "deep"], f92⟩
def d93 : DI := ⟨93, "read_form", none, "read_form", (top 41), ["text", "signs", "form"], ["text"], f93⟩
def d3 : DI := ⟨3, "_law_cell_at", none, "_law_cell_at", (top 43), ["_law_script", "_law_k"], ["_law_script", "_law_k"], f3⟩
def d4 : DI := ⟨4, "_law_deck", none, "_law_deck", (top 44), ["_law_cell"], ["_law_cell"], f4⟩
def d5 : DI := ⟨5, "_law_draw", none, "_law_draw", (top 45), ["_law_deck_here", "_law_most", "_law_mixed", "_law_found"], ["_law_deck_here", "_law_most"], f5⟩
def d6 : DI := ⟨6, "_law_name", none, "_law_name", (top 46), ["_law_deck_here", "_law_letters", "_law_way", "_law_k"], ["_law_deck_here"], f6⟩
def d7 : DI := ⟨7, "_law_names", none, "_law_names", (top 47), ["_law_deck_here", "_law_many", "_law_letters", "_law_found", "_law_k", "_law_name_here"], ["_law_deck_here", "_law_many"], f7⟩
def d8 : DI := ⟨8, "_law_plain", none, "_law_plain", (top 48), ["_law_deck_here", "_law_way"], ["_law_deck_here"], f8⟩
def d9 : DI := ⟨9, "_law_form", none, "_law_form", (top 49), ["_law_deck_here", "_law_deep", "_law_left", "_law_way", "_law_names_here", "_law_name_here"], ["_law_deck_here", "_law_deep", "_law_left"], f9⟩
def d72 : DI := ⟨72, "_law_same", none, "_law_same", (top 50), ["_law_found", "_law_due", "_law_one", "_law_other"], ["_law_found", "_law_due"], f72⟩
def d94 : DI := ⟨94, "_law_form_shown", none, "_law_form_shown", (top 51), ["_law_form_here", "_law_field"], ["_law_form_here"], f94⟩
def d101 : DI := ⟨101, "_law_figures", none, "_law_figures", (top 52), ["_law_text", "_law_at"], ["_law_text"], f101⟩
def d111 : DI := ⟨111, "_law_word", none, "_law_word", (top 53), ["_law_text", "_law_at"], ["_law_text"], f111⟩
def d112 : DI := ⟨112, "_law_choice", none, "_law_choice", (top 54), ["_law_text", "_law_found", "_law_one"], ["_law_text"], f112⟩
def d113 : DI := ⟨113, "_law_fields", none, "_law_fields", (top 55), ["_law_text", "_law_deep", "_law_found", "_law_name_here", "_law_one", "_law_field"], ["_law_text", "_law_deep"], f113⟩
def d114 : DI := ⟨114, "_law_short", none, "_law_short", (top 56), ["_law_text", "_law_many"], ["_law_text"], f114⟩
def d115 : DI := ⟨115, "_law_form_part", none, "_law_form_part", (top 57), ["_law_text", "_law_deep", "_law_many", "_law_inner"], ["_law_text", "_law_deep"], f115⟩
def d116 : DI := ⟨116, "_law_spoilt", none, "_law_spoilt", (top 58), ["_law_deck_here", "_law_text", "_law_sign", "_law_way", "_law_at"], ["_law_deck_here", "_law_text"], f116⟩
def d117 : DI := ⟨117, "_law_told", none, "_law_told", (top 60), ["_law_thing", "_law_told_here", "e"], ["_law_thing"], f117⟩
def d118 : DI := ⟨118, "_law_right", none, "_law_right", (top 61), ["_law_text", "_law_due", "_law_word_here", "_law_told_here"], ["_law_text"], f118⟩
def d119 : DI := ⟨119, "law", none, "law", (top 62), ["_law_script", "_law_cell", "_law_thing", "_law_text", "_law_deck_here", "_law_turn", "_law_many"], ["_law_script"], f119⟩
def d74 : DI := ⟨74, "__init__", (some "Signs"), "Signs.__init__", (inClass (top 34) 0), ["self", "text"], ["self", "text"], f74⟩
def d75 : DI := ⟨75, "starts", (some "Signs"), "Signs.starts", (inClass (top 34) 1), ["self", "some"], ["self", "some"], f75⟩
def d76 : DI := ⟨76, "past", (some "Signs"), "Signs.past", (inClass (top 34) 2), ["self", "some"], ["self", "some"], f76⟩
def d77 : DI := ⟨77, "of", (some "Signs"), "Signs.of", (inClass (top 34) 3), ["self", "signs", "begin"], ["self", "signs"], f77⟩
def d78 : DI := ⟨78, "whole", (some "Signs"), "Signs.whole", (inClass (top 34) 4), ["self", "figures"], ["self"], f78⟩
def d79 : DI := ⟨79, "name", (some "Signs"), "Signs.name", (inClass (top 34) 5), ["self"], ["self"], f79⟩
def d80 : DI := ⟨80, "some", (some "Signs"), "Signs.some", (inClass (top 34) 6), ["self", "many"], ["self", "many"], f80⟩
def d81 : DI := ⟨81, "end", (some "Signs"), "Signs.end", (inClass (top 34) 7), ["self"], ["self"], f81⟩
def gK : KT := ⟨[(64, "NoText"), (65, "Signs")], [(62, "at"), (63, "text")], [(65, "Signs", 74)], [(65, 62, "at"), (65, 63, "text")], [(65, "end", 81), (65, "name", 79), (65, "of", 77), (65, "past", 76), (65, "starts", 75), (65, "whole", 78)], [(64, "NoText")], [("ReadError", 64, true)], [("Needed", 64, false), ("NoKey", 64, false), ("NoMove", 64, false), ("NoQuestion", 64, false), ("NoRead", 64, false), ("NoRow", 64, false), ("NoText", 64, true), ("NoValue", 64, false), ("NoVersion", 64, false), ("NotLetBy", 64, false), ("TooWide", 64, false)], [(64, true)], [64]⟩
def gH : List HD := [⟨⟨0, "_law_alone", none, "_law_alone", (top 59), ["_law_error"], ["_law_error"], ⟨1, 1, [.if_ (.con (.bl false)) [.ret (.con (.bl false))] [], .ret (.and_ (.con (.bl true)) (.con (.bl true)))], false⟩⟩, 64, true⟩]
theorem gHBinds : BindAll (gH.map HD.d) := ⟨(fun _ _ _ _ _ _ us hl => match us, hl with | [_], _ => rfl), trivial⟩
def gD : List DI := [d42, d23, d43, d44, d45, d46, d47, d48, d88, d89, d90, d91, d92, d93, d3, d4, d5, d6, d7, d8, d9, d72, d94, d101, d111, d112, d113, d114, d115, d116, d117, d118, d119, d74, d75, d76, d77, d78, d79, d80, d81]
abbrev gF : Nat → Option Fn := fnOfD gD
abbrev gG : Nat → Option D := cOf gC
def gB : List Str := ["ValueError", "all", "bool", "int", "isinstance", "len", "min", "range", "set", "str", "tuple", "zip"]
theorem gb42 : BindE d42 := fun _ _ _ _ _ _ us hl => match us, hl with | [_], _ => rfl
theorem gb23 : BindE d23 := fun _ _ _ _ _ _ us hl => match us, hl with | [_, _, _], _ => rfl
theorem gb43 : BindE d43 := fun _ _ _ _ _ _ us hl => match us, hl with | [_], _ => rfl
theorem gb44 : BindE d44 := fun _ _ _ _ _ _ us hl => match us, hl with | [_], _ => rfl
theorem gb45 : BindE d45 := fun _ _ _ _ _ _ us hl => match us, hl with | [_, _], _ => rfl
theorem gb46 : BindE d46 := fun _ _ _ _ _ _ us hl => match us, hl with | [_, _], _ => rfl
theorem gb47 : BindE d47 := fun _ _ _ _ _ _ us hl => match us, hl with | [_, _], _ => rfl
theorem gb48 : BindE d48 := fun _ _ _ _ _ _ us hl => match us, hl with | [_], _ => rfl
theorem gb88 : BindE d88 := fun _ _ _ _ _ _ us hl => match us, hl with | [_], _ => rfl
theorem gb89 : BindE d89 := fun _ _ _ _ _ _ us hl => match us, hl with | [_], _ => rfl
theorem gb90 : BindE d90 := fun _ _ _ _ _ _ us hl => match us, hl with | [_], _ => rfl
theorem gb91 : BindE d91 := fun _ _ _ _ _ _ us hl => match us, hl with | [_, _], _ => rfl
theorem gb92 : BindE d92 := fun _ _ _ _ _ _ us hl => match us, hl with | [_, _], _ => rfl
theorem gb93 : BindE d93 := fun _ _ _ _ _ _ us hl => match us, hl with | [_], _ => rfl
theorem gb3 : BindE d3 := fun _ _ _ _ _ _ us hl => match us, hl with | [_, _], _ => rfl
theorem gb4 : BindE d4 := fun _ _ _ _ _ _ us hl => match us, hl with | [_], _ => rfl
theorem gb5 : BindE d5 := fun _ _ _ _ _ _ us hl => match us, hl with | [_, _], _ => rfl
theorem gb6 : BindE d6 := fun _ _ _ _ _ _ us hl => match us, hl with | [_], _ => rfl
theorem gb7 : BindE d7 := fun _ _ _ _ _ _ us hl => match us, hl with | [_, _], _ => rfl
theorem gb8 : BindE d8 := fun _ _ _ _ _ _ us hl => match us, hl with | [_], _ => rfl
theorem gb9 : BindE d9 := fun _ _ _ _ _ _ us hl => match us, hl with | [_, _, _], _ => rfl
theorem gb72 : BindE d72 := fun _ _ _ _ _ _ us hl => match us, hl with | [_, _], _ => rfl
theorem gb94 : BindE d94 := fun _ _ _ _ _ _ us hl => match us, hl with | [_], _ => rfl
theorem gb101 : BindE d101 := fun _ _ _ _ _ _ us hl => match us, hl with | [_], _ => rfl
theorem gb111 : BindE d111 := fun _ _ _ _ _ _ us hl => match us, hl with | [_], _ => rfl
theorem gb112 : BindE d112 := fun _ _ _ _ _ _ us hl => match us, hl with | [_], _ => rfl
theorem gb113 : BindE d113 := fun _ _ _ _ _ _ us hl => match us, hl with | [_, _], _ => rfl
theorem gb114 : BindE d114 := fun _ _ _ _ _ _ us hl => match us, hl with | [_], _ => rfl
theorem gb115 : BindE d115 := fun _ _ _ _ _ _ us hl => match us, hl with | [_, _], _ => rfl
theorem gb116 : BindE d116 := fun _ _ _ _ _ _ us hl => match us, hl with | [_, _], _ => rfl
theorem gb117 : BindE d117 := fun _ _ _ _ _ _ us hl => match us, hl with | [_], _ => rfl
theorem gb118 : BindE d118 := fun _ _ _ _ _ _ us hl => match us, hl with | [_], _ => rfl
theorem gb119 : BindE d119 := fun _ _ _ _ _ _ us hl => match us, hl with | [_], _ => rfl
theorem gb74 : BindE d74 := fun _ _ _ _ _ _ us hl => match us, hl with | [_, _], _ => rfl
theorem gb75 : BindE d75 := fun _ _ _ _ _ _ us hl => match us, hl with | [_, _], _ => rfl
theorem gb76 : BindE d76 := fun _ _ _ _ _ _ us hl => match us, hl with | [_, _], _ => rfl
theorem gb77 : BindE d77 := fun _ _ _ _ _ _ us hl => match us, hl with | [_, _], _ => rfl
theorem gb78 : BindE d78 := fun _ _ _ _ _ _ us hl => match us, hl with | [_], _ => rfl
theorem gb79 : BindE d79 := fun _ _ _ _ _ _ us hl => match us, hl with | [_], _ => rfl
theorem gb80 : BindE d80 := fun _ _ _ _ _ _ us hl => match us, hl with | [_, _], _ => rfl
theorem gb81 : BindE d81 := fun _ _ _ _ _ _ us hl => match us, hl with | [_], _ => rfl
theorem gBinds : BindAll gD := ⟨gb42, gb23, gb43, gb44, gb45, gb46, gb47, gb48, gb88, gb89, gb90, gb91, gb92, gb93, gb3, gb4, gb5, gb6, gb7, gb8, gb9, gb72, gb94, gb101, gb111, gb112, gb113, gb114, gb115, gb116, gb117, gb118, gb119, gb74, gb75, gb76, gb77, gb78, gb79, gb80, gb81, trivial⟩
theorem gChk : chkAll gD gH gC gB gK = true := by decide +kernel
theorem gKok : gK.ok gD = true := by decide +kernel
abbrev gW : PySem.W.OpenLaw := PySem.Challenge.rw_everreader_k71_texts_of_no_form
abbrev gR : PySem.W.OpenRow := PySem.W.OpenLaw.row gW
abbrev gFa : List He.Fa := faOf gD gH gC gB gK
abbrev gDd : List He.DefD := ddOf gD gH
abbrev hk : PySem.W.Hook := He.hookX 6 gFa gDd [] [] gK.exB
def ob (s : PySem.W.SharedT) : He.AlX := He.obsX 6 gFa gDd [] [] gK.exB (HandSHeadRun.getT s)
theorem ob_eq (s : PySem.W.SharedT) : ob s = hk.obs s.abs := He.obsX_eq (HandSHeadRun.getT_eq s)
def gLoose : List Str := (["is_name", "is_whole", "are_choices", "is_plain", "is_field", "are_fields", "is_form_to", "is_form", "show_form", "choices_part", "plain_part", "fields_part", "form_part", "read_form", "_law_cell_at", "_law_deck", "_law_draw", "_law_name", "_law_names", "_law_plain", "_law_form", "_law_same", "_law_form_shown", "_law_figures"] : List Str) ++ (["_law_word", "_law_choice", "_law_fields", "_law_short", "_law_form_part", "_law_spoilt", "_law_alone", "_law_told", "_law_right", "ReadError", "NoText", "NoMove", "NoVersion", "NoKey", "NoValue", "NoQuestion", "NoRow", "TooWide", "NotLetBy", "NoRead", "Needed", "Signs", "SMALL", "MOST_LETTERS"] : List Str) ++ (["MOST_NUMBER", "MOST_CHOICES", "MOST_SIGNS", "MOST_THINGS", "MOST_FIELDS", "MOST_DEEP", "FIGURES", "MOST_FIGURES"] : List Str)
theorem gRun (w : World) : HandSHeadRun.RunEq gR (PySem.W.view gR.prog [62]) hk ob 6000 gLoose w := by
  intro os
  kernel_rfl
theorem law_fin (ns : List Int) (h : ns.length ≤ 63) : ∃ μ, run gG gF 110 119 [.lst (ns.map .int)] [] = .ok (.bl true) μ := law_true ns h gG gF (by rfl) (by rfl) (by rfl) (by rfl) (by rfl) (by rfl) (by rfl) (by rfl) (by rfl) (by rfl) (by rfl) (by rfl) (by rfl) (by rfl) (by rfl) (by rfl) (by rfl) (by rfl) (by rfl) (by rfl) (by rfl) (by rfl) (by rfl) (by rfl) (by rfl) (by rfl) (by rfl) (by rfl) (by rfl) (by rfl) (by rfl) (by rfl) (by rfl) (by rfl) (by rfl) (by rfl) (by rfl) (by rfl) (by rfl) (by rfl) (by rfl) (by rfl) (by rfl) (by rfl) (by rfl) (by rfl) (by rfl) (by rfl) (by rfl)
end LawX
open PySem PySem.W PySem.Calls PyProof.Rows
theorem PySem.Challenge.cw_everreader_k71_texts_of_no_form_holds : PySem.Challenge.rw_everreader_k71_texts_of_no_form.Holds := by
  w_on; o_law
  refine HandSHeadRun.head_any (r := OpenLaw.row PySem.Challenge.rw_everreader_k71_texts_of_no_form) (q := view (OpenLaw.row PySem.Challenge.rw_everreader_k71_texts_of_no_form).prog [62]) (H := LawX.hk) (ob := LawX.ob) (M := 6000) (loose := LawX.gLoose) (d := HandSHeadRun.topDef (OpenLaw.row PySem.Challenge.rw_everreader_k71_texts_of_no_form).prog 62) (kwd := []) LawX.ob_eq
    (by kernel_rfl) (fun s => by kernel_rfl) LawX.gRun (by kernel_rfl) (by kernel_rfl) (by kernel_rfl) (by rfl) (by first | assumption | decide +kernel) (by decide +kernel) ⟨rfl, rfl, rfl, rfl, rfl, by decide +kernel⟩ ?hw ?hc
  case hw => w_witness2
  case hc =>
    refine L2.walk_ofE (l := PySem.Challenge.rw_everreader_k71_texts_of_no_form) (n := 63) (k := 2 * 110) (x := "_law_script") (CX := L2.CX0) rfl (by decide) (by kernel_rfl) ⟨rfl, by decide, by decide⟩ ?F (fun _ _ _ _ z => z)
    intro w mg fa h Y G hmg0
    obtain ⟨K, KX, c⟩ := Y
    have hmg : mg ("law" : PySem.Str) = some (.ref fa) := by
      have e : (HandSHeadRun.topDef (OpenLaw.row PySem.Challenge.rw_everreader_k71_texts_of_no_form).prog 62).name = ("law" : PySem.Str) := by kernel_rfl
      rw [← e]
      exact hmg0
    obtain ⟨fd, hb, hF⟩ := Ev.ev_law (P := (PySem.Challenge.rw_everreader_k71_texts_of_no_form).prog) (w := w) (li := 119) (k := 110) (dl := LawX.d119) (x := "_law_script") (hs := LawX.gH) LawX.gChk LawX.gKok (by rfl) LawX.gBinds LawX.gHBinds c.more KX G c.t.d (by rfl) rfl (by rfl) hmg
    exact ⟨K, fd, fun vs H Q _ => Ev.spN K (Ev.lay w K LawX.gD LawX.gK LawX.gKok) (Ev.cOf LawX.gC) (Ev.fnOfD LawX.gD) 110 119 vs H Q fun _ _ _ => False, KX, hb, fun H a ns hl _ hS => Ev.ev_sp (m := 63) rfl (fun ns hn => LawX.law_fin ns hn) H a ns hl hS, hF⟩
