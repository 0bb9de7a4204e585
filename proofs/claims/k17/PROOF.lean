import PyProof.Rows.All
import Wide.All
import OpenK.AllK
import Wide.FinOn
import HandS.Base
import HandS.Call
import HandS.List
import HandS.Comp
import HandS.Ends
import HandS.Words
import KE.KDictKeyed
import HandS.Lambda
import HandS.EndTab
import HandS.HeadWalk
import HandS.Head0
import HandS.Head1
import HandS.Head2
import HandS.HeadEnd
import HandS.HeadHook1
import HandS.HeadHook2
import HandS.HeadHook4
import HandS.Conv
import HandS.TupAny
import HandS.TupMul
import HandS.TupLe
import HandS.IsInst
import HandS.Flow
import HandS.Wide
import HandS.Text
import HandS.Deep
import HandS.Dict
import KE.KDictPairs
import HandS.More
import HandS.Replace
import KE.IntTextLaws
import HandS.Strs
import HandS.Walk
import HandS.Zip
import KE.GoesMore
import KE.GoesEnum
import HandS.Small
import KE.GoesZip
import KE.KDictZip
import KE.KTurns
import HandS.ListItems
import PyProof.ListNew
import HandS.Iter
import HandS.Rev
import HandS.Defaults
import HandS.Exc
import HandS.ExcOwn
import HandS.TryOnly
import HandS.ExcIs
import HandS.HotCalls
import KE.KNest
import HandS.Codes
import PySem.Challenge.RW_everreader_k17_texts_choices_lists_back
set_option linter.all false
set_option maxRecDepth 100000
/-! The small evaluator: data D, own syntax E / S, and what it gives. Plain Lean, no machine in sight. -/
namespace Ev
open PySem

abbrev Txt := List Nat

/-- data: None, truths, ints, texts, tuples, lists that stay as they are, a shared object by its number, a def by its number -/
inductive D where
  | non | bl (b : Bool) | int (i : Int) | str (s : Txt) | tup (l : List D) | lst (l : List D) | loc (n : Nat) | fn (k : Nat) (l : List D)
deriving Inhabited

mutual
def D.beq : D → D → Bool
  | .non, .non => true
  | .bl a, .bl b => a == b
  | .int a, .int b => a == b
  | .str a, .str b => a == b
  | .tup a, .tup b => D.beqL a b
  | .lst a, .lst b => D.beqL a b
  | .loc a, .loc b => a == b
  | .fn a l, .fn b m => a == b && D.beqL l m
  | _, _ => false
def D.beqL : List D → List D → Bool
  | [], [] => true
  | a :: as, b :: bs => D.beq a b && D.beqL as bs
  | _, _ => false
end
instance : BEq D := ⟨D.beq⟩
mutual
theorem D.beq_refl : ∀ a : D, D.beq a a = true
  | .non => rfl
  | .bl a => by simp [D.beq]
  | .int a => by simp [D.beq]
  | .str a => by simp [D.beq]
  | .tup a => by simp [D.beq, D.beqL_refl a]
  | .lst a => by simp [D.beq, D.beqL_refl a]
  | .loc a => by simp [D.beq]
  | .fn a l => by simp [D.beq, D.beqL_refl l]
theorem D.beqL_refl : ∀ a : List D, D.beqL a a = true
  | [] => rfl
  | a :: as => by simp [D.beqL, D.beq_refl a, D.beqL_refl as]
end
mutual
theorem D.eq_of : ∀ a b : D, D.beq a b = true → a = b
  | .non, b, h => by cases b <;> first | rfl | simp [D.beq] at h
  | .bl a, b, h => by cases b <;> simp [D.beq] at h; rw [h]
  | .int a, b, h => by cases b <;> simp [D.beq] at h; rw [h]
  | .str a, b, h => by cases b <;> simp [D.beq] at h; rw [h]
  | .tup a, b, h => by cases b <;> simp [D.beq] at h; rw [D.eqL_of _ _ h]
  | .lst a, b, h => by cases b <;> simp [D.beq] at h; rw [D.eqL_of _ _ h]
  | .loc a, b, h => by cases b <;> simp [D.beq] at h; rw [h]
  | .fn a l, b, h => by cases b <;> simp [D.beq] at h; rw [h.1, D.eqL_of _ _ h.2]
theorem D.eqL_of : ∀ a b : List D, D.beqL a b = true → a = b
  | [], b, h => by cases b <;> first | rfl | simp [D.beqL] at h
  | a :: as, b, h => by
    cases b with
    | nil => simp [D.beqL] at h
    | cons b bs =>
      simp [D.beqL] at h
      rw [D.eq_of _ _ h.1, D.eqL_of _ _ h.2]
end
instance : ReflBEq D := ⟨fun {a} => D.beq_refl a⟩
instance : LawfulBEq D := ⟨fun {a b} h => D.eq_of a b h⟩
instance : DecidableEq D := fun a b => if h : (a == b) = true then isTrue (eq_of_beq h) else isFalse fun e => h (by rw [e]; exact beq_self_eq_true b)

/-- a shared object: a list, a dict, an instance of the class c -/
inductive Cell where
  | lst (l : List D) | dct (l : List (D × D)) | dtt (l : List (D × D)) | obj (c : Nat) (fs : List (Nat × D))
deriving Inhabited, DecidableEq
abbrev Mu := List Cell

/-- an exception: its class, its one field's value -/
structure Ex where
  cls : Nat
  val : D
deriving Inhabited, DecidableEq

inductive Res (α : Type) where
  | ok (a : α) (μ : Mu) | ex (x : Ex) (μ : Mu) | no
deriving Inhabited
def Res.bind {α β : Type} (r : Res α) (f : α → Mu → Res β) : Res β := match r with
  | .ok a μ => f a μ
  | .ex x μ => .ex x μ
  | .no => .no
/-- nothing is let out of it -/
def Res.calm {α : Type} : Res α → Res α
  | .ok a μ => .ok a μ
  | _ => .no
def Res.of {α : Type} (o : Option α) (μ : Mu) : Res α := match o with
  | some a => .ok a μ
  | none => .no
@[simp] theorem Res.bind_ok {α β : Type} (a : α) (μ : Mu) (f : α → Mu → Res β) : (Res.ok a μ).bind f = f a μ := rfl
@[simp] theorem Res.bind_ex {α β : Type} (x : Ex) (μ : Mu) (f : α → Mu → Res β) : (Res.ex x μ).bind f = .ex x μ := rfl
@[simp] theorem Res.bind_no {α β : Type} (f : α → Mu → Res β) : (Res.no).bind f = .no := rfl
@[simp] theorem Res.of_some {α : Type} (a : α) (μ : Mu) : Res.of (some a) μ = .ok a μ := rfl
@[simp] theorem Res.of_none {α : Type} (μ : Mu) : Res.of (none : Option α) μ = .no := rfl

/-- the line of lengths -/
abbrev lim : Nat := 16777216

/-! ### what the operations give -/
/-- the dict at a shared place -/
def dctAt (μ : Mu) (o : D) : Option (Nat × List (D × D)) := match o with
  | .loc n => match μ[n]? with
    | some (.dct l) => some (n, l)
    | _ => none
  | _ => none
/-- what may be a key -/
def isKey : D → Bool
  | .int _ => true
  | .str _ => true
  | _ => false
/-- the dict at a shared place, its keys tuples (the empty one is both) -/
def dttAt (μ : Mu) (o : D) : Option (Nat × List (D × D)) := match o with
  | .loc n => match μ[n]? with
    | some (.dtt l) => some (n, l)
    | some (.dct []) => some (n, [])
    | _ => none
  | _ => none
/-- what stands at a key -/
def lookD (l : List (D × D)) (k : D) : Option D := (l.find? fun p => p.1 == k).map (·.2)
/-- in its stead, or at the end -/
def putD (l : List (D × D)) (k v : D) : List (D × D) := if (l.any fun p => p.1 == k) = true then l.map (fun p => if (p.1 == k) = true then (p.1, v) else p) else l ++ [(k, v)]
/-- pairs -/
def pairsD : List D → Option (List (D × D))
  | [] => some []
  | .tup [k, v] :: r => (pairsD r).map fun ps => (k, v) :: ps
  | _ => none
def mergeD (ps : List (D × D)) : List (D × D) := ps.foldl (fun acc p => putD acc p.1 p.2) []
/-- the items of a list or tuple -/
def seqOf (μ : Mu) : D → Option (List D)
  | .tup l => some l
  | .lst l => some l
  | .loc n => match μ[n]? with
    | some (.lst l) => some l
    | _ => none
  | _ => none
/-- the items of a list alone -/
def lstOf (μ : Mu) : D → Option (List D)
  | .lst l => some l
  | .loc n => match μ[n]? with
    | some (.lst l) => some l
    | _ => none
  | _ => none
def truthD (μ : Mu) : D → Option Bool
  | .non => some false
  | .bl b => some b
  | .int i => some (i != 0)
  | .str s => if s.length ≤ lim then some (!s.isEmpty) else none
  | .tup l => some (!l.isEmpty)
  | .lst l => some (!l.isEmpty)
  | .loc n => match μ[n]? with
    | some (.lst l) => some (!l.isEmpty)
    | some (.dct l) => some (!l.isEmpty)
    | _ => none
  | .fn _ _ => none
def lenD (μ : Mu) : D → Option Int
  | .str s => if s.length ≤ lim then some s.length else none
  | .tup l => some l.length
  | .lst l => some l.length
  | .loc n => match μ[n]? with
    | some (.lst l) => some l.length
    | some (.dct l) => some l.length
    | _ => none
  | _ => none

mutual
def D.depth : D → Nat
  | .tup l => D.depthL l + 1
  | .lst l => D.depthL l + 1
  | _ => 0
def D.depthL : List D → Nat
  | [] => 0
  | d :: ds => max d.depth (D.depthL ds)
end
mutual
/-- None, ints, texts, tuples of such -/
def isNK : D → Bool
  | .non => true
  | .int _ => true
  | .str _ => true
  | .tup l => isNKs l
  | _ => false
def isNKs : List D → Bool
  | [] => true
  | d :: r => isNK d && isNKs r
end
/-- a tuple that may be a key -/
def isKT : D → Bool
  | .tup l => isNKs l && decide ((D.tup l).depth ≤ 8)
  | _ => false
mutual
/-- data without shared objects and defs -/
def D.flat : D → Bool
  | .tup l => D.flatL l
  | .lst l => D.flatL l
  | .loc _ => false
  | .fn _ _ => false
  | _ => true
def D.flatL : List D → Bool
  | [] => true
  | d :: ds => d.flat && D.flatL ds
end
mutual
/-- == of data -/
def D.eqv : D → D → Bool
  | .non, .non => true
  | .bl a, .bl b => a == b
  | .bl a, .int j => (if a then 1 else 0) == j
  | .int i, .bl b => i == (if b then 1 else 0)
  | .int a, .int b => a == b
  | .str a, .str b => a == b
  | .tup a, .tup b => D.eqvL a b
  | .lst a, .lst b => D.eqvL a b
  | _, _ => false
def D.eqvL : List D → List D → Bool
  | [], [] => true
  | a :: as, b :: bs => D.eqv a b && D.eqvL as bs
  | _, _ => false
end
/-- a shared list as it stands -/
def seen (μ : Mu) : D → D
  | .loc n => match μ[n]? with
    | some (.lst l) => .lst l
    | _ => .loc n
  | d => d
/-- a list, a tuple or a dict -/
def isBox (μ : Mu) : D → Bool
  | .tup _ => true
  | .lst _ => true
  | .loc n => match μ[n]? with
    | some (.lst _) => true
    | some (.dct _) => true
    | _ => false
  | _ => false
def isTxt : D → Bool
  | .str _ => true
  | _ => false
def eqD (μ : Mu) (a b : D) : Option Bool :=
  if (seen μ a).flat && (seen μ b).flat && decide (min (seen μ a).depth (seen μ b).depth ≤ 64) then some ((seen μ a).eqv (seen μ b)) else if isBox μ a && isTxt b then some false else none

inductive BOp | add | sub | mul | fdiv | mod | pow
deriving DecidableEq, Inhabited
inductive COp | eq | ne | lt | le | gt | ge | isN | notN | in_ | nin
deriving DecidableEq, Inhabited

/-- two ints -/
def i2 {α : Type} (a b : D) (f : Int → Int → Option α) : Option α := match a, b with
  | .int i, .int j => f i j
  | _, _ => none
def addD (μ : Mu) (a b : D) : Option D := match a, b with
  | .int i, .int j => some (.int (i + j))
  | .str s, .str t => if s.length + t.length ≤ lim then some (.str (s ++ t)) else none
  | .tup s, .tup t => if s.length + t.length ≤ lim then some (.tup (s ++ t)) else none
  | a, b => match lstOf μ a, lstOf μ b with
    | some s, some t => if s.length + t.length ≤ lim then some (.lst (s ++ t)) else none
    | _, _ => none
/-- an int, or a text so many times -/
def mulD (a b : D) : Option D := match a, b with
  | .int i, .int j => if i.natAbs.log2 + j.natAbs.log2 < 1000000 then some (.int (i * j)) else none
  | .str s, .int j => if -(2 ^ 62) ≤ j ∧ j < 2 ^ 62 ∧ s.length * j.toNat ≤ lim then some (.str (List.replicate j.toNat s).flatten) else none
  | .tup l, .int j => if -(2 ^ 62) ≤ j ∧ j ≤ 1000 ∧ l.length ≤ 1000 then some (.tup (List.replicate j.toNat l).flatten) else none
  | _, _ => none
def binD (o : BOp) (μ : Mu) (a b : D) : Option D := match o with
  | .add => addD μ a b
  | .sub => i2 a b fun i j => some (.int (i - j))
  | .mul => mulD a b
  | .fdiv => i2 a b fun i j => if 0 < j ∧ j.natAbs.log2 < 9000 then some (.int (i / j)) else none
  | .mod => i2 a b fun i j => if 0 < j then some (.int (i % j)) else none
  | .pow => i2 a b fun i j => if 0 ≤ j ∧ j ≤ 1000000 ∧ i.natAbs < 2 ^ 64 then some (.int (i ^ j.toNat)) else none

/-- x in a row: x equals one of it; the first equal one ends the look -/
def inD (μ : Mu) (a b : D) : Option Bool := match b with
  | .str t => match a with
    | .str [c] => some (t.contains c)
    | _ => none
  | b => match seqOf μ b with
    | some l => if a.flat && D.flatL l && decide (a.depth ≤ 64) then some (l.any fun x => x.eqv a) else none
    | none => if isKT a then (dttAt μ b).map fun nl => (lookD nl.2 a).isSome else match dctAt μ b with
      | some nl => if isKey a then some (lookD nl.2 a).isSome else none
      | none => none
/-- two ints or two texts -/
def ordD (fi : Int → Int → Bool) (fs : Txt → Txt → Bool) (a b : D) : Option Bool := match a, b with
  | .int i, .int j => some (fi i j)
  | .str s, .str t => some (fs s t)
  | _, _ => none
/-- is None; is of two truths -/
def isD (a b : D) : Option Bool := match b, a with
  | .non, a => some (decide (a = .non))
  | .bl y, .bl x => some (decide (x = y))
  | _, _ => none
def cmpD (o : COp) (μ : Mu) (a b : D) : Option Bool := match o with
  | .eq => eqD μ a b
  | .ne => (eqD μ a b).map (!·)
  | .lt => ordD (fun i j => decide (i < j)) (fun s t => decide (s < t)) a b
  | .le => ordD (fun i j => decide (i ≤ j)) (fun s t => !decide (t < s)) a b
  | .gt => ordD (fun i j => decide (j < i)) (fun s t => decide (t < s)) a b
  | .ge => ordD (fun i j => decide (j ≤ i)) (fun s t => !decide (s < t)) a b
  | .isN => isD a b
  | .notN => (isD a b).map (!·)
  | .in_ => inD μ a b
  | .nin => (inD μ a b).map (!·)

/-- a place of a row, from the end where it is below 0 -/
def ixZ (n : Nat) (i : Int) : Option Nat := if 0 ≤ i then (if i < n then some i.toNat else none) else if -(n : Int) ≤ i then some (i + n).toNat else none
def atZ {α : Type} (l : List α) (i : Int) : Option α := (ixZ l.length i).bind fun k => l[k]?
def idxD (μ : Mu) (a i : D) : Option D := match a, i with
  | .str s, .int i => if s.length ≤ lim then (atZ s i).map fun c => .str [c] else none
  | a, .int i => match seqOf μ a with
    | some l => atZ l i
    | none => (dctAt μ a).bind fun nl => lookD nl.2 (.int i)
  | a, .str s => (dctAt μ a).bind fun nl => lookD nl.2 (.str s)
  | a, .tup k => if isKT (.tup k) then (dttAt μ a).bind fun nl => lookD nl.2 (.tup k) else none
  | _, _ => none
/-- a bound of a slice -/
def cutZ (n d : Nat) : Option Int → Nat
  | none => d
  | some v => if v < 0 then (v + (n : Int)).toNat else min v.toNat n
def cutL {α : Type} (l : List α) (lo hi : Option Int) : List α := (l.drop (cutZ l.length 0 lo)).take (cutZ l.length l.length hi - cutZ l.length 0 lo)
def slcD (μ : Mu) (a : D) (lo hi : Option Int) : Option D := match a with
  | .str s => if s.length ≤ lim then some (.str (cutL s lo hi)) else none
  | .tup l => some (.tup (cutL l lo hi))
  | a => match lstOf μ a with
    | some l => some (.lst (cutL l lo hi))
    | none => none

/-! ### built-ins and methods -/
inductive Ty | int | bool | str | tuple | list | dict | obj (c : Nat)
deriving DecidableEq, Inhabited
inductive Bi | len | tuple | list | min2 | max2 | int | str | all | any | sum | abs | isin (t : Ty) | lenset | divmod | tupRg | lstRg | maxL | isTL | ord
deriving DecidableEq, Inhabited
inductive Me | append | extend | pop | popAt | index | join | insert | reverse
deriving DecidableEq, Inhabited

def kindIs (μ : Mu) (t : Ty) : D → Option Bool
  | .non => some false
  | .bl _ => some (t == .bool || t == .int)
  | .int _ => some (t == .int)
  | .str _ => some (t == .str)
  | .tup _ => some (t == .tuple)
  | .lst _ => some (t == .list)
  | .loc n => match μ[n]? with
    | some (.lst _) => some (t == .list)
    | some (.dct _) => some (t == .dict)
    | _ => none
  | .fn _ _ => none
def boolsOf : List D → Option (List Bool)
  | [] => some []
  | .bl b :: r => (boolsOf r).map (b :: ·)
  | _ :: _ => none
def intsOf : List D → Option (List Int)
  | [] => some []
  | .int b :: r => (intsOf r).map (b :: ·)
  | _ :: _ => none
def strsOf : List D → Option (List Txt)
  | [] => some []
  | .str b :: r => (strsOf r).map (b :: ·)
  | _ :: _ => none
/-- the unlike ones, behind those that are there -/
def unl : List Txt → List Txt → List Txt
  | σ, [] => σ
  | σ, s :: r => unl (if σ.contains s then σ else σ ++ [s]) r
/-- how many unlike ones -/
def unlike (l : List Txt) : Nat := (unl [] l).length
def numT (n : Nat) : Txt := (Nat.toDigits 10 n).map Char.toNat
def joinT (s : Txt) : List Txt → Txt
  | [] => []
  | [p] => p
  | p :: q :: r => p ++ (s ++ joinT s (q :: r))
def d1 {α : Type} (args : List D) (f : D → Option α) : Option α := match args with
  | [a] => f a
  | _ => none
def d2 {α : Type} (args : List D) (f : D → D → Option α) : Option α := match args with
  | [a, b] => f a b
  | _ => none
def tupleD (μ : Mu) (a : D) : Option D := match a with
  | .tup l => some (.tup l)
  | a => (lstOf μ a).map .tup
/-- figures, and what they tell -/
def digB (s : Txt) : Bool := s.all fun c => decide (48 ≤ c) && decide (c ≤ 57)
def digV (s : Txt) : Nat := s.foldl (fun n c => n * 10 + (c - 48)) 0
def intD (a : D) : Option D := match a with
  | .int i => some (.int i)
  | .bl b => some (.int (if b then 1 else 0))
  | .str s => if digB s = true ∧ s ≠ [] ∧ s.length ≤ 640 then some (.int (digV s)) else none
  | _ => none
def strD (a : D) : Option D := match a with
  | .int i => if 0 ≤ i ∧ i.natAbs.log2 < 1920 then some (.str (numT i.toNat)) else none
  | _ => none
def absD (a : D) : Option D := match a with
  | .int i => some (.int (if i < 0 then -i else i))
  | _ => none
/-- the ints lo, lo + 1, .. -/
def rngL (lo : Int) (n : Nat) : List D := (List.range n).map fun (i : Nat) => D.int (lo + i)
def rgD (f : List D → D) (a : D) : Option D := match a with
  | .int j => if -(2 ^ 62) ≤ j ∧ j ≤ 16777216 then some (f (rngL 0 j.toNat)) else none
  | _ => none
def signOf (o : D) : Option Nat := match o with
  | .str [c] => some c
  | _ => none
def biD (b : Bi) (μ : Mu) (args : List D) : Option D := match b with
  | .len => d1 args fun a => (lenD μ a).map .int
  | .tuple => d1 args (tupleD μ)
  | .list => d1 args fun a => (seqOf μ a).map .lst
  | .min2 => d2 args fun a b => i2 a b fun i j => some (.int (if j < i then j else i))
  | .max2 => d2 args fun a b => i2 a b fun i j => some (.int (if j > i then j else i))
  | .int => d1 args intD
  | .str => d1 args strD
  | .all => d1 args fun a => (lstOf μ a).bind fun l => (boolsOf l).map fun bs => .bl (bs.all id)
  | .any => d1 args fun a => (lstOf μ a).bind fun l => (boolsOf l).map fun bs => .bl (bs.any id)
  | .sum => d1 args fun a => (lstOf μ a).bind fun l => (intsOf l).map fun bs => .int bs.sum
  | .abs => d1 args absD
  | .isin t => d1 args fun a => (kindIs μ t a).map .bl
  | .lenset => d1 args fun a => (seqOf μ a).bind fun l => (strsOf l).bind fun ss => if ss.length < 4000 then some (.int (unlike ss)) else none
  | .divmod => d2 args fun a b => i2 a b fun i j => if 0 < j ∧ j < 1073741824 then some (.tup [.int (i / j), .int (i % j)]) else none
  | .tupRg => d1 args (rgD .tup)
  | .lstRg => d1 args (rgD .lst)
  | .maxL => d1 args fun a => (lstOf μ a).bind fun l => (intsOf l).bind fun is => match is with
    | [] => none
    | i :: r => some (.int (r.foldl (fun m x => if m < x then x else m) i))
  | .isTL => d1 args fun a => (kindIs μ .tuple a).bind fun b => (kindIs μ .list a).map fun c => .bl (b || c)
  | .ord => d1 args fun a => (signOf a).map fun (c : Nat) => D.int (c : Int)

/-- where a text stands in another one first (one sign) -/
def indexT (t : Txt) (c : Nat) : Option Nat := t.findIdx? (· == c)
/-- what a method is called on -/
def meTy (m : Me) (μ : Mu) (o : D) : Bool := match m with
  | .index => (match o with | .str _ => true | _ => false)
  | .join => (match o with | .str _ => true | _ => false)
  | _ => (match o with | .loc n => (match μ[n]? with | some (.lst _) => true | _ => false) | _ => false)
/-- the list at a shared place -/
def lstAt (μ : Mu) (o : D) : Option (Nat × List D) := match o with
  | .loc n => match μ[n]? with
    | some (.lst l) => some (n, l)
    | _ => none
  | _ => none
def strOf (o : D) : Option Txt := match o with
  | .str s => some s
  | _ => none
def intOf (o : D) : Option Int := match o with
  | .int i => some i
  | _ => none
/-- an item of a dict is set -/
def setDD (μ : Mu) (x y v : D) : Option Mu := if isKT y = true then (dttAt μ x).bind fun nl => if nl.2.length < lim then some (μ.set nl.1 (.dtt (putD nl.2 y v))) else none
  else (dctAt μ x).bind fun nl => if isKey y = true ∧ nl.2.length < lim then some (μ.set nl.1 (.dct (putD nl.2 y v))) else none
/-- an item of a list, of a dict is set -/
def setD (μ : Mu) (x y v : D) : Option Mu := match lstAt μ x with
  | some nl => (intOf y).bind fun j => (ixZ nl.2.length j).map fun k => μ.set nl.1 (.lst (nl.2.set k v))
  | none => setDD μ x y v
/-- put in at a place, or at the end -/
def insL (l : List D) (i : Int) (x : D) : List D := l.take i.toNat ++ [x] ++ l.drop i.toNat
/-- a row in the stead of a part of a list -/
def setSl (l : List D) (lo hi : Option Int) (r : List D) : List D := l.take (cutZ l.length 0 lo) ++ r ++ l.drop (max (cutZ l.length 0 lo) (cutZ l.length l.length hi))
def setSlD (μ : Mu) (x : D) (lo hi : Option Int) (v : D) : Option Mu := (lstAt μ x).bind fun nl => (lstOf μ v).bind fun r => if nl.2.length + r.length ≤ lim then some (μ.set nl.1 (.lst (setSl nl.2 lo hi r))) else none
/-- what a method gives, and the list that it leaves -/
def meD (m : Me) (μ : Mu) (o : D) (args : List D) : Res D := match m with
  | .append => match lstAt μ o, args with
    | some (n, l), [x] => if l.length < lim then .ok .non (μ.set n (.lst (l ++ [x]))) else .no
    | _, _ => .no
  | .extend => match lstAt μ o, d1 args (seqOf μ) with
    | some (n, l), some r => if l.length + r.length ≤ lim then .ok .non (μ.set n (.lst (l ++ r))) else .no
    | _, _ => .no
  | .pop => match lstAt μ o, args with
    | some (n, l), [] => match l[l.length - 1]? with
      | some x => .ok x (μ.set n (.lst l.dropLast))
      | none => .no
    | _, _ => .no
  | .popAt => match lstAt μ o, d1 args intOf with
    | some (n, l), some i => match ixZ l.length i with
      | some k => match l[k]? with
        | some x => .ok x (μ.set n (.lst (l.eraseIdx k)))
        | none => .no
      | none => .no
    | _, _ => .no
  | .index => match strOf o, d1 args signOf with
    | some s, some c => Res.of ((indexT s c).map fun (k : Nat) => .int k) μ
    | _, _ => .no
  | .insert => match lstAt μ o, d2 args fun i x => (intOf i).map fun i => (i, x) with
    | some (n, l), some (i, x) => if l.length < lim ∧ 0 ≤ i ∧ i < 2 ^ 62 then .ok .non (μ.set n (.lst (insL l i x))) else .no
    | _, _ => .no
  | .reverse => match lstAt μ o, args with
    | some (n, l), [] => .ok .non (μ.set n (.lst l.reverse))
    | _, _ => .no
  | .join => match strOf o, (d1 args (seqOf μ)).bind strsOf with
    | some s, some ss => if (ss.map List.length).sum + ss.length * s.length ≤ lim then .ok (.str (joinT s ss)) μ else .no
    | _, _ => .no

/-! ### objects -/
/-- the object of the class c: its place, its fields -/
def objAt (μ : Mu) (c : Nat) (d : D) : Option (Nat × List (Nat × D)) := match d with
  | .loc n => match μ[n]? with
    | some (.obj c' fs) => if c' = c then some (n, fs) else none
    | _ => none
  | _ => none
/-- a field is set -/
def putFd (a : Nat) (d : D) : List (Nat × D) → List (Nat × D)
  | [] => [(a, d)]
  | (b, x) :: r => if b = a then (b, d) :: r else (b, x) :: putFd a d r
def fldD (μ : Mu) (c a : Nat) (d : D) : Option D := (objAt μ c d).bind fun p => p.2.lookup a
def setFd (μ : Mu) (c a : Nat) (o v : D) : Option Mu := (objAt μ c o).bind fun p => if p.2.length < 1000 then some (μ.set p.1 (.obj c (putFd a v p.2))) else none

/-- the pairs of a list or a tuple -/
def pairL (μ : Mu) (x : D) : Option (List D) := match x with
  | .tup l => some l
  | x => lstOf μ x
/-- a dict of pairs -/
def dictPD (μ : Mu) (x : D) : Option Cell := (pairL μ x).bind fun l => (pairsD l).bind fun ps => if l.length < 4000 then (if ps.all (fun p => isKey p.1) = true then some (.dct (mergeD ps)) else if ps.all (fun p => isKT p.1) = true then some (.dtt (mergeD ps)) else none) else none
/-! ### syntax -/
/-- a target -/
inductive T where
  | nm (i : Nat) | tp (l : List T)
deriving Inhabited
/-- what is walked -/
inductive IK | seq | rng1 | rng2 | rng3 | enum | zip2 | rev
deriving DecidableEq, Inhabited
inductive E where
  | var (i : Nat) | con (d : D) | glo (k : Nat)
  | bin (o : BOp) (a b : E) | neg (a : E)
  | cmp (o : COp) (a b : E) | cmp2 (o o' : COp) (a b c : E)
  | and_ (a b : E) | or_ (a b : E) | not_ (a : E) | ite (c a b : E)
  | tup (es : List E) | lst (m : Bool) (es : List E) | cat (a b : E) | lrep (es : List E) (n : E)
  | idx (a i : E) | slc (a : E) (lo hi : Option E)
  | call (f : Nat) (es : List E) | bi (b : Bi) (es : List E) | me (m : Me) (o : E) (es : List E)
  | comp (m : Bool) (own : List Nat) (elt : E) (t : T) (k : IK) (src : List E) (c : Option E)
  | dict0 | dictP (e : E) | dictL (ks : List D) (es : List E) | mlst (e : E)
  | zipL (a b : E) | fnv (k : Nat) | tget (nm : Nat) (tab : List (Txt × D)) (k : E) (d : E) | callv (i : Nat) (es : List E) | callL (f : Nat) (es : List E) (k : Nat) (caps : List Nat)
  | new (c f : Nat) (es : List E) | fld (c a : Nat) (o : E) | meth (c f : Nat) (o : E) (es : List E)
deriving Inhabited
inductive S where
  | expr (e : E) | ret (e : E) | retN | asg (t : T) (e : E) | setIdx (o i e : E)
  | setSlc (o : E) (lo hi : Option E) (e : E) | setFld (c a : Nat) (o e : E) | augFld (c a : Nat) (o e : E)
  | raise_ (c : Nat) | try_ (b : List S) (yes no : List Nat) (h : List S) | tryA (b : List S) (i c : Nat) (no : List Nat) (h : List S)
  | if_ (c : E) (a b : List S) | while_ (kill : List Nat) (c : E) (b : List S) | for_ (kill : List Nat) (t : T) (k : IK) (src : List E) (b : List S)
  | pass | brk | cont
deriving Inhabited

/-! ### the evaluator -/
abbrev Rho := List (Option D)
mutual
def T.put : T → D → Rho → Option Rho
  | .nm i, d, ρ => some (ρ.set i (some d))
  | .tp ts, d, ρ => match d with
    | .tup l => T.putL ts l ρ
    | _ => none
def T.putL : List T → List D → Rho → Option Rho
  | [], [], ρ => some ρ
  | t :: ts, d :: ds, ρ => (T.put t d ρ).bind fun ρ' => T.putL ts ds ρ'
  | _, _, _ => none
end
mutual
/-- the names of a target -/
def T.vars : T → List Nat
  | .nm i => [i]
  | .tp ts => T.varsL ts
def T.varsL : List T → List Nat
  | [] => []
  | t :: ts => T.vars t ++ T.varsL ts
end
def wipeR (ρ : Rho) : List Nat → Rho
  | [] => ρ
  | v :: vs => (wipeR ρ vs).set v none
/-- i, i + c, .. (n of them) -/
def stpL (i c : Int) (n : Nat) : List D := (List.range n).map fun k => .int (i + (k : Nat) * c)
def enumFrom : Nat → List D → List D
  | _, [] => []
  | i, d :: r => .tup [.int i, d] :: enumFrom (i + 1) r
/-- a shared list, as it is -/
def ownL (l : List D) : D → List (Nat × List D)
  | .loc n => [(n, l)]
  | _ => []
/-- what is walked, and the shared lists that must stay as they are -/
def itemsD (k : IK) (μ : Mu) (src : List D) : Option (List D × List (Nat × List D)) := match k, src with
  | .seq, [.tup l] => some (l, [])
  | .seq, [.lst l] => some (l, [])
  | .seq, [.str s] => some (s.map fun c => .str [c], [])
  | .seq, [.loc n] => match μ[n]? with
    | some (.lst l) => some (l, [(n, l)])
    | _ => none
  | .rng1, [.int j] => if -(2 ^ 62) ≤ j ∧ j < 2 ^ 62 then some (rngL 0 j.toNat, []) else none
  | .rng2, [.int i, .int j] => if -(2 ^ 62) ≤ i ∧ i < 2 ^ 62 ∧ -(2 ^ 62) ≤ j ∧ j < 2 ^ 62 then some (rngL i (j - i).toNat, []) else none
  | .rng3, [.int i, .int j, .int c] => if -(2 ^ 61) ≤ i ∧ i < 2 ^ 61 ∧ -(2 ^ 61) ≤ j ∧ j < 2 ^ 61 ∧ 1 ≤ c ∧ c < 1000000 then some (stpL i c (if i < j then ((j - i - 1) / c + 1).toNat else 0), []) else none
  | .enum, [.tup l] => some (enumFrom 0 l, [])
  | .enum, [.lst l] => some (enumFrom 0 l, [])
  | .enum, [.loc n] => match μ[n]? with
    | some (.lst l) => some (enumFrom 0 l, [(n, l)])
    | _ => none
  | .zip2, [a, b] => match lstOf μ a, lstOf μ b with
    | some l, some r => some ((l.zip r).map fun p => .tup [p.1, p.2], ownL l a ++ ownL r b)
    | some l, none => match b with
      | .tup r => some ((l.zip r).map fun p => .tup [p.1, p.2], ownL l a)
      | _ => none
    | _, _ => match a, b with
      | .tup l, .tup r => some ((l.zip r).map fun p => .tup [p.1, p.2], [])
      | _, _ => none
  | .rev, [a] => (seqOf μ a).map fun l => (l.reverse, ownL l a)
  | _, _ => none
/-- a list and a tuple, paired -/
def zipLD (μ : Mu) : List D → Option D
  | [x, .tup r] => (lstOf μ x).map fun l => .lst ((l.zip r).map fun p => .tup [p.1, p.2])
  | _ => none
def stays (μ : Mu) (g : List (Nat × List D)) : Bool := g.all fun p => decide (μ[p.1]? = some (.lst p.2))

/-- how a statement ends -/
inductive Out where
  | nx (ρ : Rho) (μ : Mu) | rt (d : D) (μ : Mu) | bk (ρ : Rho) (μ : Mu) | ct (ρ : Rho) (μ : Mu) | ex (x : Ex) (ρ : Rho) (μ : Mu) | no
deriving Inhabited
def Res.out {α : Type} (r : Res α) (ρ : Rho) (f : α → Mu → Out) : Out := match r with
  | .ok a μ => f a μ
  | .ex x μ => .ex x ρ μ
  | .no => .no
@[simp] theorem Res.out_ok {α : Type} (a : α) (μ : Mu) (ρ : Rho) (f : α → Mu → Out) : (Res.ok a μ).out ρ f = f a μ := rfl
@[simp] theorem Res.out_ex {α : Type} (x : Ex) (μ : Mu) (ρ : Rho) (f : α → Mu → Out) : (Res.ex x μ).out ρ f = .ex x ρ μ := rfl
@[simp] theorem Res.out_no {α : Type} (ρ : Rho) (f : α → Mu → Out) : (Res.no).out ρ f = .no := rfl
/-- a comprehension's turns -/
def compL (g : List (Nat × List D)) (turn : D → Mu → Res (Option D)) : List D → List D → Mu → Res (List D)
  | [], acc, μ => if stays μ g then .ok acc μ else .no
  | d :: r, acc, μ => if stays μ g && decide (acc.length < lim) then (turn d μ).bind fun o μ' => compL g turn r (match o with | some x => acc ++ [x] | none => acc) μ' else .no
/-- a for's turns -/
def forL (g : List (Nat × List D)) (kill : List Nat) (turn : D → Rho → Mu → Out) : List D → Rho → Mu → Out
  | [], ρ, μ => if stays μ g then .nx (wipeR ρ kill) μ else .no
  | d :: r, ρ, μ => if stays μ g then match turn d (wipeR ρ kill) μ with
    | .nx ρ' μ' => forL g kill turn r ρ' μ'
    | .ct ρ' μ' => forL g kill turn r ρ' μ'
    | .bk ρ' μ' => .nx ρ' μ'
    | o => o
    else .no
def whileL (kill : List Nat) (test : Rho → Mu → Res Bool) (body : Rho → Mu → Out) : Nat → Rho → Mu → Out
  | 0, _, _ => .no
  | n + 1, ρ, μ => (test (wipeR ρ kill) μ).out (wipeR ρ kill) fun b μ' => if b then match body (wipeR ρ kill) μ' with
    | .nx ρ2 μ2 => whileL kill test body n ρ2 μ2
    | .ct ρ2 μ2 => whileL kill test body n ρ2 μ2
    | .bk ρ2 μ2 => .nx ρ2 μ2
    | o => o
    else .nx (wipeR ρ kill) μ'
/-- more turns than any while here takes -/
def manyTurns : Nat := 10 ^ 9

/-- a new list so many times -/
def lrepD (l : List D) (y : D) : Option D := match y with
  | .int j => if -(2 ^ 62) ≤ j ∧ j < 2 ^ 62 ∧ l.length * j.toNat ≤ lim then some (.lst (List.replicate j.toNat l).flatten) else none
  | _ => none
/-- numbers of lambdas, and of calls with a lambda, stand above -/
def LB : Nat := 1000000
/-- at this number stands whether a lambda may be made -/
def LK : Nat := 999999
/-- what a lambda takes along -/
def capt (ρ : Rho) : List Nat → Option (List D)
  | [] => some []
  | i :: r => match ρ[i]? with
    | some (some d) => (capt ρ r).map (d :: ·)
    | _ => none
/-- an expression: as a value, as a test -/
abbrev EvP : Type := (Rho → Mu → Res D) × (Rho → Mu → Res Bool)
def truP (m : Rho → Mu → Res D) : EvP := (m, fun ρ μ => (m ρ μ).bind fun x μ => Res.of (truthD μ x) μ)
section
variable (G : Nat → Option D) (call : Nat → List D → Mu → Res D)
mutual
def evP : E → EvP
  | .var i => truP fun ρ μ => match ρ[i]? with
    | some (some d) => .ok d μ
    | _ => .no
  | .con d => truP fun _ μ => .ok d μ
  | .glo k => truP fun _ μ => Res.of (G k) μ
  | .bin o a b => truP fun ρ μ => ((evP a).1 ρ μ).bind fun x μ => ((evP b).1 ρ μ).bind fun y μ => Res.of (binD o μ x y) μ
  | .neg a => truP fun ρ μ => ((evP a).1 ρ μ).bind fun x μ => match x with
    | .int i => .ok (.int (-i)) μ
    | _ => .no
  | .cmp o a b => truP fun ρ μ => ((evP a).1 ρ μ).bind fun x μ => ((evP b).1 ρ μ).bind fun y μ => Res.of ((cmpD o μ x y).map .bl) μ
  | .cmp2 o o' a b c => truP fun ρ μ => ((evP a).1 ρ μ).bind fun x μ => ((evP b).1 ρ μ).bind fun y μ => (Res.of (cmpD o μ x y) μ).bind fun k μ =>
      if k then ((evP c).1 ρ μ).bind fun z μ => Res.of ((cmpD o' μ y z).map .bl) μ else .ok (.bl false) μ
  | .and_ a b => (fun ρ μ => ((evP a).1 ρ μ).bind fun x μ => (Res.of (truthD μ x) μ).bind fun k μ => if k then (evP b).1 ρ μ else .ok x μ,
      fun ρ μ => ((evP a).2 ρ μ).bind fun k μ => if k then (evP b).2 ρ μ else .ok false μ)
  | .or_ a b => (fun ρ μ => ((evP a).1 ρ μ).bind fun x μ => (Res.of (truthD μ x) μ).bind fun k μ => if k then .ok x μ else (evP b).1 ρ μ,
      fun ρ μ => ((evP a).2 ρ μ).bind fun k μ => if k then .ok true μ else (evP b).2 ρ μ)
  | .not_ a => (fun ρ μ => ((evP a).1 ρ μ).bind fun x μ => Res.of ((truthD μ x).map fun k => .bl (!k)) μ,
      fun ρ μ => ((evP a).2 ρ μ).bind fun k μ => .ok (!k) μ)
  | .ite c a b => truP fun ρ μ => ((evP c).2 ρ μ).bind fun k μ => if k then (evP a).1 ρ μ else (evP b).1 ρ μ
  | .tup es => truP fun ρ μ => (evEs es ρ μ).bind fun ds μ => if ds.length ≤ lim then .ok (.tup ds) μ else .no
  | .lst m es => truP fun ρ μ => (evEs es ρ μ).bind fun ds μ => if ds.length ≤ lim then (if m then .ok (.loc μ.length) (μ ++ [.lst ds]) else .ok (.lst ds) μ) else .no
  | .cat a b => truP fun ρ μ => ((evP a).1 ρ μ).bind fun x μ => ((evP b).1 ρ μ).bind fun y μ => match lstOf μ x, lstOf μ y with
    | some s, some t => if s.length + t.length ≤ lim then .ok (.loc μ.length) (μ ++ [.lst (s ++ t)]) else .no
    | _, _ => .no
  | .lrep es a => truP fun ρ μ => (evEs es ρ μ).bind fun ds μ => if ds.length ≤ lim then ((evP a).1 ρ μ).bind fun y μ => Res.of (lrepD ds y) μ else .no
  | .idx a i => truP fun ρ μ => ((evP a).1 ρ μ).bind fun x μ => ((evP i).1 ρ μ).bind fun y μ => Res.of (idxD μ x y) μ
  | .slc a lo hi => truP fun ρ μ => ((evP a).1 ρ μ).bind fun x μ => (evO lo ρ μ).bind fun l μ => (evO hi ρ μ).bind fun h μ => Res.of (slcD μ x l h) μ
  | .call f es => truP fun ρ μ => (evEs es ρ μ).bind fun ds μ => call f ds μ
  | .bi b es => truP fun ρ μ => (evEs es ρ μ).bind fun ds μ => Res.of (biD b μ ds) μ
  | .me m o es => truP fun ρ μ => ((evP o).1 ρ μ).bind fun x μ => if meTy m μ x then (evEs es ρ μ).bind fun ds μ => meD m μ x ds else .no
  | .comp m own elt t k src c => truP fun ρ μ => (evEs src ρ μ).bind fun ss μ => match itemsD k μ ss with
    | some (l, g) => (compL g (fun d μ => match t.put d (wipeR ρ own) with
        | some ρ' => (evC c ρ' μ).calm.bind fun b μ => if b then ((evP elt).1 ρ' μ).calm.bind fun x μ => .ok (some x) μ else .ok none μ
        | none => .no) l [] μ).bind fun xs μ => if m then .ok (.loc μ.length) (μ ++ [.lst xs]) else .ok (.lst xs) μ
    | none => .no
  | .dict0 => truP fun _ μ => .ok (.loc μ.length) (μ ++ [.dct []])
  | .dictP e => truP fun ρ μ => ((evP e).1 ρ μ).bind fun x μ => match dictPD μ x with
    | some c => .ok (.loc μ.length) (μ ++ [c])
    | none => .no
  | .dictL ks es => truP fun ρ μ => (evEs es ρ μ).bind fun ds μ => if ks.length = ds.length ∧ ks.all isKey = true ∧ ks.length < 100 then .ok (.loc μ.length) (μ ++ [.dct (mergeD (ks.zip ds))]) else .no
  | .mlst e => truP fun ρ μ => ((evP e).1 ρ μ).bind fun x μ => match seqOf μ x with
    | some l => .ok (.loc μ.length) (μ ++ [.lst l])
    | none => .no
  | .zipL a b => truP fun ρ μ => ((evP a).1 ρ μ).bind fun x μ => ((evP b).1 ρ μ).bind fun y μ => Res.of (zipLD μ [x, y]) μ
  | .fnv k => truP fun _ μ => .ok (.fn k []) μ
  | .tget _ tab k d => truP fun ρ μ => ((evP k).1 ρ μ).bind fun x μ => ((evP d).1 ρ μ).bind fun y μ => Res.of ((strOf x).map fun s => (tab.lookup s).getD y) μ
  | .callv i es => truP fun ρ μ => match ρ[i]? with
    | some (some (.fn k l)) => (evEs es ρ μ).bind fun ds μ => call k (ds ++ l) μ
    | _ => .no
  | .callL f es k caps => truP fun ρ μ => (evEs es ρ μ).bind fun ds μ => match capt ρ caps with
    | some cs => call (f + LB) (ds ++ [.fn k cs]) μ
    | none => .no
  | .new c f es => truP fun ρ μ => (evEs es ρ μ).bind fun ds μ => (call f (.loc μ.length :: ds) (μ ++ [.obj c []])).bind fun r μ' => if r = .non then .ok (.loc μ.length) μ' else .no
  | .fld c a o => truP fun ρ μ => ((evP o).1 ρ μ).bind fun x μ => Res.of (fldD μ c a x) μ
  | .meth c f o es => truP fun ρ μ => ((evP o).1 ρ μ).bind fun x μ => if (objAt μ c x).isSome then (evEs es ρ μ).bind fun ds μ => call f (x :: ds) μ else .no
def evEs : List E → Rho → Mu → Res (List D)
  | [] => fun _ μ => .ok [] μ
  | e :: es => fun ρ μ => ((evP e).1 ρ μ).bind fun x μ => (evEs es ρ μ).bind fun xs μ => .ok (x :: xs) μ
def evO : Option E → Rho → Mu → Res (Option Int)
  | none => fun _ μ => .ok none μ
  | some e => fun ρ μ => ((evP e).1 ρ μ).bind fun x μ => match x with
    | .int i => .ok (some i) μ
    | _ => .no
def evC : Option E → Rho → Mu → Res Bool
  | none => fun _ μ => .ok true μ
  | some e => (evP e).2
end
abbrev evE (e : E) : Rho → Mu → Res D := (evP G call e).1
abbrev evT (e : E) : Rho → Mu → Res Bool := (evP G call e).2
/-- slot i is gone -/
def Out.kill (i : Nat) : Out → Out
  | .nx ρ μ => .nx (ρ.set i none) μ
  | .bk ρ μ => .bk (ρ.set i none) μ
  | .ct ρ μ => .ct (ρ.set i none) μ
  | .rt d μ => .rt d μ
  | _ => .no
/-- try: .. except .. as i: ..; the suite for class c -/
def evTryA (i c : Nat) (no : List Nat) (ob oh : Rho → Mu → Out) : Rho → Mu → Out := fun ρ μ => match ob ρ μ with
  | .ex x ρ' μ' => if x.cls = c then (if i < ρ'.length then (oh (ρ'.set i none) μ').kill i else .no) else if x.cls ∈ no then .ex x ρ' μ' else .no
  | o => o
mutual
def exS : S → Rho → Mu → Out
  | .expr e, ρ, μ => (evE G call e ρ μ).out ρ fun _ μ => .nx ρ μ
  | .ret e, ρ, μ => (evE G call e ρ μ).out ρ fun d μ => .rt d μ
  | .retN, _, μ => .rt .non μ
  | .asg t e, ρ, μ => (evE G call e ρ μ).out ρ fun d μ => match t.put d ρ with
    | some ρ' => .nx ρ' μ
    | none => .no
  | .setIdx o i e, ρ, μ => (evE G call e ρ μ).out ρ fun v μ => (evE G call o ρ μ).out ρ fun x μ => (evE G call i ρ μ).out ρ fun y μ => match setD μ x y v with
    | some μ' => .nx ρ μ'
    | none => .no
  | .setSlc o lo hi e, ρ, μ => (evE G call e ρ μ).out ρ fun v μ => (evE G call o ρ μ).out ρ fun x μ => (evO G call lo ρ μ).out ρ fun l μ => (evO G call hi ρ μ).out ρ fun h μ => match setSlD μ x l h v with
    | some μ' => .nx ρ μ'
    | none => .no
  | .if_ c a b, ρ, μ => (evT G call c ρ μ).out ρ fun k μ => if k then exSs a ρ μ else exSs b ρ μ
  | .while_ kill c b, ρ, μ => whileL kill (fun ρ μ => evT G call c ρ μ) (fun ρ μ => exSs b ρ μ) manyTurns ρ μ
  | .for_ kill t k src b, ρ, μ => (evEs G call src ρ μ).out ρ fun ss μ => match itemsD k μ ss with
    | some (l, g) => forL g kill (fun d ρ μ => match t.put d ρ with
        | some ρ' => exSs b ρ' μ
        | none => .no) l ρ μ
    | none => .no
  | .pass, ρ, μ => .nx ρ μ
  | .brk, ρ, μ => .bk ρ μ
  | .cont, ρ, μ => .ct ρ μ
  | .setFld c a o e, ρ, μ => (evE G call e ρ μ).out ρ fun v μ => (evE G call o ρ μ).out ρ fun x μ => match setFd μ c a x v with
    | some μ' => .nx ρ μ'
    | none => .no
  | .augFld c a o e, ρ, μ => (evE G call o ρ μ).out ρ fun x μ => (Res.of (fldD μ c a x) μ).out ρ fun u μ => (evE G call e ρ μ).out ρ fun v μ => (Res.of (i2 u v fun i j => some (.int (i + j))) μ).out ρ fun z μ => match setFd μ c a x z with
    | some μ' => .nx ρ μ'
    | none => .no
  | .raise_ c, ρ, μ => .ex ⟨c, .non⟩ ρ μ
  | .try_ b yes no h, ρ, μ => match exSs b ρ μ with
    | .ex x ρ' μ' => if x.cls ∈ yes then exSs h ρ' μ' else if x.cls ∈ no then .ex x ρ' μ' else .no
    | o => o
  | .tryA b i c no h, ρ, μ => evTryA i c no (exSs b) (exSs h) ρ μ
def exSs : List S → Rho → Mu → Out
  | [], ρ, μ => .nx ρ μ
  | s :: ss, ρ, μ => match exS s ρ μ with
    | .nx ρ' μ' => exSs ss ρ' μ'
    | o => o
end
end

/-! ### calls -/
mutual
/-- no shared object from the k-th on -/
def D.closed (k : Nat) : D → Bool
  | .tup l => D.closedL k l
  | .lst l => D.closedL k l
  | .loc n => decide (n < k)
  | .fn _ l => D.closedL k l
  | _ => true
def D.closedL (k : Nat) : List D → Bool
  | [] => true
  | d :: ds => d.closed k && D.closedL k ds
end
def Cell.flat : Cell → Bool
  | .lst l => D.flatL l
  | .dct l => l.all fun p => p.1.flat && p.2.flat
  | .dtt l => l.all fun p => p.1.flat && p.2.flat
  | .obj _ fs => fs.all fun p => p.2.flat
/-- the first k shared objects stand as they stood, or hold plain data -/
def cutOk (k : Nat) (μ0 μ : Mu) : Bool := (List.range k).all fun i => decide (μ[i]? = μ0[i]?) || (match μ[i]? with
  | some c => c.flat
  | none => true)
/-- a def's end: what it made beside the answer goes -/
def fin (μ0 μ : Mu) (d : D) : Res D := if cutOk μ0.length μ0 μ then (match d with
  | .loc n => if n < μ0.length then .ok (.loc n) (μ.take μ0.length) else (match μ[n]? with
    | some (.lst l) => if D.closedL μ0.length l then .ok (.lst l) (μ.take μ0.length) else .no
    | _ => .no)
  | d => if d.closed μ0.length then .ok d (μ.take μ0.length) else .no) else .no
/-- a def: parameters, names, body; fz: what it made goes at its end -/
structure Fn where
  np : Nat
  nn : Nat
  body : List S
  fz : Bool
deriving Inhabited
def ends (fz : Bool) (μ0 : Mu) (o : Out) : Res D := match o with
  | .rt d μ => if fz then fin μ0 μ d else .ok d μ
  | .nx _ μ => if fz then fin μ0 μ .non else .ok .non μ
  | .ex x _ μ => if fz then (if cutOk μ0.length μ0 μ && x.val.closed μ0.length then .ex x (μ.take μ0.length) else .no) else .ex x μ
  | _ => .no
/-- no lambda is made within -/
def noLam (G : Nat → Option D) : Nat → Option D := fun k => if k = LK then none else G k
/-- a call with a lambda leaves all as it was -/
def within (μ0 : Mu) (r : Res D) : Res D := match r with
  | .ok d μ => if d.flat = true ∧ μ = μ0 then .ok d μ else .no
  | .ex x μ => if x.val.flat = true ∧ μ = μ0 then .ex x μ else .no
  | .no => .no
/-- a call of the f-th def, n calls deep at most -/
def run (G : Nat → Option D) (F : Nat → Option Fn) : Nat → Nat → List D → Mu → Res D
  | 0, _, _, _ => .no
  | n + 1, f, args, μ => match F f with
    | some fd => if args.length = fd.np then ends fd.fz μ (exSs G (run G F n) fd.body (args.map some ++ List.replicate (fd.nn - args.length) none) μ) else .no
    | none => if LB ≤ f ∧ (G LK).isSome = true then within μ (run (noLam G) F n (f - LB) args μ) else .no
mutual
theorem flat_closed (k : Nat) : ∀ d : D, d.flat = true → d.closed k = true
  | .non, _ => rfl
  | .bl _, _ => rfl
  | .int _, _ => rfl
  | .str _, _ => rfl
  | .tup l, h => by unfold D.flat at h; unfold D.closed; exact flat_closedL k l h
  | .lst l, h => by unfold D.flat at h; unfold D.closed; exact flat_closedL k l h
  | .loc _, h => by unfold D.flat at h; cases h
  | .fn _ _, h => by unfold D.flat at h; cases h
theorem flat_closedL (k : Nat) : ∀ l : List D, D.flatL l = true → D.closedL k l = true
  | [], _ => rfl
  | d :: ds, h => by
    unfold D.flatL at h
    unfold D.closedL
    rw [Bool.and_eq_true] at h ⊢
    exact ⟨flat_closed k d h.1, flat_closedL k ds h.2⟩
end
end Ev

set_option Elab.async false
set_option linter.all false
set_option maxRecDepth 100000
set_option maxHeartbeats 1000000
/-! What the head of a row is asked, as data. -/
namespace Ev
open PySem PySem.Spec PyProof.Rows L2
def sOf (t : Txt) : Str := ⟨t.toArray⟩
/-- what isinstance asks of the exception's class, as a test of K -/
def excCB (K : PySem.W.Frag) (D : Addr) : Bool :=
  decide (PySem.W.findIn K (.ref D) "__getattribute__" = some (some (.builtin "BaseException.__getattribute__"))) && (decide (PySem.W.findIn K (.ref D) "__getattr__" = some none) && (decide (PySem.W.subIn K (.ref D) (.type "BaseException") = some true) &&
  (PySem.W.hasDictIn K D && (decide (PySem.W.findIn K (.ref D) "__class__" = some (some (.builtin "object.__class__"))) && (decide (PySem.W.specialIn K (.builtin "object.__class__") "__get__" = some (some (.builtin "getset_descriptor.__get__"))) &&
  (decide (PySem.W.takesIn K (.builtin "object.__class__") = some true) && decide (PySem.W.mroIn K D (.type "object") = some true)))))))
/-- a def: its number, its name, its class if it is a method, its full name, its statement, its names, its parameters, what it is -/
structure DI where
  id : Nat
  nm : Str
  cls : Option Str
  qual : Str
  st : Stmt
  N : List Str
  ps : List Str
  fn : Fn
/-- a lambda: its number, its parameters, what it takes along, its body -/
structure LI where
  k : Nat
  ps : List Str
  ys : List Str
  e : E
def dOf (ds : List DI) (k : Nat) : Option DI := ds.find? fun d => k == d.id
/-- those of the module's top -/
def topD (ds : List DI) : List DI := ds.filter fun d => d.cls.isNone
/-- such a def: what it is for class k (d.fn.body), its answer b -/
structure HD where
  d : DI
  k : Nat
  b : Bool
/-- where a def stands -/
def DI.at_ (d : DI) : Str × Option Str := match d.cls with
  | none => (d.nm, none)
  | some C => (C, some d.nm)
def DI.dd (d : DI) : He.DefD := ⟨d.at_, d.nm, d.qual, defArgs d.st, defBody d.st, defScope d.st, [], []⟩
/-- a constant of the module -/
inductive Cn where
  | int (k : Nat) (x : Str) (i : Int) | str (k : Nat) (x : Str) (s : Txt) | tup (k : Nat) (x : Str) (l : List Txt)
def Cn.id : Cn → Nat
  | .int k _ _ => k
  | .str k _ _ => k
  | .tup k _ _ => k
def Cn.nm : Cn → Str
  | .int _ x _ => x
  | .str _ x _ => x
  | .tup _ x _ => x
def Cn.d : Cn → D
  | .int _ _ i => .int i
  | .str _ _ s => .str s
  | .tup _ _ l => .tup (l.map .str)
def Cn.fa : Cn → He.Fa
  | .int _ x i => .int x i
  | .str _ x s => .str x (sOf s)
  | .tup _ x _ => .glo x
/-- a tuple of texts, as it stands -/
def txsB : List Txt → List Value → Bool
  | [], [] => true
  | s :: r, .str y _ :: us => decide (y.cps.toList = s) && txsB r us
  | _, _ => false
def Cn.exB (K : PySem.W.Frag) : Cn → Bool
  | .tup _ x l => (match K.lookup (He.ga K x) with
    | some ⟨.type c, none, .seq items _, sl⟩ => decide (c = "tuple") && sl.isEmpty && txsB l items.toList
    | _ => false)
  | _ => true
/-- the classes: their numbers and names; the fields'; what is used of them -/
structure KT where
  cls : List (Nat × Str)
  fld : List (Nat × Str)
  cl : List (Nat × Str × Nat)
  fl : List (Nat × Nat × Str)
  me : List (Nat × Str × Nat)
  ec : List (Nat × Str)
  em : List (Str × Nat × Bool)
  is : List (Str × Nat × Bool)
  ve : List (Nat × Bool)
  hc : List Nat
def KT.cn (t : KT) (k : Nat) : Str := (t.cls.lookup k).getD ⟨#[]⟩
def KT.fn (t : KT) (a : Nat) : Str := (t.fld.lookup a).getD ⟨#[]⟩
def KT.facts (t : KT) : List He.Fa := (t.cl.map fun p => He.Fa.glo p.2.1) ++ ((t.cl.map fun p => He.Fa.mkr p.2.1) ++ ((t.fl.map fun p => He.Fa.cls (t.cn p.1)) ++ ((t.fl.map fun p => He.Fa.noat (t.cn p.1) p.2.2) ++
  ((t.me.map fun p => He.Fa.cls (t.cn p.1)) ++ ((t.me.map fun p => He.Fa.meth (t.cn p.1) p.2.1) ++ ((t.ec.map fun p => He.Fa.glo p.2) ++ ((t.ec.map fun p => He.Fa.exc p.2) ++ ((t.em.map fun p => He.Fa.glo p.1) ++ ((t.em.map fun p => He.Fa.exm (t.cn p.2.1) p.1 p.2.2) ++ t.is.map fun p => He.Fa.glo p.1)))))))))
/-- more of the classes -/
def KT.exB (t : KT) (K : PySem.W.Frag) : Bool := (t.hc.all fun k => excCB K (He.ga K (t.cn k))) && ((t.is.all fun p => decide (PySem.W.kitOne K (.ref (He.ga K (t.cn p.2.1))) (.ref (He.ga K p.1)) = some p.2.2)) &&
  t.ve.all fun p => decide (PySem.W.kitOne K (.ref (He.ga K (t.cn p.1))) (.type "ValueError") = some p.2))
/-- tables of the module, makers of lambdas, lambdas -/
structure XT where
  dc : List (Nat × Str × List (Txt × D))
  mks : List Nat
  ls : List LI
def atOf (ds : List DI) (i : Nat) : Str × Option Str := match dOf ds i with
  | some d => d.at_
  | none => (⟨#[]⟩, none)
def qOf (ds : List DI) (i : Nat) : Str := match dOf ds i with
  | some d => d.qual
  | none => ⟨#[]⟩
def XT.tf (x : XT) (ds : List DI) : List He.Defn := x.mks.map (atOf ds)
def XT.ts (x : XT) : List He.Tab := x.dc.map fun q => ((fun K => He.ga K q.2.1), q.2.2.map fun p => sOf p.1)
def faOf (ds : List DI) (hs : List HD) (cs : List Cn) (bf : List Str) (t : KT) (x : XT) : List He.Fa := ((topD ds).map fun d => He.Fa.glo d.nm) ++ ((hs.map fun h => He.Fa.glo h.d.nm) ++ (cs.map Cn.fa ++ (bf.map He.Fa.free ++ (t.facts ++ x.dc.map fun q => He.Fa.glo q.2.1))))
def ddOf (ds : List DI) (hs : List HD) : List He.DefD := (ds ++ hs.map HD.d).map DI.dd
def faD (K : PySem.W.Frag) (ds : List DI) (i : Nat) : Addr := match dOf ds i with
  | some d => He.fAd K d.at_
  | none => 0
/-- what a table's value is -/
def valB (K : PySem.W.Frag) (ds : List DI) (d : D) (u : Value) : Bool := match d, u with
  | .int i, .int j _ => decide (i = j)
  | .fn k [], .ref a => decide (k < LB) && (dOf ds k).isSome && decide (a = faD K ds k)
  | _, _ => false
def entB (K : PySem.W.Frag) (ds : List DI) : List (Txt × D) → List DictEntry → Bool
  | [], [] => true
  | p :: r, e :: es => (match e.key with
    | .str x _ => decide (x.cps.toList = p.1)
    | _ => false) && valB K ds p.2 e.val && entB K ds r es
  | _, _ => false
def dctB (K : PySem.W.Frag) (ds : List DI) (a : Addr) (tab : List (Txt × D)) : Bool := match K.lookup a with
  | some ⟨_, _, .dict es _, _⟩ => entB K ds tab es.toList
  | _ => false
/-- more of the tables and the makers -/
def XT.exB (x : XT) (ds : List DI) (K : PySem.W.Frag) : Bool := (x.dc.all fun q => dctB K ds (He.ga K q.2.1) q.2.2) && x.mks.all fun i => x.mks.all fun j => decide (i = j) || decide ((He.cT K (atOf ds i)).2 ≠ (He.cT K (atOf ds j)).2)
def exA (cs : List Cn) (t : KT) (x : XT) (ds : List DI) (K : PySem.W.Frag) : Bool := t.exB K && x.exB ds K && cs.all (Cn.exB K)
/-- a world, and whether a look at __get__ lets out what it meets: the head is run for both -/
def wf (w : World) (b : Bool) : World := { w with params := { w.params with followText := fun s => if s = "special-get-raises" then b else w.params.followText s } }
theorem wf_eq (w : World) : wf w (w.params.followText "special-get-raises") = w := by
  unfold wf
  have : (fun s => if s = "special-get-raises" then w.params.followText "special-get-raises" else w.params.followText s) = w.params.followText := by
    funext s
    by_cases h : s = "special-get-raises"
    · rw [if_pos h, h]
    · rw [if_neg h]
  rw [this]
end Ev

set_option Elab.async false
set_option linter.all false
set_option maxRecDepth 100000
set_option maxHeartbeats 0
namespace LawX
open PySem PySem.Spec PyProof.Rows L2 Ev
def b1000188 : List S := [.ret (.callv 2 [.var 0, .var 1])]
def f1000188 : Fn := ⟨3, 3, b1000188, false⟩
def b1000189 : List S := [.ret (.callv 2 [.var 0, .var 1])]
def f1000189 : Fn := ⟨3, 3, b1000189, false⟩
def b1000190 : List S := [.ret (.callv 3 [.var 0, .var 2, .var 1])]
def f1000190 : Fn := ⟨4, 4, b1000190, false⟩
def b1000191 : List S := [.ret (.callv 3 [.var 0, .var 2, .var 1])]
def f1000191 : Fn := ⟨4, 4, b1000191, false⟩
def b42 : List S := [.if_ (.or_ (.not_ (.bi (.isin .str) [.var 0])) (.not_ (.cmp2 .le .le (.con (.int 1)) (.bi .len [.var 0]) (.glo 35)))) [.ret (.con (.bl false))] [], .ret (.bi .all [.comp false [1] (.cmp .in_ (.var 1) (.glo 34)) (.nm 1) .seq [.var 0] none])]
def f42 : Fn := ⟨1, 2, b42, false⟩
def b23 : List S := [.ret (.and_ (.bi (.isin .int) [.var 0]) (.and_ (.not_ (.bi (.isin .bool) [.var 0])) (.cmp2 .le .le (.var 1) (.var 0) (.var 2))))]
def f23 : Fn := ⟨3, 3, b23, false⟩
def b43 : List S := [.if_ (.or_ (.not_ (.bi (.isin .tuple) [.var 0])) (.not_ (.cmp2 .le .le (.con (.int 1)) (.bi .len [.var 0]) (.glo 37)))) [.ret (.con (.bl false))] [], .ret (.and_ (.bi .all [.comp false [1] (.call 42 [.var 1]) (.nm 1) .seq [.var 0] none]) (.cmp .eq (.bi .lenset [.var 0]) (.bi .len [.var 0])))]
def f43 : Fn := ⟨1, 2, b43, false⟩
def b44 : List S := [.if_ (.or_ (.not_ (.bi (.isin .tuple) [.var 0])) (.cmp .ne (.bi .len [.var 0]) (.con (.int 2)))) [.ret (.con (.bl false))] [], .asg (.tp [.nm 1, .nm 2]) (.var 0), .if_ (.cmp .eq (.var 1) (.con (.str [110, 117, 109, 98, 101, 114]))) [.ret (.call 23 [.var 2, .con (.int 1), .glo 36])] [], .if_ (.cmp .eq (.var 1) (.con (.str [116, 101, 120, 116]))) [.ret (.call 23 [.var 2, .con (.int 0), .glo 38])] [], .ret (.and_ (.cmp .eq (.var 1) (.con (.str [99, 104, 111, 105, 99, 101]))) (.call 43 [.var 2]))]
def f44 : Fn := ⟨1, 3, b44, false⟩
def b45 : List S := [.if_ (.or_ (.not_ (.bi (.isin .tuple) [.var 0])) (.cmp .ne (.bi .len [.var 0]) (.con (.int 2)))) [.ret (.con (.bl false))] [], .ret (.and_ (.call 42 [.idx (.var 0) (.con (.int 0))]) (.call 47 [.idx (.var 0) (.con (.int 1)), .var 1]))]
def f45 : Fn := ⟨2, 2, b45, false⟩
def b46 : List S := [.if_ (.or_ (.not_ (.bi (.isin .tuple) [.var 0])) (.cmp .gt (.bi .len [.var 0]) (.glo 40))) [.ret (.con (.bl false))] [], .if_ (.not_ (.bi .all [.comp false [2] (.call 45 [.var 2, .var 1]) (.nm 2) .seq [.var 0] none])) [.ret (.con (.bl false))] [], .ret (.cmp .eq (.bi .lenset [.comp false [2] (.idx (.var 2) (.con (.int 0))) (.nm 2) .seq [.var 0] none]) (.bi .len [.var 0]))]
def f46 : Fn := ⟨2, 3, b46, false⟩
def b47 : List S := [.if_ (.or_ (.not_ (.bi (.isin .tuple) [.var 0])) (.cmp .eq (.bi .len [.var 0]) (.con (.int 0)))) [.ret (.con (.bl false))] [], .if_ (.cmp .eq (.idx (.var 0) (.con (.int 0))) (.con (.str [108, 105, 115, 116]))) [.ret (.and_ (.cmp .eq (.bi .len [.var 0]) (.con (.int 3))) (.and_ (.call 44 [.idx (.var 0) (.con (.int 1))]) (.call 23 [.idx (.var 0) (.con (.int 2)), .con (.int 1), .glo 39])))] [], .if_ (.cmp .eq (.idx (.var 0) (.con (.int 0))) (.con (.str [114, 101, 99, 111, 114, 100]))) [.ret (.and_ (.cmp .eq (.bi .len [.var 0]) (.con (.int 2))) (.and_ (.cmp .gt (.var 1) (.con (.int 0))) (.call 46 [.idx (.var 0) (.con (.int 1)), .bin .sub (.var 1) (.con (.int 1))])))] [], .ret (.call 44 [.var 0])]
def f47 : Fn := ⟨2, 2, b47, false⟩
def b48 : List S := [.ret (.call 47 [.var 0, .glo 41])]
def f48 : Fn := ⟨1, 1, b48, false⟩
def b24 : List S := [.if_ (.or_ (.not_ (.bi (.isin .str) [.var 0])) (.cmp .gt (.bi .len [.var 0]) (.var 1))) [.ret (.con (.bl false))] [], .ret (.bi .all [.comp false [2] (.cmp2 .le .le (.con (.str [32])) (.var 2) (.con (.str [126]))) (.nm 2) .seq [.var 0] none])]
def f24 : Fn := ⟨2, 3, b24, false⟩
def b25 : List S := [.if_ (.cmp .ne (.bi .len [.var 1]) (.bi .len [.var 0])) [.ret (.con (.bl false))] [], .ret (.bi .all [.comp false [2, 3] (.call 26 [.idx (.var 2) (.con (.int 1)), .var 3]) (.tp [.nm 2, .nm 3]) .zip2 [.var 0, .var 1] none])]
def f25 : Fn := ⟨2, 4, b25, false⟩
def b26 : List S := [.if_ (.cmp .eq (.idx (.var 0) (.con (.int 0))) (.con (.str [110, 117, 109, 98, 101, 114]))) [.ret (.call 23 [.var 1, .con (.int 0), .bin .sub (.idx (.var 0) (.con (.int 1))) (.con (.int 1))])] [], .if_ (.cmp .eq (.idx (.var 0) (.con (.int 0))) (.con (.str [99, 104, 111, 105, 99, 101]))) [.ret (.and_ (.bi (.isin .str) [.var 1]) (.cmp .in_ (.var 1) (.idx (.var 0) (.con (.int 1)))))] [], .if_ (.cmp .eq (.idx (.var 0) (.con (.int 0))) (.con (.str [116, 101, 120, 116]))) [.ret (.call 24 [.var 1, .idx (.var 0) (.con (.int 1))])] [], .if_ (.not_ (.bi (.isin .tuple) [.var 1])) [.ret (.con (.bl false))] [], .if_ (.cmp .eq (.idx (.var 0) (.con (.int 0))) (.con (.str [108, 105, 115, 116]))) [.ret (.and_ (.cmp .le (.bi .len [.var 1]) (.idx (.var 0) (.con (.int 2)))) (.bi .all [.comp false [2] (.call 26 [.idx (.var 0) (.con (.int 1)), .var 2]) (.nm 2) .seq [.var 1] none]))] [], .ret (.call 25 [.idx (.var 0) (.con (.int 1)), .var 1])]
def f26 : Fn := ⟨2, 3, b26, false⟩
def b130 : List S := [.if_ (.not_ (.var 0)) [.raise_ 129] []]
def f130 : Fn := ⟨1, 1, b130, false⟩
def b131 : List S := [.for_ [0, 2, 3] (.tp [.nm 2, .nm 3]) .enum [.var 0] [.if_ (.cmp .eq (.idx (.var 3) (.con (.int 0))) (.var 1)) [.ret (.var 2)] []], .raise_ 129]
def f131 : Fn := ⟨2, 4, b131, false⟩
def b132 : List S := [.ret (.bin .add (.slc (.var 0) none (some (.var 1))) (.slc (.var 0) (some (.bin .add (.var 1) (.con (.int 1)))) none))]
def f132 : Fn := ⟨2, 2, b132, false⟩
def b133 : List S := [.expr (.call 130 [.call 23 [.var 1, .con (.int 0), .bi .len [.var 0]]]), .ret (.bin .add (.bin .add (.slc (.var 0) none (some (.var 1))) (.tup [.var 2])) (.slc (.var 0) (some (.var 1)) none))]
def f133 : Fn := ⟨3, 3, b133, false⟩
def b134 : List S := [.ret (.bin .add (.bin .add (.slc (.var 0) none (some (.var 1))) (.var 2)) (.slc (.var 0) (some (.bin .add (.var 1) (.con (.int 1)))) none))]
def f134 : Fn := ⟨3, 3, b134, false⟩
def b135 : List S := [.ret (.call 133 [.var 0, .idx (.var 1) (.con (.int 2)), .tup [.idx (.var 1) (.con (.int 3)), .idx (.var 1) (.con (.int 4))]])]
def f135 : Fn := ⟨2, 2, b135, false⟩
def b136 : List S := [.expr (.call 130 [.and_ (.call 48 [.idx (.var 1) (.con (.int 4))]) (.call 26 [.idx (.var 1) (.con (.int 4)), .idx (.var 1) (.con (.int 5))])]), .ret (.call 135 [.var 0, .var 1])]
def f136 : Fn := ⟨2, 2, b136, false⟩
def b137 : List S := [.ret (.call 132 [.var 0, .call 131 [.var 0, .idx (.var 1) (.con (.int 2))]])]
def f137 : Fn := ⟨2, 2, b137, false⟩
def b138 : List S := [.expr (.call 130 [.call 26 [.idx (.idx (.var 0) (.call 131 [.var 0, .idx (.var 1) (.con (.int 2))])) (.con (.int 1)), .idx (.var 1) (.con (.int 3))]]), .ret (.call 137 [.var 0, .var 1])]
def f138 : Fn := ⟨2, 2, b138, false⟩
def b139 : List S := [.asg (.tp [.nm 3, .nm 4]) (.slc (.var 1) (some (.con (.int 2))) none), .asg (.nm 2) (.call 131 [.var 0, .var 3]), .expr (.call 130 [.cmp .ne (.var 3) (.var 4)]), .ret (.call 134 [.var 0, .var 2, .tup [.tup [.var 4, .idx (.idx (.var 0) (.var 2)) (.con (.int 1))]]])]
def f139 : Fn := ⟨2, 5, b139, false⟩
def b140 : List S := [.asg (.tp [.nm 3, .nm 4]) (.slc (.var 1) (some (.con (.int 2))) none), .asg (.nm 2) (.call 131 [.var 0, .var 3]), .ret (.call 133 [.call 132 [.var 0, .var 2], .var 4, .idx (.var 0) (.var 2)])]
def f140 : Fn := ⟨2, 5, b140, false⟩
def b141 : List S := [.asg (.nm 2) (.call 131 [.var 0, .var 1]), .expr (.call 130 [.cmp .eq (.idx (.idx (.idx (.var 0) (.var 2)) (.con (.int 1))) (.con (.int 0))) (.con (.str [114, 101, 99, 111, 114, 100]))]), .ret (.tup [.var 2, .idx (.idx (.idx (.var 0) (.var 2)) (.con (.int 1))) (.con (.int 1))])]
def f141 : Fn := ⟨2, 3, b141, false⟩
def b142 : List S := [.asg (.tp [.nm 4, .nm 5, .nm 6]) (.slc (.var 1) (some (.con (.int 2))) none), .asg (.nm 2) (.call 131 [.var 0, .var 4]), .asg (.nm 3) (.call 132 [.var 0, .var 2]), .asg (.tp [.nm 7, .nm 8]) (.call 141 [.var 3, .var 5]), .ret (.call 134 [.var 3, .var 7, .tup [.tup [.var 5, .tup [.con (.str [114, 101, 99, 111, 114, 100]), .call 133 [.var 8, .var 6, .idx (.var 0) (.var 2)]]]]])]
def f142 : Fn := ⟨2, 9, b142, false⟩
def b143 : List S := [.asg (.tp [.nm 4, .nm 5, .nm 6]) (.slc (.var 1) (some (.con (.int 2))) none), .asg (.tp [.nm 7, .nm 8]) (.call 141 [.var 0, .var 4]), .asg (.nm 2) (.call 131 [.var 8, .var 5]), .asg (.nm 3) (.call 134 [.var 0, .var 7, .tup [.tup [.var 4, .tup [.con (.str [114, 101, 99, 111, 114, 100]), .call 132 [.var 8, .var 2]]]]]), .ret (.call 133 [.var 3, .var 6, .idx (.var 8) (.var 2)])]
def f143 : Fn := ⟨2, 9, b143, false⟩
def b144 : List S := [.expr (.call 130 [.cmp .eq (.idx (.var 0) (.con (.int 0))) (.con (.str [110, 117, 109, 98, 101, 114]))]), .ret (.idx (.var 0) (.con (.int 1)))]
def f144 : Fn := ⟨1, 1, b144, false⟩
def b145 : List S := [.asg (.tp [.nm 4, .nm 5, .nm 6, .nm 7]) (.slc (.var 1) (some (.con (.int 2))) none), .asg (.nm 2) (.call 131 [.var 0, .var 4]), .asg (.nm 3) (.call 144 [.idx (.idx (.var 0) (.var 2)) (.con (.int 1))]), .expr (.call 130 [.and_ (.call 23 [.var 7, .con (.int 1), .var 3]) (.cmp .eq (.idx (.bi .divmod [.var 3, .var 7]) (.con (.int 1))) (.con (.int 0)))]), .ret (.call 134 [.var 0, .var 2, .tup [.tup [.var 5, .tup [.con (.str [110, 117, 109, 98, 101, 114]), .bin .fdiv (.var 3) (.var 7)]], .tup [.var 6, .tup [.con (.str [110, 117, 109, 98, 101, 114]), .var 7]]]])]
def f145 : Fn := ⟨2, 8, b145, false⟩
def b146 : List S := [.asg (.tp [.nm 4, .nm 5, .nm 6]) (.slc (.var 1) (some (.con (.int 2))) none), .asg (.nm 2) (.call 131 [.var 0, .var 4]), .expr (.call 130 [.cmp .eq (.call 131 [.var 0, .var 5]) (.bin .add (.var 2) (.con (.int 1)))]), .asg (.nm 3) (.bin .mul (.call 144 [.idx (.idx (.var 0) (.var 2)) (.con (.int 1))]) (.call 144 [.idx (.idx (.var 0) (.bin .add (.var 2) (.con (.int 1)))) (.con (.int 1))])), .ret (.call 134 [.call 132 [.var 0, .bin .add (.var 2) (.con (.int 1))], .var 2, .tup [.tup [.var 6, .tup [.con (.str [110, 117, 109, 98, 101, 114]), .var 3]]]])]
def f146 : Fn := ⟨2, 7, b146, false⟩
def b147 : List S := [.asg (.tp [.nm 2, .nm 3, .nm 4, .nm 5]) (.var 1), .expr (.call 130 [.and_ (.call 23 [.var 2, .con (.int 1), .glo 120]) (.and_ (.call 23 [.var 3, .con (.int 1), .glo 120]) (.bi (.isin .bool) [.var 5]))]), .expr (.call 130 [.and_ (.call 23 [.var 4, .con (.int 1), .glo 121]) (.cmp .lt (.bin .fdiv (.bin .mul (.bin .sub (.call 144 [.var 0]) (.con (.int 1))) (.var 2)) (.var 3)) (.var 4))]), .ret (.tup [.con (.str [110, 117, 109, 98, 101, 114]), .var 4])]
def f147 : Fn := ⟨2, 6, b147, false⟩
def b148 : List S := [.asg (.tp [.nm 2, .nm 3, .nm 4]) (.var 1), .expr (.call 130 [.and_ (.cmp .eq (.idx (.var 0) (.con (.int 0))) (.con (.str [99, 104, 111, 105, 99, 101]))) (.or_ (.cmp .isN (.var 4) (.con .non)) (.cmp .in_ (.var 4) (.idx (.var 0) (.con (.int 1)))))]), .ret (.tup [.con (.str [99, 104, 111, 105, 99, 101]), .call 133 [.idx (.var 0) (.con (.int 1)), .var 2, .var 3]])]
def f148 : Fn := ⟨2, 5, b148, false⟩
def b149 : List S := [.asg (.tp [.nm 2, .nm 3]) (.var 1), .expr (.call 130 [.and_ (.cmp .eq (.idx (.var 0) (.con (.int 0))) (.con (.str [116, 101, 120, 116]))) (.and_ (.call 23 [.var 2, .idx (.var 0) (.con (.int 1)), .glo 121]) (.bi (.isin .bool) [.var 3]))]), .ret (.tup [.con (.str [116, 101, 120, 116]), .var 2])]
def f149 : Fn := ⟨2, 4, b149, false⟩
def b150 : List S := [.if_ (.cmp .eq (.var 1) (.con (.str [109, 97, 110, 121]))) [.expr (.call 130 [.cmp .in_ (.idx (.var 0) (.con (.int 0))) (.glo 122)]), .ret (.bin .add (.tup [.con (.str [108, 105, 115, 116]), .var 0]) (.var 2))] [], .if_ (.cmp .eq (.idx (.var 0) (.con (.int 0))) (.con (.str [108, 105, 115, 116]))) [.ret (.tup [.con (.str [108, 105, 115, 116]), .call 150 [.idx (.var 0) (.con (.int 1)), .var 1, .var 2], .idx (.var 0) (.con (.int 2))])] [], .if_ (.cmp .eq (.var 1) (.con (.str [115, 99, 97, 108, 101]))) [.ret (.call 147 [.var 0, .var 2])] [], .if_ (.cmp .eq (.var 1) (.con (.str [109, 111, 114, 101]))) [.ret (.call 148 [.var 0, .var 2])] [], .ret (.call 149 [.var 0, .var 2])]
def f150 : Fn := ⟨3, 3, b150, false⟩
def b151 : List S := [.asg (.nm 2) (.call 131 [.var 0, .idx (.var 1) (.con (.int 2))]), .ret (.call 134 [.var 0, .var 2, .tup [.tup [.idx (.var 1) (.con (.int 2)), .call 150 [.idx (.idx (.var 0) (.var 2)) (.con (.int 1)), .idx (.var 1) (.con (.int 0)), .slc (.var 1) (some (.con (.int 3))) none]]]])]
def f151 : Fn := ⟨2, 3, b151, false⟩
def b152 : List S := [.expr (.call 130 [.cmp .eq (.idx (.var 0) (.con (.int 0))) (.con (.str [114, 101, 99, 111, 114, 100]))]), .if_ (.cmp .eq (.var 1) (.tup [])) [.ret (.tup [.con (.str [114, 101, 99, 111, 114, 100]), .callv 2 [.idx (.var 0) (.con (.int 1))]])] [], .asg (.nm 3) (.call 131 [.idx (.var 0) (.con (.int 1)), .idx (.var 1) (.con (.int 0))]), .asg (.nm 4) (.call 152 [.idx (.idx (.idx (.var 0) (.con (.int 1))) (.var 3)) (.con (.int 1)), .slc (.var 1) (some (.con (.int 1))) none, .var 2]), .ret (.tup [.con (.str [114, 101, 99, 111, 114, 100]), .call 134 [.idx (.var 0) (.con (.int 1)), .var 3, .tup [.tup [.idx (.var 1) (.con (.int 0)), .var 4]]]])]
def f152 : Fn := ⟨3, 5, b152, false⟩
def b153 : List S := [.if_ (.or_ (.not_ (.bi (.isin .tuple) [.var 0])) (.or_ (.cmp .lt (.bi .len [.var 0]) (.con (.int 2))) (.or_ (.not_ (.bi (.isin .str) [.idx (.var 0) (.con (.int 0))])) (.not_ (.bi (.isin .tuple) [.idx (.var 0) (.con (.int 1))]))))) [.ret (.con (.bl false))] [], .ret (.cmp .eq (.tget 123 [([112, 117, 116], .int 6), ([100, 114, 111, 112], .int 4), ([110, 97, 109, 101], .int 4), ([115, 104, 105, 102, 116], .int 4), ([119, 105, 116, 104, 105, 110], .int 5), ([111, 117, 116], .int 5), ([112, 97, 114, 116], .int 6), ([106, 111, 105, 110], .int 5)] (.idx (.var 0) (.con (.int 0))) (.tget 124 [([115, 99, 97, 108, 101], .int 7), ([109, 111, 114, 101], .int 6), ([108, 111, 110, 103, 101, 114], .int 5), ([109, 97, 110, 121], .int 4)] (.idx (.var 0) (.con (.int 0))) (.con .non))) (.bi .len [.var 0]))]
def f153 : Fn := ⟨1, 1, b153, false⟩
def b154 : List S := [.expr (.call 130 [.call 153 [.var 1]]), .asg (.nm 2) (.tget 126 [([112, 117, 116], .fn 136 []), ([100, 114, 111, 112], .fn 138 [])] (.idx (.var 1) (.con (.int 0))) (.tget 125 [([112, 117, 116], .fn 135 []), ([100, 114, 111, 112], .fn 137 []), ([110, 97, 109, 101], .fn 139 []), ([115, 104, 105, 102, 116], .fn 140 []), ([119, 105, 116, 104, 105, 110], .fn 142 []), ([111, 117, 116], .fn 143 []), ([112, 97, 114, 116], .fn 145 []), ([106, 111, 105, 110], .fn 146 [])] (.idx (.var 1) (.con (.int 0))) (.fnv 151))), .asg (.nm 3) (.callL 152 [.var 0, .idx (.var 1) (.con (.int 1))] 1000188 [1, 2]), .expr (.call 130 [.call 48 [.var 3]]), .ret (.var 3)]
def f154 : Fn := ⟨2, 4, b154, false⟩
def b155 : List S := [.asg (.nm 2) (.lst true [.var 0]), .for_ [0, 1, 3, 4] (.nm 3) .seq [.var 1] [.asg (.nm 4) (.tget 125 [([112, 117, 116], .fn 135 []), ([100, 114, 111, 112], .fn 137 []), ([110, 97, 109, 101], .fn 139 []), ([115, 104, 105, 102, 116], .fn 140 []), ([119, 105, 116, 104, 105, 110], .fn 142 []), ([111, 117, 116], .fn 143 []), ([112, 97, 114, 116], .fn 145 []), ([106, 111, 105, 110], .fn 146 [])] (.idx (.var 3) (.con (.int 0))) (.fnv 151)), .expr (.me .append (.var 2) [.callL 152 [.idx (.var 2) (.neg (.con (.int 1))), .idx (.var 3) (.con (.int 1))] 1000189 [3, 4]])], .ret (.var 2)]
def f155 : Fn := ⟨2, 5, b155, true⟩
def b156 : List S := [.ret (.idx (.idx (.idx (.var 0) (.call 131 [.var 0, .var 1])) (.con (.int 1))) (.con (.int 1)))]
def f156 : Fn := ⟨2, 2, b156, false⟩
def b157 : List S := [.ret (.bi .divmod [.var 0, .var 1])]
def f157 : Fn := ⟨2, 2, b157, false⟩
def b158 : List S := [.if_ (.cmp .eq (.idx (.var 1) (.con (.int 0))) (.con (.str [112, 97, 114, 116]))) [.ret (.idx (.var 1) (.con (.int 5)))] [], .ret (.idx (.idx (.idx (.var 0) (.call 131 [.var 0, .idx (.var 1) (.con (.int 3))])) (.con (.int 1))) (.con (.int 1)))]
def f158 : Fn := ⟨2, 2, b158, false⟩
def b159 : List S := [.if_ (.cmp .eq (.idx (.var 0) (.con (.int 0))) (.con (.str [115, 99, 97, 108, 101]))) [.ret (.bin .fdiv (.bin .mul (.var 1) (.idx (.var 0) (.con (.int 3)))) (.idx (.var 0) (.con (.int 4))))] [], .ret (.var 1)]
def f159 : Fn := ⟨2, 2, b159, false⟩
def b160 : List S := [.asg (.tp [.nm 4, .nm 5, .nm 6, .nm 7]) (.slc (.var 1) (some (.con (.int 3))) none), .asg (.nm 3) (.bi .min2 [.bin .sub (.idx (.var 0) (.con (.int 1))) (.con (.int 1)), .bin .fdiv (.bin .sub (.bin .mul (.bin .add (.var 2) (.con (.int 1))) (.var 5)) (.con (.int 1))) (.var 4)]), .if_ (.or_ (.var 7) (.cmp .eq (.bin .fdiv (.bin .mul (.var 3) (.var 4)) (.var 5)) (.var 2))) [.ret (.var 3)] [], .ret (.con .non)]
def f160 : Fn := ⟨3, 8, b160, false⟩
def b161 : List S := [.if_ (.cmp .eq (.idx (.var 1) (.con (.int 0))) (.con (.str [115, 99, 97, 108, 101]))) [.ret (.call 160 [.var 0, .var 1, .var 2])] [], .if_ (.cmp .eq (.idx (.var 1) (.con (.int 0))) (.con (.str [109, 111, 114, 101]))) [.ret (.ite (.cmp .eq (.var 2) (.idx (.var 1) (.con (.int 4)))) (.idx (.var 1) (.con (.int 5))) (.var 2))] [], .if_ (.cmp .le (.bi .len [.var 2]) (.idx (.var 0) (.con (.int 1)))) [.ret (.var 2)] [], .ret (.ite (.idx (.var 1) (.con (.int 4))) (.slc (.var 2) none (some (.idx (.var 0) (.con (.int 1))))) (.con .non))]
def f161 : Fn := ⟨3, 3, b161, false⟩
def b162 : List S := [.if_ (.cmp .eq (.idx (.var 1) (.con (.int 0))) (.con (.str [109, 97, 110, 121]))) [.ret (.tup [.var 2])] [], .if_ (.cmp .eq (.idx (.var 0) (.con (.int 0))) (.con (.str [108, 105, 115, 116]))) [.ret (.bi .tuple [.comp false [3] (.call 159 [.var 1, .var 3]) (.nm 3) .seq [.var 2] none])] [], .ret (.call 159 [.var 1, .var 2])]
def f162 : Fn := ⟨3, 4, b162, false⟩
def b163 : List S := [.if_ (.cmp .eq (.idx (.var 1) (.con (.int 0))) (.con (.str [109, 97, 110, 121]))) [.ret (.ite (.cmp .eq (.bi .len [.var 2]) (.con (.int 1))) (.idx (.var 2) (.con (.int 0))) (.con .non))] [], .if_ (.cmp .ne (.idx (.var 0) (.con (.int 0))) (.con (.str [108, 105, 115, 116]))) [.ret (.call 161 [.var 0, .var 1, .var 2])] [], .asg (.nm 3) (.bi .tuple [.comp false [4] (.call 161 [.idx (.var 0) (.con (.int 1)), .var 1, .var 4]) (.nm 4) .seq [.var 2] none]), .if_ (.cmp .in_ (.con .non) (.var 3)) [.ret (.con .non)] [], .ret (.var 3)]
def f163 : Fn := ⟨3, 5, b163, false⟩
def b164 : List S := [.if_ (.cmp .eq (.idx (.var 1) (.con (.int 0))) (.con (.str [112, 117, 116]))) [.ret (.call 133 [.var 2, .idx (.var 1) (.con (.int 2)), .idx (.var 1) (.con (.int 5))])] [], .ret (.call 132 [.var 2, .call 131 [.var 0, .idx (.var 1) (.con (.int 2))]])]
def f164 : Fn := ⟨3, 3, b164, false⟩
def b165 : List S := [.if_ (.cmp .eq (.idx (.var 1) (.con (.int 0))) (.con (.str [112, 117, 116]))) [.ret (.call 132 [.var 2, .idx (.var 1) (.con (.int 2))])] [], .ret (.call 133 [.var 2, .call 131 [.var 0, .idx (.var 1) (.con (.int 2))], .idx (.var 1) (.con (.int 3))])]
def f165 : Fn := ⟨3, 3, b165, false⟩
def b166 : List S := [.asg (.nm 3) (.call 131 [.var 0, .idx (.var 1) (.con (.int 2))]), .ret (.call 133 [.call 132 [.var 2, .var 3], .idx (.var 1) (.con (.int 3)), .idx (.var 2) (.var 3)])]
def f166 : Fn := ⟨3, 4, b166, false⟩
def b167 : List S := [.ret (.call 133 [.call 132 [.var 2, .idx (.var 1) (.con (.int 3))], .call 131 [.var 0, .idx (.var 1) (.con (.int 2))], .idx (.var 2) (.idx (.var 1) (.con (.int 3)))])]
def f167 : Fn := ⟨3, 3, b167, false⟩
def b168 : List S := [.asg (.nm 3) (.call 131 [.var 0, .idx (.var 1) (.con (.int 2))]), .asg (.nm 4) (.call 131 [.call 132 [.var 0, .var 3], .idx (.var 1) (.con (.int 3))]), .asg (.nm 5) (.call 132 [.var 2, .var 3]), .ret (.call 134 [.var 5, .var 4, .tup [.call 133 [.idx (.var 5) (.var 4), .idx (.var 1) (.con (.int 4)), .idx (.var 2) (.var 3)]]])]
def f168 : Fn := ⟨3, 6, b168, false⟩
def b169 : List S := [.asg (.nm 3) (.call 131 [.var 0, .idx (.var 1) (.con (.int 2))]), .asg (.nm 4) (.call 131 [.call 132 [.var 0, .var 3], .idx (.var 1) (.con (.int 3))]), .ret (.call 133 [.call 134 [.var 2, .var 4, .tup [.call 132 [.idx (.var 2) (.var 4), .idx (.var 1) (.con (.int 4))]]], .var 3, .idx (.idx (.var 2) (.var 4)) (.idx (.var 1) (.con (.int 4)))])]
def f169 : Fn := ⟨3, 5, b169, false⟩
def b170 : List S := [.asg (.nm 3) (.call 131 [.var 0, .idx (.var 1) (.con (.int 2))]), .asg (.nm 4) (.call 131 [.call 156 [.var 0, .idx (.var 1) (.con (.int 2))], .idx (.var 1) (.con (.int 3))]), .ret (.call 133 [.call 134 [.var 2, .var 3, .tup [.call 132 [.idx (.var 2) (.var 3), .var 4]]], .idx (.var 1) (.con (.int 4)), .idx (.idx (.var 2) (.var 3)) (.var 4)])]
def f170 : Fn := ⟨3, 5, b170, false⟩
def b171 : List S := [.asg (.nm 3) (.call 131 [.var 0, .idx (.var 1) (.con (.int 2))]), .asg (.nm 4) (.call 131 [.call 156 [.var 0, .idx (.var 1) (.con (.int 2))], .idx (.var 1) (.con (.int 3))]), .asg (.nm 5) (.call 132 [.var 2, .idx (.var 1) (.con (.int 4))]), .ret (.call 134 [.var 5, .var 3, .tup [.call 133 [.idx (.var 5) (.var 3), .var 4, .idx (.var 2) (.idx (.var 1) (.con (.int 4)))]]])]
def f171 : Fn := ⟨3, 6, b171, false⟩
def b172 : List S := [.asg (.nm 3) (.call 131 [.var 0, .idx (.var 1) (.con (.int 2))]), .ret (.call 134 [.var 2, .var 3, .call 157 [.idx (.var 2) (.var 3), .call 158 [.var 0, .var 1]]])]
def f172 : Fn := ⟨3, 4, b172, false⟩
def b173 : List S := [.asg (.nm 3) (.call 131 [.var 0, .idx (.var 1) (.con (.int 2))]), .ret (.call 134 [.call 132 [.var 2, .bin .add (.var 3) (.con (.int 1))], .var 3, .tup [.bin .add (.bin .mul (.idx (.var 2) (.var 3)) (.call 158 [.var 0, .var 1])) (.idx (.var 2) (.bin .add (.var 3) (.con (.int 1))))]])]
def f173 : Fn := ⟨3, 4, b173, false⟩
def b174 : List S := [.asg (.nm 3) (.call 131 [.var 0, .idx (.var 1) (.con (.int 2))]), .ret (.call 134 [.call 132 [.var 2, .bin .add (.var 3) (.con (.int 1))], .var 3, .tup [.bin .add (.bin .mul (.idx (.var 2) (.var 3)) (.call 158 [.var 0, .var 1])) (.idx (.var 2) (.bin .add (.var 3) (.con (.int 1))))]])]
def f174 : Fn := ⟨3, 4, b174, false⟩
def b175 : List S := [.asg (.nm 3) (.call 131 [.var 0, .idx (.var 1) (.con (.int 2))]), .ret (.call 134 [.var 2, .var 3, .call 157 [.idx (.var 2) (.var 3), .call 158 [.var 0, .var 1]]])]
def f175 : Fn := ⟨3, 4, b175, false⟩
def b176 : List S := [.if_ (.cmp .eq (.idx (.var 1) (.con (.int 0))) (.con (.str [110, 97, 109, 101]))) [.ret (.var 2)] [], .asg (.nm 3) (.call 131 [.var 0, .idx (.var 1) (.con (.int 2))]), .ret (.call 134 [.var 2, .var 3, .tup [.call 162 [.idx (.idx (.var 0) (.var 3)) (.con (.int 1)), .var 1, .idx (.var 2) (.var 3)]]])]
def f176 : Fn := ⟨3, 4, b176, false⟩
def b177 : List S := [.if_ (.cmp .eq (.idx (.var 1) (.con (.int 0))) (.con (.str [110, 97, 109, 101]))) [.ret (.var 2)] [], .asg (.nm 3) (.call 131 [.var 0, .idx (.var 1) (.con (.int 2))]), .asg (.nm 4) (.call 163 [.idx (.idx (.var 0) (.var 3)) (.con (.int 1)), .var 1, .idx (.var 2) (.var 3)]), .if_ (.cmp .isN (.var 4) (.con .non)) [.ret (.con .non)] [], .ret (.call 134 [.var 2, .var 3, .tup [.var 4]])]
def f177 : Fn := ⟨3, 5, b177, false⟩
def b178 : List S := [.if_ (.cmp .eq (.var 1) (.tup [])) [.ret (.callv 3 [.idx (.var 0) (.con (.int 1)), .var 2])] [], .asg (.nm 4) (.call 131 [.idx (.var 0) (.con (.int 1)), .idx (.var 1) (.con (.int 0))]), .asg (.nm 5) (.call 178 [.idx (.idx (.idx (.var 0) (.con (.int 1))) (.var 4)) (.con (.int 1)), .slc (.var 1) (some (.con (.int 1))) none, .idx (.var 2) (.var 4), .var 3]), .if_ (.cmp .isN (.var 5) (.con .non)) [.ret (.con .non)] [], .ret (.call 134 [.var 2, .var 4, .tup [.var 5]])]
def f178 : Fn := ⟨4, 6, b178, false⟩
def b179 : List S := [.for_ [0, 1, 3, 4, 5] (.tp [.nm 3, .nm 4]) .zip2 [.call 155 [.var 0, .var 1], .var 1] [.asg (.nm 5) (.tget 127 [([112, 117, 116], .fn 164 []), ([100, 114, 111, 112], .fn 164 []), ([115, 104, 105, 102, 116], .fn 166 []), ([119, 105, 116, 104, 105, 110], .fn 168 []), ([111, 117, 116], .fn 170 []), ([112, 97, 114, 116], .fn 172 []), ([106, 111, 105, 110], .fn 174 [])] (.idx (.var 4) (.con (.int 0))) (.fnv 176)), .asg (.nm 2) (.callL 178 [.var 3, .idx (.var 4) (.con (.int 1)), .var 2] 1000190 [4, 5])], .ret (.var 2)]
def f179 : Fn := ⟨3, 6, b179, false⟩
def b180 : List S := [.for_ [0, 1, 3, 4, 5] (.tp [.nm 3, .nm 4]) .rev [.zipL (.call 155 [.var 0, .var 1]) (.var 1)] [.asg (.nm 5) (.tget 128 [([112, 117, 116], .fn 165 []), ([100, 114, 111, 112], .fn 165 []), ([115, 104, 105, 102, 116], .fn 167 []), ([119, 105, 116, 104, 105, 110], .fn 169 []), ([111, 117, 116], .fn 171 []), ([112, 97, 114, 116], .fn 173 []), ([106, 111, 105, 110], .fn 175 [])] (.idx (.var 4) (.con (.int 0))) (.fnv 177)), .asg (.nm 2) (.callL 178 [.var 3, .idx (.var 4) (.con (.int 1)), .var 2] 1000191 [4, 5]), .if_ (.cmp .isN (.var 2) (.con .non)) [.ret (.con .non)] []], .ret (.var 2)]
def f180 : Fn := ⟨3, 6, b180, false⟩
def b3 : List S := [.if_ (.cmp .lt (.var 1) (.bi .len [.var 0])) [.ret (.idx (.var 0) (.var 1))] [], .ret (.con (.int 0))]
def f3 : Fn := ⟨2, 2, b3, false⟩
def b181 : List S := [.ret (.lst true [.idx (.lst false [.con (.int 0), .var 0]) (.bi .int [.cmp .ge (.var 0) (.bin .pow (.con (.int 10)) (.con (.int 18)))]), .bin .mod (.var 0) (.con (.int 2147483647))])]
def f181 : Fn := ⟨1, 1, b181, false⟩
def b182 : List S := [.if_ (.cmp .gt (.idx (.var 0) (.con (.int 0))) (.con (.int 0))) [.asg (.nm 3) (.bin .mod (.idx (.var 0) (.con (.int 0))) (.var 1)), .setIdx (.var 0) (.con (.int 0)) (.bin .fdiv (.idx (.var 0) (.con (.int 0))) (.var 1)), .ret (.var 3)] [], .asg (.nm 2) (.bin .mod (.bin .add (.bin .mul (.idx (.var 0) (.con (.int 1))) (.con (.int 48271))) (.con (.int 7919))) (.con (.int 2147483647))), .setIdx (.var 0) (.con (.int 1)) (.bin .mod (.bin .add (.bin .add (.bin .mul (.var 2) (.var 2)) (.bin .mul (.con (.int 69621)) (.var 2))) (.con (.int 7))) (.con (.int 2147483629))), .ret (.bin .mod (.bin .fdiv (.bin .mod (.bin .add (.bin .mul (.idx (.var 0) (.con (.int 1))) (.con (.int 16807))) (.var 2)) (.con (.int 2147483587))) (.con (.int 16))) (.var 1))]
def f182 : Fn := ⟨2, 4, b182, false⟩
def b192 : List S := [.asg (.nm 2) (.con (.str [97, 98, 99, 100, 101, 102, 103, 104, 105, 106, 107, 108, 109, 110, 111, 112, 113, 114, 115, 116, 117, 118, 119, 120, 121, 122])), .asg (.nm 3) (.me .join (.con (.str [])) [.comp false [6] (.idx (.var 2) (.call 182 [.var 0, .con (.int 26)])) (.nm 6) .rng1 [.bin .add (.con (.int 1)) (.call 182 [.var 0, .con (.int 8)])] none]), .if_ (.and_ (.cmp .ne (.var 1) (.lst false [])) (.cmp .eq (.call 182 [.var 0, .con (.int 3)]) (.con (.int 0)))) [.asg (.nm 3) (.slc (.bin .add (.idx (.var 1) (.neg (.con (.int 1)))) (.var 3)) none (some (.con (.int 8))))] [], .asg (.nm 4) (.comp false [5] (.bin .mul (.var 5) (.con (.int 8))) (.nm 5) .seq [.var 2] (some (.cmp .nin (.bin .mul (.var 5) (.con (.int 8))) (.var 1)))), .ret (.idx (.lst false [.var 3, .idx (.var 4) (.con (.int 0))]) (.bi .int [.cmp .in_ (.var 3) (.var 1)]))]
def f192 : Fn := ⟨2, 7, b192, false⟩
def b193 : List S := [.asg (.nm 2) (.lst true []), .for_ [1, 3] (.nm 3) .rng1 [.var 1] [.expr (.me .append (.var 2) [.call 192 [.var 0, .var 2]])], .ret (.var 2)]
def f193 : Fn := ⟨2, 4, b193, true⟩
def b194 : List S := [.asg (.nm 2) (.con (.str [32, 33, 34, 35, 36, 38, 39, 40, 41, 42, 43, 44, 45, 46, 47, 48, 49, 50, 51, 52, 53, 54, 55, 56, 57, 58, 59, 60, 61, 62, 63, 64, 65, 66, 67, 68, 69, 70, 71, 72, 73, 74, 75, 76, 77, 78, 79, 80, 81, 82, 83, 84, 85, 86, 87, 88, 89, 90, 91, 92, 93, 94, 95, 96, 97, 98, 99, 100, 101, 102, 103, 104, 105, 106, 107, 108, 109, 110, 111, 112, 113, 114, 115, 116, 117, 118, 119, 120, 121, 122, 123, 124, 125, 126])), .ret (.me .join (.con (.str [])) [.comp false [3] (.idx (.var 2) (.call 182 [.var 0, .con (.int 94)])) (.nm 3) .rng1 [.var 1] none])]
def f194 : Fn := ⟨2, 4, b194, false⟩
def b200 : List S := [.asg (.nm 1) (.call 182 [.var 0, .con (.int 21)]), .asg (.nm 2) (.bin .add (.var 1) (.call 182 [.var 0, .bin .sub (.con (.int 21)) (.var 1)])), .asg (.nm 3) (.cmp .eq (.call 182 [.var 0, .con (.int 2)]) (.con (.int 1))), .asg (.nm 4) (.lst true []), .for_ [5, 6] (.nm 5) .rng1 [.bin .add (.var 2) (.con (.int 1))] [.asg (.nm 6) (.call 194 [.var 0, .var 5]), .expr (.me .append (.var 4) [.tup [.var 6, .ite (.cmp .le (.var 5) (.var 1)) (.var 6) (.idx (.lst false [.con .non, .slc (.var 6) none (some (.var 1))]) (.bi .int [.var 3]))]])], .ret (.tup [.tup [.con (.str [116, 101, 120, 116]), .var 1], .tup [.con (.str [108, 111, 110, 103, 101, 114]), .tup [], .con (.str [97]), .var 2, .var 3], .var 4])]
def f200 : Fn := ⟨1, 7, b200, false⟩
def b196 : List S := [.asg (.nm 1) (.call 193 [.var 0, .bin .add (.con (.int 1)) (.call 182 [.var 0, .con (.int 5)])]), .asg (.nm 2) (.call 192 [.var 0, .var 1]), .asg (.nm 3) (.idx (.lst false [.con .non, .idx (.var 1) (.call 182 [.var 0, .bi .len [.var 1]])]) (.call 182 [.var 0, .con (.int 2)])), .asg (.nm 4) (.call 182 [.var 0, .bin .add (.bi .len [.var 1]) (.con (.int 1))]), .asg (.nm 5) (.bin .add (.comp false [6] (.tup [.var 6, .var 6]) (.nm 6) .seq [.var 1] none) (.lst false [.tup [.var 2, .var 3]])), .ret (.tup [.tup [.con (.str [99, 104, 111, 105, 99, 101]), .bi .tuple [.var 1]], .tup [.con (.str [109, 111, 114, 101]), .tup [], .con (.str [97]), .var 4, .var 2, .var 3], .var 5])]
def f196 : Fn := ⟨1, 7, b196, false⟩
def b197 : List S := [.asg (.nm 1) (.tup [.con (.str [114, 101, 99, 111, 114, 100]), .tup [.tup [.con (.str [98]), .tup [.con (.str [110, 117, 109, 98, 101, 114]), .con (.int 3)]], .tup [.con (.str [97]), .tup [.con (.str [108, 105, 115, 116]), .var 1, .var 4]]]]), .for_ [5, 6, 7, 8, 9] (.nm 5) .rng1 [.con (.int 6)] [.asg (.nm 6) (.comp false [9] (.idx (.var 3) (.call 182 [.var 0, .bi .len [.var 3]])) (.nm 9) .rng1 [.call 182 [.var 0, .bin .add (.var 4) (.con (.int 1))]] none), .asg (.nm 7) (.comp false [10, 11] (.var 11) (.tp [.nm 10, .nm 11]) .seq [.var 6] none), .asg (.nm 7) (.ite (.cmp .in_ (.con .non) (.var 7)) (.con .non) (.tup [.con (.int 2), .bi .tuple [.var 7]])), .if_ (.cmp .ne (.call 180 [.var 1, .tup [.var 2], .tup [.con (.int 2), .bi .tuple [.comp false [10, 11] (.var 10) (.tp [.nm 10, .nm 11]) .seq [.var 6] none]]]) (.var 7)) [.ret (.con (.bl false))] [], .asg (.nm 8) (.bi .tuple [.comp false [10, 11] (.var 10) (.tp [.nm 10, .nm 11]) .seq [.var 6] (some (.cmp .eq (.var 11) (.var 10)))]), .if_ (.cmp .ne (.call 179 [.var 1, .tup [.var 2], .tup [.con (.int 1), .var 8]]) (.tup [.con (.int 1), .var 8])) [.ret (.con (.bl false))] []], .ret (.con (.bl true))]
def f197 : Fn := ⟨5, 12, b197, false⟩
def b198 : List S := [.asg (.nm 3) (.bin .add (.con (.int 1)) (.call 182 [.var 0, .con (.int 4)])), .asg (.nm 4) (.tup [.con (.str [109, 97, 110, 121]), .tup [], .con (.str [97]), .var 3]), .asg (.nm 5) (.tup [.con (.str [114, 101, 99, 111, 114, 100]), .tup [.tup [.con (.str [97]), .var 1]]]), .if_ (.cmp .ne (.call 154 [.var 5, .var 4]) (.tup [.con (.str [114, 101, 99, 111, 114, 100]), .tup [.tup [.con (.str [97]), .tup [.con (.str [108, 105, 115, 116]), .var 1, .var 3]]]])) [.ret (.con (.bl false))] [], .for_ [0, 1, 2, 6, 7, 8] (.tp [.nm 6, .nm 7]) .seq [.var 2] [.if_ (.cmp .eq (.var 7) (.var 6)) [.if_ (.or_ (.cmp .ne (.call 179 [.var 5, .tup [.var 4], .tup [.var 6]]) (.tup [.tup [.var 6]])) (.cmp .ne (.call 180 [.var 5, .tup [.var 4], .tup [.tup [.var 6]]]) (.tup [.var 6]))) [.ret (.con (.bl false))] [], .for_ [0, 1, 2, 7, 8] (.nm 8) .seq [.lst false [.con (.int 0), .con (.int 2), .con (.int 3), .con (.int 4)]] [.if_ (.and_ (.cmp .le (.var 8) (.var 3)) (.cmp .notN (.call 180 [.var 5, .tup [.var 4], .tup [.bin .mul (.tup [.var 6]) (.var 8)]]) (.con .non))) [.ret (.con (.bl false))] []]] []], .ret (.con (.bl true))]
def f198 : Fn := ⟨3, 9, b198, false⟩
def b201 : List S := [.for_ [1, 2, 3, 4, 5, 6, 7, 8, 9] (.nm 1) .rng1 [.bi .max2 [.con (.int 1), .bi .min2 [.bi .len [.var 0], .con (.int 8)]]] [.asg (.nm 2) (.call 181 [.call 3 [.var 0, .var 1]]), .for_ [1, 3, 4, 5, 6, 7, 8, 9] (.tp [.nm 4, .nm 5, .nm 6]) .seq [.lst false [.call 200 [.var 2], .call 196 [.var 2]]] [.asg (.nm 7) (.tup [.con (.str [114, 101, 99, 111, 114, 100]), .tup [.tup [.con (.str [97]), .var 4], .tup [.con (.str [98]), .tup [.con (.str [116, 101, 120, 116]), .con (.int 0)]]]]), .for_ [1, 3, 8, 9] (.tp [.nm 8, .nm 9]) .seq [.var 6] [.if_ (.cmp .ne (.call 180 [.var 7, .tup [.var 5], .tup [.var 8, .con (.str [])]]) (.ite (.cmp .isN (.var 9) (.con .non)) (.con .non) (.tup [.var 9, .con (.str [])]))) [.ret (.con (.bl false))] [], .if_ (.and_ (.cmp .eq (.var 9) (.var 8)) (.cmp .ne (.call 179 [.var 7, .tup [.var 5], .tup [.var 8, .con (.str [])]]) (.tup [.var 8, .con (.str [])]))) [.ret (.con (.bl false))] []], .if_ (.not_ (.call 197 [.var 2, .var 4, .var 5, .var 6, .bin .add (.con (.int 1)) (.call 182 [.var 2, .con (.int 4)])])) [.ret (.con (.bl false))] [], .if_ (.not_ (.call 198 [.var 2, .var 4, .var 6])) [.ret (.con (.bl false))] []], .asg (.nm 3) (.bin .add (.con (.int 1)) (.call 182 [.var 2, .con (.int 24)])), .if_ (.not_ (.call 198 [.var 2, .tup [.con (.str [110, 117, 109, 98, 101, 114]), .var 3], .comp false [10] (.tup [.var 10, .var 10]) (.nm 10) .rng1 [.var 3] none])) [.ret (.con (.bl false))] []], .ret (.con (.bl true))]
def f201 : Fn := ⟨1, 11, b201, true⟩
def gC : List Cn := [.str 34 "SMALL" [97, 98, 99, 100, 101, 102, 103, 104, 105, 106, 107, 108, 109, 110, 111, 112, 113, 114, 115, 116, 117, 118, 119, 120, 121, 122], .int 35 "MOST_LETTERS" (8), .int 36 "MOST_NUMBER" (240), .int 37 "MOST_CHOICES" (6), .int 38 "MOST_SIGNS" (20), .int 39 "MOST_THINGS" (4), .int 40 "MOST_FIELDS" (8), .int 41 "MOST_DEEP" (3), .int 120 "MOST_BY" (60), .int 121 "MOST_TOLD" (1000000000), .tup 122 "LONE_FORMS" [[110, 117, 109, 98, 101, 114], [99, 104, 111, 105, 99, 101], [116, 101, 120, 116]]]
def top (i : Nat) : Stmt := PySem.Challenge.pw_everreader_k17_texts_choices_lists_back.main.body.getD i (.Pass ⟨0, 0, 0, 0⟩)
def d42 : DI := ⟨42, "is_name", none, "is_name", (top 6), ["thing", "sign"], ["thing"], f42⟩
def d23 : DI := ⟨23, "is_whole", none, "is_whole", (top 7), ["thing", "least", "most"], ["thing", "least", "most"], f23⟩
def d43 : DI := ⟨43, "are_choices", none, "are_choices", (top 15), ["thing", "one"], ["thing"], f43⟩
def d44 : DI := ⟨44, "is_plain", none, "is_plain", (top 16), ["thing", "word", "more"], ["thing"], f44⟩
def d45 : DI := ⟨45, "is_field", none, "is_field", (top 17), ["thing", "deep"], ["thing", "deep"], f45⟩
def d46 : DI := ⟨46, "are_fields", none, "are_fields", (top 18), ["thing", "deep", "one"], ["thing", "deep"], f46⟩
def d47 : DI := ⟨47, "is_form_to", none, "is_form_to", (top 19), ["thing", "deep"], ["thing", "deep"], f47⟩
def d48 : DI := ⟨48, "is_form", none, "is_form", (top 20), ["thing"], ["thing"], f48⟩
def d24 : DI := ⟨24, "is_line", none, "is_line", (top 22), ["thing", "most", "sign"], ["thing", "most"], f24⟩
def d25 : DI := ⟨25, "are_values", none, "are_values", (top 23), ["fields", "thing", "field", "one"], ["fields", "thing"], f25⟩
def d26 : DI := ⟨26, "is_value", none, "is_value", (top 24), ["form", "thing", "one"], ["form", "thing"], f26⟩
def d130 : DI := ⟨130, "must", none, "must", (top 31), ["good"], ["good"], f130⟩
def d131 : DI := ⟨131, "place_of", none, "place_of", (top 32), ["fields", "name", "k", "field"], ["fields", "name"], f131⟩
def d132 : DI := ⟨132, "without", none, "without", (top 33), ["row", "k"], ["row", "k"], f132⟩
def d133 : DI := ⟨133, "put_in", none, "put_in", (top 34), ["row", "k", "one"], ["row", "k", "one"], f133⟩
def d134 : DI := ⟨134, "exchanged", none, "exchanged", (top 35), ["row", "k", "others"], ["row", "k", "others"], f134⟩
def d135 : DI := ⟨135, "put_behind", none, "put_behind", (top 36), ["fields", "move"], ["fields", "move"], f135⟩
def d136 : DI := ⟨136, "put_looked", none, "put_looked", (top 37), ["fields", "move"], ["fields", "move"], f136⟩
def d137 : DI := ⟨137, "drop_behind", none, "drop_behind", (top 38), ["fields", "move"], ["fields", "move"], f137⟩
def d138 : DI := ⟨138, "drop_looked", none, "drop_looked", (top 39), ["fields", "move"], ["fields", "move"], f138⟩
def d139 : DI := ⟨139, "name_behind", none, "name_behind", (top 40), ["fields", "move", "at", "name", "new"], ["fields", "move"], f139⟩
def d140 : DI := ⟨140, "shift_behind", none, "shift_behind", (top 41), ["fields", "move", "at", "name", "k"], ["fields", "move"], f140⟩
def d141 : DI := ⟨141, "inner_of", none, "inner_of", (top 42), ["fields", "into", "at"], ["fields", "into"], f141⟩
def d142 : DI := ⟨142, "within_behind", none, "within_behind", (top 43), ["fields", "move", "at", "rest", "name", "into", "k", "there", "inner"], ["fields", "move"], f142⟩
def d143 : DI := ⟨143, "out_behind", none, "out_behind", (top 44), ["fields", "move", "at", "rest", "into", "name", "k", "there", "inner"], ["fields", "move"], f143⟩
def d144 : DI := ⟨144, "number_of", none, "number_of", (top 45), ["form"], ["form"], f144⟩
def d145 : DI := ⟨145, "part_behind", none, "part_behind", (top 46), ["fields", "move", "at", "n", "name", "first", "second", "m"], ["fields", "move"], f145⟩
def d146 : DI := ⟨146, "join_behind", none, "join_behind", (top 47), ["fields", "move", "at", "n", "first", "second", "name"], ["fields", "move"], f146⟩
def d147 : DI := ⟨147, "scaled", none, "scaled", (top 48), ["form", "told", "a", "b", "n", "near"], ["form", "told"], f147⟩
def d148 : DI := ⟨148, "with_more", none, "with_more", (top 49), ["form", "told", "k", "choice", "instead"], ["form", "told"], f148⟩
def d149 : DI := ⟨149, "lengthened", none, "lengthened", (top 50), ["form", "told", "k", "near"], ["form", "told"], f149⟩
def d150 : DI := ⟨150, "form_changed", none, "form_changed", (top 51), ["form", "word", "told"], ["form", "word", "told"], f150⟩
def d151 : DI := ⟨151, "changed_behind", none, "changed_behind", (top 52), ["fields", "move", "at"], ["fields", "move"], f151⟩
def d152 : DI := ⟨152, "at_record", none, "at_record", (top 55), ["form", "path", "change", "at", "inner"], ["form", "path", "change"], f152⟩
def d153 : DI := ⟨153, "is_worded", none, "is_worded", (top 56), ["move"], ["move"], f153⟩
def d154 : DI := ⟨154, "behind", none, "behind", (top 57), ["form", "move", "change", "found"], ["form", "move"], f154⟩
def d155 : DI := ⟨155, "forms_known", none, "forms_known", (top 58), ["form", "moves", "found", "move", "change"], ["form", "moves"], f155⟩
def d156 : DI := ⟨156, "inner_form", none, "inner_form", (top 60), ["fields", "name"], ["fields", "name"], f156⟩
def d157 : DI := ⟨157, "parted", none, "parted", (top 61), ["worth", "m"], ["worth", "m"], f157⟩
def d158 : DI := ⟨158, "m_of", none, "m_of", (top 62), ["fields", "move"], ["fields", "move"], f158⟩
def d159 : DI := ⟨159, "thing_forth", none, "thing_forth", (top 63), ["move", "thing"], ["move", "thing"], f159⟩
def d160 : DI := ⟨160, "number_back", none, "number_back", (top 64), ["form", "move", "thing", "found", "a", "b", "n", "near"], ["form", "move", "thing"], f160⟩
def d161 : DI := ⟨161, "thing_back", none, "thing_back", (top 65), ["form", "move", "thing"], ["form", "move", "thing"], f161⟩
def d162 : DI := ⟨162, "changed_forth", none, "changed_forth", (top 66), ["form", "move", "worth", "thing"], ["form", "move", "worth"], f162⟩
def d163 : DI := ⟨163, "changed_back", none, "changed_back", (top 67), ["form", "move", "worth", "found", "thing"], ["form", "move", "worth"], f163⟩
def d164 : DI := ⟨164, "put_forth", none, "put_forth", (top 68), ["fields", "move", "row"], ["fields", "move", "row"], f164⟩
def d165 : DI := ⟨165, "put_back", none, "put_back", (top 69), ["fields", "move", "row"], ["fields", "move", "row"], f165⟩
def d166 : DI := ⟨166, "shift_forth", none, "shift_forth", (top 70), ["fields", "move", "row", "at"], ["fields", "move", "row"], f166⟩
def d167 : DI := ⟨167, "shift_back", none, "shift_back", (top 71), ["fields", "move", "row"], ["fields", "move", "row"], f167⟩
def d168 : DI := ⟨168, "within_forth", none, "within_forth", (top 72), ["fields", "move", "row", "at", "there", "rest"], ["fields", "move", "row"], f168⟩
def d169 : DI := ⟨169, "within_back", none, "within_back", (top 73), ["fields", "move", "row", "at", "there"], ["fields", "move", "row"], f169⟩
def d170 : DI := ⟨170, "out_forth", none, "out_forth", (top 74), ["fields", "move", "row", "there", "at"], ["fields", "move", "row"], f170⟩
def d171 : DI := ⟨171, "out_back", none, "out_back", (top 75), ["fields", "move", "row", "there", "at", "rest"], ["fields", "move", "row"], f171⟩
def d172 : DI := ⟨172, "part_forth", none, "part_forth", (top 76), ["fields", "move", "row", "at"], ["fields", "move", "row"], f172⟩
def d173 : DI := ⟨173, "part_back", none, "part_back", (top 77), ["fields", "move", "row", "at"], ["fields", "move", "row"], f173⟩
def d174 : DI := ⟨174, "join_forth", none, "join_forth", (top 78), ["fields", "move", "row", "at"], ["fields", "move", "row"], f174⟩
def d175 : DI := ⟨175, "join_back", none, "join_back", (top 79), ["fields", "move", "row", "at"], ["fields", "move", "row"], f175⟩
def d176 : DI := ⟨176, "leaf_forth", none, "leaf_forth", (top 80), ["fields", "move", "row", "at"], ["fields", "move", "row"], f176⟩
def d177 : DI := ⟨177, "leaf_back", none, "leaf_back", (top 81), ["fields", "move", "row", "at", "worth"], ["fields", "move", "row"], f177⟩
def d178 : DI := ⟨178, "at_row", none, "at_row", (top 84), ["form", "path", "value", "change", "at", "inner"], ["form", "path", "value", "change"], f178⟩
def d179 : DI := ⟨179, "forth", none, "forth", (top 85), ["form", "moves", "value", "ahead", "move", "change"], ["form", "moves", "value"], f179⟩
def d180 : DI := ⟨180, "back", none, "back", (top 86), ["form", "moves", "value", "ahead", "move", "change"], ["form", "moves", "value"], f180⟩
def d3 : DI := ⟨3, "_law_cell_at", none, "_law_cell_at", (top 88), ["_law_script", "_law_k"], ["_law_script", "_law_k"], f3⟩
def d181 : DI := ⟨181, "_law_begin", none, "_law_begin", (top 89), ["_law_cell"], ["_law_cell"], f181⟩
def d182 : DI := ⟨182, "_law_draw", none, "_law_draw", (top 90), ["_law_state", "_law_many", "_law_number", "_law_got"], ["_law_state", "_law_many"], f182⟩
def d192 : DI := ⟨192, "_law_name", none, "_law_name", (top 91), ["_law_state", "_law_taken", "_law_letters", "_law_name_here", "_law_spare", "_law_letter", "_law_k"], ["_law_state", "_law_taken"], f192⟩
def d193 : DI := ⟨193, "_law_names", none, "_law_names", (top 92), ["_law_state", "_law_many", "_law_names_here", "_law_k"], ["_law_state", "_law_many"], f193⟩
def d194 : DI := ⟨194, "_law_text", none, "_law_text", (top 93), ["_law_state", "_law_size", "_law_signs", "_law_k"], ["_law_state", "_law_size"], f194⟩
def d200 : DI := ⟨200, "_law_longer", none, "_law_longer", (top 94), ["_law_state", "_law_old", "_law_new", "_law_near", "_law_table", "_law_size", "_law_text_here"], ["_law_state"], f200⟩
def d196 : DI := ⟨196, "_law_more", none, "_law_more", (top 95), ["_law_state", "_law_names_here", "_law_new", "_law_instead", "_law_at", "_law_table", "_law_name_here"], ["_law_state"], f196⟩
def d197 : DI := ⟨197, "_law_list_right", none, "_law_list_right", (top 96), ["_law_state", "_law_form", "_law_move", "_law_table", "_law_most", "_law_turn", "_law_some", "_law_due", "_law_known", "_law_k", "_law_thing", "_law_read"], ["_law_state", "_law_form", "_law_move", "_law_table", "_law_most"], f197⟩
def d198 : DI := ⟨198, "_law_many_right", none, "_law_many_right", (top 97), ["_law_state", "_law_form", "_law_table", "_law_most", "_law_move", "_law_lone", "_law_thing", "_law_read", "_law_size"], ["_law_state", "_law_form", "_law_table"], f198⟩
def d201 : DI := ⟨201, "law", none, "law", (top 98), ["_law_script", "_law_k", "_law_state", "_law_n", "_law_form", "_law_move", "_law_table", "_law_lone", "_law_thing", "_law_read", "_law_x"], ["_law_script"], f201⟩
def gK : KT := ⟨[(129, "NoMove")], [], [], [], [], [(129, "NoMove")], [], [], [], []⟩
def gH : List HD := []
def gD : List DI := [d42, d23, d43, d44, d45, d46, d47, d48, d24, d25, d26, d130, d131, d132, d133, d134, d135, d136, d137, d138, d139, d140, d141, d142, d143, d144, d145, d146, d147, d148, d149, d150, d151, d152, d153, d154, d155, d156, d157, d158, d159, d160, d161, d162, d163, d164, d165, d166, d167, d168, d169, d170, d171, d172, d173, d174, d175, d176, d177, d178, d179, d180, d3, d181, d182, d192, d193, d194, d200, d196, d197, d198, d201]
def gX : XT := ⟨[(128, "BACK", [([112, 117, 116], .fn 165 []), ([100, 114, 111, 112], .fn 165 []), ([115, 104, 105, 102, 116], .fn 167 []), ([119, 105, 116, 104, 105, 110], .fn 169 []), ([111, 117, 116], .fn 171 []), ([112, 97, 114, 116], .fn 173 []), ([106, 111, 105, 110], .fn 175 [])]), (125, "BEHINDS", [([112, 117, 116], .fn 135 []), ([100, 114, 111, 112], .fn 137 []), ([110, 97, 109, 101], .fn 139 []), ([115, 104, 105, 102, 116], .fn 140 []), ([119, 105, 116, 104, 105, 110], .fn 142 []), ([111, 117, 116], .fn 143 []), ([112, 97, 114, 116], .fn 145 []), ([106, 111, 105, 110], .fn 146 [])]), (127, "FORTH", [([112, 117, 116], .fn 164 []), ([100, 114, 111, 112], .fn 164 []), ([115, 104, 105, 102, 116], .fn 166 []), ([119, 105, 116, 104, 105, 110], .fn 168 []), ([111, 117, 116], .fn 170 []), ([112, 97, 114, 116], .fn 172 []), ([106, 111, 105, 110], .fn 174 [])]), (126, "LOOKED", [([112, 117, 116], .fn 136 []), ([100, 114, 111, 112], .fn 138 [])]), (123, "SIZES", [([112, 117, 116], .int 6), ([100, 114, 111, 112], .int 4), ([110, 97, 109, 101], .int 4), ([115, 104, 105, 102, 116], .int 4), ([119, 105, 116, 104, 105, 110], .int 5), ([111, 117, 116], .int 5), ([112, 97, 114, 116], .int 6), ([106, 111, 105, 110], .int 5)]), (124, "SIZES_OF_CHANGES", [([115, 99, 97, 108, 101], .int 7), ([109, 111, 114, 101], .int 6), ([108, 111, 110, 103, 101, 114], .int 5), ([109, 97, 110, 121], .int 4)])], [154, 155, 179, 180], [⟨1000188, ["fields"], ["move", "change"], .callv 2 [.var 0, .var 1]⟩, ⟨1000189, ["fields"], ["move", "change"], .callv 2 [.var 0, .var 1]⟩, ⟨1000190, ["fields", "row"], ["move", "change"], .callv 3 [.var 0, .var 2, .var 1]⟩, ⟨1000191, ["fields", "row"], ["move", "change"], .callv 3 [.var 0, .var 2, .var 1]⟩]⟩
def gB : List Str := ["all", "bool", "divmod", "enumerate", "int", "isinstance", "len", "list", "max", "min", "range", "reversed", "set", "str", "tuple", "zip"]
abbrev gW : PySem.W.OpenLaw := PySem.Challenge.rw_everreader_k17_texts_choices_lists_back
abbrev gR : PySem.W.OpenRow := PySem.W.OpenLaw.row gW
abbrev gFa : List He.Fa := faOf gD gH gC gB gK gX
abbrev gDd : List He.DefD := ddOf gD gH
abbrev hk : PySem.W.Hook := He.hookX 6 gFa gDd gX.ts (gX.tf gD) (exA gC gK gX gD)
def ob (s : PySem.W.SharedT) : He.AlX := He.obsX 6 gFa gDd gX.ts (gX.tf gD) (exA gC gK gX gD) (HandSHeadRun.getT s)
theorem ob_eq (s : PySem.W.SharedT) : ob s = hk.obs s.abs := He.obsX_eq (HandSHeadRun.getT_eq s)
def gLoose : List Str := (["is_name", "is_whole", "are_choices", "is_plain", "is_field", "are_fields", "is_form_to", "is_form", "is_line", "are_values", "is_value", "must", "place_of", "without", "put_in", "exchanged", "put_behind", "put_looked", "drop_behind", "drop_looked", "name_behind", "shift_behind", "inner_of", "within_behind"] : List Str) ++ (["out_behind", "number_of", "part_behind", "join_behind", "scaled", "with_more", "lengthened", "form_changed", "changed_behind", "at_record", "is_worded", "behind", "forms_known", "inner_form", "parted", "m_of", "thing_forth", "number_back", "thing_back", "changed_forth", "changed_back", "put_forth", "put_back", "shift_forth"] : List Str) ++ (["shift_back", "within_forth", "within_back", "out_forth", "out_back", "part_forth", "part_back", "join_forth", "join_back", "leaf_forth", "leaf_back", "at_row", "forth", "back", "_law_cell_at", "_law_begin", "_law_draw", "_law_name", "_law_names", "_law_text", "_law_longer", "_law_more", "_law_list_right", "_law_many_right"] : List Str) ++ (["ReadError", "NoMove", "SMALL", "MOST_LETTERS", "MOST_NUMBER", "MOST_CHOICES", "MOST_SIGNS", "MOST_THINGS", "MOST_FIELDS", "MOST_DEEP", "SIZES", "SIZES_OF_CHANGES", "MOST_BY", "MOST_TOLD", "LONE_FORMS", "BEHINDS", "LOOKED", "FORTH", "BACK"] : List Str)
theorem gRun_true (w : World) : HandSHeadRun.RunEq gR (PySem.W.view gR.prog [98]) hk ob 6000 gLoose (Ev.wf w true) := by
  intro os
  kernel_rfl
theorem gRun_false (w : World) : HandSHeadRun.RunEq gR (PySem.W.view gR.prog [98]) hk ob 6000 gLoose (Ev.wf w false) := by
  intro os
  kernel_rfl
theorem gRun (w : World) : HandSHeadRun.RunEq gR (PySem.W.view gR.prog [98]) hk ob 6000 gLoose w := by
  rw [← Ev.wf_eq w]
  cases w.params.followText "special-get-raises"
  · exact gRun_false w
  · exact gRun_true w
end LawX
set_option Elab.async false
set_option linter.all false
set_option maxRecDepth 100000
set_option maxHeartbeats 1000000
/-! How the machine's values and heap bear the evaluator's data and store. -/
namespace Ev
open PySem PySem.Spec PyProof.Rows L2

theorem sOf_inj {s t : Txt} : sOf s = sOf t ↔ s = t := by
  constructor
  · intro h
    have : s.toArray = t.toArray := congrArg Str.cps h
    simpa using this
  · intro h; rw [h]
theorem sOf_len (s : Txt) : (sOf s).length = s.length := by simp [sOf, Str.length]
theorem sOf_app (s t : Txt) : sOf s ++ sOf t = sOf (s ++ t) := by
  show (Str.append (sOf s) (sOf t)) = _
  simp [sOf, Str.append]
theorem sOf_cps (s : Txt) : (sOf s).cps.toList = s := by simp [sOf]
/-- signs that a text may have -/
def okT (s : Txt) : Bool := s.all fun c => decide (c < 0x110000)
theorem okT_app {s t : Txt} (hs : okT s = true) (ht : okT t = true) : okT (s ++ t) = true := by
  unfold okT at *; rw [List.all_append, hs, ht]; rfl
theorem okT_sub {s t : Txt} (hs : okT s = true) (h : ∀ c ∈ t, c ∈ s) : okT t = true := by
  unfold okT at *
  rw [List.all_eq_true] at *
  intro c hc; exact hs c (h c hc)

/-- a lambda that lives: where it lies, its code, its number, its name, what it took along -/
structure CloI where
  a : Addr
  c : Addr
  k : Nat
  q : Str
  vs : List V
/-- where defs and classes lie; the fields' names; the lambda that lives; the tables of code objects -/
structure Lay where
  w : World
  fn : Nat → Addr
  cl : Nat → Addr
  fld : Nat → Str
  okf : Nat → Bool
  inj : ∀ a b, okf a = true → okf b = true → fld a = fld b → a = b
  clo : Option CloI
  tabs : List (Addr × Str)
  keep : Option (Nat × V)
  isf : Nat → Bool
/-- a slot that the rest must leave alone, as in an except suite the exception's -/
def Lay.hot (fa : Lay) (k : Option (Nat × V)) : Lay := { fa with keep := k }
/-- i may be set -/
def Lay.may (fa : Lay) (i : Nat) : Prop := ∀ v, fa.keep ≠ some (i, v)
/-- what is wished of an exception; .. at slots -/
abbrev EZ := Ex → Hp → Prop
abbrev EW := L2.St → Ex → Hp → Prop
/-- a dict's key -/
def RK : D → L2.Key → Prop
  | .int i, k => k = .inl i
  | .str s, k => k = .inr (sOf s) ∧ okT s = true
  | _, _ => False
mutual
/-- a key as it is -/
def nk : D → NestedKey
  | .int i => .num i
  | .str s => .text (sOf s)
  | .tup l => .tup (nkL l)
  | _ => .none
def nkL : List D → List NestedKey
  | [] => []
  | d :: r => nk d :: nkL r
end
/-- a dict whose keys are tuples: its entries -/
def dtO (w : World) (a : Addr) (kx : List (NestedKey × Addr × Value)) : HO := .ext fun h => kx.length ≤ sizeLine ∧ (a == sysModules) = false ∧
  ∃ o es ep, h.get? a = some o ∧ o.ExactDict ∧ o.data = .dict es ep ∧ es.toList = kx.map (fun x => (⟨x.1.hash w, .ref x.2.1, x.2.2⟩ : DictEntry)) ∧ (kx.map (·.1)).Nodup
/-- where the shared objects lie; what is hidden for now -/
structure Ph where
  sh : List Addr
  hd : List Addr
def Ph.add (φ : Ph) (p : Addr) : Ph := ⟨φ.sh ++ [p], φ.hd⟩
instance : Membership Addr Ph := ⟨fun φ a => a ∈ φ.sh ∨ a ∈ φ.hd⟩
instance (a : Addr) (φ : Ph) : Decidable (a ∈ φ) := inferInstanceAs (Decidable (a ∈ φ.sh ∨ a ∈ φ.hd))
/-- a tuple at a that is known not to bear a dict -/
def SqP (K : PySem.W.Frag) (H : Hp) (a : Addr) (xs : List V) : Prop :=
  (∃ o : Obj, o.dict = none ∧ H a = some (.frz o (.tup xs))) ∨
    ∃ (o : Obj) (its : Array Value) (n : Nat), K.lookup a = some o ∧ o.cls = .type "tuple" ∧ o.dict = none ∧ o.data = .seq its n ∧ its.size ≤ sizeLine ∧ Vals xs its.toList
theorem SqP.t {K : PySem.W.Frag} {H : Hp} {a : Addr} {xs : List V} (h : SqP K H a xs) : SqT K H a xs := by
  rcases h with ⟨o, _, h⟩ | ⟨o, its, n, h1, h2, _, h3, h4, h5⟩
  · exact .inl (.inr ⟨o, h⟩)
  · exact .inr ⟨o, its, n, h1, h2, h3, h4, h5⟩
section
variable (K : PySem.W.Frag) (fa : Lay)
mutual
/-- v is d; G is the heap without the shared objects, which stand at φ -/
def RV (G : Hp) (φ : Ph) : D → V → Prop
  | .non, v => v = .non
  | .bl b, v => v = .bl b
  | .int i, v => v = .int i
  | .str s, v => v = .str (sOf s) ∧ okT s = true
  | .tup l, v => ∃ a vs, v = .ref a ∧ SqP K G a vs ∧ RVs G φ l vs
  | .lst l, v => ∃ a vs, v = .ref a ∧ SqL K G a vs ∧ RVs G φ l vs
  | .loc n, v => ∃ a, φ.sh[n]? = some a ∧ v = .ref a
  | .fn k l, v => if k < LB then l = [] ∧ fa.isf k = true ∧ v = .ref (fa.fn k) else ∃ ci, fa.clo = some ci ∧ k = ci.k ∧ v = .ref ci.a ∧ G ci.c = some (LamX.CodeO ci.c ci.q) ∧ RVs G φ l ci.vs
def RVs (G : Hp) (φ : Ph) : List D → List V → Prop
  | [], vs => vs = []
  | d :: ds, vs => ∃ v r, vs = v :: r ∧ RV G φ d v ∧ RVs G φ ds r
end
/-- the heap without the shared objects -/
def msk (H : Hp) (φ : Ph) : Hp := fun a => if a ∈ φ then none else H a
/-- an object's fields -/
def RFs (G : Hp) (φ : Ph) : List (Nat × D) → List (Str × V) → Prop
  | [], vs => vs = []
  | p :: r, vs => ∃ v q, vs = (fa.fld p.1, v) :: q ∧ fa.okf p.1 = true ∧ RV K fa G φ p.2 v ∧ RFs G φ r q
/-- a dict's pairs -/
def RDs (G : Hp) (φ : Ph) : List (D × D) → List (L2.Key × V) → Prop
  | [], vs => vs = []
  | p :: r, vs => ∃ k v q, vs = (k, v) :: q ∧ RK p.1 k ∧ RV K fa G φ p.2 v ∧ RDs G φ r q
/-- the entries of a dict whose keys are tuples -/
def RXs (G : Hp) (φ : Ph) : List (D × D) → List (NestedKey × Addr × Value) → Prop
  | [], xs => xs = []
  | p :: r, xs => ∃ b u v q, xs = (nk p.1, b, u) :: q ∧ isKT p.1 = true ∧ RV K fa G φ p.1 (.ref b) ∧ RelV v u ∧ RV K fa G φ p.2 v ∧ RXs G φ r q
def CellR (G : Hp) (φ : Ph) (H : Hp) (a : Addr) : Cell → Prop
  | .lst l => ∃ vs, H a = some (.lst vs) ∧ RVs K fa G φ l vs
  | .dct l => ∃ kvs, H a = some (.dK kvs) ∧ RDs K fa G φ l kvs
  | .dtt l => ∃ kx, H a = some (dtO fa.w a kx) ∧ RXs K fa G φ l kx
  | .obj c fs => ∃ dx vs, H a = some (.ins (fa.cl c) dx vs) ∧ RFs K fa G φ fs vs
/-- the tables lie hidden; the code objects that they tell -/
def TabM (φ : Ph) (H : Hp) : Prop := ∀ p ∈ fa.tabs, p.1 ∈ φ.hd ∧ ∃ ps : Array Value, H p.1 = some (.tbl ps) ∧ TriplesOk ps.toList ∧ ∀ (pos : Pos) (cv : Value), codeAmong pos ps.toList = some cv → ∃ c, cv = .ref c ∧ msk H φ c = some (LamX.CodeO c p.2)
structure Abs (φ : Ph) (μ : Mu) (H : Hp) : Prop where
  len : φ.sh.length = μ.length
  nd : φ.sh.Nodup
  hid : ∀ a ∈ φ.hd, a ∉ φ.sh ∧ ∃ o, H a = some o
  cell : ∀ (i : Nat) (a : Addr) (c : Cell), φ.sh[i]? = some a → μ[i]? = some c → CellR K fa (msk H φ) φ H a c
  tab : TabM fa φ H
/-- what stood stands; the shared objects are more -/
structure Ext (φ : Ph) (H : Hp) (φ' : Ph) (H' : Hp) : Prop where
  pre : ∃ t, φ'.sh = φ.sh ++ t
  hd : φ'.hd = φ.hd
  hold : ∀ a ∈ φ.hd, (∀ ps, H a ≠ some (.tbl ps)) → H' a = H a
  keep : ∀ a o, msk H φ a = some o → msk H' φ' a = some o
structure REnv (G : Hp) (φ : Ph) (ρ : Rho) (σ : L2.St) : Prop where
  len : ρ.length = σ.length
  at_ : ∀ (i : Nat) (d : D), ρ[i]? = some (some d) → ∃ v, σ[i]? = some (some v) ∧ RV K fa G φ d v
  kp : ∀ (i : Nat) (v : V), fa.keep = some (i, v) → σ[i]? = some (some v)
end

section
variable {K : PySem.W.Frag} {fa : Lay} {φ φ' φ'' : Ph} {H H' H'' G G' : Hp} {μ μ' : Mu} {σ : L2.St} {ρ : Rho}
theorem msk_in {a : Addr} (h : a ∈ φ) : msk H φ a = none := by unfold msk; rw [if_pos h]
theorem msk_out {a : Addr} (h : a ∉ φ) : msk H φ a = H a := by unfold msk; rw [if_neg h]
theorem msk_some {a : Addr} {o : HO} (h : msk H φ a = some o) : a ∉ φ ∧ H a = some o := by
  by_cases e : a ∈ φ
  · rw [msk_in e] at h; cases h
  · rw [msk_out e] at h; exact ⟨e, h⟩
theorem msk_same : Same (msk H φ) H := fun a o h => (msk_some h).2
theorem Ext.refl (φ : Ph) (H : Hp) : Ext φ H φ H := ⟨⟨[], by simp⟩, rfl, fun _ _ _ => rfl, fun _ _ h => h⟩
theorem Ext.trans (x : Ext φ H φ' H') (y : Ext φ' H' φ'' H'') : Ext φ H φ'' H'' := by
  obtain ⟨t, e⟩ := x.pre
  obtain ⟨u, e'⟩ := y.pre
  exact ⟨⟨t ++ u, by rw [e', e, List.append_assoc]⟩, y.hd.trans x.hd, fun a h n => (y.hold a (by rw [x.hd]; exact h) (by rw [x.hold a h n]; exact n)).trans (x.hold a h n), fun a o h => y.keep a o (x.keep a o h)⟩
theorem Ext.same (x : Ext φ H φ' H') : Same (msk H φ) (msk H' φ') := fun a o h => x.keep a o h
theorem Ext.phi (x : Ext φ H φ' H') {n : Nat} {a : Addr} (h : φ.sh[n]? = some a) : φ'.sh[n]? = some a := by
  obtain ⟨t, e⟩ := x.pre
  rw [e, List.getElem?_append_left (List.getElem?_eq_some_iff.mp h).1]
  exact h
theorem Same.seqT {a : Addr} {xs : List V} (e : Same H H') (h : SqT K H a xs) : SqT K H' a xs := by
  rcases h with (h | ⟨o, h⟩) | h
  · exact .inl (.inl (e _ _ h))
  · exact .inl (.inr ⟨o, e _ _ h⟩)
  · exact .inr h
theorem Same.sqP {a : Addr} {xs : List V} (e : Same H H') (h : SqP K H a xs) : SqP K H' a xs := by
  rcases h with ⟨o, ho, h⟩ | h
  · exact .inl ⟨o, ho, e _ _ h⟩
  · exact .inr h
theorem Same.rd {a : Addr} {u : HO} (e : Same H H') (h : Rd H a u) : Rd H' a u := by
  rcases h with h | ⟨o, h⟩
  · exact .inl (e _ _ h)
  · exact .inr ⟨o, e _ _ h⟩
theorem Same.sqL {a : Addr} {xs : List V} (e : Same H H') (h : SqL K H a xs) : SqL K H' a xs := by
  rcases h with h | h
  · exact .inl (Same.rd e h)
  · exact .inr h
mutual
theorem RV.mono (hG : Same G G') (hp : ∀ (n : Nat) (a : Addr), φ.sh[n]? = some a → φ'.sh[n]? = some a) : ∀ (d : D) (v : V), RV K fa G φ d v → RV K fa G' φ' d v
  | .non, _, h => by unfold RV at *; exact h
  | .bl _, _, h => by unfold RV at *; exact h
  | .int _, _, h => by unfold RV at *; exact h
  | .str _, _, h => by unfold RV at *; exact h
  | .fn k l, v, h => by
    unfold RV at *
    by_cases hk : k < LB
    · rw [if_pos hk] at *; exact h
    · rw [if_neg hk] at *
      obtain ⟨ci, e1, e2, e3, e4, e5⟩ := h
      exact ⟨ci, e1, e2, e3, hG _ _ e4, RVs.mono hG hp l _ e5⟩
  | .tup l, v, h => by
    unfold RV at *
    obtain ⟨a, vs, e, hs, hr⟩ := h
    exact ⟨a, vs, e, Same.sqP hG hs, RVs.mono hG hp l vs hr⟩
  | .lst l, v, h => by
    unfold RV at *
    obtain ⟨a, vs, e, hs, hr⟩ := h
    exact ⟨a, vs, e, Same.sqL hG hs, RVs.mono hG hp l vs hr⟩
  | .loc n, v, h => by
    unfold RV at *
    obtain ⟨a, ha, e⟩ := h
    exact ⟨a, hp n a ha, e⟩
theorem RVs.mono (hG : Same G G') (hp : ∀ (n : Nat) (a : Addr), φ.sh[n]? = some a → φ'.sh[n]? = some a) : ∀ (l : List D) (vs : List V), RVs K fa G φ l vs → RVs K fa G' φ' l vs
  | [], _, h => by unfold RVs at *; exact h
  | d :: ds, vs, h => by
    unfold RVs at *
    obtain ⟨v, r, e, h1, h2⟩ := h
    exact ⟨v, r, e, RV.mono hG hp d v h1, RVs.mono hG hp ds r h2⟩
end
theorem RV.ext (x : Ext φ H φ' H') {d : D} {v : V} (h : RV K fa (msk H φ) φ d v) : RV K fa (msk H' φ') φ' d v := RV.mono x.same (fun _ _ q => x.phi q) d v h
theorem RVs.ext (x : Ext φ H φ' H') {l : List D} {vs : List V} (h : RVs K fa (msk H φ) φ l vs) : RVs K fa (msk H' φ') φ' l vs := RVs.mono x.same (fun _ _ q => x.phi q) l vs h
theorem REnv.ext (x : Ext φ H φ' H') (h : REnv K fa (msk H φ) φ ρ σ) : REnv K fa (msk H' φ') φ' ρ σ :=
  ⟨h.len, fun i d e => let ⟨v, a, b⟩ := h.at_ i d e; ⟨v, a, b.ext x⟩, h.kp⟩
theorem REnv.set (h : REnv K fa G φ ρ σ) {i : Nat} {d : D} {v : V} (hm : fa.may i) (r : RV K fa G φ d v) : REnv K fa G φ (ρ.set i (some d)) (σ.set i (some v)) := by
  refine ⟨by rw [List.length_set, List.length_set]; exact h.len, fun j e hj => ?_, fun j w hk => by
    have : i ≠ j := fun q => hm w (by rw [q]; exact hk)
    rw [List.getElem?_set_ne this]
    exact h.kp j w hk⟩
  by_cases q : i = j
  · subst q
    by_cases hl : i < ρ.length
    · rw [List.getElem?_set_self hl] at hj
      cases hj
      exact ⟨v, List.getElem?_set_self (by rw [← h.len]; exact hl), r⟩
    · rw [List.getElem?_eq_none (by rw [List.length_set]; omega)] at hj; cases hj
  · rw [List.getElem?_set_ne q] at hj ⊢
    exact h.at_ j e hj
theorem REnv.kill (h : REnv K fa G φ ρ σ) (ks : List Nat) : REnv K fa G φ (wipeR ρ ks) σ := by
  have hl : ∀ ks : List Nat, (wipeR ρ ks).length = ρ.length := fun ks => by
    induction ks with
    | nil => rfl
    | cons k r ih => unfold wipeR; rw [List.length_set]; exact ih
  refine ⟨(hl ks).trans h.len, fun i d e => ?_, h.kp⟩
  have : ρ[i]? = some (some d) := by
    induction ks with
    | nil => exact e
    | cons k r ih =>
      unfold wipeR at e
      by_cases q : k = i
      · subst q
        by_cases hk : k < (wipeR ρ r).length
        · rw [List.getElem?_set_self hk] at e; cases e
        · rw [List.getElem?_eq_none (by rw [List.length_set]; omega)] at e; cases e
      · rw [List.getElem?_set_ne q] at e; exact ih e
  exact h.at_ i d this
theorem REnv.wipe (h : REnv K fa G φ ρ σ) (hn : fa.keep = none) (ks : List Nat) : REnv K fa G φ (wipeR ρ ks) (L2.wipe σ ks) := by
  have hl : ∀ ks : List Nat, (wipeR ρ ks).length = ρ.length := fun ks => by
    induction ks with
    | nil => rfl
    | cons k r ih => unfold wipeR; rw [List.length_set]; exact ih
  refine ⟨by rw [hl, L2.wipe_length]; exact h.len, ?_, fun i v e => by rw [hn] at e; cases e⟩
  induction ks with
  | nil => exact h.at_
  | cons k r ih =>
    intro i d e
    unfold wipeR at e
    unfold L2.wipe
    by_cases q : k = i
    · subst q
      by_cases hk : k < (wipeR ρ r).length
      · rw [List.getElem?_set_self hk] at e; cases e
      · rw [List.getElem?_eq_none (by rw [List.length_set]; omega)] at e; cases e
    · rw [List.getElem?_set_ne q] at e ⊢
      exact ih i d e
theorem RVs.length : ∀ {l : List D} {vs : List V}, RVs K fa G φ l vs → vs.length = l.length
  | [], _, h => by unfold RVs at h; rw [h]; rfl
  | d :: ds, vs, h => by
    unfold RVs at h
    obtain ⟨v, r, rfl, _, h2⟩ := h
    rw [List.length_cons, List.length_cons, RVs.length h2]
theorem RVs.get : ∀ {l : List D} {vs : List V} {i : Nat} {d : D}, RVs K fa G φ l vs → l[i]? = some d → ∃ v, vs[i]? = some v ∧ RV K fa G φ d v
  | [], _, _, _, _, e => by simp at e
  | d :: ds, vs, 0, x, h, e => by
    unfold RVs at h
    obtain ⟨v, r, rfl, h1, _⟩ := h
    simp at e; subst e
    exact ⟨v, rfl, h1⟩
  | d :: ds, vs, i + 1, x, h, e => by
    unfold RVs at h
    obtain ⟨v, r, rfl, _, h2⟩ := h
    obtain ⟨u, a, b⟩ := RVs.get (i := i) h2 (by simpa using e)
    exact ⟨u, by simpa using a, b⟩
theorem RVs.of_get : ∀ {l : List D} {vs : List V}, vs.length = l.length → (∀ (i : Nat) (d : D) (v : V), l[i]? = some d → vs[i]? = some v → RV K fa G φ d v) → RVs K fa G φ l vs
  | [], [], _, _ => by unfold RVs; rfl
  | d :: ds, v :: vs, hl, h => by
    unfold RVs
    exact ⟨v, vs, rfl, h 0 d v rfl rfl, RVs.of_get (by simpa using hl) fun i e u a b => h (i + 1) e u (by simpa using a) (by simpa using b)⟩
  | [], _ :: _, hl, _ => by simp at hl
  | _ :: _, [], hl, _ => by simp at hl
theorem RVs.append : ∀ {l r : List D} {vs us : List V}, RVs K fa G φ l vs → RVs K fa G φ r us → RVs K fa G φ (l ++ r) (vs ++ us)
  | [], _, _, _, h, q => by unfold RVs at h; subst h; exact q
  | d :: ds, r, vs, us, h, q => by
    unfold RVs at h
    obtain ⟨v, rr, rfl, h1, h2⟩ := h
    show RVs K fa G φ (d :: (ds ++ r)) (v :: (rr ++ us))
    unfold RVs
    exact ⟨v, rr ++ us, rfl, h1, RVs.append h2 q⟩
theorem RVs.one {d : D} {v : V} (h : RV K fa G φ d v) : RVs K fa G φ [d] [v] := by unfold RVs; exact ⟨v, [], rfl, h, by unfold RVs; rfl⟩
theorem RVs.nil : RVs K fa G φ [] [] := by unfold RVs; rfl
theorem RVs.cons {d : D} {v : V} {l : List D} {vs : List V} (h : RV K fa G φ d v) (r : RVs K fa G φ l vs) : RVs K fa G φ (d :: l) (v :: vs) := by unfold RVs; exact ⟨v, vs, rfl, h, r⟩
theorem RVs.take : ∀ {l : List D} {vs : List V} (n : Nat), RVs K fa G φ l vs → RVs K fa G φ (l.take n) (vs.take n)
  | _, _, 0, _ => by rw [List.take_zero, List.take_zero]; exact RVs.nil
  | [], _, n + 1, h => by unfold RVs at h; subst h; exact RVs.nil
  | d :: ds, vs, n + 1, h => by
    unfold RVs at h
    obtain ⟨v, r, rfl, h1, h2⟩ := h
    exact RVs.cons h1 (RVs.take n h2)
theorem RVs.drop : ∀ {l : List D} {vs : List V} (n : Nat), RVs K fa G φ l vs → RVs K fa G φ (l.drop n) (vs.drop n)
  | _, _, 0, h => h
  | [], _, n + 1, h => by unfold RVs at h; subst h; exact RVs.nil
  | d :: ds, vs, n + 1, h => by
    unfold RVs at h
    obtain ⟨v, r, rfl, h1, h2⟩ := h
    exact RVs.drop n h2
theorem RVs.set {d : D} {v : V} (q : RV K fa G φ d v) : ∀ {l : List D} {vs : List V} (n : Nat), RVs K fa G φ l vs → RVs K fa G φ (l.set n d) (vs.set n v)
  | [], _, n, h => by unfold RVs at h; subst h; exact RVs.nil
  | e :: ds, vs, 0, h => by
    unfold RVs at h
    obtain ⟨u, r, rfl, h1, h2⟩ := h
    exact RVs.cons q h2
  | e :: ds, vs, n + 1, h => by
    unfold RVs at h
    obtain ⟨u, r, rfl, h1, h2⟩ := h
    exact RVs.cons h1 (RVs.set q n h2)
theorem RVs.erase : ∀ {l : List D} {vs : List V} (n : Nat), RVs K fa G φ l vs → RVs K fa G φ (l.eraseIdx n) (vs.eraseIdx n)
  | [], _, n, h => by unfold RVs at h; subst h; exact RVs.nil
  | e :: ds, vs, 0, h => by
    unfold RVs at h
    obtain ⟨u, r, rfl, h1, h2⟩ := h
    exact h2
  | e :: ds, vs, n + 1, h => by
    unfold RVs at h
    obtain ⟨u, r, rfl, h1, h2⟩ := h
    exact RVs.cons h1 (RVs.erase n h2)
theorem RVs.dropLast : ∀ {l : List D} {vs : List V}, RVs K fa G φ l vs → RVs K fa G φ l.dropLast vs.dropLast := fun {l vs} h => by
  rw [List.dropLast_eq_take, List.dropLast_eq_take, RVs.length h]
  exact RVs.take _ h

theorem RFs.mono (hG : Same G G') (hp : ∀ (n : Nat) (a : Addr), φ.sh[n]? = some a → φ'.sh[n]? = some a) : ∀ (l : List (Nat × D)) (vs : List (Str × V)), RFs K fa G φ l vs → RFs K fa G' φ' l vs
  | [], _, h => h
  | p :: r, vs, h => by
    obtain ⟨v, q, e, h1, h2, h3⟩ := h
    exact ⟨v, q, e, h1, RV.mono hG hp _ v h2, RFs.mono hG hp r q h3⟩
theorem RDs.mono (hG : Same G G') (hp : ∀ (n : Nat) (a : Addr), φ.sh[n]? = some a → φ'.sh[n]? = some a) : ∀ (l : List (D × D)) (vs : List (L2.Key × V)), RDs K fa G φ l vs → RDs K fa G' φ' l vs
  | [], _, h => h
  | p :: r, vs, h => by
    obtain ⟨k, v, q, e, h1, h2, h3⟩ := h
    exact ⟨k, v, q, e, h1, RV.mono hG hp _ v h2, RDs.mono hG hp r q h3⟩
theorem RXs.mono (hG : Same G G') (hp : ∀ (n : Nat) (a : Addr), φ.sh[n]? = some a → φ'.sh[n]? = some a) : ∀ (l : List (D × D)) (xs : List (NestedKey × Addr × Value)), RXs K fa G φ l xs → RXs K fa G' φ' l xs
  | [], _, h => h
  | p :: r, _, h => by
    obtain ⟨b, u, v, q, e1, h1, h2, h3, h4, h5⟩ := h
    exact ⟨b, u, v, q, e1, h1, RV.mono hG hp _ _ h2, h3, RV.mono hG hp _ v h4, RXs.mono hG hp r q h5⟩
theorem RFs.len : ∀ {l : List (Nat × D)} {vs : List (Str × V)}, RFs K fa G φ l vs → vs.length = l.length
  | [], _, h => by cases (show _ = _ from h); rfl
  | p :: r, vs, h => by
    obtain ⟨v, q, rfl, h1, h2, h3⟩ := h
    rw [List.length_cons, List.length_cons, RFs.len h3]
theorem RFs.get {a : Nat} {d : D} : ∀ {l : List (Nat × D)} {vs : List (Str × V)}, RFs K fa G φ l vs → fa.okf a = true → l.lookup a = some d → ∃ v, vs.lookup (fa.fld a) = some v ∧ RV K fa G φ d v
  | [], _, h, _, e => by cases e
  | p :: r, vs, h, ha, e => by
    obtain ⟨v, q, rfl, h1, h2, h3⟩ := h
    obtain ⟨b, x⟩ := p
    rw [List.lookup_cons] at e
    by_cases hb : a = b
    · subst hb
      rw [show (a == a) = true from beq_self_eq_true a] at e
      cases e
      refine ⟨v, ?_, h2⟩
      rw [List.lookup_cons, show (fa.fld a == fa.fld a) = true from beq_self_eq_true _]
    · rw [show (a == b) = false from beq_eq_false_iff_ne.mpr hb] at e
      obtain ⟨w, e1, e2⟩ := RFs.get h3 ha e
      refine ⟨w, ?_, e2⟩
      rw [List.lookup_cons, show (fa.fld a == fa.fld b) = false from beq_eq_false_iff_ne.mpr fun q => hb (fa.inj a b ha h1 q)]
      exact e1
theorem RFs.no {x : Str} : ∀ {l : List (Nat × D)} {vs : List (Str × V)}, RFs K fa G φ l vs → (∀ a, fa.okf a = true → fa.fld a ≠ x) → vs.lookup x = none
  | [], _, h, _ => by cases (show _ = _ from h); rfl
  | p :: r, vs, h, hx => by
    obtain ⟨v, q, rfl, h1, h2, h3⟩ := h
    rw [List.lookup_cons, show (x == fa.fld p.1) = false from beq_eq_false_iff_ne.mpr fun q => hx p.1 h1 q.symm]
    exact RFs.no h3 hx
theorem RFs.put {a : Nat} {d : D} {v : V} (ha : fa.okf a = true) (rv : RV K fa G φ d v) : ∀ {l : List (Nat × D)} {vs : List (Str × V)}, RFs K fa G φ l vs → RFs K fa G φ (putFd a d l) (L2.putF (fa.fld a) v vs)
  | [], _, h => by cases (show _ = _ from h); exact ⟨v, [], rfl, ha, rv, rfl⟩
  | p :: r, vs, h => by
    obtain ⟨w, q, rfl, h1, h2, h3⟩ := h
    obtain ⟨b, x⟩ := p
    show RFs K fa G φ (if b = a then (b, d) :: r else (b, x) :: putFd a d r) (if fa.fld b = fa.fld a then (fa.fld b, v) :: q else (fa.fld b, w) :: L2.putF (fa.fld a) v q)
    by_cases hb : b = a
    · rw [if_pos hb, if_pos (by rw [hb])]
      exact ⟨v, q, rfl, h1, rv, h3⟩
    · rw [if_neg hb, if_neg fun e => hb (fa.inj b a h1 ha e)]
      exact ⟨w, _, rfl, h1, h2, RFs.put ha rv h3⟩

/-! ### the store -/
theorem Abs.at (A : Abs K fa φ μ H) {i : Nat} {c : Cell} (h : μ[i]? = some c) : ∃ a, φ.sh[i]? = some a ∧ CellR K fa (msk H φ) φ H a c := by
  have hi : i < φ.sh.length := by rw [A.len]; exact (List.getElem?_eq_some_iff.mp h).1
  exact ⟨φ.sh[i], List.getElem?_eq_getElem hi, A.cell i _ c (List.getElem?_eq_getElem hi) h⟩
theorem Abs.there (A : Abs K fa φ μ H) {a : Addr} (h : a ∈ φ) : ∃ o, H a = some o := by
  rcases h with h | h
  · obtain ⟨i, hi, e⟩ := List.mem_iff_getElem.mp h
    have hm : i < μ.length := by rw [← A.len]; exact hi
    have c := A.cell i a μ[i] (by rw [List.getElem?_eq_getElem hi, e]) (List.getElem?_eq_getElem hm)
    cases q : μ[i] with
    | lst l => rw [q] at c; obtain ⟨vs, e, _⟩ := c; exact ⟨_, e⟩
    | dct l => rw [q] at c; obtain ⟨vs, e, _⟩ := c; exact ⟨_, e⟩
    | dtt l => rw [q] at c; obtain ⟨vs, e, _⟩ := c; exact ⟨_, e⟩
    | obj c' fs => rw [q] at c; obtain ⟨dx, vs, e, _⟩ := c; exact ⟨_, e⟩
  · exact (A.hid a h).2
theorem Abs.notIn (A : Abs K fa φ μ H) {p : Addr} (hp : H p = none) : p ∉ φ := fun h => by
  obtain ⟨o, e⟩ := A.there h
  rw [hp] at e; cases e
theorem Abs.ne (A : Abs K fa φ μ H) {p a : Addr} (hp : H p = none) (h : a ∈ φ) : a ≠ p := fun e => A.notIn hp (e ▸ h)
theorem TabM.mono (T : TabM fa φ H) (hh : ∀ a ∈ φ.hd, a ∈ φ'.hd) (ht : ∀ a ∈ φ.hd, ∀ ps, H a = some (.tbl ps) → H' a = some (.tbl ps)) (hm : Same (msk H φ) (msk H' φ')) : TabM fa φ' H' := fun p hp => by
  obtain ⟨h1, ps, h2, h3, h4⟩ := T p hp
  refine ⟨hh _ h1, ps, ht _ h1 _ h2, h3, fun pos cv e => ?_⟩
  obtain ⟨c, e1, e2⟩ := h4 pos cv e
  exact ⟨c, e1, hm _ _ e2⟩
/-- a new object that nobody shares -/
theorem Ext.fresh (A : Abs K fa φ μ H) {p : Addr} {o : HO} (hp : H p = none) : Ext φ H φ (upd H p o) := by
  refine ⟨⟨[], by simp⟩, rfl, fun a h _ => upd_ne (A.ne hp (.inr h)), fun a u h => ?_⟩
  obtain ⟨h1, h2⟩ := msk_some h
  rw [msk_out h1, upd_ne (ne_of_none h2 hp)]
  exact h2
theorem CellR.mono {a : Addr} {c : Cell} (hG : Same G G') (hp : ∀ (n : Nat) (a : Addr), φ.sh[n]? = some a → φ'.sh[n]? = some a) (ha : ∀ o, H a = some o → H' a = some o) (h : CellR K fa G φ H a c) : CellR K fa G' φ' H' a c := by
  cases c with
  | lst l => obtain ⟨vs, e, r⟩ := h; exact ⟨vs, ha _ e, RVs.mono hG hp l vs r⟩
  | dct l => obtain ⟨vs, e, r⟩ := h; exact ⟨vs, ha _ e, RDs.mono hG hp l vs r⟩
  | dtt l => obtain ⟨vs, e, r⟩ := h; exact ⟨vs, ha _ e, RXs.mono hG hp l vs r⟩
  | obj c fs => obtain ⟨dx, vs, e, r⟩ := h; exact ⟨dx, vs, ha _ e, RFs.mono hG hp fs vs r⟩
theorem some_upd {a p : Addr} {o u : HO} (hp : H p = none) (h : H a = some u) : upd H p o a = some u := by
  rw [upd_ne (ne_of_none h hp)]; exact h
theorem Abs.fresh (A : Abs K fa φ μ H) {p : Addr} {o : HO} (hp : H p = none) : Abs K fa φ μ (upd H p o) := by
  refine ⟨A.len, A.nd, fun a h => ⟨(A.hid a h).1, let ⟨u, e⟩ := (A.hid a h).2; ⟨u, some_upd hp e⟩⟩, fun i a c h1 h2 => ?_, A.tab.mono (fun _ q => q) (fun _ _ _ q => some_upd hp q) (Ext.fresh (o := o) A hp).same⟩
  exact CellR.mono (c := c) (h := A.cell i a c h1 h2) (Ext.fresh (o := o) A hp).same (fun _ _ q => q) fun u q => some_upd hp q
theorem mem_add {a p : Addr} (h : a ∉ φ) (ne : a ≠ p) : a ∉ φ.add p := by
  rintro (q | q)
  · have q : a ∈ φ.sh ++ [p] := q
    rcases List.mem_append.mp q with q | q
    · exact h (.inl q)
    · exact ne (by simpa using q)
  · exact h (.inr q)
theorem Ext.add (A : Abs K fa φ μ H) {p : Addr} {o : HO} (hp : H p = none) : Ext φ H (φ.add p) (upd H p o) := by
  refine ⟨⟨[p], rfl⟩, rfl, fun a h _ => upd_ne (A.ne hp (.inr h)), fun a u h => ?_⟩
  obtain ⟨h1, h2⟩ := msk_some h
  have ne : a ≠ p := ne_of_none h2 hp
  rw [msk_out (mem_add h1 ne), upd_ne ne]
  exact h2
/-- a new object that is shared -/
theorem Abs.push (A : Abs K fa φ μ H) {p : Addr} {o : HO} {c : Cell} (hp : H p = none) (hc : CellR K fa (msk (upd H p o) (φ.add p)) (φ.add p) (upd H p o) p c) :
    Ext φ H (φ.add p) (upd H p o) ∧ Abs K fa (φ.add p) (μ ++ [c]) (upd H p o) := by
  have x : Ext φ H (φ.add p) (upd H p o) := Ext.add A hp
  have np := A.notIn hp
  refine ⟨x, ?_, ?_, fun a h => ⟨fun q => ?_, let ⟨u, e⟩ := (A.hid a h).2; ⟨u, some_upd hp e⟩⟩, fun i a c' h1 h2 => ?_, A.tab.mono (fun _ q => q) (fun _ _ _ q => some_upd hp q) x.same⟩
  · show (φ.sh ++ [p]).length = _
    rw [List.length_append, List.length_append, A.len]; rfl
  · show (φ.sh ++ [p]).Nodup
    rw [List.nodup_append]
    refine ⟨A.nd, by simp, fun a ha b hb e => ?_⟩
    have : b = p := by simpa using hb
    subst this; subst e
    exact np (.inl ha)
  · have q : a ∈ φ.sh ++ [p] := q
    rcases List.mem_append.mp q with q | q
    · exact (A.hid a h).1 q
    · exact A.ne hp (.inr h) (by simpa using q)
  · have h1 : (φ.sh ++ [p])[i]? = some a := h1
    by_cases hi : i < φ.sh.length
    · rw [List.getElem?_append_left hi] at h1
      rw [List.getElem?_append_left (by rw [← A.len]; exact hi)] at h2
      exact CellR.mono (c := c') (h := A.cell i a c' h1 h2) x.same (fun _ _ q => x.phi q) fun u q => some_upd hp q
    · have hl : i < (φ.sh ++ [p]).length := (List.getElem?_eq_some_iff.mp h1).1
      rw [List.length_append] at hl
      have e : i = φ.sh.length := by simp at hl; omega
      subst e
      rw [List.getElem?_append_right (Nat.le_refl _)] at h1
      rw [List.getElem?_append_right (by rw [A.len]; exact Nat.le_refl _)] at h2
      simp only [Nat.sub_self, List.getElem?_cons_zero, Option.some.injEq] at h1
      rw [A.len] at h2
      simp only [Nat.sub_self, List.getElem?_cons_zero, Option.some.injEq] at h2
      subst h1; subst h2
      exact hc
theorem msk_upd {a : Addr} {o : HO} (hm : a ∈ φ) : msk (upd H a o) φ = msk H φ := by
  funext b
  by_cases hb : b ∈ φ
  · rw [msk_in hb, msk_in hb]
  · rw [msk_out hb, msk_out hb, upd_ne (fun e => hb (by rw [e]; exact hm))]
/-- a shared object is written -/
theorem Abs.set (A : Abs K fa φ μ H) {n : Nat} {a : Addr} {o : HO} {c : Cell} (ha : φ.sh[n]? = some a) (hc : CellR K fa (msk H φ) φ (upd H a o) a c) :
    Ext φ H φ (upd H a o) ∧ Abs K fa φ (μ.set n c) (upd H a o) := by
  have hs : a ∈ φ.sh := List.mem_of_getElem? ha
  have em : msk (upd H a o) φ = msk H φ := msk_upd (.inl hs)
  have nh : ∀ b ∈ φ.hd, b ≠ a := fun b hb e => (A.hid b hb).1 (e ▸ hs)
  refine ⟨⟨⟨[], by simp⟩, rfl, fun b hb _ => upd_ne (nh b hb), fun b u h => by rw [em]; exact h⟩, by rw [List.length_set]; exact A.len, A.nd, fun b hb => ⟨(A.hid b hb).1, by rw [upd_ne (nh b hb)]; exact (A.hid b hb).2⟩, fun i b c' h1 h2 => ?_, A.tab.mono (fun _ q => q) (fun b hb _ q => by rw [upd_ne (nh b hb)]; exact q) (fun b u h => by rw [em]; exact h)⟩
  rw [em]
  by_cases q : n = i
  · subst q
    rw [ha] at h1; cases h1
    have hi : n < μ.length := by rw [← A.len]; exact (List.getElem?_eq_some_iff.mp ha).1
    rw [List.getElem?_set_self hi] at h2
    cases h2
    exact hc
  · rw [List.getElem?_set_ne q] at h2
    have hb : b ≠ a := fun e => by
      subst e
      have l1 := (List.getElem?_eq_some_iff.mp ha)
      have l2 := (List.getElem?_eq_some_iff.mp h1)
      obtain ⟨p1, e1⟩ := l1
      obtain ⟨p2, e2⟩ := l2
      exact q ((List.getElem_inj A.nd).mp (e1.trans e2.symm))
    refine CellR.mono (c := c') (h := A.cell i b c' h1 h2) (fun _ _ z => z) (fun _ _ z => z) fun u z => ?_
    rw [upd_ne hb]; exact z
end
section
variable {K : PySem.W.Frag} {fa : Lay} {k : Option (Nat × V)} {G : Hp} {φ : Ph} {H : Hp} {μ : Mu}
mutual
theorem RV.hot : ∀ (d : D) (v : V), RV K (fa.hot k) G φ d v = RV K fa G φ d v
  | .non, v => by unfold RV; rfl
  | .bl b, v => by unfold RV; rfl
  | .int b, v => by unfold RV; rfl
  | .str b, v => by unfold RV; rfl
  | .tup l, v => by
    unfold RV
    simp only [RVs.hot l]
  | .lst l, v => by
    unfold RV
    simp only [RVs.hot l]
  | .loc n, v => by unfold RV; rfl
  | .fn n l, v => by
    unfold RV
    simp only [RVs.hot l]
    rfl
theorem RVs.hot : ∀ (l : List D) (vs : List V), RVs K (fa.hot k) G φ l vs = RVs K fa G φ l vs
  | [], vs => by unfold RVs; rfl
  | d :: ds, vs => by
    unfold RVs
    simp only [RV.hot d, RVs.hot ds]
end
theorem RFs.hot : ∀ (l : List (Nat × D)) (vs : List (Str × V)), RFs K (fa.hot k) G φ l vs = RFs K fa G φ l vs
  | [], vs => by unfold RFs; rfl
  | p :: r, vs => by
    unfold RFs
    simp only [RV.hot, RFs.hot r]
    rfl
theorem RDs.hot : ∀ (l : List (D × D)) (vs : List (L2.Key × V)), RDs K (fa.hot k) G φ l vs = RDs K fa G φ l vs
  | [], vs => by unfold RDs; rfl
  | p :: r, vs => by
    unfold RDs
    simp only [RV.hot, RDs.hot r]
theorem RXs.hot : ∀ (l : List (D × D)) (vs : List (NestedKey × Addr × Value)), RXs K (fa.hot k) G φ l vs = RXs K fa G φ l vs
  | [], vs => by unfold RXs; rfl
  | p :: r, vs => by
    unfold RXs
    simp only [RV.hot, RXs.hot r]
theorem CellR.hot {a : Addr} : ∀ (c : Cell), CellR K (fa.hot k) G φ H a c = CellR K fa G φ H a c
  | .lst l => by unfold CellR; simp only [RVs.hot]
  | .dct l => by unfold CellR; simp only [RDs.hot]
  | .dtt l => by unfold CellR; simp only [RXs.hot]; rfl
  | .obj c l => by unfold CellR; simp only [RFs.hot]; rfl
theorem Abs.hot : Abs K (fa.hot k) φ μ H ↔ Abs K fa φ μ H :=
  ⟨fun A => ⟨A.len, A.nd, A.hid, fun i a c h1 h2 => by rw [← CellR.hot (k := k)]; exact A.cell i a c h1 h2, A.tab⟩, fun A => ⟨A.len, A.nd, A.hid, fun i a c h1 h2 => by rw [CellR.hot]; exact A.cell i a c h1 h2, A.tab⟩⟩
theorem REnv.heat {k : Option (Nat × V)} {ρ : Rho} {σ : L2.St} (R : REnv K fa G φ ρ σ) (h : ∀ i v, k = some (i, v) → σ[i]? = some (some v)) : REnv K (fa.hot k) G φ ρ σ :=
  ⟨R.len, fun i d e => let ⟨v, h1, h2⟩ := R.at_ i d e; ⟨v, h1, by rw [RV.hot]; exact h2⟩, h⟩
theorem REnv.cool {k : Option (Nat × V)} {ρ : Rho} {σ : L2.St} (R : REnv K (fa.hot k) G φ ρ σ) (h : fa.keep = none) : REnv K fa G φ ρ σ :=
  ⟨R.len, fun i d e => let ⟨v, h1, h2⟩ := R.at_ i d e; ⟨v, h1, by rw [← RV.hot (k := k)]; exact h2⟩, fun i v e => by rw [h] at e; cases e⟩
/-- a slot that is no more known -/
theorem REnv.drop {ρ : Rho} {σ : L2.St} (R : REnv K fa G φ ρ σ) (h : fa.keep = none) (i : Nat) (x : Option V) : REnv K fa G φ (ρ.set i none) (σ.set i x) := by
  refine ⟨by rw [List.length_set, List.length_set]; exact R.len, fun j d e => ?_, fun j v e => by rw [h] at e; cases e⟩
  by_cases q : i = j
  · subst q
    by_cases hl : i < ρ.length
    · rw [List.getElem?_set_self hl] at e; cases e
    · rw [List.getElem?_eq_none (by rw [List.length_set]; omega)] at e; cases e
  · rw [List.getElem?_set_ne q] at e ⊢
    exact R.at_ j d e
end
end Ev

set_option Elab.async false
set_option linter.all false
set_option maxRecDepth 100000
set_option maxHeartbeats 1000000
/-! New tuples, kept with what they are. -/
namespace Ev
open PySem PySem.Spec PyProof.Rows L2
/-- the object that a new tuple is -/
abbrev tupO (its : List Value) : Obj := { cls := .type "tuple", data := .seq its.toArray }
section
variable {X : Cx} {pins : List (Addr × Obj)} {s : Shared} {σ : L2.St} {H : Hp} {Q : VK}
theorem laidP {h : Heap} {t : Nat} {xs : List V} {its : List Value} (I : Inv X pins σ H { s with heap := h, toks := t }) (r : Vals xs its) (hz : xs.length ≤ sizeLine) (q : ∀ p o, o.dict = none → H p = none → Q (.ref p) (upd H p (.frz o (.tup xs)))) :
    EP X pins σ Q (.ref h.objs.size) { s with heap := h.push (tupO its), toks := t } :=
  ⟨.ref h.objs.size, _, I.laid (t' := t) (o := .frz (tupO its) (.tup xs)) (fun b o e => Heap.get?_push_of_some _ e) (Nat.le_refl _) ⟨Heap.get?_push_size _ rfl, hz, its, r, IsTup.new _ _⟩, rfl, q _ _ rfl (I.hok.fresh (Nat.le_refl _))⟩
def tTupP (t : TA) : TE := fun σ H Q => t σ H fun xs H1 => xs.length ≤ sizeLine ∧ ∀ p o, o.dict = none → H1 p = none → Q (.ref p) (upd H1 p (.frz o (.tup xs)))
theorem pe_tupP {es : List Expr} {t : TA} {pos : Pos} {x1} (h : PA X es t) : PE X (.Tuple es x1 pos) (tTupP t) := by
  refine ⟨fun pins s σ H Q I hq => ?_⟩
  refine wpAny_Tuple_spliced (thn (h.run pos pins s σ H _ I hq) fun us s1 ⟨xs, H1, I1, r, z, q⟩ => ⟨by rw [← r.length]; exact z, ?_⟩)
  exact laidP (s := s1) (h := s1.heap) (t := s1.toks) I1 r z q
/-- t + u -/
def rCatP (K : PySem.W.Frag) : R2 := fun x y H Q => ∃ a b xs ys, x = .ref a ∧ y = .ref b ∧ SqT K H a xs ∧ SqT K H b ys ∧ xs.length + ys.length ≤ sizeLine ∧
  (xs = [] → Q (.ref b) H) ∧ (xs ≠ [] → ys = [] → Q (.ref a) H) ∧ (xs ≠ [] → ys ≠ [] → ∀ p o, o.dict = none → H p = none → Q (.ref p) (upd H p (.frz o (.tup (xs ++ ys)))))
theorem op_catP : OpR X (binaryOp .Add) (rCatP X.K) := by
  intro pins s σ H x y v u Q I rx ry h
  obtain ⟨a, b, xs, ys, rfl, rfl, ha, hb, hz, q0, q1, q2⟩ := h
  cases rx
  cases ry
  obtain ⟨its, r1, p1, _⟩ := I.tuple ha
  obtain ⟨its2, r2, p2, _⟩ := I.tuple hb
  by_cases hx : xs = []
  · subst hx
    cases r1
    exact cat_tup0 p1 p2 ⟨.ref b, H, I, rfl, q0 rfl⟩
  · refine HT.cat_tup p1 p2 (fun z => hx (r1.nil_iff.mp z)) (fun z => ⟨.ref a, H, I, rfl, q1 hx (r2.nil_iff.mp z)⟩) (fun z => ?_) (by rw [← r1.length, ← r2.length]; exact hz)
    exact laidP (s := s) (h := s.heap) (t := s.toks) I (r1.append r2) (by rw [List.length_append]; exact hz) (q2 hx fun w => z (r2.nil_iff.mpr w))
/-- t[lo:hi] -/
def rSlP (K : PySem.W.Frag) : V → Option Int → Option Int → Hp → VK → Prop := fun x lo hi H Q => ∃ a xs, x = .ref a ∧ SqT K H a xs ∧
  (HT.sIx xs.length 0 lo = 0 ∧ HT.sIx xs.length xs.length hi = xs.length → Q (.ref a) H) ∧ (¬ (HT.sIx xs.length 0 lo = 0 ∧ HT.sIx xs.length xs.length hi = xs.length) → ∀ p o, o.dict = none → H p = none → Q (.ref p) (upd H p (.frz o (.tup (cutV xs lo hi)))))
theorem sl_tupP : SlR X (rSlP X.K) := by
  intro pins s σ H x v vl vu lo hi sl Q I rx hs pl pu h
  obtain ⟨a, xs, rfl, hx, q1, q2⟩ := h
  cases rx
  obtain ⟨its, r, ht, hz⟩ := I.tuple hx
  have hlen : its.toArray.size = xs.length := by rw [List.size_toArray]; exact r.length.symm
  refine ⟨"tuple", _, PyProof.Rows.slot_tuple_getitem.lookup, ht.typeIs, ?_⟩
  by_cases hw : HT.sIx xs.length 0 lo = 0 ∧ HT.sIx xs.length xs.length hi = xs.length
  · exact getItem_tuple_whole ht hs pl pu (by rw [hlen]; exact hw) ⟨.ref a, H, I, rfl, q1 hw⟩
  · refine HT.getItem_tuple_cut ht hs pl pu (by rw [hlen]; exact hw) ?_ (by rw [hlen]; exact hz)
    rw [hlen]
    exact laidP (s := s) (h := s.heap) (t := s.toks) I ((r.drop (HT.sIx xs.length 0 lo)).take (HT.sIx xs.length xs.length hi - HT.sIx xs.length 0 lo)) (Nat.le_trans (cutV_length xs lo hi) hz) (q2 hw)
/-- tuple(l), tuple(t) -/
theorem call_tuple_ofP : CallR X (.type "tuple") (fun xs H Q => ∃ p ys, xs = [.ref p] ∧ ((SqL X.K H p ys ∧ ∀ l o, o.dict = none → H l = none → Q (.ref l) (upd H l (.frz o (.tup ys)))) ∨ (SqT X.K H p ys ∧ Q (.ref p) H))) := by
  intro pins s σ H xs us Q I r h
  obtain ⟨p, ys, rfl, h⟩ := h
  obtain ⟨u, rfl, rx⟩ := vals1 r
  cases rx
  rcases h with ⟨hq, q⟩ | ⟨hq, q⟩
  · obtain ⟨its, r', pl, hz⟩ := I.list hq
    refine call_tuple_list pl.isList (fun h' kp => ?_) (by have := r'.length; have := line63; simp only [List.size_toArray] <;> omega)
    exact laidP (s := s) (h := h') (t := s.toks) (I.kept (t' := s.toks) kp) r' hz q
  · obtain ⟨its, r', pl, hz⟩ := I.tuple hq
    exact call_tuple_same pl ⟨.ref p, H, I, rfl, q⟩
def tTupRgP (te : L2.St → Hp → (Int → Int → Hp → Prop) → Prop) : TE := fun σ H Q => te σ H fun a b H1 => RgOk a b ∧ ∀ q o, o.dict = none → H1 q = none → Q (.ref q) (upd H1 q (.frz o (.tup (rgV a b))))
theorem pe_tupRgP {e : Expr} {te : L2.St → Hp → (Int → Int → Hp → Prop) → Prop} {p pos : Pos} (hc : X.calm = true) (hg : Gl X "tuple") (hm : X.mg "tuple" = none) (he : PRg X e te) (na : starEach [e] X.env = (false, eval e X.env) :: starEach [] X.env) : PE X (.Call (.Name "tuple" p) [e] [] pos) (tTupRgP te) := by
  refine ⟨fun pins s σ H Q I h => ?_⟩
  refine Call_ (ld_blt I hg hm boot_tuple (PyProof.Rows.callWith_type1 (args_cons (thn (he pins s σ H _ I h) fun x s1 ⟨r, a, b, t, u, v, H1, ex, hr, I1, ok, q⟩ => args_nil ?_) na) na))
  subst ex
  obtain ⟨b1, b2, b3, b4, b5⟩ := ok
  refine call_tuple_range (n := (b - a).toNat) (I1.ok.hd hc) hr (small_one b1 b2 b3 b4) (rangeSize_nat a b) b5 fun h' tk acc hk hi => ?_
  have := laidP (s := s1) (h := h') (t := tk) (its := acc.toList) (I1.kept hk) (vals_rg hi) (by rw [rgV_length, sizeLine_eq]; omega) q
  rw [show tupO acc.toList = { cls := .type "tuple", data := .seq acc } by unfold tupO; rw [Array.toArray_toList]] at this
  exact this
theorem call_divmodP : CallR X (.builtin "divmod") (fun xs H Q => ∃ i j, xs = [.int i, .int j] ∧ CDiv i j ∧ ∀ p o, o.dict = none → H p = none → Q (.ref p) (upd H p (.frz o (.tup [.int (i / j), .int (i % j)])))) := by
  intro pins s σ H xs us Q I r h
  obtain ⟨i, j, rfl, ⟨h1, h2⟩, q⟩ := h
  obtain ⟨u, w', rfl, ⟨t, rfl⟩, ⟨t', rfl⟩⟩ := vals2 r
  refine divmod_int (by omega) ?_ (.inl (PyProof.noPylong_small (by omega)))
  rw [Int.fdiv_eq_ediv_of_nonneg i (by omega), Int.fmod_eq_emod_of_nonneg i (by omega)]
  exact laidP (s := s) (h := s.heap) (xs := [.int (i / j), .int (i % j)]) (its := [.int (i / j) s.toks, .int (i % j) (s.toks + 1)]) (I.kept fun _ _ e => e) (.cons ⟨_, rfl⟩ (.cons ⟨_, rfl⟩ .nil)) (by simp only [List.length_cons, List.length_nil]; rw [sizeLine_eq]; decide) q
end
end Ev

set_option Elab.async false
set_option linter.all false
set_option maxRecDepth 100000
set_option maxHeartbeats 1000000
/-! A tuple so many times: once, and not at all. -/
namespace Ev
open PySem PySem.Spec PyProof.Rows L2
open AutoSeq1 (wpAny_loadPart')
theorem tuple_mul1 (l : Addr) (items : Array Value) (n : Nat) (dd : Option Addr) (sl : Array (Option Value)) (x : Int) (u : Tok) (c0 : (decide (x < -(2 ^ 63)) || decide (x ≥ 2 ^ 63)) = false) (c1 : (items.isEmpty || x == 1) = true) :
    Meets (Builtin.«tuple.__mul__» ⟨[.ref l, .int x u], []⟩) (fun _ R s => s.heap.get? l = some { cls := .type "tuple", dict := dd, data := .seq items n, slots := sl } ∧ R (.ok (.ret (.ref l))) s) :=
  .of_wp fun prog w A R s h => by
    obtain ⟨hp, g, d, tk, os⟩ := s
    obtain ⟨hl, h⟩ := h
    have f1 := AutoSeq1.idx_int
    wp_walk using wpAny_loadPart' hl
    repeat (first
      | (refine wpAny_ite_false (decide_eq_false (by rw [c0]; exact Bool.false_ne_true)) ?_; wp_walk using wpAny_loadPart' hl)
      | (refine wpAny_ite_true (decide_eq_true (by rw [c1])) ?_; wp_walk using wpAny_loadPart' hl))
    exact ⟨_, rfl, h⟩
theorem tuple_mul0 (l : Addr) (items : Array Value) (n : Nat) (dd : Option Addr) (sl : Array (Option Value)) (x : Int) (u : Tok) (c0 : (decide (x < -(2 ^ 63)) || decide (x ≥ 2 ^ 63)) = false) (c1 : (items.isEmpty || x == 1) = false) (c2 : (decide (x ≤ 0) || items.isEmpty) = true) :
    Meets (Builtin.«tuple.__mul__» ⟨[.ref l, .int x u], []⟩) (fun _ R s => s.heap.get? l = some { cls := .type "tuple", dict := dd, data := .seq items n, slots := sl } ∧ R (.ok (.ret (Value.ref s.heap.objs.size))) { s with heap := s.heap.push { cls := Value.type "tuple", data := Data.seq #[] }, toks := s.toks }) :=
  .of_wp fun prog w A R s h => by
    obtain ⟨hp, g, d, tk, os⟩ := s
    obtain ⟨hl, h⟩ := h
    have f1 := AutoSeq1.idx_int
    wp_walk using wpAny_loadPart' hl
    repeat (first
      | (refine wpAny_ite_false (decide_eq_false (by rw [c0]; exact Bool.false_ne_true)) ?_; wp_walk using wpAny_loadPart' hl)
      | (refine wpAny_ite_false (decide_eq_false (by rw [c1]; exact Bool.false_ne_true)) ?_; wp_walk using wpAny_loadPart' hl)
      | (refine wpAny_ite_true (decide_eq_true (by rw [c2])) ?_; wp_walk using wpAny_loadPart' hl))
    exact ⟨_, rfl, h⟩
/-- a tuple times an int -/
theorem op_repN {X : Cx} {pins : List (Addr × Obj)} {s : Shared} {σ : L2.St} {H : Hp} {l : Addr} {xs : List V} {k : Int} {t : Tok} {Q : VK} (I : Inv X pins σ H s) (hT : SqT X.K H l xs) (h1 : -(2 ^ 62) ≤ k) (h2 : k ≤ 1000) (hz : xs.length ≤ 1000)
    (same : (xs = [] ∨ k = 1) → Q (.ref l) H) (new : ∀ p o, o.dict = none → H p = none → Q (.ref p) (upd H p (.frz o (.tup (List.replicate k.toNat xs).flatten)))) : wpAny (model X.prog X.w) X.A (binaryOp .Mult (.ref l) (.int k t)) (EP X pins σ Q) X.xe s := by
  by_cases hsm : xs = [] ∨ k = 1
  · obtain ⟨its, r, ⟨⟨cls, dd, data, sl⟩, ho, hc, n, hd⟩, hs⟩ := I.tuple hT
    simp only at hc hd
    subst hc hd
    have hle : its.length = xs.length := r.length.symm
    have c0 : (decide (k < -(2 ^ 63)) || decide (k ≥ 2 ^ 63)) = false := by
      rw [decide_eq_false (by omega), decide_eq_false (by omega)] <;> rfl
    have c1 : (its.toArray.isEmpty || k == 1) = true := by
      rcases hsm with e | e
      · have : its = [] := List.eq_nil_of_length_eq_zero (by rw [hle, e]; rfl)
        rw [this]; rfl
      · rw [e]; simp
    exact wpAny_binaryOp_repeat_ref (T := "tuple") (U := "int") (by decide) ⟨_, ho, rfl⟩ (fun s' => typeIs_int s' k t) L2.noFill_tuple_mul F.fills_int_mul F.slot_int_rmul L2.repeat_tuple F.slot_int_index.lookup
      (call_meets F.slot_int_rmul (typeIs_int s k t) F.entry_int_rmul (F.args_int_rmul_2 _ _) (L2.int_rmul_tuple k t l its.toArray n dd sl)
        ⟨ho, rfl, ⟨_, ho, rfl⟩, call_meets F.slot_tuple_mul ⟨_, ho, rfl⟩ F.entry_tuple_mul (F.args_tuple_mul_2 _ _) (tuple_mul1 l its.toArray n dd sl k t c0 c1) ⟨ho, ⟨.ref l, H, I, rfl, same hsm⟩⟩⟩)
  · rw [not_or] at hsm
    by_cases hk : k ≤ 0
    · obtain ⟨its, r, ⟨⟨cls, dd, data, sl⟩, ho, hc, n, hd⟩, hs⟩ := I.tuple hT
      simp only at hc hd
      subst hc hd
      have hle : its.length = xs.length := r.length.symm
      have hn : its ≠ [] := fun e => hsm.1 (by
        rw [e] at hle
        exact List.eq_nil_of_length_eq_zero hle.symm)
      have hi : its.toArray.isEmpty = false := by
        cases its with
        | nil => exact absurd rfl hn
        | cons a b => rfl
      have c0 : (decide (k < -(2 ^ 63)) || decide (k ≥ 2 ^ 63)) = false := by
        rw [decide_eq_false (by omega), decide_eq_false (by omega)] <;> rfl
      have c1 : (its.toArray.isEmpty || k == 1) = false := by
        rw [hi, Bool.false_or]
        exact beq_eq_false_iff_ne.mpr (by omega)
      have c2 : (decide (k ≤ 0) || its.toArray.isEmpty) = true := by
        rw [decide_eq_true hk]; rfl
      have e0 : k.toNat = 0 := by omega
      refine wpAny_binaryOp_repeat_ref (T := "tuple") (U := "int") (by decide) ⟨_, ho, rfl⟩ (fun s' => typeIs_int s' k t) L2.noFill_tuple_mul F.fills_int_mul F.slot_int_rmul L2.repeat_tuple F.slot_int_index.lookup
        (call_meets F.slot_int_rmul (typeIs_int s k t) F.entry_int_rmul (F.args_int_rmul_2 _ _) (L2.int_rmul_tuple k t l its.toArray n dd sl)
          ⟨ho, rfl, ⟨_, ho, rfl⟩, call_meets F.slot_tuple_mul ⟨_, ho, rfl⟩ F.entry_tuple_mul (F.args_tuple_mul_2 _ _) (tuple_mul0 l its.toArray n dd sl k t c0 c1 c2) ⟨ho, ?_⟩⟩)
      have q := new s.heap.objs.size { cls := .type "tuple", data := .seq #[] } rfl (I.hok.fresh (Nat.le_refl _))
      rw [e0] at q
      exact ⟨.ref s.heap.objs.size, _, I.laid (t' := s.toks) (o := .frz { cls := .type "tuple", data := .seq #[] } (.tup [])) (fun b ob q => Heap.get?_push_of_some _ q) (Nat.le_refl _) ⟨Heap.get?_push_size _ rfl, Nat.zero_le _, [], .nil, IsTup.new _ _⟩, rfl, q⟩
    · obtain ⟨its, r, ⟨⟨cls, dd, data, sl⟩, ho, hc, n, hd⟩, hs⟩ := I.tuple hT
      simp only at hc hd
      subst hc hd
      have hle : its.length = xs.length := r.length.symm
      have hn : its ≠ [] := fun e => hsm.1 (by
        rw [e] at hle
        exact List.eq_nil_of_length_eq_zero hle.symm)
      have hi : its.toArray.isEmpty = false := by
        cases its with
        | nil => exact absurd rfl hn
        | cons a b => rfl
      have hsz0 : its.toArray.size = xs.length := by rw [List.size_toArray, hle]
      have hm : ((its.toArray.size : Nat) : Int) * k ≤ 1000000 := by
        rw [hsz0]
        have a1 : ((xs.length : Nat) : Int) * k ≤ 1000 * k := Int.mul_le_mul_of_nonneg_right (by omega) (by omega)
        omega
      have hlen : (List.replicate k.toNat xs).flatten.length ≤ sizeLine := by
        rw [PyProof.Rows.lm_len_rep_flat, sizeLine_eq]
        have a1 : k.toNat * xs.length ≤ 1000 * 1000 := Nat.mul_le_mul (by omega) hz
        omega
      have flen : (List.replicate k.toNat its).flatten.length ≤ sizeLine := by
        rw [PyProof.Rows.lm_len_rep_flat, hle, ← PyProof.Rows.lm_len_rep_flat]
        exact hlen
      have c0 : (decide (k < -(2 ^ 63)) || decide (k ≥ 2 ^ 63)) = false := by
        rw [decide_eq_false (by omega), decide_eq_false (by omega)] <;> rfl
      have c1 : (its.toArray.isEmpty || k == 1) = false := by
        rw [hi, Bool.false_or]
        exact beq_eq_false_iff_ne.mpr (by omega)
      have c2 : (decide (k ≤ 0) || its.toArray.isEmpty) = false := by
        rw [hi, Bool.or_false]
        exact decide_eq_false (by omega)
      have c4 : Builtin.Tuple.tupleTooMany (((its.toArray.size : Nat) : Int) * k) = false := by
        unfold Builtin.Tuple.tupleTooMany
        rw [sizeLine_eq]
        exact decide_eq_false (by omega)
      refine wpAny_binaryOp_repeat_ref (T := "tuple") (U := "int") (by decide) ⟨_, ho, rfl⟩ (fun s' => typeIs_int s' k t) L2.noFill_tuple_mul F.fills_int_mul F.slot_int_rmul L2.repeat_tuple F.slot_int_index.lookup
        (call_meets F.slot_int_rmul (typeIs_int s k t) F.entry_int_rmul (F.args_int_rmul_2 _ _) (L2.int_rmul_tuple k t l its.toArray n dd sl)
          ⟨ho, rfl, ⟨_, ho, rfl⟩, call_meets F.slot_tuple_mul ⟨_, ho, rfl⟩ F.entry_tuple_mul (F.args_tuple_mul_2 _ _) (L2.tuple_mulW l its.toArray n dd sl k t c0 c1 c2 (by omega) c4 (by rw [L2.size_rep, List.size_toArray]; exact flen)) ⟨ho, ?_⟩⟩)
      rw [L2.size_rep]
      exact laidP (s := s) (h := s.heap) (t := s.toks) I (r.rep k.toNat) hlen new
end Ev

set_option Elab.async false
set_option linter.all false
set_option maxRecDepth 100000
set_option maxHeartbeats 1000000
/-! Operations: the machine's rule for each, read by the evaluator. -/
namespace Ev
open PySem PySem.Spec PyProof.Rows L2
section
variable (K : PySem.W.Frag) (fa : Lay)
/-- it gives a value, and what follows holds of it wherever it lies; or an exception, and what is wished of it holds -/
def Run {α : Type} (Z : EZ) (φ : Ph) (H : Hp) (r : Res α) (k : α → Mu → Ph → Hp → Prop) : Prop := match r with
  | .ok a μ' => ∀ φ' H', Ext φ H φ' H' → Abs K fa φ' μ' H' → k a μ' φ' H'
  | .ex x μ' => ∀ φ' H', Ext φ H φ' H' → Abs K fa φ' μ' H' → Z x H'
  | .no => False
/-- nothing is wished -/
abbrev ZT : EZ := fun _ _ => True
abbrev toV (Q : VK) : D → Mu → Ph → Hp → Prop := fun d _ φ' H' => ∀ v, RV K fa (msk H' φ') φ' d v → Q v H'
def tE (W : EW) (m : Rho → Mu → Res D) : TE := fun σ H Q => ∃ φ μ ρ, Abs K fa φ μ H ∧ REnv K fa (msk H φ) φ ρ σ ∧ Run K fa (W σ) φ H (m ρ μ) (toV K fa Q)
def tT (W : EW) (m : Rho → Mu → Res Bool) : TT := fun σ H Q => ∃ φ μ ρ, Abs K fa φ μ H ∧ REnv K fa (msk H φ) φ ρ σ ∧ Run K fa (W σ) φ H (m ρ μ) fun b _ _ H' => Q b H'
def tA (W : EW) (m : Rho → Mu → Res (List D)) : TA := fun σ H Q => ∃ φ μ ρ, Abs K fa φ μ H ∧ REnv K fa (msk H φ) φ ρ σ ∧ Run K fa (W σ) φ H (m ρ μ) fun ds _ φ' H' => ∀ vs, RVs K fa (msk H' φ') φ' ds vs → Q vs H'
def tI (W : EW) (m : Rho → Mu → Res (Option Int)) : TO := fun σ H Q => ∃ φ μ ρ, Abs K fa φ μ H ∧ REnv K fa (msk H φ) φ ρ σ ∧ Run K fa (W σ) φ H (m ρ μ) fun o _ _ H' => Q o H'
/-- what operations ask, by values -/
def rOp (f : Mu → D → D → Res D) : R2 := fun x y H Q => ∃ φ μ a b, Abs K fa φ μ H ∧ RV K fa (msk H φ) φ a x ∧ RV K fa (msk H φ) φ b y ∧ Run K fa ZT φ H (f μ a b) (toV K fa Q)
def rSl (f : Mu → D → Option Int → Option Int → Res D) : V → Option Int → Option Int → Hp → VK → Prop := fun x lo hi H Q => ∃ φ μ a, Abs K fa φ μ H ∧ RV K fa (msk H φ) φ a x ∧ Run K fa ZT φ H (f μ a lo hi) (toV K fa Q)
def rBi (f : Mu → List D → Res D) : List V → Hp → VK → Prop := fun vs H Q => ∃ φ μ ds, Abs K fa φ μ H ∧ RVs K fa (msk H φ) φ ds vs ∧ Run K fa ZT φ H (f μ ds) (toV K fa Q)
def rMe (f : Mu → D → List D → Res D) : V → List V → Hp → VK → Prop := fun x vs H Q => ∃ φ μ a ds, Abs K fa φ μ H ∧ RV K fa (msk H φ) φ a x ∧ RVs K fa (msk H φ) φ ds vs ∧ Run K fa ZT φ H (f μ a ds) (toV K fa Q)
end
section
variable {K : PySem.W.Frag} {fa : Lay} {W : EW} {Z : EZ} {φ φ' : Ph} {H H' : Hp} {μ : Mu}
theorem Run.imp {α : Type} {r : Res α} {k k' : α → Mu → Ph → Hp → Prop} (h : Run K fa Z φ H r k)
    (f : ∀ a μ' φ' H', Ext φ H φ' H' → Abs K fa φ' μ' H' → k a μ' φ' H' → k' a μ' φ' H') : Run K fa Z φ H r k' := by
  cases r with
  | ok a μ' => exact fun φ' H' x A => f a μ' φ' H' x A (h φ' H' x A)
  | ex _ _ => exact h
  | no => exact h
theorem Run.wish {α : Type} {Z' : EZ} {r : Res α} {k : α → Mu → Ph → Hp → Prop} (h : Run K fa Z φ H r k) (f : ∀ x H, Z x H → Z' x H) : Run K fa Z' φ H r k := by
  cases r with
  | ok a μ' => exact h
  | ex x _ => exact fun φ' H' y A => f x H' (h φ' H' y A)
  | no => exact h
theorem Run.any {α : Type} {r : Res α} {k : α → Mu → Ph → Hp → Prop} (h : Run K fa Z φ H r k) : Run K fa ZT φ H r k := by
  cases r with
  | ok a μ' => exact h
  | ex _ _ => exact fun _ _ _ _ => trivial
  | no => exact h
theorem Run.ext {α : Type} {r : Res α} {k : α → Mu → Ph → Hp → Prop} (x : Ext φ H φ' H') (h : Run K fa Z φ H r k) : Run K fa Z φ' H' r k := by
  cases r with
  | ok a μ' => exact fun φ2 H2 y A => h φ2 H2 (x.trans y) A
  | ex _ _ => exact fun φ2 H2 y A => h φ2 H2 (x.trans y) A
  | no => exact h
theorem Run.bind {α β : Type} {r : Res α} {f : α → Mu → Res β} {k : β → Mu → Ph → Hp → Prop} (h : Run K fa Z φ H (r.bind f) k) :
    Run K fa Z φ H r fun a μ' φ' H' => Run K fa Z φ' H' (f a μ') k := by
  cases r with
  | ok a μ' => exact fun φ' H' x A => Run.ext x h
  | ex _ _ => exact h
  | no => exact h
theorem Run.of {α : Type} {o : Option α} {k : α → Mu → Ph → Hp → Prop} (h : Run K fa Z φ H (Res.of o μ) k) : ∃ a, o = some a ∧ ∀ φ' H', Ext φ H φ' H' → Abs K fa φ' μ H' → k a μ φ' H' := by
  cases o with
  | some a => exact ⟨a, rfl, h⟩
  | none => exact False.elim h
theorem Run.here {α : Type} {a : α} {k : α → Mu → Ph → Hp → Prop} (h : Run K fa Z φ H (.ok a μ) k) (A : Abs K fa φ μ H) : k a μ φ H := h φ H (Ext.refl _ _) A
end
section
variable {X : Cx} {fa : Lay} {W : EW} {Z : EZ} {a b e : Expr} {ma mb : Rho → Mu → Res D} {pos : Pos}
theorem PE.imp {t t' : TE} (h : PE X e t) (f : ∀ σ H Q, t' σ H Q → t σ H Q) : PE X e t' := ⟨fun pins s σ H Q I q => h.run pins s σ H Q I (f σ H Q q)⟩
theorem PT.imp {t t' : TT} (h : PT X e t) (f : ∀ σ H Q, t' σ H Q → t σ H Q) : PT X e t' := ⟨fun pins s σ H Q I q => h.run pins s σ H Q I (f σ H Q q)⟩
theorem PA.imp {es : List Expr} {t t' : TA} (h : PA X es t) (f : ∀ σ H Q, t' σ H Q → t σ H Q) : PA X es t' := ⟨fun pos pins s σ H Q I q => h.run pos pins s σ H Q I (f σ H Q q)⟩
/-- two, then an operation -/
theorem two {f : Mu → D → D → Res D} (σ : L2.St) (H : Hp) (Q : VK) (h : tE X.K fa W (fun ρ μ => (ma ρ μ).bind fun x μ => (mb ρ μ).bind fun y μ => f μ x y) σ H Q) :
    tOp (rOp X.K fa f) (tE X.K fa W ma) (tE X.K fa W mb) σ H Q := by
  obtain ⟨φ, μ, ρ, A, R, h⟩ := h
  refine ⟨φ, μ, ρ, A, R, h.bind.imp fun x μ1 φ1 H1 e1 A1 h1 v rv => ?_⟩
  refine ⟨φ1, μ1, ρ, A1, R.ext e1, h1.bind.imp fun y μ2 φ2 H2 e2 A2 h2 u ru => ?_⟩
  exact ⟨φ2, μ2, x, y, A2, rv.ext e2, ru, h2.any⟩

/-! ### numbers, texts, rows -/
theorem i2_some {α : Type} {a b : D} {f : Int → Int → Option α} {d : α} (h : i2 a b f = some d) : ∃ i j, a = .int i ∧ b = .int j ∧ f i j = some d := by
  cases a <;> cases b <;> first | exact ⟨_, _, rfl, rfl, h⟩ | cases h
theorem ite_some {α : Type} {c : Prop} [Decidable c] {x : Option α} {d : α} (h : (if c then x else none) = some d) : c ∧ x = some d := by
  by_cases hc : c
  · rw [if_pos hc] at h; exact ⟨hc, h⟩
  · rw [if_neg hc] at h; cases h
theorem rv_int {K : PySem.W.Frag} {G : Hp} {φ : Ph} {i : Int} {v : V} (h : RV K fa G φ (.int i) v) : v = .int i := by unfold RV at h; exact h
theorem rv_bl {K : PySem.W.Frag} {G : Hp} {φ : Ph} {i : Bool} {v : V} (h : RV K fa G φ (.bl i) v) : v = .bl i := by unfold RV at h; exact h
theorem rv_non {K : PySem.W.Frag} {G : Hp} {φ : Ph} {v : V} (h : RV K fa G φ .non v) : v = .non := by unfold RV at h; exact h
theorem rv_str {K : PySem.W.Frag} {G : Hp} {φ : Ph} {s : Txt} {v : V} (h : RV K fa G φ (.str s) v) : v = .str (sOf s) ∧ okT s = true := by unfold RV at h; exact h
theorem rv_tup {K : PySem.W.Frag} {G : Hp} {φ : Ph} {l : List D} {v : V} (h : RV K fa G φ (.tup l) v) : ∃ a vs, v = .ref a ∧ SqT K G a vs ∧ RVs K fa G φ l vs := by unfold RV at h; obtain ⟨a, vs, e, hs, r⟩ := h; exact ⟨a, vs, e, hs.t, r⟩
theorem rv_tupP {K : PySem.W.Frag} {G : Hp} {φ : Ph} {l : List D} {v : V} (h : RV K fa G φ (.tup l) v) : ∃ a vs, v = .ref a ∧ SqP K G a vs ∧ RVs K fa G φ l vs := by unfold RV at h; exact h
theorem rv_lst {K : PySem.W.Frag} {G : Hp} {φ : Ph} {l : List D} {v : V} (h : RV K fa G φ (.lst l) v) : ∃ a vs, v = .ref a ∧ SqL K G a vs ∧ RVs K fa G φ l vs := by unfold RV at h; exact h
theorem rv_loc {K : PySem.W.Frag} {G : Hp} {φ : Ph} {n : Nat} {v : V} (h : RV K fa G φ (.loc n) v) : ∃ a, φ.sh[n]? = some a ∧ v = .ref a := by unfold RV at h; exact h
theorem rv_fn {K : PySem.W.Frag} {G : Hp} {φ : Ph} {k : Nat} {l : List D} {v : V} (h : RV K fa G φ (.fn k l) v) : ∃ a, v = .ref a := by
  unfold RV at h
  by_cases hk : k < LB
  · rw [if_pos hk] at h; exact ⟨_, h.2.2⟩
  · rw [if_neg hk] at h
    obtain ⟨ci, _, _, e, _⟩ := h
    exact ⟨_, e⟩
theorem mk_int {K : PySem.W.Frag} {G : Hp} {φ : Ph} {i : Int} : RV K fa G φ (.int i) (.int i) := by unfold RV; rfl
theorem mk_bl {K : PySem.W.Frag} {G : Hp} {φ : Ph} {i : Bool} : RV K fa G φ (.bl i) (.bl i) := by unfold RV; rfl
theorem mk_non {K : PySem.W.Frag} {G : Hp} {φ : Ph} : RV K fa G φ .non .non := by unfold RV; rfl
theorem mk_str {K : PySem.W.Frag} {G : Hp} {φ : Ph} {s : Txt} (h : okT s = true) : RV K fa G φ (.str s) (.str (sOf s)) := by unfold RV; exact ⟨rfl, h⟩
theorem mk_tup {K : PySem.W.Frag} {G : Hp} {φ : Ph} {l : List D} {vs : List V} {p : Addr} (h : SqP K G p vs) (r : RVs K fa G φ l vs) : RV K fa G φ (.tup l) (.ref p) := by unfold RV; exact ⟨p, vs, rfl, h, r⟩
theorem mk_lst {K : PySem.W.Frag} {G : Hp} {φ : Ph} {l : List D} {vs : List V} {p : Addr} (h : SqL K G p vs) (r : RVs K fa G φ l vs) : RV K fa G φ (.lst l) (.ref p) := by unfold RV; exact ⟨p, vs, rfl, h, r⟩
theorem mk_loc {K : PySem.W.Frag} {G : Hp} {φ : Ph} {n : Nat} {p : Addr} (h : φ.sh[n]? = some p) : RV K fa G φ (.loc n) (.ref p) := by unfold RV; exact ⟨p, h, rfl⟩
section
variable {K : PySem.W.Frag} {φ : Ph} {H : Hp} {μ : Mu}
/-- a new tuple, a new list of one's own -/
theorem new_tup (A : Abs K fa φ μ H) {l : List D} {vs : List V} (r : RVs K fa (msk H φ) φ l vs) {p : Addr} {o : Obj} (ho : o.dict = none) (hp : H p = none) :
    Ext φ H φ (upd H p (.frz o (.tup vs))) ∧ Abs K fa φ μ (upd H p (.frz o (.tup vs))) ∧ RV K fa (msk (upd H p (.frz o (.tup vs))) φ) φ (.tup l) (.ref p) := by
  have x : Ext φ H φ (upd H p (.frz o (.tup vs))) := Ext.fresh A hp
  exact ⟨x, Abs.fresh A hp, mk_tup (.inl ⟨o, ho, by rw [msk_out (A.notIn hp), upd_same]⟩) (r.ext x)⟩
theorem new_lst (A : Abs K fa φ μ H) {l : List D} {vs : List V} (r : RVs K fa (msk H φ) φ l vs) {p : Addr} (hp : H p = none) :
    Ext φ H φ (upd H p (.lst vs)) ∧ Abs K fa φ μ (upd H p (.lst vs)) ∧ RV K fa (msk (upd H p (.lst vs)) φ) φ (.lst l) (.ref p) := by
  have x : Ext φ H φ (upd H p (.lst vs)) := Ext.fresh A hp
  exact ⟨x, Abs.fresh A hp, mk_lst (.inl (.inl (by rw [msk_out (A.notIn hp), upd_same]))) (r.ext x)⟩
/-- a new list that is shared -/
theorem new_loc (A : Abs K fa φ μ H) {l : List D} {vs : List V} (r : RVs K fa (msk H φ) φ l vs) {p : Addr} (hp : H p = none) :
    Ext φ H (φ.add p) (upd H p (.lst vs)) ∧ Abs K fa (φ.add p) (μ ++ [.lst l]) (upd H p (.lst vs)) ∧ RV K fa (msk (upd H p (.lst vs)) (φ.add p)) (φ.add p) (.loc μ.length) (.ref p) := by
  obtain ⟨x1, A1⟩ := Abs.push (o := .lst vs) (c := .lst l) A hp ⟨vs, upd_same, r.ext (Ext.add A hp)⟩
  refine ⟨x1, A1, mk_loc ?_⟩
  show (φ.sh ++ [p])[μ.length]? = some p
  rw [← A.len, List.getElem?_append_right (Nat.le_refl _), Nat.sub_self]
  rfl
/-- the list that a list's data stands for -/
theorem lst_at (A : Abs K fa φ μ H) {d : D} {l : List D} {v : V} (r : RV K fa (msk H φ) φ d v) (h : lstOf μ d = some l) : ∃ a vs, v = .ref a ∧ SqL K H a vs ∧ RVs K fa (msk H φ) φ l vs := by
  cases d with
  | lst q =>
    cases h
    obtain ⟨a, vs, e, hr, rs⟩ := rv_lst r
    exact ⟨a, vs, e, Same.sqL msk_same hr, rs⟩
  | loc n =>
    obtain ⟨a, ha, e⟩ := rv_loc r
    have h' : (match μ[n]? with | some (.lst l) => some l | _ => none) = some l := h
    cases hm : μ[n]? with
    | none => rw [hm] at h'; cases h'
    | some c =>
      rw [hm] at h'
      cases c with
      | lst q =>
        cases h'
        obtain ⟨vs, e1, rs⟩ := A.cell n a _ ha hm
        exact ⟨a, vs, e, .inl (.inl e1), rs⟩
      | _ => cases h'
  | _ => cases h
/-- a list's or tuple's items -/
theorem seq_at (A : Abs K fa φ μ H) {d : D} {l : List D} {v : V} (r : RV K fa (msk H φ) φ d v) (h : seqOf μ d = some l) : ∃ a vs, v = .ref a ∧ (SqL K H a vs ∨ SqT K H a vs) ∧ RVs K fa (msk H φ) φ l vs := by
  cases d with
  | tup q =>
    cases h
    obtain ⟨a, vs, e, hr, rs⟩ := rv_tup r
    exact ⟨a, vs, e, .inr (Same.seqT msk_same hr), rs⟩
  | lst q =>
    obtain ⟨a, vs, e, hr, rs⟩ := lst_at A r (l := l) (by cases h; rfl)
    exact ⟨a, vs, e, .inl hr, rs⟩
  | loc n =>
    obtain ⟨a, vs, e, hr, rs⟩ := lst_at A r (l := l) h
    exact ⟨a, vs, e, .inl hr, rs⟩
  | _ => cases h
end
theorem SqL.rd {K : PySem.W.Frag} {H : Hp} {a : Addr} {xs : List V} (h : Rd H a (.lst xs)) : SqL K H a xs := .inl h
theorem op_sub' : OpR X (binaryOp .Sub) (rOp X.K fa fun μ a b => Res.of (binD .sub μ a b) μ) := by
  intro pins s σ H x y v u Q I rx ry h
  obtain ⟨φ, μ, a, b, A, ra, rb, h⟩ := h
  obtain ⟨d, e, k⟩ := h.of
  obtain ⟨i, j, rfl, rfl, e⟩ := i2_some e
  cases e
  cases rv_int ra; cases rv_int rb
  exact op_sub pins s σ H _ _ v u Q I rx ry ⟨i, j, rfl, rfl, k φ H (Ext.refl _ _) A _ mk_int⟩
theorem lim_eq0 : (sizeLine : Nat) = lim := sizeLine_eq
theorem reps_cps (s : Txt) : ∀ (k : Nat) (acc : Array Nat), (List.replicate k (sOf s).cps).foldl (· ++ ·) acc = acc ++ (List.replicate k s).flatten.toArray
  | 0, acc => by simp
  | k + 1, acc => by
    rw [List.replicate_succ, List.foldl_cons, reps_cps s k, List.replicate_succ, List.flatten_cons]
    simp [sOf]
theorem okT_reps {s : Txt} (h : okT s = true) (k : Nat) : okT (List.replicate k s).flatten = true := by
  induction k with
  | zero => rfl
  | succ k ih => rw [List.replicate_succ, List.flatten_cons]; exact okT_app h ih
theorem rep_rvs {K : PySem.W.Frag} {G : Hp} {φ : Ph} {l : List D} {vs : List V} (n : Nat) (r : RVs K fa G φ l vs) : RVs K fa G φ (List.replicate n l).flatten (List.replicate n vs).flatten := by
  induction n with
  | zero => exact RVs.nil
  | succ n ih => rw [List.replicate_succ, List.replicate_succ, List.flatten_cons, List.flatten_cons]; exact r.append ih
theorem op_mul' : OpR X (binaryOp .Mult) (rOp X.K fa fun μ a b => Res.of (binD .mul μ a b) μ) := by
  intro pins s σ H x y v u Q I rx ry h
  obtain ⟨φ, μ, a, b, A, ra, rb, h⟩ := h
  obtain ⟨d, e, k⟩ := h.of
  replace e : mulD a b = some d := e
  unfold mulD at e
  split at e
  · obtain ⟨c, e⟩ := ite_some e
    cases e
    cases rv_int ra; cases rv_int rb
    exact op_mulW pins s σ H _ _ v u Q I rx ry ⟨_, _, rfl, rfl, c, k φ H (Ext.refl _ _) A _ mk_int⟩
  · rename_i w j
    obtain ⟨⟨c1, c2, c3⟩, e⟩ := ite_some e
    cases e
    obtain ⟨rfl, ok⟩ := rv_str ra
    cases rv_int rb
    obtain ⟨t, rfl⟩ := rx
    obtain ⟨t', rfl⟩ := ry
    have hlen : (sOf w).length = w.length := sOf_len w
    have hz : Builtin.Str.tooLong ((sOf w).length * j.toNat) = false := by
      show decide ((sOf w).length * j.toNat > sizeLine) = false
      rw [hlen, lim_eq0]
      exact decide_eq_false (by omega)
    have fin : ∀ (x : Str) (tk : Tok) (n : Nat), x = sOf (List.replicate j.toNat w).flatten → EP X pins σ Q (.str x tk) { s with toks := n } := fun x tk n ex => by
      subst ex
      exact ⟨.str _, H, I.tok _, ⟨_, rfl⟩, k φ H (Ext.refl _ _) A _ (mk_str (okT_reps ok _))⟩
    refine PySem.P.mul_str (by
        rw [decide_eq_false (by omega), decide_eq_false (by omega)]; rfl) (fun h1 _ h2 => ?_) (fun _ _ => hz) ?_
    · have h3 : ((sOf w).length : Int) * j ≤ 2 ^ 63 - 1 := by
        rw [hlen]
        have : ((w.length * j.toNat : Nat) : Int) = (w.length : Int) * j := by
          rw [Int.natCast_mul, Int.toNat_of_nonneg (by omega)]
        rw [← this]
        have hl : lim = 16777216 := rfl
        rw [hl] at c3
        omega
      have h4 := Int.le_ediv_of_mul_le (by omega : 0 < j) h3
      omega
    · by_cases h1 : j < 1
      · rw [if_pos h1]
        refine ⟨by decide, fin _ _ _ ?_⟩
        have : j.toNat = 0 := by omega
        rw [this]
        rfl
      · rw [if_neg h1]
        by_cases h2 : (j == 1 || (sOf w).length == 0) = true
        · rw [if_pos h2]
          refine ⟨.str _, H, I, ⟨_, rfl⟩, ?_⟩
          have ew : w = (List.replicate j.toNat w).flatten := by
            rw [Bool.or_eq_true, beq_iff_eq, beq_iff_eq, hlen] at h2
            rcases h2 with h2 | h2
            · subst h2; simp
            · have : w = [] := List.length_eq_zero_iff.mp h2
              subst this
              simp
          have := k φ H (Ext.refl _ _) A _ (mk_str (okT_reps ok j.toNat))
          rw [← ew] at this
          exact this
        · rw [if_neg h2]
          refine ⟨PySem.fits_reps hz, fin _ _ _ ?_⟩
          rw [reps_cps]
          simp [sOf]
  · rename_i l j
    obtain ⟨⟨c1, c2, c3⟩, e⟩ := ite_some e
    cases e
    obtain ⟨p, vs, rfl, hs, rs⟩ := rv_tupP ra
    cases rv_int rb
    cases rx
    obtain ⟨t', rfl⟩ := ry
    have hl := rs.length
    refine op_repN I (Same.seqT (msk_same (φ := φ)) hs.t) c1 c2 (by omega) (fun hsm => ?_) fun q o ho hq => ?_
    · have ew : (List.replicate j.toNat l).flatten = l := by
        rcases hsm with e | e
        · have : l = [] := List.length_eq_zero_iff.mp (by rw [← hl, e]; rfl)
          subst this; simp
        · subst e; simp
      have := k φ H (Ext.refl _ _) A _ (mk_tup (l := (List.replicate j.toNat l).flatten) hs (by rw [ew]; exact rs))
      exact this
    · obtain ⟨x1, A1, r1⟩ := new_tup A (rep_rvs j.toNat rs) ho hq
      exact k φ _ x1 A1 _ r1
  · cases e
theorem op_fdiv' : OpR X (binaryOp .FloorDiv) (rOp X.K fa fun μ a b => Res.of (binD .fdiv μ a b) μ) := by
  intro pins s σ H x y v u Q I rx ry h
  obtain ⟨φ, μ, a, b, A, ra, rb, h⟩ := h
  obtain ⟨d, e, k⟩ := h.of
  obtain ⟨i, j, rfl, rfl, e⟩ := i2_some e
  obtain ⟨c, e⟩ := ite_some e
  cases e
  cases rv_int ra; cases rv_int rb
  exact op_fdivW pins s σ H _ _ v u Q I rx ry ⟨i, j, rfl, rfl, c, k φ H (Ext.refl _ _) A _ mk_int⟩
theorem op_mod' : OpR X (binaryOp .Mod) (rOp X.K fa fun μ a b => Res.of (binD .mod μ a b) μ) := by
  intro pins s σ H x y v u Q I rx ry h
  obtain ⟨φ, μ, a, b, A, ra, rb, h⟩ := h
  obtain ⟨d, e, k⟩ := h.of
  obtain ⟨i, j, rfl, rfl, e⟩ := i2_some e
  obtain ⟨c, e⟩ := ite_some e
  cases e
  cases rv_int ra; cases rv_int rb
  exact op_mod pins s σ H _ _ v u Q I rx ry ⟨i, j, rfl, rfl, c, k φ H (Ext.refl _ _) A _ mk_int⟩
theorem op_pow' : OpR X (binaryOp .Pow) (rOp X.K fa fun μ a b => Res.of (binD .pow μ a b) μ) := by
  intro pins s σ H x y v u Q I rx ry h
  obtain ⟨φ, μ, a, b, A, ra, rb, h⟩ := h
  obtain ⟨d, e, k⟩ := h.of
  obtain ⟨i, j, rfl, rfl, e⟩ := i2_some e
  obtain ⟨c, e⟩ := ite_some e
  cases e
  cases rv_int ra; cases rv_int rb
  exact op_pow pins s σ H _ _ v u Q I rx ry ⟨i, j, rfl, rfl, c, k φ H (Ext.refl _ _) A _ mk_int⟩
/-- list + list, as they are read -/
def rCatR (K : PySem.W.Frag) : R2 := fun x y H Q => ∃ l b xs zs, x = .ref l ∧ y = .ref b ∧ SqL K H l xs ∧ SqL K H b zs ∧ xs.length + zs.length ≤ sizeLine ∧ ∀ p, H p = none → Q (.ref p) (upd H p (.lst (xs ++ zs)))
theorem op_catR : OpR X (binaryOp .Add) (rCatR X.K) := by
  intro pins s σ H x y v u Q I rx ry h
  obtain ⟨l, b, xs, zs, rfl, rfl, hH, hB, hz, q⟩ := h
  cases rx
  cases ry
  obtain ⟨its, r, ⟨⟨c1, dd1, da1, sl1⟩, n1, e1, hc1, hd1, hs1⟩, z⟩ := I.list hH
  obtain ⟨its2, r2, ⟨⟨c2, dd2, da2, sl2⟩, n2, e2, hc2, hd2, hs2⟩, z2⟩ := I.list hB
  simp only at hc1 hd1 hs1 hc2 hd2 hs2
  subst hc1 hd1 hs1 hc2 hd2 hs2
  have hl := r.length
  have hl2 := r2.length
  refine PySem.concat_meets ⟨_, e1, rfl⟩ ⟨_, e2, rfl⟩ PySem.noFill_list_add PySem.seq_list_add PySem.F.slot_list_add PySem.F.entry_list_add (PySem.F.args_list_add_2 _ _) (list_addW l b its.toArray its2.toArray n1 n2 none none sl1 sl2 (by simp; omega)) ⟨e1, e2, ?_⟩
  have ea : its.toArray ++ its2.toArray = (its ++ its2).toArray := by simp
  rw [ea]
  exact ⟨.ref _, _, I.lnew (t' := s.toks) (r.append r2) (by rw [List.length_append]; omega), rfl, q _ I.fresh⟩
theorem lim_eq : (sizeLine : Nat) = lim := sizeLine_eq
theorem add_lists {pins : List (Addr × Obj)} {s : Shared} {σ : L2.St} {H : Hp} {x y : V} {v u : Value} {Q : VK} (I : Inv X pins σ H s) (rx : RelV x v) (ry : RelV y u) {φ : Ph} {μ : Mu} {a b : D} {l r : List D}
    (A : Abs X.K fa φ μ H) (ra : RV X.K fa (msk H φ) φ a x) (rb : RV X.K fa (msk H φ) φ b y) (ha : lstOf μ a = some l) (hb : lstOf μ b = some r) (hl : l.length + r.length ≤ lim)
    (k : ∀ p vs, RVs X.K fa (msk H φ) φ (l ++ r) vs → H p = none → Q (.ref p) (upd H p (.lst vs))) : wpAny (model X.prog X.w) X.A (binaryOp .Add v u) (EP X pins σ Q) X.xe s := by
  obtain ⟨p, vs, rfl, h1, r1⟩ := lst_at A ra ha
  obtain ⟨q, us, rfl, h2, r2⟩ := lst_at A rb hb
  exact op_catR pins s σ H _ _ v u Q I rx ry ⟨p, q, vs, us, rfl, rfl, h1, h2, by rw [r1.length, r2.length, lim_eq]; exact hl, fun z hz => k z _ (r1.append r2) hz⟩
theorem op_add' : OpR X (binaryOp .Add) (rOp X.K fa fun μ a b => Res.of (binD .add μ a b) μ) := by
  intro pins s σ H x y v u Q I rx ry h
  obtain ⟨φ, μ, a, b, A, ra, rb, h⟩ := h
  obtain ⟨d, e, k⟩ := h.of
  have lists : ∀ l r, lstOf μ a = some l → lstOf μ b = some r → l.length + r.length ≤ lim → d = .lst (l ++ r) → wpAny (model X.prog X.w) X.A (binaryOp .Add v u) (EP X pins σ Q) X.xe s := fun l r ha hb hl ed => by
    subst ed
    refine add_lists I rx ry A ra rb ha hb hl fun p vs rs hp => ?_
    obtain ⟨x1, A1, r1⟩ := new_lst A rs hp
    exact k φ _ x1 A1 _ r1
  have e : addD μ a b = some d := e
  unfold addD at e
  split at e
  · cases e
    cases rv_int ra; cases rv_int rb
    exact op_add pins s σ H _ _ v u Q I rx ry ⟨_, _, rfl, rfl, k φ H (Ext.refl _ _) A _ mk_int⟩
  · obtain ⟨c, e⟩ := ite_some e
    cases e
    obtain ⟨rfl, o1⟩ := rv_str ra
    obtain ⟨rfl, o2⟩ := rv_str rb
    refine op_add_str pins s σ H _ _ v u Q I rx ry ⟨_, _, rfl, rfl, by rw [sOf_len, sOf_len, lim_eq]; exact c, ?_⟩
    rw [sOf_app]
    exact k φ H (Ext.refl _ _) A _ (mk_str (okT_app o1 o2))
  · rename_i s1 t1 _
    obtain ⟨c, e⟩ := ite_some e
    cases e
    obtain ⟨p, vs, rfl, h1, r1⟩ := rv_tupP ra
    obtain ⟨q, us, rfl, h2, r2⟩ := rv_tupP rb
    have h1' := Same.seqT (msk_same (φ := φ)) h1.t
    have h2' := Same.seqT (msk_same (φ := φ)) h2.t
    refine op_catP pins s σ H _ _ v u Q I rx ry ⟨p, q, vs, us, rfl, rfl, h1', h2', by rw [r1.length, r2.length, lim_eq]; exact c, fun e0 => ?_, fun _ e0 => ?_, fun _ _ z o ho hz => ?_⟩
    · have e1 : s1 = [] := List.length_eq_zero_iff.mp (by rw [← r1.length, e0]; rfl)
      subst e1
      exact k φ H (Ext.refl _ _) A _ (mk_tup h2 r2)
    · have e1 : t1 = [] := List.length_eq_zero_iff.mp (by rw [← r2.length, e0]; rfl)
      subst e1
      exact k φ H (Ext.refl _ _) A _ (mk_tup h1 (by rw [List.append_nil]; exact r1))
    · obtain ⟨x1, A1, r3⟩ := new_tup A (r1.append r2) ho hz
      exact k φ _ x1 A1 _ r3
  · split at e
    · rename_i l r ha hb
      obtain ⟨c, e⟩ := ite_some e
      cases e
      exact lists l r ha hb c rfl
    · cases e
/-- list + list that is to be shared -/
def catD (μ : Mu) (x y : D) : Res D := match lstOf μ x, lstOf μ y with
  | some s, some t => if s.length + t.length ≤ lim then .ok (.loc μ.length) (μ ++ [.lst (s ++ t)]) else .no
  | _, _ => .no
theorem op_catM : OpR X (binaryOp .Add) (rOp X.K fa catD) := by
  intro pins s σ H x y v u Q I rx ry h
  obtain ⟨φ, μ, a, b, A, ra, rb, h⟩ := h
  unfold catD at h
  split at h
  · rename_i l r ha hb
    by_cases c : l.length + r.length ≤ lim
    · rw [if_pos c] at h
      refine add_lists I rx ry A ra rb ha hb c fun p vs rs hp => ?_
      obtain ⟨x1, A1, r1⟩ := new_loc A rs hp
      exact h _ _ x1 A1 _ r1
    · rw [if_neg c] at h; exact False.elim h
  · exact False.elim h
theorem un_neg' : UnR X (unaryOp .USub) (fun x H Q => ∃ φ μ a, Abs X.K fa φ μ H ∧ RV X.K fa (msk H φ) φ a x ∧ Run X.K fa Z φ H (match a with | .int i => .ok (.int (-i)) μ | _ => .no) (toV X.K fa Q)) := by
  intro pins s σ H x v Q I rx h
  obtain ⟨φ, μ, a, A, ra, h⟩ := h
  cases a with
  | int i =>
    cases rv_int ra
    exact un_neg pins s σ H _ v Q I rx ⟨i, rfl, h.here A _ mk_int⟩
  | _ => exact False.elim h
end
end Ev

set_option Elab.async false
set_option linter.all false
set_option maxRecDepth 100000
set_option maxHeartbeats 1000000
/-! A dict is no text. -/
namespace Ev
open PySem PySem.Spec PyProof.Rows L2 PySem.SeqAt MeetsSeq MeetsSeq2 MeetsSeq3 SeqRoads2 AutoSeq1
section
variable {es : Array DictEntry} {ep : Nat} {dd : Option Addr} {sl : Array (Option Value)} {l : Addr} {b : Str} {u : Tok}
abbrev dOb (es : Array DictEntry) (ep : Nat) (dd : Option Addr) (sl : Array (Option Value)) : Obj := { cls := .type "dict", dict := dd, data := .dict es ep, slots := sl }
theorem dict_eq_no : Meets (Builtin.«dict.__eq__» ⟨[.ref l, .str b u], []⟩) (fun _ R s => s.heap.get? l = some (dOb es ep dd sl) ∧ R (.ok (.ret .notImplemented)) s) :=
  .of_wp fun prog w A R s h => by
    obtain ⟨hp, g, d, tk, os⟩ := s
    obtain ⟨hl, h⟩ := h
    have f1 : isSubtype (.type "str") (.type "dict") = pure false := by rw [isSubtype_type]; kernel_rfl
    wp_walk using wpAny_loadPart' hl, wpAny_load hl
    exact ⟨_, rfl, h⟩
theorem dict_ne_no : Meets (Builtin.«dict.__ne__» ⟨[.ref l, .str b u], []⟩) (fun _ R s => s.heap.get? l = some (dOb es ep dd sl) ∧ R (.ok (.ret .notImplemented)) s) :=
  .of_wp fun prog w A R s h => by
    obtain ⟨hp, g, d, tk, os⟩ := s
    obtain ⟨hl, h⟩ := h
    have f1 : isSubtype (.type "str") (.type "dict") = pure false := by rw [isSubtype_type]; kernel_rfl
    wp_walk using wpAny_loadPart' hl, wpAny_load hl
    exact ⟨_, rfl, h⟩
theorem str_eq_no : Meets (Builtin.«str.__eq__» ⟨[.str b u, .ref l], []⟩) (fun _ R s => s.heap.get? l = some (dOb es ep dd sl) ∧ R (.ok (.ret .notImplemented)) s) :=
  .of_wp fun prog w A R s h => by
    obtain ⟨hp, g, d, tk, os⟩ := s
    obtain ⟨hl, h⟩ := h
    wp_walk using wpAny_loadPart' hl, wpAny_load hl
    exact ⟨_, rfl, h⟩
theorem str_ne_no : Meets (Builtin.«str.__ne__» ⟨[.str b u, .ref l], []⟩) (fun _ R s => s.heap.get? l = some (dOb es ep dd sl) ∧ R (.ok (.ret .notImplemented)) s) :=
  .of_wp fun prog w A R s h => by
    obtain ⟨hp, g, d, tk, os⟩ := s
    obtain ⟨hl, h⟩ := h
    wp_walk using wpAny_loadPart' hl, wpAny_load hl
    exact ⟨_, rfl, h⟩
theorem dict_str {A : Around} {s : Shared} (ho : s.heap.get? l = some (dOb es ep dd sl)) (hu : A.units < cLine) : RcAt A s (.ref l) (.str b u) false := fun prog w E Q h =>
  rc_eq_decline_or (k := false) ⟨_, ho, rfl⟩ (typeIs_str s b u) (by decide) (by rw [isSubtype_type]; kernel_rfl) F.slot_dict_eq F.slot_str_eq_refl
    (fun _ q => call_meets F.slot_dict_eq ⟨_, ho, rfl⟩ F.entry_dict_eq (F.args_dict_eq_2 _ _) dict_eq_no ⟨ho, q⟩)
    (fun _ q => call_meets F.slot_str_eq_refl (typeIs_str s b u) F.entry_str_eq (F.args_str_eq_2 _ _) str_eq_no ⟨ho, q⟩)
    (fun _ q => wpAny_of_eq (rfl : isSame (.ref l) (.str b u) = pure false) q) (.inr hu) h
theorem dict_strN {A : Around} {s : Shared} (ho : s.heap.get? l = some (dOb es ep dd sl)) (hu : A.units < cLine) : RcNeAt A s (.ref l) (.str b u) true := fun prog w E Q h =>
  rc_ne_decline_or (k := false) ⟨_, ho, rfl⟩ (typeIs_str s b u) (by decide) (by rw [isSubtype_type]; kernel_rfl) F.slot_dict_ne F.slot_str_ne_refl
    (fun _ q => call_meets F.slot_dict_ne ⟨_, ho, rfl⟩ F.entry_dict_ne (F.args_dict_ne_2 _ _) dict_ne_no ⟨ho, q⟩)
    (fun _ q => call_meets F.slot_str_ne_refl (typeIs_str s b u) F.entry_str_ne (F.args_str_ne_2 _ _) str_ne_no ⟨ho, q⟩)
    (fun _ q => wpAny_of_eq (rfl : isSame (.ref l) (.str b u) = pure false) q) (.inr hu) h
end
end Ev

set_option Elab.async false
set_option linter.all false
set_option maxRecDepth 100000
set_option maxHeartbeats 1000000
/-! Dicts whose keys are ints and texts. -/
namespace Ev
open PySem PySem.Spec PyProof.Rows L2
section
variable {K : PySem.W.Frag} {fa : Lay} {φ : Ph} {H G : Hp} {μ : Mu}
theorem key_rv {d : D} {v : V} (c : isKey d = true) (r : RV K fa G φ d v) : ∃ k, RK d k ∧ v = kV k := by
  cases d with
  | int i => cases rv_int r; exact ⟨.inl i, rfl, rfl⟩
  | str s => obtain ⟨rfl, o⟩ := rv_str r; exact ⟨.inr (sOf s), ⟨rfl, o⟩, rfl⟩
  | _ => cases c
theorem rk_eq {a b : D} {x y : L2.Key} (h1 : RK a x) (h2 : RK b y) : (a == b) = decide (x = y) := by
  cases a with
  | int i =>
    cases (show x = .inl i from h1)
    cases b with
    | int j =>
      cases (show y = .inl j from h2)
      by_cases e : i = j
      · subst e; rw [decide_eq_true rfl]; exact beq_self_eq_true _
      · rw [decide_eq_false (fun z => e (Sum.inl.inj z))]; exact beq_eq_false_iff_ne.mpr fun z => e (by injection z)
    | str t =>
      obtain ⟨rfl, _⟩ := (show y = .inr (sOf t) ∧ okT t = true from h2)
      rw [decide_eq_false (fun z => by cases z)]; rfl
    | _ => exact False.elim h2
  | str s =>
    obtain ⟨rfl, _⟩ := (show x = .inr (sOf s) ∧ okT s = true from h1)
    cases b with
    | int j =>
      cases (show y = .inl j from h2)
      rw [decide_eq_false (fun z => by cases z)]; rfl
    | str t =>
      obtain ⟨rfl, _⟩ := (show y = .inr (sOf t) ∧ okT t = true from h2)
      by_cases e : s = t
      · subst e; rw [decide_eq_true rfl]; exact beq_self_eq_true _
      · rw [decide_eq_false (fun z => e (sOf_inj.mp (Sum.inr.inj z)))]; exact beq_eq_false_iff_ne.mpr fun z => e (by injection z)
    | _ => exact False.elim h2
  | _ => exact False.elim h1
theorem RDs.nil : RDs K fa G φ [] [] := rfl
theorem RDs.cons {p : D × D} {k : L2.Key} {v : V} {l : List (D × D)} {q : List (L2.Key × V)} (hk : RK p.1 k) (hv : RV K fa G φ p.2 v) (h : RDs K fa G φ l q) : RDs K fa G φ (p :: l) ((k, v) :: q) := ⟨k, v, q, rfl, hk, hv, h⟩
theorem RDs.len : ∀ {l : List (D × D)} {kvs : List (L2.Key × V)}, RDs K fa G φ l kvs → kvs.length = l.length
  | [], _, h => by cases (show _ = _ from h); rfl
  | p :: r, _, h => by
    obtain ⟨k, v, q, rfl, h1, h2, h3⟩ := h
    rw [List.length_cons, List.length_cons, RDs.len h3]
theorem lookD_cons {p : D × D} {l : List (D × D)} {k : D} : lookD (p :: l) k = if (p.1 == k) = true then some p.2 else lookD l k := by
  unfold lookD
  rw [List.find?_cons]
  cases p.1 == k <;> rfl
theorem RDs.look {k : D} {kk : L2.Key} (hk : RK k kk) : ∀ {l : List (D × D)} {kvs : List (L2.Key × V)}, RDs K fa G φ l kvs → (lookD l k).isSome = (valV kvs kk).isSome ∧ ∀ d, lookD l k = some d → ∃ v, valV kvs kk = some v ∧ RV K fa G φ d v
  | [], _, h => by cases (show _ = _ from h); exact ⟨rfl, fun d e => by cases e⟩
  | p :: r, _, h => by
    obtain ⟨j, v, q, rfl, h1, h2, h3⟩ := h
    rw [lookD_cons, rk_eq h1 hk]
    by_cases e : j = kk
    · rw [valV_pos (p := (j, v)) e, decide_eq_true e, if_pos rfl]
      exact ⟨rfl, fun d e => by cases e; exact ⟨v, rfl, h2⟩⟩
    · rw [valV_neg (p := (j, v)) e, decide_eq_false e, if_neg (by simp)]
      exact RDs.look hk h3
theorem RDs.any {k : D} {kk : L2.Key} (hk : RK k kk) : ∀ {l : List (D × D)} {kvs : List (L2.Key × V)}, RDs K fa G φ l kvs → (l.any fun p => p.1 == k) = kvs.any fun p => decide (p.1 = kk)
  | [], _, h => by cases (show _ = _ from h); rfl
  | p :: r, _, h => by
    obtain ⟨j, v, q, rfl, h1, h2, h3⟩ := h
    rw [List.any_cons, List.any_cons, RDs.any hk h3, rk_eq h1 hk]
theorem RDs.repl {k d : D} {kk : L2.Key} {v : V} (hk : RK k kk) (hv : RV K fa G φ d v) : ∀ {l : List (D × D)} {kvs : List (L2.Key × V)}, RDs K fa G φ l kvs → RDs K fa G φ (l.map fun p => if (p.1 == k) = true then (p.1, d) else p) (kvs.map fun p => if p.1 = kk then (p.1, v) else p)
  | [], _, h => by cases (show _ = _ from h); rfl
  | p :: r, _, h => by
    obtain ⟨j, u, q, rfl, h1, h2, h3⟩ := h
    rw [List.map_cons, List.map_cons, rk_eq h1 hk]
    by_cases e : j = kk
    · rw [decide_eq_true e, if_pos rfl, if_pos e]
      exact RDs.cons h1 hv (RDs.repl hk hv h3)
    · rw [decide_eq_false e, if_neg (by simp), if_neg e]
      exact RDs.cons h1 h2 (RDs.repl hk hv h3)
theorem RDs.snoc {k d : D} {kk : L2.Key} {v : V} (hk : RK k kk) (hv : RV K fa G φ d v) : ∀ {l : List (D × D)} {kvs : List (L2.Key × V)}, RDs K fa G φ l kvs → RDs K fa G φ (l ++ [(k, d)]) (kvs ++ [(kk, v)])
  | [], _, h => by cases (show _ = _ from h); exact RDs.cons hk hv RDs.nil
  | p :: r, _, h => by
    obtain ⟨j, u, q, rfl, h1, h2, h3⟩ := h
    exact RDs.cons h1 h2 (RDs.snoc hk hv h3)
theorem RDs.put {k d : D} {kk : L2.Key} {v : V} (hk : RK k kk) (hv : RV K fa G φ d v) {l : List (D × D)} {kvs : List (L2.Key × V)} (h : RDs K fa G φ l kvs) : RDs K fa G φ (putD l k d) (putK kvs kk v) := by
  unfold putD putK
  rw [RDs.any hk h]
  split
  · exact RDs.repl hk hv h
  · exact RDs.snoc hk hv h
theorem dct_at (A : Abs K fa φ μ H) {d : D} {v : V} {n : Nat} {l : List (D × D)} (h : dctAt μ d = some (n, l)) (r : RV K fa (msk H φ) φ d v) :
    ∃ a kvs, d = .loc n ∧ φ.sh[n]? = some a ∧ v = .ref a ∧ H a = some (.dK kvs) ∧ RDs K fa (msk H φ) φ l kvs := by
  cases d with
  | loc j =>
    unfold dctAt at h
    dsimp only at h
    cases hm : μ[j]? with
    | none => rw [hm] at h; cases h
    | some c =>
      rw [hm] at h
      cases c with
      | dct q =>
        cases h
        obtain ⟨a, ha, e⟩ := rv_loc r
        obtain ⟨kvs, e1, e2⟩ := A.cell n a _ ha hm
        exact ⟨a, kvs, rfl, ha, e, e1, e2⟩
      | _ => cases h
  | _ => cases h
end
end Ev

set_option Elab.async false
set_option linter.all false
set_option maxRecDepth 100000
set_option maxHeartbeats 1000000
/-! Dicts whose keys are tuples. -/
namespace Ev
open PySem PySem.Spec PyProof.Rows L2
mutual
theorem nk_inj : ∀ a b : D, isNK a = true → isNK b = true → nk a = nk b → a = b
  | .non, b, _, h, e => by cases b <;> simp [isNK, nk] at h e ⊢
  | .int i, b, _, h, e => by cases b <;> simp [isNK, nk] at h e ⊢; exact e
  | .str s, b, _, h, e => by cases b <;> simp [isNK, nk] at h e ⊢; exact sOf_inj.mp e
  | .tup l, b, h0, h, e => by
    cases b with
    | tup m =>
      unfold nk at e
      injection e with e
      unfold isNK at h0 h
      rw [nkL_inj l m h0 h e]
    | _ => simp [isNK, nk] at h e
  | .bl _, _, h, _, _ => by unfold isNK at h; cases h
  | .lst _, _, h, _, _ => by unfold isNK at h; cases h
  | .loc _, _, h, _, _ => by unfold isNK at h; cases h
  | .fn _ _, _, h, _, _ => by unfold isNK at h; cases h
theorem nkL_inj : ∀ a b : List D, isNKs a = true → isNKs b = true → nkL a = nkL b → a = b
  | [], b, _, _, e => by cases b <;> first | rfl | (unfold nkL at e; cases e)
  | x :: a, b, h0, h, e => by
    cases b with
    | nil => unfold nkL at e; cases e
    | cons y b =>
      unfold nkL at e
      injection e with e1 e2
      unfold isNKs at h0 h
      rw [Bool.and_eq_true] at h0 h
      rw [nk_inj x y h0.1 h.1 e1, nkL_inj a b h0.2 h.2 e2]
end
theorem kt_nk {d : D} (h : isKT d = true) : isNK d = true ∧ d.depth ≤ 8 := by
  cases d with
  | tup l =>
    unfold isKT at h
    rw [Bool.and_eq_true] at h
    exact ⟨by unfold isNK; exact h.1, of_decide_eq_true h.2⟩
  | _ => cases h
theorem nk_eq {a b : D} (ha : isNK a = true) (hb : isNK b = true) : (a == b) = decide (nk a = nk b) := by
  by_cases e : nk a = nk b
  · rw [decide_eq_true e, nk_inj a b ha hb e]; exact beq_self_eq_true _
  · rw [decide_eq_false e]
    exact beq_eq_false_iff_ne.mpr fun z => e (by rw [z])
mutual
theorem nk_depth : ∀ d : D, isNK d = true → (nk d).depth = d.depth
  | .non, _ => rfl
  | .int _, _ => rfl
  | .str _, _ => rfl
  | .tup l, h => by
    unfold isNK at h
    unfold nk NestedKey.depth D.depth
    rw [nkL_depth l h]
  | .bl _, h => by unfold isNK at h; cases h
  | .lst _, h => by unfold isNK at h; cases h
  | .loc _, h => by unfold isNK at h; cases h
  | .fn _ _, h => by unfold isNK at h; cases h
theorem nkL_depth : ∀ l : List D, isNKs l = true → NestedKey.depthAll (nkL l) = D.depthL l
  | [], _ => rfl
  | d :: r, h => by
    unfold isNKs at h
    rw [Bool.and_eq_true] at h
    unfold nkL NestedKey.depthAll D.depthL
    rw [nk_depth d h.1, nkL_depth r h.2]
end
section
variable {K : PySem.W.Frag} {fa : Lay} {φ : Ph} {H G : Hp} {μ : Mu}
theorem RXs.nil : RXs K fa G φ [] [] := rfl
theorem RXs.len : ∀ {l : List (D × D)} {kx : List (NestedKey × Addr × Value)}, RXs K fa G φ l kx → kx.length = l.length
  | [], _, h => by cases (show _ = _ from h); rfl
  | p :: r, _, h => by
    obtain ⟨b, u, v, q, rfl, h1, h2, h3, h4, h5⟩ := h
    rw [List.length_cons, List.length_cons, RXs.len h5]
theorem RXs.look {k : D} (hk : isKT k = true) : ∀ {l : List (D × D)} {kx : List (NestedKey × Addr × Value)}, RXs K fa G φ l kx → (lookD l k).isSome = (atKey kx (nk k)).isSome ∧ ∀ d, lookD l k = some d → ∃ b u v, atKey kx (nk k) = some (b, u) ∧ RelV v u ∧ RV K fa G φ d v
  | [], _, h => by cases (show _ = _ from h); exact ⟨rfl, fun d e => by cases e⟩
  | p :: r, _, h => by
    obtain ⟨b, u, v, q, rfl, h1, h2, h3, h4, h5⟩ := h
    rw [lookD_cons, nk_eq (kt_nk h1).1 (kt_nk hk).1]
    by_cases e : nk p.1 = nk k
    · have e2 : atKey ((nk p.1, b, u) :: q) (nk k) = some (b, u) := by
        unfold atKey
        rw [List.find?_cons]
        dsimp only
        rw [decide_eq_true e]
        rfl
      rw [e2, decide_eq_true e, if_pos rfl]
      exact ⟨rfl, fun d e => by cases e; exact ⟨b, u, v, rfl, h3, h4⟩⟩
    · have e2 : atKey ((nk p.1, b, u) :: q) (nk k) = atKey q (nk k) := by
        unfold atKey
        rw [List.find?_cons]
        dsimp only
        rw [decide_eq_false e]
      rw [e2, decide_eq_false e, if_neg (by simp)]
      exact RXs.look hk h5
theorem lookD_some {l : List (D × D)} {k : D} : (lookD l k).isSome = l.any fun p => p.1 == k := by
  unfold lookD
  rw [Option.isSome_map]
  induction l with
  | nil => rfl
  | cons p r ih =>
    rw [List.find?_cons, List.any_cons]
    cases p.1 == k with
    | true => rfl
    | false => rw [Bool.false_or]; exact ih
theorem RXs.repl {k d : D} {v : V} {u : Value} (hk : isKT k = true) (hu : RelV v u) (hv : RV K fa G φ d v) : ∀ {l : List (D × D)} {kx : List (NestedKey × Addr × Value)}, RXs K fa G φ l kx → RXs K fa G φ (l.map fun p => if (p.1 == k) = true then (p.1, d) else p) (kx.map (putAt (nk k) u))
  | [], _, h => by cases (show _ = _ from h); rfl
  | p :: r, _, h => by
    obtain ⟨b, u', v', q, rfl, h1, h2, h3, h4, h5⟩ := h
    rw [List.map_cons, List.map_cons, nk_eq (kt_nk h1).1 (kt_nk hk).1]
    by_cases e : nk p.1 = nk k
    · rw [decide_eq_true e, if_pos rfl]
      exact ⟨b, u, v, _, by unfold putAt; dsimp only; rw [if_pos e], h1, h2, hu, hv, RXs.repl hk hu hv h5⟩
    · rw [decide_eq_false e, if_neg (by simp)]
      exact ⟨b, u', v', _, by unfold putAt; dsimp only; rw [if_neg e], h1, h2, h3, h4, RXs.repl hk hu hv h5⟩
theorem RXs.snoc {k d : D} {b : Addr} {v : V} {u : Value} (hk : isKT k = true) (hb : RV K fa G φ k (.ref b)) (hu : RelV v u) (hv : RV K fa G φ d v) : ∀ {l : List (D × D)} {kx : List (NestedKey × Addr × Value)}, RXs K fa G φ l kx → RXs K fa G φ (l ++ [(k, d)]) (kx ++ [(nk k, b, u)])
  | [], _, h => by cases (show _ = _ from h); exact ⟨b, u, v, [], rfl, hk, hb, hu, hv, rfl⟩
  | p :: r, _, h => by
    obtain ⟨b', u', v', q, rfl, h1, h2, h3, h4, h5⟩ := h
    exact ⟨b', u', v', _, rfl, h1, h2, h3, h4, RXs.snoc hk hb hu hv h5⟩
theorem RXs.put {k d : D} {b : Addr} {v : V} {u : Value} (hk : isKT k = true) (hb : RV K fa G φ k (.ref b)) (hu : RelV v u) (hv : RV K fa G φ d v) {l : List (D × D)} {kx : List (NestedKey × Addr × Value)} (h : RXs K fa G φ l kx) : RXs K fa G φ (putD l k d) (storedH kx (nk k) b u) := by
  unfold putD storedH
  rw [← lookD_some, (RXs.look hk h).1]
  split
  · exact RXs.repl hk hu hv h
  · exact RXs.snoc hk hb hu hv h
/-- a dict whose keys are tuples, or the empty one -/
def IsDT (K : PySem.W.Frag) (fa : Lay) (G : Hp) (φ : Ph) (H : Hp) (a : Addr) (l : List (D × D)) (kx : List (NestedKey × Addr × Value)) : Prop := (H a = some (dtO fa.w a kx) ∧ RXs K fa G φ l kx) ∨ (H a = some (.dK []) ∧ l = [] ∧ kx = [])
theorem IsDT.rx {a : Addr} {l : List (D × D)} {kx : List (NestedKey × Addr × Value)} (h : IsDT K fa G φ H a l kx) : RXs K fa G φ l kx := by
  rcases h with ⟨_, h⟩ | ⟨_, rfl, rfl⟩
  · exact h
  · exact RXs.nil
theorem dtt_at (A : Abs K fa φ μ H) {d : D} {v : V} {n : Nat} {l : List (D × D)} (h : dttAt μ d = some (n, l)) (r : RV K fa (msk H φ) φ d v) :
    ∃ a kx, d = .loc n ∧ φ.sh[n]? = some a ∧ v = .ref a ∧ IsDT K fa (msk H φ) φ H a l kx := by
  cases d with
  | loc j =>
    unfold dttAt at h
    dsimp only at h
    cases hm : μ[j]? with
    | none => rw [hm] at h; cases h
    | some c =>
      rw [hm] at h
      cases c with
      | dtt q =>
        cases h
        obtain ⟨a, ha, e⟩ := rv_loc r
        obtain ⟨kx, e1, e2⟩ := A.cell n a _ ha hm
        exact ⟨a, kx, rfl, ha, e, .inl ⟨e1, e2⟩⟩
      | dct q =>
        cases q with
        | nil =>
          cases h
          obtain ⟨a, ha, e⟩ := rv_loc r
          obtain ⟨kvs, e1, e2⟩ := A.cell n a _ ha hm
          cases (show _ = _ from e2)
          exact ⟨a, [], rfl, ha, e, .inr ⟨e1, rfl, rfl⟩⟩
        | cons _ _ => cases h
      | _ => cases h
  | _ => cases h
end
section
variable {X : Cx} {fa : Lay} {φ : Ph} {H G : Hp} {μ : Mu} {pins : List (Addr × Obj)} {σ : L2.St} {s : Shared}
mutual
theorem nested_is (I : Inv X pins σ H s) (hG : Same G H) : ∀ (d : D) (v : V) (u : Value), isNK d = true → RV X.K fa G φ d v → RelV v u → NestedIs s.heap (nk d) u
  | .non, v, u, _, r, q => by cases rv_non r; cases q; exact .none
  | .int i, v, u, _, r, q => by cases rv_int r; obtain ⟨t, rfl⟩ := q; exact .int i t
  | .str x, v, u, _, r, q => by obtain ⟨rfl, _⟩ := rv_str r; obtain ⟨t, rfl⟩ := q; exact .text _ t
  | .tup l, v, u, h, r, q => by
    obtain ⟨a, vs, rfl, hs, rs⟩ := rv_tup r
    cases q
    obtain ⟨its, r2, ⟨o, h1, h2, n, h3⟩, _⟩ := I.tuple (Same.seqT hG hs)
    unfold isNK at h
    unfold nk
    exact .tup h1 h2 h3 (by simpa using nested_all I hG l vs its h rs r2)
  | .bl _, _, _, h, _, _ => by unfold isNK at h; cases h
  | .lst _, _, _, h, _, _ => by unfold isNK at h; cases h
  | .loc _, _, _, h, _, _ => by unfold isNK at h; cases h
  | .fn _ _, _, _, h, _, _ => by unfold isNK at h; cases h
theorem nested_all (I : Inv X pins σ H s) (hG : Same G H) : ∀ (l : List D) (vs : List V) (us : List Value), isNKs l = true → RVs X.K fa G φ l vs → Vals vs us → NestedAll s.heap (nkL l) us
  | [], vs, us, _, r, q => by unfold RVs at r; subst r; cases q; unfold nkL; exact .nil
  | d :: l, vs, us, h, r, q => by
    unfold RVs at r
    obtain ⟨v, vs', rfl, r1, r2⟩ := r
    cases q with
    | cons q1 q2 =>
      unfold isNKs at h
      rw [Bool.and_eq_true] at h
      unfold nkL
      exact .cons (nested_is I hG d v _ h.1 r1 q1) (nested_all I hG l vs' _ h.2 r2 q2)
end
theorem is_key (I : Inv X pins σ H s) (hG : Same G H) {d : D} {b : Addr} (hk : isKT d = true) (r : RV X.K fa G φ d (.ref b)) : (nestedKind X.prog X.w).is s.heap (nk d) b :=
  ⟨nested_is I hG d _ _ (kt_nk hk).1 r rfl, by rw [nk_depth d (kt_nk hk).1]; exact (kt_nk hk).2⟩
theorem kt_ref {d : D} {v : V} (hk : isKT d = true) (r : RV X.K fa G φ d v) : ∃ b, v = .ref b := by
  cases d with
  | tup l => obtain ⟨a, vs, rfl, _, _⟩ := rv_tup r; exact ⟨a, rfl⟩
  | _ => cases hk
theorem RXs.keys : ∀ {l : List (D × D)} {kx : List (NestedKey × Addr × Value)}, RXs X.K fa G φ l kx → ∀ x ∈ kx, ∃ d, x.1 = nk d ∧ isKT d = true ∧ RV X.K fa G φ d (.ref x.2.1)
  | [], _, h, x, hx => by cases (show _ = _ from h); cases hx
  | p :: r, _, h, x, hx => by
    obtain ⟨b, u', v', q, rfl, h1, h2, h3, h4, h5⟩ := h
    rcases List.mem_cons.mp hx with rfl | hx
    · exact ⟨p.1, rfl, h1, h2⟩
    · exact RXs.keys h5 x hx
theorem dtt_have (I : Inv X pins σ H s) (hw : fa.w = X.w) {a : Addr} {l : List (D × D)} {kx : List (NestedKey × Addr × Value)} (r : IsDT X.K fa (msk H φ) φ H a l kx) : kx.length ≤ sizeLine ∧ (a == sysModules) = false ∧ s.heap.DictOfH (nestedKind X.prog X.w) a kx := by
  rcases r with ⟨e, r⟩ | ⟨e, rfl, rfl⟩
  · obtain ⟨⟨h1, h2, o, es, ep, h3, h4, h5, h6, h7⟩, _⟩ := (show ObjOk X.prog X.w H s.heap a (dtO fa.w a kx) from I.hok a _ e)
    rw [hw] at h6
    exact ⟨h1, h2, o, es, ep, h3, h4, h5, h6, fun x hx => by
      obtain ⟨d, e1, e2, e3⟩ := r.keys x hx
      rw [e1]
      exact is_key I msk_same e2 e3, h7⟩
  · obtain ⟨h1, h2, vs, hv, o, es, ep, h3, h4, h5, h6, h7, h8⟩ := (show ObjOk X.prog X.w H s.heap a (.dK []) from I.hok a _ e)
    cases hv
    have h9 : es.toList = [] := by
      generalize es.toList = q at h7
      cases h7
      rfl
    exact ⟨h1, h2, o, es, ep, h3, h4, h5, h9, fun x hx => (by cases hx), List.nodup_nil⟩
/-- a dict as it stands is tracked -/
theorem dtt_obj {h : Heap} {a : Addr} {kx : List (NestedKey × Addr × Value)} (hl : kx.length ≤ sizeLine) (hs : (a == sysModules) = false) (d : h.DictOfH (nestedKind X.prog X.w) a kx) {H' : Hp} : ObjOk X.prog X.w H' h a (dtO X.w a kx) := by
  obtain ⟨o, es, ep, h3, h4, h5, h6, _, h7⟩ := d
  exact ⟨⟨hl, hs, o, es, ep, h3, h4, h5, h6, h7⟩, ⟨o, h3⟩, fun h1 h2 ⟨q1, q2, o, es, ep, q3, q4, q5, q6, q7⟩ st => ⟨q1, q2, o, es, ep, st o q3, q4, q5, q6, q7⟩⟩
theorem room_nk {A : Around} (hu : A.units + 64 < cLine) : (nestedKind X.prog X.w).room A.in1.in1 := by
  show A.units + 1 + 1 + 8 < cLine
  omega
theorem room_nk1 {A : Around} (hu : A.units + 64 < cLine) : (nestedKind X.prog X.w).room A.in1 := by
  show A.units + 1 + 8 < cLine
  omega
/-- d[(..)] -/
theorem dtt_get {AA : Around} (hu : AA.units + 64 < cLine) (hw : fa.w = X.w) (I : Inv X pins σ H s) {a : Addr} {l : List (D × D)} {kx : List (NestedKey × Addr × Value)} (r : IsDT X.K fa (msk H φ) φ H a l kx)
    {b : Addr} {k : D} (hk : isKT k = true) (hb : RV X.K fa (msk H φ) φ k (.ref b)) {d : D} (hd : lookD l k = some d) {E : Value → Shared → Prop} {Q : Value → Shared → Prop}
    (h : ∀ v u s', Inv X pins σ H s' → RelV v u → RV X.K fa (msk H φ) φ d v → Q u s') : wpAny (model X.prog X.w) AA (getItem (.ref a) (.ref b)) Q E s := by
  obtain ⟨_, _, dd⟩ := dtt_have I hw r
  obtain ⟨b', u, v, e1, e2, e3⟩ := (r.rx.look hk).2 d hd
  refine wpAny_getItem_heap (room_nk1 hu) (is_key I msk_same hk hb) dd e1 ?_
  exact h v u _ (I.tok _) e2 e3
/-- (..) in d -/
theorem dtt_in {AA : Around} (hu : AA.units + 64 < cLine) (hw : fa.w = X.w) (I : Inv X pins σ H s) {a : Addr} {l : List (D × D)} {kx : List (NestedKey × Addr × Value)} (r : IsDT X.K fa (msk H φ) φ H a l kx)
    {b : Addr} {k : D} (hk : isKT k = true) (hb : RV X.K fa (msk H φ) φ k (.ref b)) {E : Value → Shared → Prop} {Q : Bool → Shared → Prop}
    (h : ∀ s', Inv X pins σ H s' → Q (lookD l k).isSome s') : wpAny (model X.prog X.w) AA (contains (.ref a) (.ref b)) Q E s := by
  obtain ⟨_, hs, dd⟩ := dtt_have I hw r
  refine wpAny_contains_heap (room_nk1 hu) (is_key I msk_same hk hb) hs dd ?_
  rw [← (r.rx.look hk).1]
  exact h _ (I.tok _)
theorem dt_in {AA : Around} (hu : AA.units + 64 < cLine) (hw : fa.w = X.w) (I : Inv X pins σ H s) {a : Addr} {l : List (D × D)} {kx : List (NestedKey × Addr × Value)} (r : IsDT X.K fa (msk H φ) φ H a l kx)
    {b : Addr} {k : D} (hk : isKT k = true) (hb : RV X.K fa (msk H φ) φ k (.ref b)) {E : Value → Shared → Prop} {Q : Value → Shared → Prop}
    (h : ∀ s', Inv X pins σ H s' → Q (.bool (lookD l k).isSome) s') : wpAny (model X.prog X.w) AA (compareOp .In (.ref b) (.ref a)) Q E s := by
  show wpAny _ _ (do return .bool (← contains (.ref a) (.ref b))) Q E s
  exact wpAny_bind (dtt_in hu hw I r hk hb fun s' I' => wpAny_pure (h s' I'))
theorem dt_nin {AA : Around} (hu : AA.units + 64 < cLine) (hw : fa.w = X.w) (I : Inv X pins σ H s) {a : Addr} {l : List (D × D)} {kx : List (NestedKey × Addr × Value)} (r : IsDT X.K fa (msk H φ) φ H a l kx)
    {b : Addr} {k : D} (hk : isKT k = true) (hb : RV X.K fa (msk H φ) φ k (.ref b)) {E : Value → Shared → Prop} {Q : Value → Shared → Prop}
    (h : ∀ s', Inv X pins σ H s' → Q (.bool (!(lookD l k).isSome)) s') : wpAny (model X.prog X.w) AA (compareOp .NotIn (.ref b) (.ref a)) Q E s := by
  show wpAny _ _ (do return .bool (!(← contains (.ref a) (.ref b)))) Q E s
  exact wpAny_bind (dtt_in hu hw I r hk hb fun s' I' => wpAny_pure (h s' I'))
theorem dt_type {a : Addr} {l : List (D × D)} {kx : List (NestedKey × Addr × Value)} (hw : fa.w = X.w) (I : Inv X pins σ H s) (r : IsDT X.K fa (msk H φ) φ H a l kx) : s.TypeIs (.ref a) "dict" := (dtt_have I hw r).2.2.typeIs
/-- d[(..)] = v -/
theorem dtt_put {AA : Around} (hu : AA.units + 64 < cLine) (hw : fa.w = X.w) (I : Inv X pins σ H s) {a : Addr} {l : List (D × D)} {kx : List (NestedKey × Addr × Value)} (r : IsDT X.K fa (msk H φ) φ H a l kx) (hl : l.length < lim)
    {b : Addr} {k : D} (hk : isKT k = true) (hb : RV X.K fa (msk H φ) φ k (.ref b)) {u : Value} {E : Value → Shared → Prop} {Q : Unit → Shared → Prop}
    (h : ∀ s', Inv X pins σ (upd H a (dtO fa.w a (storedH kx (nk k) b u))) s' → Q () s') : wpAny (model X.prog X.w) AA (setItem (.ref a) (.ref b) u) Q E s := by
  obtain ⟨hz, hs, dd⟩ := dtt_have I hw r
  have hkl : kx.length = l.length := r.rx.len
  refine wpAny_setItem_heap (hsz := hz) (room_nk1 hu) (is_key I msk_same hk hb) dd fun h' hm' sb => ?_
  have mu : Mut (H a) := by
    rcases r with ⟨e, _⟩ | ⟨e, _, _⟩
    · rw [e]; exact trivial
    · rw [e]; exact trivial
  refine h _ (I.write (t' := _) (e := a) mu (.inl rfl) (fun c o hc e => sb.extBut c o hc e) ?_ ?_)
  · obtain ⟨o, _, _, e, _⟩ := hm'
    exact ⟨o, e⟩
  · have hle := storedH_length kx (nk k) b u
    have hlm : lim = 16777216 := rfl
    rw [hw]
    exact dtt_obj (by rw [sizeLine_eq]; omega) hs hm'
end
end Ev

set_option Elab.async false
set_option linter.all false
set_option maxRecDepth 100000
set_option maxHeartbeats 1000000
/-! Comparisons, places, slices. -/
namespace Ev
open PySem PySem.Spec PyProof.Rows L2
/-! ### == over data -/
mutual
def toP : D → PyData
  | .non => .none
  | .bl b => .bool b
  | .int i => .int i
  | .str s => .str (sOf s)
  | .tup l => .tuple (toPs l)
  | .lst l => .list (toPs l)
  | .loc _ => .none
  | .fn _ _ => .none
def toPs : List D → List PyData
  | [] => []
  | d :: ds => toP d :: toPs ds
end
mutual
theorem toP_depth : ∀ d : D, (toP d).depth = d.depth
  | .non => rfl
  | .bl _ => rfl
  | .int _ => rfl
  | .str _ => rfl
  | .loc _ => rfl
  | .fn _ _ => rfl
  | .tup l => by simp only [toP, PyData.depth, D.depth, toPs_depth l]
  | .lst l => by simp only [toP, PyData.depth, D.depth, toPs_depth l]
theorem toPs_depth : ∀ l : List D, PyData.depthAll (toPs l) = D.depthL l
  | [] => rfl
  | d :: ds => by simp only [toPs, PyData.depthAll, D.depthL, toP_depth d, toPs_depth ds]
end
theorem sOf_beq (s t : Txt) : (sOf s == sOf t) = (s == t) := by
  rw [Bool.eq_iff_iff, beq_iff_eq, beq_iff_eq]
  exact sOf_inj
mutual
theorem toP_eqv : ∀ a b : D, a.flat = true → b.flat = true → PyData.eqv (toP a) (toP b) = D.eqv a b
  | .non, b, _, _ => by cases b <;> simp_all [toP, PyData.eqv, D.eqv, D.flat]
  | .bl _, b, _, _ => by cases b <;> simp_all [toP, PyData.eqv, D.eqv, D.flat]
  | .int _, b, _, _ => by cases b <;> simp_all [toP, PyData.eqv, D.eqv, D.flat]
  | .str s, b, _, hb => by
    cases b with
    | str t => simp only [toP, PyData.eqv, D.eqv]; exact sOf_beq s t
    | _ => simp_all [toP, PyData.eqv, D.eqv, D.flat]
  | .loc _, _, h, _ => by simp [D.flat] at h
  | .fn _ _, _, h, _ => by simp [D.flat] at h
  | .tup l, b, ha, hb => by
    cases b with
    | tup r => simp only [toP, PyData.eqv, D.eqv]; exact toPs_eqv l r (by simpa [D.flat] using ha) (by simpa [D.flat] using hb)
    | _ => simp_all [toP, PyData.eqv, D.eqv, D.flat]
  | .lst l, b, ha, hb => by
    cases b with
    | lst r => simp only [toP, PyData.eqv, D.eqv]; exact toPs_eqv l r (by simpa [D.flat] using ha) (by simpa [D.flat] using hb)
    | _ => simp_all [toP, PyData.eqv, D.eqv, D.flat]
theorem toPs_eqv : ∀ a b : List D, D.flatL a = true → D.flatL b = true → PyData.eqvAll (toPs a) (toPs b) = D.eqvL a b
  | [], b, _, _ => by cases b <;> simp [toPs, PyData.eqvAll, D.eqvL]
  | a :: as, b, ha, hb => by
    cases b with
    | nil => simp [toPs, PyData.eqvAll, D.eqvL]
    | cons b bs =>
      simp only [D.flatL, Bool.and_eq_true] at ha hb
      simp only [toPs, PyData.eqvAll, D.eqvL, toP_eqv a b ha.1 hb.1, toPs_eqv as bs ha.2 hb.2]
end
section
variable {K : PySem.W.Frag} {fa : Lay} {W : EW} {Z : EZ} {G H : Hp} {φ : Ph} {μ : Mu}
theorem okT_strOk {s : Txt} (h : okT s = true) : PyData.strOk (sOf s) = true := by
  unfold PyData.strOk sOf
  unfold okT at h
  simpa using h
mutual
theorem RV.dp (hG : Same G H) : ∀ (d : D) (v : V), d.flat = true → RV K fa G φ d v → Dp K H v (toP d) ∧ (toP d).canLay0 = true
  | .non, v, _, h => by cases rv_non h; exact ⟨.non, rfl⟩
  | .bl b, v, _, h => by cases rv_bl h; exact ⟨.bl b, rfl⟩
  | .int i, v, _, h => by cases rv_int h; exact ⟨.int i, rfl⟩
  | .str s, v, _, h => by
    obtain ⟨rfl, o⟩ := rv_str h
    exact ⟨.str _, by simp only [toP, PyData.canLay0]; exact okT_strOk o⟩
  | .loc _, _, f, _ => by simp [D.flat] at f
  | .fn _ _, _, f, _ => by simp [D.flat] at f
  | .tup l, v, f, h => by
    obtain ⟨a, vs, rfl, hs, r⟩ := rv_tup h
    obtain ⟨h1, h2⟩ := RVs.dp hG l vs (by simpa [D.flat] using f) r
    exact ⟨.tup (Same.seqT hG hs) h1, by simp only [toP, PyData.canLay0]; exact h2⟩
  | .lst l, v, f, h => by
    obtain ⟨a, vs, rfl, hs, r⟩ := rv_lst h
    obtain ⟨h1, h2⟩ := RVs.dp hG l vs (by simpa [D.flat] using f) r
    exact ⟨.lst (Same.sqL hG hs) h1, by simp only [toP, PyData.canLay0]; exact h2⟩
theorem RVs.dp (hG : Same G H) : ∀ (l : List D) (vs : List V), D.flatL l = true → RVs K fa G φ l vs → DpAll K H vs (toPs l) ∧ PyData.canLayAll0 (toPs l) = true
  | [], vs, _, h => by unfold RVs at h; subst h; exact ⟨.nil, rfl⟩
  | d :: ds, vs, f, h => by
    unfold RVs at h
    obtain ⟨v, r, rfl, h1, h2⟩ := h
    simp only [D.flatL, Bool.and_eq_true] at f
    obtain ⟨a1, a2⟩ := RV.dp hG d v f.1 h1
    obtain ⟨b1, b2⟩ := RVs.dp hG ds r f.2 h2
    exact ⟨.cons a1 b1, by simp only [toPs, PyData.canLayAll0, a2, b2, Bool.and_self]⟩
end
/-- a shared list is read as a list -/
theorem seen_dp (A : Abs K fa φ μ H) {d : D} {v : V} (f : (seen μ d).flat = true) (r : RV K fa (msk H φ) φ d v) : Dp K H v (toP (seen μ d)) ∧ (toP (seen μ d)).canLay0 = true := by
  cases d with
  | loc n =>
    unfold seen at f ⊢
    cases hm : μ[n]? with
    | none => simp [hm, D.flat] at f
    | some c =>
      cases c with
      | lst l =>
        simp only [hm] at f ⊢
        obtain ⟨a, ha, rfl⟩ := rv_loc r
        obtain ⟨vs, e, rs⟩ := A.cell n a _ ha hm
        obtain ⟨h1, h2⟩ := RVs.dp msk_same l vs (by simpa [D.flat] using f) rs
        exact ⟨.lst (.inl (.inl e)) h1, by simp only [toP, PyData.canLay0]; exact h2⟩
      | _ => simp [hm, D.flat] at f
  | _ => exact RV.dp msk_same _ _ f r
end
section
variable {X : Cx} {fa : Lay} {W : EW} {Z : EZ}
/-- a list, tuple or dict is no text -/
theorem box_no {pins : List (Addr × Obj)} {s : Shared} {σ : L2.St} {H : Hp} {x y : V} {v u : Value} (I : Inv X pins σ H s) (rx : RelV x v) (ry : RelV y u) (hu : X.A.units + 64 < cLine) {φ : Ph} {μ : Mu} {a b : D}
    (A : Abs X.K fa φ μ H) (ra : RV X.K fa (msk H φ) φ a x) (rb : RV X.K fa (msk H φ) φ b y) (ha : isBox μ a = true) (hb : isTxt b = true) : SeqAt.RcAt X.A s v u false ∧ SeqAt.RcNeAt X.A s v u true := by
  have hu1 : X.A.units < cLine := by omega
  cases b with
  | str t =>
    obtain ⟨rfl, _⟩ := rv_str rb
    obtain ⟨k, rfl⟩ := ry
    have lists : ∀ (p : Addr) (vs : List V), SqL X.K H p vs → x = .ref p → SeqAt.RcAt X.A s v (.str (sOf t) k) false ∧ SeqAt.RcNeAt X.A s v (.str (sOf t) k) true := fun p vs h e => by
      subst e
      cases rx
      obtain ⟨its, r, pl, hz⟩ := I.list h
      exact ⟨SeqAt.RcAt.list_str _ _ pl.isList hu1, SeqAt.RcNeAt.list_str _ _ pl.isList hu1⟩
    cases a with
    | tup l =>
      obtain ⟨p, vs, e, h, _⟩ := rv_tup ra
      subst e
      cases rx
      obtain ⟨its, r, pl, hz⟩ := I.tuple (Same.seqT msk_same h)
      exact ⟨SeqAt.RcAt.tuple_str _ _ pl hu1, SeqAt.RcNeAt.tuple_str _ _ pl hu1⟩
    | lst l =>
      obtain ⟨p, vs, e, h, _⟩ := rv_lst ra
      exact lists p vs (Same.sqL msk_same h) e
    | loc n =>
      obtain ⟨p, hp, e⟩ := rv_loc ra
      unfold isBox at ha
      dsimp only at ha
      cases hm : μ[n]? with
      | none => rw [hm] at ha; cases ha
      | some c =>
        rw [hm] at ha
        cases c with
        | lst l =>
          obtain ⟨vs, e1, _⟩ := A.cell n p _ hp hm
          exact lists p vs (.inl (.inl e1)) e
        | dct l =>
          subst e
          cases rx
          obtain ⟨kvs, e1, _⟩ := A.cell n p _ hp hm
          obtain ⟨_, _, _, _, o, es, ep, ho, hex, hd, _⟩ := dk_of I.hok e1
          obtain ⟨oc, od, oa, os⟩ := o
          obtain ⟨hc, hd2, hs2⟩ := hex
          dsimp only at hc hd hd2 hs2
          subst hc; subst hd; subst hd2; subst hs2
          exact ⟨dict_str ho hu1, dict_strN ho hu1⟩
        | _ => cases ha
    | _ => cases ha
  | _ => cases hb
theorem eq_core {pins : List (Addr × Obj)} {s : Shared} {σ : L2.St} {H : Hp} {x y : V} {v u : Value} (I : Inv X pins σ H s) (rx : RelV x v) (ry : RelV y u) (hu : X.A.units + 64 < cLine) {φ : Ph} {μ : Mu} {a b : D} {k : Bool}
    (A : Abs X.K fa φ μ H) (ra : RV X.K fa (msk H φ) φ a x) (rb : RV X.K fa (msk H φ) φ b y) (e : eqD μ a b = some k) :
    (∀ {Q : VK}, Q (.bl k) H → wpAny (model X.prog X.w) X.A (compareOp .Eq v u) (EP X pins σ Q) X.xe s) ∧ (∀ {Q : VK}, Q (.bl (!k)) H → wpAny (model X.prog X.w) X.A (compareOp .NotEq v u) (EP X pins σ Q) X.xe s) := by
  unfold eqD at e
  by_cases c : ((seen μ a).flat && (seen μ b).flat && decide (min (seen μ a).depth (seen μ b).depth ≤ 64)) = true
  case neg =>
    rw [if_neg c] at e
    obtain ⟨c2, e⟩ := ite_some e
    cases e
    simp only [Bool.and_eq_true] at c2
    obtain ⟨h1, h2⟩ := box_no I rx ry hu A ra rb c2.1 c2.2
    exact ⟨fun {Q} q => h1 _ _ _ _ ⟨.bl _, H, I, rfl, q⟩, fun {Q} q => h2 _ _ _ _ ⟨.bl _, H, I, rfl, q⟩⟩
  rw [if_pos c] at e
  cases e
  simp only [Bool.and_eq_true, decide_eq_true_eq] at c
  obtain ⟨⟨f1, f2⟩, hd⟩ := c
  obtain ⟨p1, q1⟩ := seen_dp A f1 ra
  obtain ⟨p2, q2⟩ := seen_dp A f2 rb
  obtain ⟨as, r1⟩ := Dp.reads I _ x v p1 rx
  obtain ⟨bs, r2⟩ := Dp.reads I _ y u p2 ry
  have room : X.A.units + min (toP (seen μ a)).depth (toP (seen μ b)).depth < cLine := by
    rw [toP_depth, toP_depth]; omega
  refine ⟨fun {Q} q => SeqAt.compareEq_reads r1 r2 q1 q2 room ⟨.bl _, H, I, rfl, ?_⟩, fun {Q} q => SeqAt.compareNe_reads r1 r2 q1 q2 room ⟨.bl _, H, I, rfl, ?_⟩⟩
  · rw [toP_eqv _ _ f1 f2]; exact q
  · rw [toP_eqv _ _ f1 f2]; exact q
abbrev cmpR (o : COp) : Mu → D → D → Res D := fun μ a b => Res.of ((cmpD o μ a b).map .bl) μ
theorem map_bl {o : Option Bool} {d : D} (h : o.map D.bl = some d) : ∃ k, o = some k ∧ d = .bl k := by
  cases o with
  | none => cases h
  | some k => exact ⟨k, rfl, (Option.some.inj h).symm⟩
theorem op_eqM (hu : X.A.units + 64 < cLine) : OpR X (compareOp .Eq) (rOp X.K fa (cmpR .eq)) := by
  intro pins s σ H x y v u Q I rx ry h
  obtain ⟨φ, μ, a, b, A, ra, rb, h⟩ := h
  obtain ⟨d, e, k⟩ := h.of
  obtain ⟨t, e2, rfl⟩ := map_bl e
  exact (eq_core I rx ry hu A ra rb e2).1 (k φ H (Ext.refl _ _) A _ mk_bl)
theorem op_neM (hu : X.A.units + 64 < cLine) : OpR X (compareOp .NotEq) (rOp X.K fa (cmpR .ne)) := by
  intro pins s σ H x y v u Q I rx ry h
  obtain ⟨φ, μ, a, b, A, ra, rb, h⟩ := h
  obtain ⟨d, e, k⟩ := h.of
  obtain ⟨t, e2, rfl⟩ := map_bl e
  have e : (eqD μ a b).map (!·) = some t := e2
  cases q : eqD μ a b with
  | none => rw [q] at e; cases e
  | some t' =>
    rw [q] at e
    cases e
    exact (eq_core I rx ry hu A ra rb q).2 (k φ H (Ext.refl _ _) A _ mk_bl)
theorem ord_cases {fi : Int → Int → Bool} {fs : Txt → Txt → Bool} {a b : D} {k : Bool} (h : ordD fi fs a b = some k) : (∃ i j, a = .int i ∧ b = .int j ∧ fi i j = k) ∨ ∃ s t, a = .str s ∧ b = .str t ∧ fs s t = k := by
  unfold ordD at h
  split at h
  · exact .inl ⟨_, _, rfl, rfl, Option.some.inj h⟩
  · exact .inr ⟨_, _, rfl, rfl, Option.some.inj h⟩
  · cases h
theorem op_ord {op : CmpOp} {co : COp} {fi : Int → Int → Bool} {fs : Txt → Txt → Bool} (hc : ∀ μ a b, cmpD co μ a b = ordD fi fs a b)
    (hi : OpR X (compareOp op) (rI0 fun i j => .bl (fi i j))) (hs : OpR X (compareOp op) (fun x y H Q => ∃ i j, x = .str i ∧ y = .str j ∧ Q (.bl (fs i.cps.toList j.cps.toList)) H)) :
    OpR X (compareOp op) (rOp X.K fa (cmpR co)) := by
  intro pins s σ H x y v u Q I rx ry h
  obtain ⟨φ, μ, a, b, A, ra, rb, h⟩ := h
  obtain ⟨d, e, k⟩ := h.of
  obtain ⟨t, e2, rfl⟩ := map_bl e
  rw [hc] at e2
  rcases ord_cases e2 with ⟨i, j, rfl, rfl, rfl⟩ | ⟨p, q, rfl, rfl, rfl⟩
  · cases rv_int ra; cases rv_int rb
    exact hi pins s σ H _ _ v u Q I rx ry ⟨i, j, rfl, rfl, k φ H (Ext.refl _ _) A _ mk_bl⟩
  · obtain ⟨rfl, _⟩ := rv_str ra
    obtain ⟨rfl, _⟩ := rv_str rb
    refine hs pins s σ H _ _ v u Q I rx ry ⟨_, _, rfl, rfl, ?_⟩
    rw [sOf_cps, sOf_cps]
    exact k φ H (Ext.refl _ _) A _ mk_bl
theorem op_ltM : OpR X (compareOp .Lt) (rOp X.K fa (cmpR .lt)) := op_ord (fun _ _ _ => rfl) op_lt op_lt_str
theorem op_leM : OpR X (compareOp .LtE) (rOp X.K fa (cmpR .le)) := op_ord (fun _ _ _ => rfl) op_le op_le_str
theorem op_gtM : OpR X (compareOp .Gt) (rOp X.K fa (cmpR .gt)) := op_ord (fun _ _ _ => rfl) op_gt op_gt_str
theorem op_geM : OpR X (compareOp .GtE) (rOp X.K fa (cmpR .ge)) := op_ord (fun _ _ _ => rfl) op_ge op_ge_str
theorem non_iff {K : PySem.W.Frag} {G : Hp} {φ : Ph} {d : D} {v : V} (r : RV K fa G φ d v) : decide (v = .non) = decide (d = .non) := by
  cases d with
  | non => cases rv_non r; rfl
  | bl b => cases rv_bl r; rfl
  | int i => cases rv_int r; rfl
  | str s => obtain ⟨rfl, _⟩ := rv_str r; rfl
  | tup l => obtain ⟨a, vs, rfl, _⟩ := rv_tup r; rfl
  | lst l => obtain ⟨a, vs, rfl, _⟩ := rv_lst r; rfl
  | loc n => obtain ⟨a, _, rfl⟩ := rv_loc r; rfl
  | fn k l => obtain ⟨a, rfl⟩ := rv_fn r; rfl
theorem isD_some {a b : D} {t : Bool} (h : isD a b = some t) : (b = .non ∧ t = decide (a = .non)) ∨ ∃ x y, a = .bl x ∧ b = .bl y ∧ t = decide (x = y) := by
  unfold isD at h
  split at h
  · cases h; exact .inl ⟨rfl, rfl⟩
  · cases h; exact .inr ⟨_, _, rfl, rfl, rfl⟩
  · cases h
theorem op_isNM : OpR X (compareOp .Is) (rOp X.K fa (cmpR .isN)) := by
  intro pins s σ H x y v u Q I rx ry h
  obtain ⟨φ, μ, a, b, A, ra, rb, h⟩ := h
  obtain ⟨d, e, k⟩ := h.of
  obtain ⟨t, e2, rfl⟩ := map_bl e
  rcases isD_some (show isD a b = some t from e2) with ⟨rfl, rfl⟩ | ⟨x', y', rfl, rfl, rfl⟩
  · cases rv_non rb
    refine op_isN pins s σ H _ _ v u Q I rx ry ⟨rfl, ?_⟩
    rw [non_iff ra]
    exact k φ H (Ext.refl _ _) A _ mk_bl
  · cases rv_bl ra; cases rv_bl rb
    exact op_is_bl pins s σ H _ _ v u Q I rx ry ⟨_, _, rfl, rfl, k φ H (Ext.refl _ _) A _ mk_bl⟩
theorem op_notNM : OpR X (compareOp .IsNot) (rOp X.K fa (cmpR .notN)) := by
  intro pins s σ H x y v u Q I rx ry h
  obtain ⟨φ, μ, a, b, A, ra, rb, h⟩ := h
  obtain ⟨d, e, k⟩ := h.of
  obtain ⟨t, e2, rfl⟩ := map_bl e
  obtain ⟨t', e3, rfl⟩ : ∃ t', isD a b = some t' ∧ (!t') = t := by
    have e2 : (isD a b).map (!·) = some t := e2
    cases hq : isD a b with
    | none => rw [hq] at e2; cases e2
    | some t' => rw [hq] at e2; exact ⟨t', rfl, Option.some.inj e2⟩
  rcases isD_some e3 with ⟨rfl, rfl⟩ | ⟨x', y', rfl, rfl, rfl⟩
  · cases rv_non rb
    refine op_notN pins s σ H _ _ v u Q I rx ry ⟨rfl, ?_⟩
    rw [non_iff ra]
    exact k φ H (Ext.refl _ _) A _ mk_bl
  · cases rv_bl ra; cases rv_bl rb
    exact op_isnot_bl pins s σ H _ _ v u Q I rx ry ⟨_, _, rfl, rfl, k φ H (Ext.refl _ _) A _ mk_bl⟩
theorem any_eqv {a : D} (ha : a.flat = true) : ∀ l : List D, D.flatL l = true → (toPs l).any (fun z => PyData.eqv z (toP a)) = l.any fun x => x.eqv a
  | [], _ => rfl
  | d :: ds, h => by
    simp only [D.flatL, Bool.and_eq_true] at h
    simp only [toPs, List.any_cons, toP_eqv d a h.1 ha, any_eqv ha ds h.2]
theorem in_core {pins : List (Addr × Obj)} {s : Shared} {σ : L2.St} {H : Hp} {x y : V} {v u : Value} (I : Inv X pins σ H s) (rx : RelV x v) (ry : RelV y u) (hw : fa.w = X.w) (hu : X.A.units + 65 < cLine) {φ : Ph} {μ : Mu} {a b : D} {k : Bool}
    (A : Abs X.K fa φ μ H) (ra : RV X.K fa (msk H φ) φ a x) (rb : RV X.K fa (msk H φ) φ b y) (e : inD μ a b = some k) :
    (∀ {Q : VK}, Q (.bl k) H → wpAny (model X.prog X.w) X.A (compareOp .In v u) (EP X pins σ Q) X.xe s) ∧ (∀ {Q : VK}, Q (.bl (!k)) H → wpAny (model X.prog X.w) X.A (compareOp .NotIn v u) (EP X pins σ Q) X.xe s) := by
  have seqs : ∀ l, seqOf μ b = some l → (a.flat && D.flatL l && decide (a.depth ≤ 64)) = true → k = (l.any fun x => x.eqv a) →
      (∀ {Q : VK}, Q (.bl k) H → wpAny (model X.prog X.w) X.A (compareOp .In v u) (EP X pins σ Q) X.xe s) ∧ (∀ {Q : VK}, Q (.bl (!k)) H → wpAny (model X.prog X.w) X.A (compareOp .NotIn v u) (EP X pins σ Q) X.xe s) := fun l hl c ek => by
    subst ek
    simp only [Bool.and_eq_true, decide_eq_true_eq] at c
    obtain ⟨⟨f1, f2⟩, hd⟩ := c
    obtain ⟨p, vs, rfl, hs, rs⟩ := seq_at A rb hl
    obtain ⟨p1, q1⟩ := RV.dp msk_same a x f1 ra
    obtain ⟨p2, q2⟩ := RVs.dp msk_same l vs f2 rs
    obtain ⟨as, r1⟩ := Dp.reads I _ x v p1 rx
    have room : X.A.units + 1 + min (PyData.depthAll (toPs l)) (toP a).depth < cLine := by
      rw [toP_depth]; omega
    rcases hs with hs | hs
    · obtain ⟨bs, r2⟩ := Dp.reads I (.list (toPs l)) (.ref p) u (.lst hs p2) ry
      refine ⟨fun {Q} q => SeqAt.in_list_reads r2 r1 q2 q1 room ⟨.bl _, H, I, rfl, ?_⟩, fun {Q} q => SeqAt.notIn_list_reads r2 r1 q2 q1 room ⟨.bl _, H, I, rfl, ?_⟩⟩
      · rw [any_eqv f1 l f2]; exact q
      · rw [any_eqv f1 l f2]; exact q
    · obtain ⟨bs, r2⟩ := Dp.reads I (.tuple (toPs l)) (.ref p) u (.tup hs p2) ry
      refine ⟨fun {Q} q => SeqAt.in_tuple_reads r2 r1 q2 q1 room ⟨.bl _, H, I, rfl, ?_⟩, fun {Q} q => SeqAt.notIn_tuple_reads r2 r1 q2 q1 room ⟨.bl _, H, I, rfl, ?_⟩⟩
      · rw [any_eqv f1 l f2]; exact q
      · rw [any_eqv f1 l f2]; exact q
  unfold inD at e
  split at e
  · rename_i t
    split at e
    · rename_i c
      cases e
      obtain ⟨rfl, _⟩ := rv_str ra
      obtain ⟨rfl, _⟩ := rv_str rb
      have ec : decide (c ∈ (sOf t).cps.toList) = t.contains c := by rw [sOf_cps]; simp
      refine ⟨fun {Q} q => op_in_sign pins s σ H _ _ v u Q I rx ry ⟨c, sOf t, rfl, rfl, by rw [ec]; exact q⟩, fun {Q} q => op_notIn_sign pins s σ H _ _ v u Q I rx ry ⟨c, sOf t, rfl, rfl, by rw [ec]; exact q⟩⟩
    · cases e
  · split at e
    · rename_i l hl
      obtain ⟨c, e⟩ := ite_some e
      exact seqs l hl c (Option.some.inj e).symm
    · by_cases hkt : isKT a = true
      · rw [if_pos hkt] at e
        cases hd : dttAt μ b with
        | none => rw [hd] at e; cases e
        | some nl =>
          rw [hd] at e
          obtain ⟨n, l⟩ := nl
          cases e
          obtain ⟨p, kx, rfl, hp, rfl, rs⟩ := dtt_at A hd rb
          obtain ⟨q, rfl⟩ := kt_ref hkt ra
          cases (show u = Value.ref p from ry)
          cases (show v = Value.ref q from rx)
          exact ⟨fun {Q} hq => dt_in (by omega) hw I rs hkt ra fun s' I' => ⟨.bl _, H, I', rfl, hq⟩, fun {Q} hq => dt_nin (by omega) hw I rs hkt ra fun s' I' => ⟨.bl _, H, I', rfl, hq⟩⟩
      rw [if_neg hkt] at e
      split at e
      · rename_i nl hd
        obtain ⟨n, l⟩ := nl
        obtain ⟨c, e⟩ := ite_some e
        cases e
        obtain ⟨p, kvs, rfl, hp, rfl, hH, rs⟩ := dct_at A hd rb
        obtain ⟨kk, hk, rfl⟩ := key_rv c ra
        cases (show u = Value.ref p from ry)
        have e1 := (rs.look hk).1
        refine ⟨fun {Q} q => d_in (by omega) I (DGet.k hH) rx fun s' I' => ⟨.bl _, H, I', rfl, ?_⟩, fun {Q} q => d_notIn (by omega) I (DGet.k hH) rx fun s' I' => ⟨.bl _, H, I', rfl, ?_⟩⟩
        · rw [← e1]; exact q
        · rw [← e1]; exact q
      · cases e
theorem op_inM (hw : fa.w = X.w) (hu : X.A.units + 65 < cLine) : OpR X (compareOp .In) (rOp X.K fa (cmpR .in_)) := by
  intro pins s σ H x y v u Q I rx ry h
  obtain ⟨φ, μ, a, b, A, ra, rb, h⟩ := h
  obtain ⟨d, e, k⟩ := h.of
  obtain ⟨t, e2, rfl⟩ := map_bl e
  exact (in_core I rx ry hw hu A ra rb e2).1 (k φ H (Ext.refl _ _) A _ mk_bl)
theorem op_ninM (hw : fa.w = X.w) (hu : X.A.units + 65 < cLine) : OpR X (compareOp .NotIn) (rOp X.K fa (cmpR .nin)) := by
  intro pins s σ H x y v u Q I rx ry h
  obtain ⟨φ, μ, a, b, A, ra, rb, h⟩ := h
  obtain ⟨d, e, k⟩ := h.of
  obtain ⟨t, e2, rfl⟩ := map_bl e
  have e : (inD μ a b).map (!·) = some t := e2
  cases q : inD μ a b with
  | none => rw [q] at e; cases e
  | some t' =>
    rw [q] at e
    cases e
    exact (in_core I rx ry hw hu A ra rb q).2 (k φ H (Ext.refl _ _) A _ mk_bl)

/-! ### places, slices -/
theorem ixZ_eq (n : Nat) (i : Int) : ixZ n i = ixN n i := rfl
theorem atZ_eq {α : Type} (l : List α) (i : Int) : atZ l i = atI l i := rfl
theorem RVs.atI {K : PySem.W.Frag} {G : Hp} {φ : Ph} {l : List D} {vs : List V} {i : Int} {d : D} (r : RVs K fa G φ l vs) (h : atZ l i = some d) : ∃ v, L2.atI vs i = some v ∧ RV K fa G φ d v := by
  unfold atZ at h
  unfold L2.atI
  rw [r.length]
  cases e : ixZ l.length i with
  | none => rw [e] at h; cases h
  | some k =>
    rw [e] at h
    obtain ⟨v, a, b⟩ := RVs.get (i := k) r h
    exact ⟨v, by rw [← ixZ_eq, e]; exact a, b⟩
theorem ix_M (hw : fa.w = X.w) (hu0 : X.A.units + 64 < cLine) : IxR X (rOp X.K fa fun μ a b => Res.of (idxD μ a b) μ) := by
  intro value slice pins s σ H x y v u Q I rx ry h hs0
  have hu : X.A.units + 1 < cLine := by omega
  obtain ⟨φ, μ, a, b, A, ra, rb, h⟩ := h
  obtain ⟨d, e, k⟩ := h.of
  have dcts : isKey b = true → ((dctAt μ a).bind fun nl => lookD nl.2 b) = some d → wpAny (model X.prog X.w) X.A (subscriptTail value slice v u) (EP X pins σ Q) X.xe s := fun c e9 => by
    cases hd : dctAt μ a with
    | none => rw [hd] at e9; cases e9
    | some nl =>
      rw [hd] at e9
      obtain ⟨n, l⟩ := nl
      obtain ⟨p, kvs, rfl, hp, rfl, hH, rs⟩ := dct_at A hd ra
      obtain ⟨kk, hk, rfl⟩ := key_rv c rb
      obtain ⟨w, hw, rw'⟩ := (rs.look hk).2 d e9
      cases (show v = Value.ref p from rx)
      have g : DGet H p (kV kk) (some w) := by rw [← hw]; exact DGet.k hH
      exact tail_any (dict_typeIs I g) slot_dict_getitem.lookup (d_getItem hu I g ry fun w' s3 I3 r3 => ⟨w, H, I3, r3, k φ H (Ext.refl _ _) A w rw'⟩) hs0
  unfold idxD at e
  split at e
  · rename_i t i
    obtain ⟨c, e⟩ := ite_some e
    obtain ⟨rfl, o⟩ := rv_str ra
    cases rv_int rb
    cases q : atZ t i with
    | none => rw [q] at e; cases e
    | some z =>
      rw [q] at e
      cases e
      refine ix_str value slice pins s σ H _ _ v u Q I rx ry ⟨sOf t, i, z, rfl, rfl, by rw [sOf_len, lim_eq]; exact c, by rw [sOf_cps]; exact q, ?_⟩ hs0
      refine k φ H (Ext.refl _ _) A _ (mk_str (s := [z]) (okT_sub o fun c hc => ?_))
      have : c = z := by simpa using hc
      subst this
      unfold atZ at q
      cases e : ixZ t.length i with
      | none => rw [e] at q; cases q
      | some j => rw [e] at q; exact List.mem_of_getElem? q
  · rename_i i _ _
    split at e
    · rename_i l hl
      cases rv_int rb
      obtain ⟨p, vs, rfl, hs, rs⟩ := seq_at A ra hl
      obtain ⟨w, hw, rw'⟩ := RVs.atI rs e
      have q := k φ H (Ext.refl _ _) A w rw'
      rcases hs with hs | hs
      · exact ix_list value slice pins s σ H _ _ v u Q I rx ry ⟨p, vs, _, w, rfl, rfl, hs, hw, q⟩ hs0
      · exact ix_tup value slice pins s σ H _ _ v u Q I rx ry ⟨p, vs, _, w, rfl, rfl, hs, hw, q⟩ hs0
    · exact dcts rfl e
  · exact dcts rfl e
  · rename_i kk _
    obtain ⟨c, e2⟩ := ite_some e
    cases hd : dttAt μ a with
    | none => rw [hd] at e2; cases e2
    | some nl =>
      rw [hd] at e2
      obtain ⟨n, l⟩ := nl
      obtain ⟨p, kx, rfl, hp, rfl, rs⟩ := dtt_at A hd ra
      obtain ⟨q, rfl⟩ := kt_ref c rb
      cases (show u = Value.ref q from ry)
      cases (show v = Value.ref p from rx)
      exact tail_any (dt_type hw I rs) slot_dict_getitem.lookup (dtt_get hu0 hw I rs c rb e2 fun v' u' s' I' r1 r2 => ⟨v', H, I', r1, k φ H (Ext.refl _ _) A v' r2⟩) hs0
  · cases e
theorem cutL_eq {α : Type} (l : List α) (lo hi : Option Int) : cutL l lo hi = (l.drop (HT.sIx l.length 0 lo)).take (HT.sIx l.length l.length hi - HT.sIx l.length 0 lo) := rfl
theorem RVs.cut {K : PySem.W.Frag} {G : Hp} {φ : Ph} {l : List D} {vs : List V} {lo hi : Option Int} (r : RVs K fa G φ l vs) : RVs K fa G φ (cutL l lo hi) (cutV vs lo hi) := by
  unfold cutV
  rw [cutL_eq, r.length]
  exact (r.drop _).take _
theorem sl_M : SlR X (rSl X.K fa fun μ a lo hi => Res.of (slcD μ a lo hi) μ) := by
  intro pins s σ H x v vl vu lo hi sl Q I rx hs pl pu h
  obtain ⟨φ, μ, a, A, ra, h⟩ := h
  obtain ⟨d, e, k⟩ := h.of
  unfold slcD at e
  split at e
  · rename_i t
    obtain ⟨c, e⟩ := ite_some e
    cases e
    obtain ⟨rfl, o⟩ := rv_str ra
    refine sl_str pins s σ H _ v vl vu lo hi sl Q I rx hs pl pu ⟨sOf t, rfl, by rw [sOf_len, lim_eq]; exact c, ?_⟩
    have ec : L2.cutS (sOf t) lo hi = sOf (cutL t lo hi) := by
      show (⟨_⟩ : Str) = _
      unfold sOf cutL
      simp only [Str.length]
      rfl
    rw [ec]
    exact k φ H (Ext.refl _ _) A _ (mk_str (okT_sub o fun c hc => List.mem_of_mem_drop (List.mem_of_mem_take hc)))
  · rename_i l
    cases e
    obtain ⟨p, vs, rfl, h1, r1⟩ := rv_tupP ra
    refine sl_tupP pins s σ H _ v vl vu lo hi sl Q I rx hs pl pu ⟨p, vs, rfl, Same.seqT msk_same h1.t, fun hw => ?_, fun _ z o ho hz => ?_⟩
    · refine k φ H (Ext.refl _ _) A _ (mk_tup h1 ?_)
      have ec : cutL l lo hi = l := by
        rw [cutL_eq]
        rw [r1.length] at hw
        rw [hw.1, hw.2, List.drop_zero, Nat.sub_zero, List.take_length]
      rw [ec]; exact r1
    · obtain ⟨x1, A1, r3⟩ := new_tup A (r1.cut (lo := lo) (hi := hi)) ho hz
      exact k φ _ x1 A1 _ r3
  · split at e
    · rename_i l hl
      cases e
      obtain ⟨p, vs, rfl, h1, r1⟩ := lst_at A ra hl
      refine sl_list pins s σ H _ v vl vu lo hi sl Q I rx hs pl pu ⟨p, vs, rfl, h1, fun z hz => ?_⟩
      obtain ⟨x1, A1, r3⟩ := new_lst A (r1.cut (lo := lo) (hi := hi)) hz
      exact k φ _ x1 A1 _ r3
    · cases e
end
end Ev

set_option Elab.async false
set_option linter.all false
set_option maxRecDepth 100000
set_option maxHeartbeats 1000000
/-! Built-ins and methods. -/
namespace Ev
open PySem PySem.Spec PyProof.Rows L2
section
variable {X : Cx} {fa : Lay} {W : EW} {Z : EZ}
abbrev biR (b : Bi) : Mu → List D → Res D := fun μ ds => Res.of (biD b μ ds) μ
theorem rvs0 {K : PySem.W.Frag} {G : Hp} {φ : Ph} {vs : List V} (h : RVs K fa G φ [] vs) : vs = [] := by unfold RVs at h; exact h
theorem rvs1 {K : PySem.W.Frag} {G : Hp} {φ : Ph} {d : D} {vs : List V} (h : RVs K fa G φ [d] vs) : ∃ v, vs = [v] ∧ RV K fa G φ d v := by
  unfold RVs at h
  obtain ⟨v, r, rfl, h1, h2⟩ := h
  unfold RVs at h2
  subst h2
  exact ⟨v, rfl, h1⟩
theorem rvs2 {K : PySem.W.Frag} {G : Hp} {φ : Ph} {d e : D} {vs : List V} (h : RVs K fa G φ [d, e] vs) : ∃ v u, vs = [v, u] ∧ RV K fa G φ d v ∧ RV K fa G φ e u := by
  unfold RVs at h
  obtain ⟨v, r, rfl, h1, h2⟩ := h
  obtain ⟨u, rfl, h3⟩ := rvs1 h2
  exact ⟨v, u, rfl, h1, h3⟩
theorem ofmap {α β : Type} {o : Option α} {f : α → β} {d : β} (h : o.map f = some d) : ∃ k, o = some k ∧ f k = d := by
  cases o with
  | none => cases h
  | some k => exact ⟨k, rfl, Option.some.inj h⟩
theorem ofbind {α β : Type} {o : Option α} {f : α → Option β} {d : β} (h : o.bind f = some d) : ∃ k, o = some k ∧ f k = some d := by
  cases o with
  | none => cases h
  | some k => exact ⟨k, rfl, h⟩
theorem of_d1 {α : Type} {args : List D} {f : D → Option α} {d : α} (h : d1 args f = some d) : ∃ a, args = [a] ∧ f a = some d := by
  unfold d1 at h
  split at h
  · exact ⟨_, rfl, h⟩
  · cases h
theorem of_d2 {α : Type} {args : List D} {f : D → D → Option α} {d : α} (h : d2 args f = some d) : ∃ a b, args = [a, b] ∧ f a b = some d := by
  unfold d2 at h
  split at h
  · exact ⟨_, _, rfl, h⟩
  · cases h
/-- a built-in of one argument -/
theorem bi1 {f : Value} {b : Bi} {g : Mu → D → Option D} (hb : ∀ μ ds, biD b μ ds = d1 ds (g μ))
    (h : ∀ (pins : List (Addr × Obj)) (s : Shared) (σ : L2.St) (H : Hp) (v : V) (us : List Value) (Q : VK) (φ : Ph) (μ : Mu) (a d : D), Inv X pins σ H s → Vals [v] us → Abs X.K fa φ μ H → RV X.K fa (msk H φ) φ a v →
      g μ a = some d → (∀ φ' H', Ext φ H φ' H' → Abs X.K fa φ' μ H' → toV X.K fa Q d μ φ' H') → wpAny (model X.prog X.w) X.A (call f us) (EP X pins σ Q) X.xe s) : CallR X f (rBi X.K fa (biR b)) := by
  intro pins s σ H xs us Q I r q
  obtain ⟨φ, μ, ds, A, rs, q⟩ := q
  obtain ⟨d, e, k⟩ := q.of
  rw [hb] at e
  obtain ⟨a, rfl, e⟩ := of_d1 e
  obtain ⟨v, rfl, ra⟩ := rvs1 rs
  exact h pins s σ H v us Q φ μ a d I r A ra e k
theorem bi2 {f : Value} {b : Bi} {g : Mu → D → D → Option D} (hb : ∀ μ ds, biD b μ ds = d2 ds (g μ))
    (h : ∀ (pins : List (Addr × Obj)) (s : Shared) (σ : L2.St) (H : Hp) (v u : V) (us : List Value) (Q : VK) (φ : Ph) (μ : Mu) (a a2 d : D), Inv X pins σ H s → Vals [v, u] us → Abs X.K fa φ μ H → RV X.K fa (msk H φ) φ a v → RV X.K fa (msk H φ) φ a2 u →
      g μ a a2 = some d → (∀ φ' H', Ext φ H φ' H' → Abs X.K fa φ' μ H' → toV X.K fa Q d μ φ' H') → wpAny (model X.prog X.w) X.A (call f us) (EP X pins σ Q) X.xe s) : CallR X f (rBi X.K fa (biR b)) := by
  intro pins s σ H xs us Q I r q
  obtain ⟨φ, μ, ds, A, rs, q⟩ := q
  obtain ⟨d, e, k⟩ := q.of
  rw [hb] at e
  obtain ⟨a, a2, rfl, e⟩ := of_d2 e
  obtain ⟨v, u, rfl, ra, rb⟩ := rvs2 rs
  exact h pins s σ H v u us Q φ μ a a2 d I r A ra rb e k
theorem len_seq {μ : Mu} {a : D} {n : Int} (h : lenD μ a = some n) : (∃ t, a = .str t ∧ t.length ≤ lim ∧ n = t.length) ∨ (∃ l, seqOf μ a = some l ∧ n = l.length) ∨ ∃ k l, dctAt μ a = some (k, l) ∧ n = l.length := by
  cases a with
  | str t =>
    obtain ⟨c, e⟩ := ite_some (show (if t.length ≤ lim then some (t.length : Int) else none) = some n from h)
    exact .inl ⟨t, rfl, c, (Option.some.inj e).symm⟩
  | tup l => exact .inr (.inl ⟨l, rfl, (Option.some.inj h).symm⟩)
  | lst l => exact .inr (.inl ⟨l, rfl, (Option.some.inj h).symm⟩)
  | loc j =>
    unfold lenD at h
    unfold seqOf dctAt
    dsimp only at h ⊢
    cases hm : μ[j]? with
    | none => rw [hm] at h; cases h
    | some c =>
      rw [hm] at h
      cases c with
      | lst l => exact .inr (.inl ⟨l, rfl, (Option.some.inj h).symm⟩)
      | dct l => exact .inr (.inr ⟨j, l, rfl, (Option.some.inj h).symm⟩)
      | _ => cases h
  | _ => cases h
theorem bi_len : CallR X (.builtin "len") (rBi X.K fa (biR .len)) := bi1 (fun _ _ => rfl) fun pins s σ H v us Q φ μ a d I r A ra e k => by
  obtain ⟨n, e2, rfl⟩ := ofmap e
  have q := k φ H (Ext.refl _ _) A _ mk_int
  rcases len_seq e2 with ⟨t, rfl, c, rfl⟩ | ⟨l, hl, rfl⟩ | ⟨j, l, hd, rfl⟩
  · obtain ⟨rfl, _⟩ := rv_str ra
    exact call_len pins s σ H _ us Q I r ⟨.str (sOf t), t.length, rfl, ⟨by rw [sOf_len, lim_eq]; exact c, (sOf_len t).symm⟩, q⟩
  · obtain ⟨p, vs, rfl, hs, rs⟩ := seq_at A ra hl
    refine call_len pins s σ H _ us Q I r ⟨.ref p, l.length, rfl, ?_, q⟩
    rcases hs with hs | hs
    · exact .inl ⟨vs, hs, rs.length.symm⟩
    · exact .inr ⟨vs, hs, rs.length.symm⟩
  · obtain ⟨p, kvs, rfl, hp, rfl, hH, rs⟩ := dct_at A hd ra
    obtain rfl := Vals.ref1 r
    exact d_len I (.inl hH) fun t s' I' => ⟨.int _, H, I', ⟨t, by rw [rs.len]⟩, q⟩
theorem bi_tuple : CallR X (.type "tuple") (rBi X.K fa (biR .tuple)) := bi1 (fun _ _ => rfl) fun pins s σ H v us Q φ μ a d I r A ra e k => by
  unfold tupleD at e
  split at e
  · cases e
    obtain ⟨p, vs, rfl, hs, rs⟩ := rv_tup ra
    exact call_tuple_ofP pins s σ H _ us Q I r ⟨p, vs, rfl, .inr ⟨Same.seqT msk_same hs, k φ H (Ext.refl _ _) A _ ra⟩⟩
  · obtain ⟨l, hl, rfl⟩ := ofmap e
    obtain ⟨p, vs, rfl, hs, rs⟩ := lst_at A ra hl
    refine call_tuple_ofP pins s σ H _ us Q I r ⟨p, vs, rfl, .inl ⟨hs, fun z o ho hz => ?_⟩⟩
    obtain ⟨x1, A1, r1⟩ := new_tup A rs ho hz
    exact k φ _ x1 A1 _ r1
theorem bi_list : CallR X (.type "list") (rBi X.K fa (biR .list)) := bi1 (fun _ _ => rfl) fun pins s σ H v us Q φ μ a d I r A ra e k => by
  obtain ⟨l, hl, rfl⟩ := ofmap e
  obtain ⟨p, vs, rfl, hs, rs⟩ := seq_at A ra hl
  refine call_list_of pins s σ H _ us Q I r ⟨p, vs, rfl, ?_, fun z hz => ?_⟩
  · rcases hs with hs | hs
    · exact .inl hs
    · exact .inr hs
  · obtain ⟨x1, A1, r1⟩ := new_lst A rs hz
    exact k φ _ x1 A1 _ r1
theorem bi_min2 (hc : X.calm = true) : CallR X (.builtin "min") (rBi X.K fa (biR .min2)) := bi2 (fun _ _ => rfl) fun pins s σ H v u us Q φ μ a b d I r A ra rb e k => by
  obtain ⟨i, j, rfl, rfl, e⟩ := i2_some e
  cases e
  cases rv_int ra; cases rv_int rb
  exact call_min2 hc pins s σ H _ us Q I r ⟨i, j, rfl, k φ H (Ext.refl _ _) A _ mk_int⟩
theorem bi_max2 (hc : X.calm = true) : CallR X (.builtin "max") (rBi X.K fa (biR .max2)) := bi2 (fun _ _ => rfl) fun pins s σ H v u us Q φ μ a b d I r A ra rb e k => by
  obtain ⟨i, j, rfl, rfl, e⟩ := i2_some e
  cases e
  cases rv_int ra; cases rv_int rb
  exact call_max2 hc pins s σ H _ us Q I r ⟨i, j, rfl, k φ H (Ext.refl _ _) A _ mk_int⟩
theorem bi_int : CallR X (.type "int") (rBi X.K fa (biR .int)) := bi1 (fun _ _ => rfl) fun pins s σ H v us Q φ μ a d I r A ra e k => by
  unfold intD at e
  split at e
  · cases e
    cases rv_int ra
    exact call_int1 pins s σ H _ us Q I r (.inl ⟨_, rfl, k φ H (Ext.refl _ _) A _ mk_int⟩)
  · cases e
    cases rv_bl ra
    exact call_int1 pins s σ H _ us Q I r (.inr ⟨_, rfl, k φ H (Ext.refl _ _) A _ mk_int⟩)
  · rename_i t
    obtain ⟨⟨h1, h2, h3⟩, e⟩ := ite_some e
    cases e
    obtain ⟨rfl, _⟩ := rv_str ra
    have hd : NumText.AllDigits (sOf t).cps.toList := fun c hc => by
      rw [sOf_cps] at hc
      have := List.all_eq_true.mp (show (t.all fun c => decide (48 ≤ c) && decide (c ≤ 57)) = true from h1) c hc
      rw [Bool.and_eq_true, decide_eq_true_iff, decide_eq_true_iff] at this
      exact this
    have e2 := PySem.intText_digits hd (by rw [sOf_cps]; exact h2) (by rw [sOf_len]; omega)
    rw [sOf_cps] at e2
    exact call_int_str pins s σ H _ us Q I r ⟨sOf t, _, rfl, e2, by rw [sOf_len]; exact h3, k φ H (Ext.refl _ _) A _ mk_int⟩
  · cases e
theorem okT_num (n : Nat) : okT (numT n) = true := by
  unfold okT
  rw [List.all_eq_true]
  intro c hc
  refine decide_eq_true ?_
  have h : ¬ (57 < c) := fun h => TL.numL_free (n := n) (s := c) (.inr h) hc
  omega
theorem sOf_num {i : Int} (h : 0 ≤ i) : Str.ofString (toString i) = sOf (numT i.toNat) := by
  obtain ⟨n, rfl⟩ := Int.eq_ofNat_of_zero_le h
  refine TL.ext_tl ?_
  rw [TL.tl_num]
  show numT n = (sOf (numT ((n : Int).toNat))).cps.toList
  rw [sOf_cps, Int.toNat_natCast]
theorem bi_str : CallR X (.type "str") (rBi X.K fa (biR .str)) := bi1 (fun _ _ => rfl) fun pins s σ H v us Q φ μ a d I r A ra e k => by
  unfold strD at e
  split at e
  · obtain ⟨c, e⟩ := ite_some e
    cases e
    cases rv_int ra
    refine call_str_int pins s σ H _ us Q I r ⟨_, rfl, c.2, ?_⟩
    rw [sOf_num c.1]
    exact k φ H (Ext.refl _ _) A _ (mk_str (okT_num _))
  · cases e
theorem bi_abs : CallR X (.builtin "abs") (rBi X.K fa (biR .abs)) := bi1 (fun _ _ => rfl) fun pins s σ H v us Q φ μ a d I r A ra e k => by
  unfold absD at e
  split at e
  · cases e
    cases rv_int ra
    exact call_abs pins s σ H _ us Q I r ⟨_, rfl, k φ H (Ext.refl _ _) A _ mk_int⟩
  · cases e
theorem bools_rvs {K : PySem.W.Frag} {G : Hp} {φ : Ph} : ∀ {l : List D} {vs : List V} {bs : List Bool}, RVs K fa G φ l vs → boolsOf l = some bs → vs = bs.map V.bl
  | [], _, _, h, e => by cases e; exact rvs0 h
  | d :: ds, vs, bs, h, e => by
    unfold RVs at h
    obtain ⟨v, r, rfl, h1, h2⟩ := h
    cases d with
    | bl b =>
      obtain ⟨cs, e1, rfl⟩ := ofmap (show (boolsOf ds).map (b :: ·) = some bs from e)
      cases rv_bl h1
      rw [bools_rvs h2 e1]
      rfl
    | _ => cases e
theorem ints_rvs {K : PySem.W.Frag} {G : Hp} {φ : Ph} : ∀ {l : List D} {vs : List V} {bs : List Int}, RVs K fa G φ l vs → intsOf l = some bs → vs = bs.map V.int
  | [], _, _, h, e => by cases e; exact rvs0 h
  | d :: ds, vs, bs, h, e => by
    unfold RVs at h
    obtain ⟨v, r, rfl, h1, h2⟩ := h
    cases d with
    | int b =>
      obtain ⟨cs, e1, rfl⟩ := ofmap (show (intsOf ds).map (b :: ·) = some bs from e)
      cases rv_int h1
      rw [ints_rvs h2 e1]
      rfl
    | _ => cases e
theorem strs_rvs {K : PySem.W.Frag} {G : Hp} {φ : Ph} : ∀ {l : List D} {vs : List V} {bs : List Txt}, RVs K fa G φ l vs → strsOf l = some bs → vs = (bs.map sOf).map V.str ∧ ∀ t ∈ bs, okT t = true
  | [], _, _, h, e => by cases e; exact ⟨rvs0 h, fun _ h => nomatch h⟩
  | d :: ds, vs, bs, h, e => by
    unfold RVs at h
    obtain ⟨v, r, rfl, h1, h2⟩ := h
    cases d with
    | str b =>
      obtain ⟨cs, e1, rfl⟩ := ofmap (show (strsOf ds).map (b :: ·) = some bs from e)
      obtain ⟨rfl, o⟩ := rv_str h1
      obtain ⟨e2, o2⟩ := strs_rvs h2 e1
      rw [e2]
      refine ⟨rfl, fun t ht => ?_⟩
      rcases List.mem_cons.mp ht with rfl | ht
      · exact o
      · exact o2 t ht
    | _ => cases e
theorem bi_all (hc : X.calm = true) : CallR X (.builtin "all") (rBi X.K fa (biR .all)) := bi1 (fun _ _ => rfl) fun pins s σ H v us Q φ μ a d I r A ra e k => by
  obtain ⟨l, hl, e⟩ := ofbind e
  obtain ⟨bs, hb, rfl⟩ := ofmap e
  obtain ⟨p, vs, rfl, hs, rs⟩ := lst_at A ra hl
  have ev := bools_rvs rs hb
  subst ev
  exact cr_all hc pins s σ H _ us Q I r ⟨p, bs, rfl, hs, k φ H (Ext.refl _ _) A _ mk_bl⟩
theorem bi_any (hc : X.calm = true) : CallR X (.builtin "any") (rBi X.K fa (biR .any)) := bi1 (fun _ _ => rfl) fun pins s σ H v us Q φ μ a d I r A ra e k => by
  obtain ⟨l, hl, e⟩ := ofbind e
  obtain ⟨bs, hb, rfl⟩ := ofmap e
  obtain ⟨p, vs, rfl, hs, rs⟩ := lst_at A ra hl
  have ev := bools_rvs rs hb
  subst ev
  exact cr_any hc pins s σ H _ us Q I r ⟨p, bs, rfl, hs, k φ H (Ext.refl _ _) A _ mk_bl⟩
theorem bi_sum (hc : X.calm = true) : CallR X (.builtin "sum") (rBi X.K fa (biR .sum)) := bi1 (fun _ _ => rfl) fun pins s σ H v us Q φ μ a d I r A ra e k => by
  obtain ⟨l, hl, e⟩ := ofbind e
  obtain ⟨bs, hb, rfl⟩ := ofmap e
  obtain ⟨p, vs, rfl, hs, rs⟩ := lst_at A ra hl
  have ev := ints_rvs rs hb
  subst ev
  exact cr_sum hc pins s σ H _ us Q I r ⟨p, bs, rfl, hs, k φ H (Ext.refl _ _) A _ mk_int⟩
theorem bi_divmod : CallR X (.builtin "divmod") (rBi X.K fa (biR .divmod)) := bi2 (fun _ _ => rfl) fun pins s σ H v u us Q φ μ a b d I r A ra rb e k => by
  obtain ⟨i, j, rfl, rfl, e⟩ := i2_some e
  obtain ⟨c, e⟩ := ite_some e
  cases e
  cases rv_int ra; cases rv_int rb
  refine call_divmodP pins s σ H _ us Q I r ⟨i, j, rfl, c, fun z o ho hz => ?_⟩
  obtain ⟨x1, A1, r1⟩ := new_tup A (RVs.cons mk_int (RVs.one mk_int)) ho hz
  exact k φ _ x1 A1 _ r1

theorem bi_ord : CallR X (.builtin "ord") (rBi X.K fa (biR .ord)) := bi1 (fun _ _ => rfl) fun pins s σ H v us Q φ μ a d I r A ra e k => by
  obtain ⟨c, hc, rfl⟩ := ofmap e
  have ha : a = .str [c] := by
    unfold signOf at hc
    split at hc
    · cases hc; rfl
    · cases hc
  subst ha
  obtain ⟨rfl, _⟩ := rv_str ra
  exact call_ord pins s σ H _ us Q I r ⟨sOf [c], rfl, rfl, k φ H (Ext.refl _ _) A _ mk_int⟩
theorem fold_max : ∀ (l : List Int) (i : Int), (l.foldl (fun m x => if m < x then x else m) i) ∈ i :: l ∧ ∀ y ∈ i :: l, y ≤ l.foldl (fun m x => if m < x then x else m) i
  | [], i => ⟨List.mem_cons_self, fun y hy => by
    have : y = i := by simpa using hy
    rw [this]
    exact Int.le_refl _⟩
  | x :: r, i => by
    obtain ⟨h1, h2⟩ := fold_max r (if i < x then x else i)
    rw [List.foldl_cons]
    have hi : i ≤ (if i < x then x else i) ∧ x ≤ (if i < x then x else i) := by split <;> omega
    have h0 := h2 _ List.mem_cons_self
    refine ⟨?_, fun y hy => ?_⟩
    · rcases List.mem_cons.mp h1 with h | h
      · rw [h]
        split
        · exact List.mem_cons_of_mem _ List.mem_cons_self
        · exact List.mem_cons_self
      · exact List.mem_cons_of_mem _ (List.mem_cons_of_mem _ h)
    · rcases List.mem_cons.mp hy with rfl | hy
      · omega
      · rcases List.mem_cons.mp hy with rfl | hy
        · omega
        · exact h2 y (List.mem_cons_of_mem _ hy)
theorem bi_maxL (hc : X.calm = true) : CallR X (.builtin "max") (rBi X.K fa (biR .maxL)) := bi1 (fun _ _ => rfl) fun pins s σ H v us Q φ μ a d I r A ra e k => by
  obtain ⟨l, hl, e⟩ := ofbind e
  obtain ⟨is, hb, e⟩ := ofbind e
  obtain ⟨p, vs, rfl, hs, rs⟩ := lst_at A ra hl
  have ev := ints_rvs rs hb
  subst ev
  cases is with
  | nil => cases e
  | cons i r' =>
    cases e
    refine cr_max hc pins s σ H _ us Q I r ⟨p, i :: r', rfl, hs, Nat.succ_pos _, fun m h1 h2 => ?_⟩
    obtain ⟨q1, q2⟩ := fold_max r' i
    have : m = r'.foldl (fun m x => if m < x then x else m) i := Int.le_antisymm (q2 m h1) (h2 _ q1)
    subst this
    exact k φ H (Ext.refl _ _) A _ mk_int

/-! ### isinstance -/
def Ty.nm : Ty → String
  | .int => "int"
  | .bool => "bool"
  | .str => "str"
  | .tuple => "tuple"
  | .list => "list"
  | .dict => "dict"
  | .obj _ => "object"
def Ty.own : Ty → Bool
  | .obj _ => true
  | _ => false
theorem kind_core {K : PySem.W.Frag} {H : Hp} {φ : Ph} {μ : Mu} {a : D} {v : V} {t : Ty} {b : Bool} (ht : t.own = false) (A : Abs K fa φ μ H) (ra : RV K fa (msk H φ) φ a v) (e : kindIs μ t a = some b) :
    ∃ T : String, TyX K H v (.type T) ∧ kitB T t.nm = some b := by
  have seqs : ∀ (p : Addr) (vs : List V), SqL K H p vs → TyX K H (.ref p) (.type "list") := fun p vs h => by
    rcases h with (h | ⟨o, h⟩) | ⟨o, _, _, h, c, _⟩
    · exact .base (.lst h)
    · exact .base (.frz h)
    · exact .kList h c
  cases a with
  | non => cases e; cases rv_non ra; exact ⟨"NoneType", .base .non, by cases t <;> first | decide +kernel | cases ht⟩
  | bl k => cases e; cases rv_bl ra; exact ⟨"bool", .base (.bl k), by cases t <;> first | decide +kernel | cases ht⟩
  | int i => cases e; cases rv_int ra; exact ⟨"int", .base (.int i), by cases t <;> first | decide +kernel | cases ht⟩
  | str s => cases e; obtain ⟨rfl, _⟩ := rv_str ra; exact ⟨"str", .base (.str _), by cases t <;> first | decide +kernel | cases ht⟩
  | tup l =>
    cases e
    obtain ⟨p, vs, rfl, h, _⟩ := rv_tup ra
    refine ⟨"tuple", ?_, by cases t <;> first | decide +kernel | cases ht⟩
    rcases Same.seqT msk_same h with (h | ⟨o, h⟩) | ⟨o, its, n, hk, hc, _⟩
    · exact .base (.tup h)
    · exact .fTuple h
    · exact .kTuple hk hc
  | lst l =>
    cases e
    obtain ⟨p, vs, rfl, h, _⟩ := rv_lst ra
    exact ⟨"list", seqs p vs (Same.sqL msk_same h), by cases t <;> first | decide +kernel | cases ht⟩
  | loc n =>
    obtain ⟨p, hp, rfl⟩ := rv_loc ra
    unfold kindIs at e
    dsimp only at e
    cases hm : μ[n]? with
    | none => rw [hm] at e; cases e
    | some c =>
      rw [hm] at e
      cases c with
      | lst l =>
        cases e
        obtain ⟨vs, e1, _⟩ := A.cell n p _ hp hm
        exact ⟨"list", seqs p vs (.inl (.inl e1)), by cases t <;> first | decide +kernel | cases ht⟩
      | dct l =>
        cases e
        obtain ⟨kvs, e1, _⟩ := A.cell n p _ hp hm
        exact ⟨"dict", .base (.dK e1), by cases t <;> first | decide +kernel | cases ht⟩
      | _ => cases e
  | fn k => cases e
/-- isinstance(e, T): T's name gives the type -/
theorem pe_isin {t : Ty} {a : Expr} {ma : Rho → Mu → Res D} {x y : Str} {p p2 pos : Pos} (ht : t.own = false) (hg : Gl X x) (hm : X.mg x = none) (hv : bootBuiltins x = some (.builtin "isinstance"))
    (hg2 : Gl X y) (hm2 : X.mg y = none) (hv2 : bootBuiltins y = some (.type t.nm)) (ha : PE X a (tE X.K fa W ma)) (hn : x ≠ "__name__") (hdb : (x == ("__debug__" : Str)) = false) (hn2 : y ≠ "__name__") (hdb2 : (y == ("__debug__" : Str)) = false)
    (he : starEach [a, .Name y p2] X.env = (false, eval a X.env) :: starEach [.Name y p2] X.env) :
    PE X (.Call (.Name x p) [a, .Name y p2] [] pos) (tE X.K fa W fun ρ μ => (ma ρ μ).bind fun v μ => Res.of ((kindIs μ t v).map .bl) μ) := by
  refine PE.imp (pe_callB call_isi hg hm hv (pa_cons ha (pa_cons (pe_bltn (v := .ty t.nm) hg2 hm2 hv2 rfl hn2 hdb2) pa_nil) he) hn hdb he) fun σ H Q h => ?_
  obtain ⟨φ, μ, ρ, A, R, h⟩ := h
  refine ⟨φ, μ, ρ, A, R, h.bind.imp fun d μ1 φ1 H1 e1 A1 h1 v rv => ?_⟩
  obtain ⟨k, e, q⟩ := h1.of
  obtain ⟨b, e2, rfl⟩ := map_bl e
  obtain ⟨T, ty, kt⟩ := kind_core ht A1 rv e2
  exact ⟨v, .ty t.nm, _, _, b, rfl, .ty _, ty, kit_ty kt, q φ1 H1 (Ext.refl _ _) A1 _ mk_bl⟩

/-! ### methods -/
abbrev meR (m : Me) : Mu → D → List D → Res D := fun μ o ds => meD m μ o ds
theorem lst_at2 {K : PySem.W.Frag} {φ : Ph} {H : Hp} {μ : Mu} (A : Abs K fa φ μ H) {d : D} {v : V} {n : Nat} {l : List D} (h : lstAt μ d = some (n, l)) (r : RV K fa (msk H φ) φ d v) :
    ∃ a vs, d = .loc n ∧ φ.sh[n]? = some a ∧ v = .ref a ∧ H a = some (.lst vs) ∧ RVs K fa (msk H φ) φ l vs := by
  cases d with
  | loc j =>
    unfold lstAt at h
    dsimp only at h
    cases hm : μ[j]? with
    | none => rw [hm] at h; cases h
    | some c =>
      rw [hm] at h
      cases c with
      | lst q =>
        cases h
        obtain ⟨a, ha, e⟩ := rv_loc r
        obtain ⟨vs, e1, rs⟩ := A.cell _ a _ ha hm
        exact ⟨a, vs, rfl, ha, e, e1, rs⟩
      | _ => cases h
  | _ => cases h
/-- a shared list is written -/
theorem set_lst {K : PySem.W.Frag} {φ : Ph} {H : Hp} {μ : Mu} (A : Abs K fa φ μ H) {n : Nat} {a : Addr} {l : List D} {vs : List V} (ha : φ.sh[n]? = some a) (r : RVs K fa (msk H φ) φ l vs) :
    Ext φ H φ (upd H a (.lst vs)) ∧ Abs K fa φ (μ.set n (.lst l)) (upd H a (.lst vs)) := Abs.set A ha ⟨vs, upd_same, r⟩
theorem set_dct {K : PySem.W.Frag} {φ : Ph} {H : Hp} {μ : Mu} (A : Abs K fa φ μ H) {n : Nat} {a : Addr} {l : List (D × D)} {kvs : List (L2.Key × V)} (ha : φ.sh[n]? = some a) (r : RDs K fa (msk H φ) φ l kvs) :
    Ext φ H φ (upd H a (.dK kvs)) ∧ Abs K fa φ (μ.set n (.dct l)) (upd H a (.dK kvs)) := Abs.set A ha ⟨kvs, upd_same, r⟩
theorem me_append : MtR X "list.append" (rMe X.K fa (meR .append)) := by
  intro pins s σ H x xs v us Q I rx rxs h
  obtain ⟨φ, μ, o, ds, A, ro, rs, h⟩ := h
  unfold meR meD at h
  dsimp only at h
  split at h
  · rename_i n l y hl
    by_cases c : l.length < lim
    · rw [if_pos c] at h
      obtain ⟨a, vs, rfl, ha, rfl, hH, rl⟩ := lst_at2 A hl ro
      obtain ⟨w, rfl, rw'⟩ := rvs1 rs
      obtain ⟨x1, A1⟩ := set_lst A ha (rl.append (.one rw'))
      exact mt_append pins s σ H _ _ v us Q I rx rxs ⟨a, vs, w, rfl, rfl, hH, by rw [rl.length, lim_eq]; exact c, h _ _ x1 A1 _ mk_non⟩
    · rw [if_neg c] at h; exact False.elim h
  · exact False.elim h
theorem me_insert : MtR X "list.insert" (rMe X.K fa (meR .insert)) := by
  intro pins s σ H x xs v us Q I rx rxs h
  obtain ⟨φ, μ, o, ds, A, ro, rs, h⟩ := h
  unfold meR meD at h
  dsimp only at h
  split at h
  · rename_i n l i y hl he
    obtain ⟨a1, a2, rfl, e⟩ := of_d2 he
    obtain ⟨i', hi, e⟩ := ofmap e
    cases e
    have ha : a1 = .int i := by cases a1 <;> first | (cases hi; rfl) | cases hi
    subst ha
    by_cases c : l.length < lim ∧ 0 ≤ i ∧ i < 2 ^ 62
    · rw [if_pos c] at h
      obtain ⟨a, vs, rfl, ha, rfl, hH, rl⟩ := lst_at2 A hl ro
      obtain ⟨w1, w2, rfl, r1, r2⟩ := rvs2 rs
      cases rv_int r1
      obtain ⟨x1, A1⟩ := set_lst A ha (((rl.take i.toNat).append (.one r2)).append (rl.drop i.toNat))
      refine mt_insert pins s σ H _ _ v us Q I rx rxs ⟨a, vs, i, w2, rfl, rfl, hH, by rw [rl.length, lim_eq]; exact c.1, c.2.1, by omega, h _ _ x1 A1 _ mk_non⟩
    · rw [if_neg c] at h; exact False.elim h
  · exact False.elim h
theorem RVs.rev {K : PySem.W.Frag} {G : Hp} {φ : Ph} : ∀ {l : List D} {vs : List V}, RVs K fa G φ l vs → RVs K fa G φ l.reverse vs.reverse
  | [], _, h => by cases rvs0 h; exact RVs.nil
  | d :: r, _, h => by
    unfold RVs at h
    obtain ⟨v, q, rfl, h1, h2⟩ := h
    rw [List.reverse_cons, List.reverse_cons]
    exact (RVs.rev h2).append (.one h1)
theorem me_reverse : MtR X "list.reverse" (rMe X.K fa (meR .reverse)) := by
  intro pins s σ H x xs v us Q I rx rxs h
  obtain ⟨φ, μ, o, ds, A, ro, rs, h⟩ := h
  unfold meR meD at h
  dsimp only at h
  split at h
  · rename_i n l hl
    obtain ⟨a, vs, rfl, ha, rfl, hH, rl⟩ := lst_at2 A hl ro
    cases rvs0 rs
    obtain ⟨x1, A1⟩ := set_lst A ha (RVs.rev rl)
    exact mt_reverse pins s σ H _ _ v us Q I rx rxs ⟨a, vs, rfl, rfl, hH, h _ _ x1 A1 _ mk_non⟩
  · exact False.elim h
open PySem in
theorem extend_tuple (l : Addr) (items : Array Value) (n : Nat) (b : Addr) (items2 : Array Value) (n2 : Nat) (dd : Option Addr) (sl : Array (Option Value)) (hs0 : ¬(!items.isEmpty && Builtin.List.listTooLong (items.size + items2.size)) = true) (hs1 : items.size ≤ sizeLine) (hs2 : items.size + items2.size ≤ sizeLine + 1) :
    Meets (Builtin.«list.extend» ⟨[.ref l, .ref b], []⟩) (fun _ R s => s.heap.get? l = some { cls := .type "list", dict := none, data := .seq items n, slots := #[] } ∧ s.heap.get? b = some { cls := .type "tuple", dict := dd, data := .seq items2 n2, slots := sl } ∧ R (.ok (.ret Value.none)) { s with heap := s.heap.update l (Obj.mapSeq fun x => x ++ items2), toks := s.toks }) :=
  .of_wp fun prog w A R s h => by
    obtain ⟨hp, g, d, tk, os⟩ := s; obtain ⟨hl, hb, h⟩ := h; have f1 := AutoSeq1.idx_int; have f2 := AutoSeq1.sub_tuple_tuple; have f3 := AutoSeq1.sub_list_list; have f4 := AutoSeq1.sub_tuple_list; have f5 := AutoSeq1.sub_list_tuple;
    have hz' : (items ++ items2).size ≤ sizeLine + 1 := by rw [Array.size_append]; exact hs2
    wp_walk using (wpAny_updateSeq hl rfl (hz := hs1) (_hz' := hz')), wpAny_loadPart' hl, wpAny_loadPart' hb; exact ⟨_, rfl, h⟩
theorem extend_list (l : Addr) (items : Array Value) (n : Nat) (b : Addr) (items2 : Array Value) (n2 : Nat) (dd : Option Addr) (sl : Array (Option Value)) (hs0 : ¬(!items.isEmpty && Builtin.List.listTooLong (items.size + items2.size)) = true) (hs1 : items.size ≤ sizeLine) (hs2 : items.size + items2.size ≤ sizeLine + 1) :
    Meets (Builtin.«list.extend» ⟨[.ref l, .ref b], []⟩) (fun _ R s => s.heap.get? l = some { cls := .type "list", dict := none, data := .seq items n, slots := #[] } ∧ s.heap.get? b = some { cls := .type "list", dict := dd, data := .seq items2 n2, slots := sl } ∧ R (.ok (.ret Value.none)) { s with heap := s.heap.update l (Obj.mapSeq fun x => x ++ items2), toks := s.toks }) :=
  .of_wp fun prog w A R s h => by
    obtain ⟨hp, g, d, tk, os⟩ := s; obtain ⟨hl, hb, h⟩ := h; have f1 := AutoSeq1.idx_int; have f2 := AutoSeq1.sub_tuple_tuple; have f3 := AutoSeq1.sub_list_list; have f4 := AutoSeq1.sub_tuple_list; have f5 := AutoSeq1.sub_list_tuple;
    have hz' : (items ++ items2).size ≤ sizeLine + 1 := by rw [Array.size_append]; exact hs2
    wp_walk using (wpAny_updateSeq hl rfl (hz := hs1) (_hz' := hz')), wpAny_loadPart' hl, wpAny_loadPart' hb; exact ⟨_, rfl, h⟩
/-- l.extend(list or tuple) -/
def rExt (K : PySem.W.Frag) : V → List V → Hp → VK → Prop := fun x vs H Q => ∃ l b xs zs, x = .ref l ∧ vs = [.ref b] ∧ H l = some (.lst xs) ∧ (SqL K H b zs ∨ SqT K H b zs) ∧ xs.length + zs.length ≤ sizeLine ∧ Q .non (upd H l (.lst (xs ++ zs)))
theorem mt_ext : MtR X "list.extend" (rExt X.K) := by
  intro pins s σ H x vs v us Q I rx rv h
  obtain ⟨l, b, xs, zs, rfl, rfl, hH, hB, hz, q⟩ := h
  cases rx
  obtain ⟨u, rfl, ru⟩ := rv.one
  cases ru
  obtain ⟨z, its, n, r, hl, e⟩ := I.lstM hH
  have go : ∀ its2 : List Value, Vals zs its2 → Inv X pins σ (upd H l (.lst (xs ++ zs))) { s with heap := s.heap.update l (Obj.mapSeq fun a => a ++ its2.toArray) } := fun its2 r2 => by
    exact I.lset (t' := s.toks) (its' := its ++ its2) hH e (by simp) (r.append r2) (by rw [List.length_append]; omega)
  rcases hB with hB | hB
  · obtain ⟨its2, r2, ⟨⟨cls, dd, data, sl⟩, n2, ho, hc, hdd, hd⟩, hz2⟩ := I.list hB
    simp only at hc hd hdd
    subst hc hd hdd
    have hl2 := r2.length
    have hsz : its.toArray.size + its2.toArray.size ≤ sizeLine := by rw [List.size_toArray, List.size_toArray]; omega
    have hlong : ¬ (!its.toArray.isEmpty && Builtin.List.listTooLong (its.toArray.size + its2.toArray.size)) = true := by
      rw [notLongL hsz, Bool.and_false]
      exact Bool.false_ne_true
    exact call_meets PySem.F.slot_list_extend ⟨_, e, rfl⟩ PySem.F.entry_list_extend (PySem.F.args_list_extend_2 _ _)
      (extend_list l its.toArray n b its2.toArray n2 none sl hlong (by rw [List.size_toArray]; omega) (by omega)) ⟨e, ho, ⟨.non, _, go its2 r2, rfl, q⟩⟩
  · obtain ⟨its2, r2, ⟨⟨cls, dd, data, sl⟩, ho, hc, n2, hd⟩, hz2⟩ := I.tuple hB
    simp only at hc hd
    subst hc hd
    have hl2 := r2.length
    have hsz : its.toArray.size + its2.toArray.size ≤ sizeLine := by rw [List.size_toArray, List.size_toArray]; omega
    have hlong : ¬ (!its.toArray.isEmpty && Builtin.List.listTooLong (its.toArray.size + its2.toArray.size)) = true := by
      rw [notLongL hsz, Bool.and_false]
      exact Bool.false_ne_true
    exact call_meets PySem.F.slot_list_extend ⟨_, e, rfl⟩ PySem.F.entry_list_extend (PySem.F.args_list_extend_2 _ _)
      (extend_tuple l its.toArray n b its2.toArray n2 dd sl hlong (by rw [List.size_toArray]; omega) (by omega)) ⟨e, ho, ⟨.non, _, go its2 r2, rfl, q⟩⟩
theorem me_extend : MtR X "list.extend" (rMe X.K fa (meR .extend)) := by
  intro pins s σ H x xs v us Q I rx rxs h
  obtain ⟨φ, μ, o, ds, A, ro, rs, h⟩ := h
  unfold meR meD at h
  dsimp only at h
  split at h
  · rename_i n l y hl hy
    obtain ⟨d, rfl, hd⟩ := of_d1 hy
    by_cases c : l.length + y.length ≤ lim
    · rw [if_pos c] at h
      obtain ⟨a, vs, rfl, ha, rfl, hH, rl⟩ := lst_at2 A hl ro
      obtain ⟨w, rfl, rw'⟩ := rvs1 rs
      obtain ⟨b, zs, rfl, hb, rz⟩ := seq_at A rw' hd
      obtain ⟨x1, A1⟩ := set_lst A ha (rl.append rz)
      exact mt_ext pins s σ H _ _ v us Q I rx rxs ⟨a, b, vs, zs, rfl, rfl, hH, hb, by rw [rl.length, rz.length, lim_eq]; exact c, h _ _ x1 A1 _ mk_non⟩
    · rw [if_neg c] at h; exact False.elim h
  · exact False.elim h
theorem me_pop : MtR X "list.pop" (rMe X.K fa (meR .pop)) := by
  intro pins s σ H x xs v us Q I rx rxs h
  obtain ⟨φ, μ, o, ds, A, ro, rs, h⟩ := h
  unfold meR meD at h
  dsimp only at h
  split at h
  · rename_i n l hl
    split at h
    · rename_i d hd
      obtain ⟨a, vs, rfl, ha, rfl, hH, rl⟩ := lst_at2 A hl ro
      cases rvs0 rs
      obtain ⟨w, hw, rw'⟩ := rl.get hd
      obtain ⟨x1, A1⟩ := set_lst A ha rl.dropLast
      exact mt_pop pins s σ H _ _ v us Q I rx rxs ⟨a, vs, w, rfl, rfl, hH, by rw [rl.length]; exact hw, h _ _ x1 A1 _ (rw'.ext x1)⟩
    · exact False.elim h
  · exact False.elim h
theorem ixZ_some {n : Nat} {i : Int} {k : Nat} (h : ixZ n i = some k) : seqIndex? i n = some k ∧ k < n ∧ -(n : Int) ≤ i ∧ i < n := L2.ixN_seq h
theorem me_popAt : MtR X "list.pop" (rMe X.K fa (meR .popAt)) := by
  intro pins s σ H x xs v us Q I rx rxs h
  obtain ⟨φ, μ, o, ds, A, ro, rs, h⟩ := h
  unfold meR meD at h
  dsimp only at h
  split at h
  · rename_i n l i hl hi
    split at h
    · rename_i k hk
      split at h
      · rename_i d hd
        obtain ⟨di, rfl, hi⟩ := of_d1 hi
        cases di with
        | int j =>
          cases hi
          obtain ⟨a, vs, rfl, ha, rfl, hH, rl⟩ := lst_at2 A hl ro
          obtain ⟨w0, rfl, rw0⟩ := rvs1 rs
          cases rv_int rw0
          obtain ⟨w, hw, rw'⟩ := rl.get hd
          obtain ⟨x1, A1⟩ := set_lst A ha (rl.erase k)
          obtain ⟨k1, k2, k3, k4⟩ := ixZ_some hk
          have hz : vs.length ≤ sizeLine := (I.hok a _ hH).1
          have hs : sizeLine = 16777216 := sizeLine_eq
          have e1 := rl.length
          exact mt_popAt pins s σ H _ _ v us Q I rx rxs ⟨a, vs, _, k, w, rfl, rfl, hH, by omega, by omega, by rw [e1]; exact k1, hw, h _ _ x1 A1 _ (rw'.ext x1)⟩
        | _ => cases hi
      · exact False.elim h
    · exact False.elim h
  · exact False.elim h
theorem index_occ {t : Txt} {c k : Nat} (h : indexT t c = some k) : ∃ rest, Builtin.Str.occurrences (sOf t) (sOf [c]) 0 (sOf t).length 1 = k :: rest := by
  unfold indexT at h
  rw [List.findIdx?_eq_some_iff_getElem] at h
  obtain ⟨hk, he, hn⟩ := h
  have sub : ∀ i, PySem.StrLaws.At (sOf t) (sOf [c]) (sOf t).length i ↔ t[i]? = some c := fun i => by
    have := PySem.StrLaws.subAt_one (sOf t) c i
    rw [sOf_cps] at this
    exact this
  rcases PySem.StrLaws.occ_head (sOf t) (sOf [c]) 1 (Nat.le_refl _) with ⟨_, h0⟩ | ⟨i, r, h1, h2, h3⟩
  · exact absurd ((sub k).mpr (by rw [List.getElem?_eq_getElem hk]; exact congrArg some (beq_iff_eq.mp he))) (h0 k)
  · have e2 := (sub i).mp h2
    have : i = k := by
      rcases Nat.lt_trichotomy i k with q | q | q
      · have := hn i q
        obtain ⟨hi, ei⟩ := List.getElem?_eq_some_iff.mp e2
        rw [ei] at this
        simp at this
      · exact q
      · exact absurd ((sub k).mpr (by rw [List.getElem?_eq_getElem hk]; exact congrArg some (beq_iff_eq.mp he))) (h3 k q)
    subst this
    exact ⟨r, h1⟩
theorem me_index : MtR X "str.index" (rMe X.K fa (meR .index)) := by
  intro pins s σ H x xs v us Q I rx rxs h
  obtain ⟨φ, μ, o, ds, A, ro, rs, h⟩ := h
  unfold meR meD at h
  dsimp only at h
  split at h
  · rename_i t c ht hc
    obtain ⟨d, e, q⟩ := h.of
    obtain ⟨k, e2, rfl⟩ := ofmap e
    obtain ⟨dc, rfl, hc2⟩ := of_d1 hc
    obtain ⟨w, rfl, rw'⟩ := rvs1 rs
    have eo : o = .str t := by
      cases o with
      | str z => exact congrArg D.str (Option.some.inj ht)
      | _ => cases ht
    subst eo
    have ed : dc = .str [c] := by
      unfold signOf at hc2
      split at hc2
      · rw [Option.some.inj hc2]
      · cases hc2
    subst ed
    obtain ⟨rfl, _⟩ := rv_str ro
    obtain ⟨rfl, _⟩ := rv_str rw'
    obtain ⟨rest, ho⟩ := index_occ e2
    exact mt_sindex pins s σ H _ _ v us Q I rx rxs ⟨sOf t, sOf [c], k, rest, rfl, rfl, ho, q φ H (Ext.refl _ _) A _ mk_int⟩
  · exact False.elim h
theorem okT_join {s : Txt} (hs : okT s = true) : ∀ {ss : List Txt}, (∀ t ∈ ss, okT t = true) → okT (joinT s ss) = true
  | [], _ => rfl
  | [p], h => h p (List.mem_singleton.mpr rfl)
  | p :: q :: r, h => okT_app (h p (List.mem_cons_self ..)) (okT_app hs (okT_join hs fun t ht => h t (List.mem_cons_of_mem _ ht)))
theorem sOf_join (s : Txt) (ss : List Txt) : Txt.join (sOf s) (ss.map sOf) = sOf (joinT s ss) := by
  refine TL.ext_tl ?_
  rw [TL.join_eq, TL.tl_join]
  have e : (ss.map sOf).map TL.tl = ss := by
    rw [List.map_map]
    conv => rhs; rw [← List.map_id ss]
    exact List.map_congr_left fun t _ => sOf_cps t
  rw [e]
  have : ∀ ss : List Txt, TL.joinL (TL.tl (sOf s)) ss = joinT s ss := fun ss => by
    induction ss with
    | nil => rfl
    | cons p r ih =>
      cases r with
      | nil => rfl
      | cons q r => 
        show p ++ (TL.tl (sOf s) ++ TL.joinL (TL.tl (sOf s)) (q :: r)) = p ++ (s ++ joinT s (q :: r))
        rw [ih]
        rw [show TL.tl (sOf s) = s from sOf_cps s]
  rw [this]
  exact (sOf_cps _).symm
theorem me_join : MtR X "str.join" (rMe X.K fa (meR .join)) := by
  intro pins s σ H x xs v us Q I rx rxs h
  obtain ⟨φ, μ, o, ds, A, ro, rs, h⟩ := h
  unfold meR meD at h
  dsimp only at h
  split at h
  · rename_i t ss ht hc
    obtain ⟨l, hc, hs⟩ := ofbind hc
    obtain ⟨dc, rfl, hc⟩ := of_d1 hc
    obtain ⟨w, rfl, rw'⟩ := rvs1 rs
    have eo : o = .str t := by
      cases o with
      | str z => exact congrArg D.str (Option.some.inj ht)
      | _ => cases ht
    subst eo
    by_cases c : (ss.map List.length).sum + ss.length * t.length ≤ lim
    · rw [if_pos c] at h
      obtain ⟨rfl, o1⟩ := rv_str ro
      obtain ⟨p, vs, rfl, hp, rp⟩ := seq_at A rw' hc
      obtain ⟨rfl, o2⟩ := strs_rvs rp hs
      refine mt_join pins s σ H _ _ v us Q I rx rxs ⟨sOf t, p, ss.map sOf, rfl, rfl, ?_, ?_, ?_⟩
      · rcases hp with hp | hp
        · exact .inl hp
        · exact .inr hp
      · have e1 : (ss.map sOf).map (·.length) = ss.map List.length := by
          rw [List.map_map]
          exact List.map_congr_left fun z _ => sOf_len z
        rw [e1, List.length_map, sOf_len]
        exact c
      · rw [sOf_join]
        exact h _ _ (Ext.refl _ _) A _ (mk_str (okT_join o1 o2))
    · rw [if_neg c] at h; exact False.elim h
  · exact False.elim h
end
end Ev

set_option Elab.async false
set_option linter.all false
set_option maxRecDepth 100000
set_option maxHeartbeats 3200000
/-! How many unlike texts: len(set(..)). -/
namespace Ev
open PySem PySem.Spec PyProof.Rows L2
abbrev tk (prog : Program) (w : World) : KeyKind prog w Str := PySem.strKind prog w
abbrev inT (σ : List Txt) : Str → Bool := fun k => (σ.map sOf).any (· == k)
theorem inT_sOf (σ : List Txt) (t : Txt) : inT σ (sOf t) = σ.contains t := by
  unfold inT
  induction σ with
  | nil => rfl
  | cons a r ih =>
    rw [List.map_cons, List.any_cons, List.contains_cons, ih]
    congr 1
    by_cases e : a = t
    · subst e; simp
    · rw [beq_eq_false_iff_ne.mpr (fun q => e (sOf_inj.mp q)), beq_eq_false_iff_ne.mpr (fun q => e q.symm)]
theorem inT_more (σ : List Txt) (t : Txt) (k : Str) : (inT σ k || decide (k = sOf t)) = inT (if σ.contains t then σ else σ ++ [t]) k := by
  by_cases c : σ.contains t = true
  · rw [if_pos c]
    by_cases e : k = sOf t
    · subst e; rw [inT_sOf, c]; rfl
    · rw [decide_eq_false e, Bool.or_false]
  · rw [if_neg c]
    unfold inT
    rw [List.map_append, List.any_append]
    congr 1
    by_cases e : k = sOf t
    · subst e; simp
    · have : (sOf t == k) = false := beq_eq_false_iff_ne.mpr fun q => e q.symm
      simp [this, e]
section
variable {prog : Program} {w : World} {A : Around} {R : Result → Shared → Prop} {I : Addr} {fp wr : List Addr} {G : Array GenState → Array GenState → Prop} {n : Nat} {P : Nat → Value → Prop} {St : Nat → Shared → Prop}
theorem fillT (W : WalksS prog w A.in1 I fp wr G n P St) (S : Addr) (nS : S ∉ fp) (ts : List Txt) (hv : ∀ i v, P i v → ∃ t, ts[i]? = some t ∧ ∃ k, v = .str (sOf t) k) :
    ∀ (r σ : List Txt) (i : Nat) (s : Shared), ts.drop i = r → i + r.length = n → σ.length + r.length + 1 < scanBound → St i s → s.heap.SetOf (tk prog w) S (inT σ) σ.length →
      (∀ s', Moved (S :: wr) G s s' → s'.heap.SetOf (tk prog w) S (inT (unl σ r)) (unl σ r).length → R (.ok (.ret .none)) s') →
      codeAny (model prog w) A (.builtin "set.update.loop" ⟨[.ref S, .ref I], []⟩) R s := by
  have nw : S ∉ wr := fun h => nS (W.sub _ h)
  have up : ∀ b ∈ wr, b ∈ S :: wr := fun b hb => List.mem_cons_of_mem _ hb
  have stay : ∀ {s s' : Shared} {σ : List Txt}, Moved wr G s s' → s.heap.SetOf (tk prog w) S (inT σ) σ.length → s'.heap.SetOf (tk prog w) S (inT σ) σ.length := fun m ⟨o, es, ep, t, ho, q⟩ => ⟨o, es, ep, t, m.heap S _ nw ho, q⟩
  have enter : ∀ {s : Shared}, wpAny (model prog w) A.in1 (Builtin.«set.update.loop» ⟨[.ref S, .ref I], []⟩) (fun fin s' => match fin with | .done f => R (.ok f) s' | .again c' => c'.quiet = true ∧ codeAny (model prog w) A c' R s') (fun e s' => R (.error e) s') s →
      codeAny (model prog w) A (.builtin "set.update.loop" ⟨[.ref S, .ref I], []⟩) R s := fun h => codeAny_builtin PyProof.Rows.F.entry_set_update_loop (by rw [Around.under_plainId PyProof.Rows.F.plain_set_update_loop _]; exact h)
  intro r
  induction r with
  | nil =>
    intro σ i s hd hi hb st hS hR
    have e : i = n := by simpa using hi
    subst e
    refine enter ?_
    show wpAny _ A.in1 (pyNext (.ref I) >>= _) _ _ s
    refine wpAny_bind (W.done s _ _ st fun s' m => ?_)
    exact wpAny_pure (hR s' (m.mono up) (stay m hS))
  | cons t r ih =>
    intro σ i s hd hi hb st hS hR
    rw [List.length_cons] at hi hb
    have ht : ts[i]? = some t := by
      have : (ts.drop i)[0]? = some t := by rw [hd]; rfl
      rwa [List.getElem?_drop, Nat.add_zero] at this
    have hd2 : ts.drop (i + 1) = r := by rw [← List.tail_drop, hd]; rfl
    refine enter ?_
    show wpAny _ A.in1 (pyNext (.ref I) >>= _) _ _ s
    refine wpAny_bind (W.item i s _ _ (by omega) st fun v s' hp st' m => ?_)
    obtain ⟨t', e, k, rfl⟩ := hv i v hp
    rw [ht] at e
    cases e
    have S1 : ({ s' with toks := s'.toks + 1 } : Shared).heap.SetOf (tk prog w) S (inT σ) σ.length := (stay m hS : s'.heap.SetOf _ _ _ _)
    show wpAny _ A.in1 (holding [Value.str (sOf t) k] (setAdd S (.str (sOf t) k)) >>= _) _ _ s'
    refine wpAny_bind (wpAny_holding ?_)
    unfold setAdd
    refine wpAny_holding (wpAny_bind ((tk prog w).pyHash (k := sOf t) (strKind_is _ _ _ _) ?_))
    refine wpAny_setAddHashed_of (knd := tk prog w) (s := { s' with toks := s'.toks + 1 }) (strKind_is _ _ _ _) rfl S1 (by omega) fun h' same new => ?_
    have new2 : h'.SetOf (tk prog w) S (inT (if σ.contains t then σ else σ ++ [t])) (if σ.contains t then σ else σ ++ [t]).length := SetOf_congr new (fun k => inT_more σ t k) (by
      rw [inT_sOf]
      by_cases c : σ.contains t = true
      · rw [if_pos c, if_pos c]
      · rw [if_neg c, if_neg c, List.length_append]; rfl)
    have len : (if σ.contains t then σ else σ ++ [t]).length ≤ σ.length + 1 := by
      split
      · omega
      · rw [List.length_append]; exact Nat.le_refl _
    refine wpAny_pure ⟨plainId_quiet PyProof.Rows.F.plain_set_update_loop _, ih _ (i + 1) _ hd2 (by omega) (by omega) (W.frame _ s' _ _ st' (Nat.le_succ _) fun b hb o e => ?_) new2 fun s2 m2 S2 => ?_⟩
    · rw [same.2 b fun q => nS (q ▸ hb)]; exact e
    · refine hR s2 (Moved.trans W.gtrans ((m.mono up).then_heap (Nat.le_succ _) fun b o hb e => ?_) m2) S2
      rw [same.2 b fun q => hb (q ▸ List.mem_cons_self)]; exact e
end
/-- what a set made of them is -/
def MadeT (prog : Program) (w : World) (s : Shared) (ts : List Txt) (Q : Value → Shared → Prop) : Prop := ∀ (h' : Heap) (k : Nat), h'.SetOf (tk prog w) s.heap.objs.size (inT (unl [] ts)) (unl [] ts).length →
  (∀ b o, b < s.heap.objs.size → s.heap.get? b = some o → h'.get? b = some o) → Q (.ref s.heap.objs.size) { s with heap := h', toks := k }
section
variable {prog : Program} {w : World} {A : Around} {E : Value → Shared → Prop} {s : Shared} {l : Addr} {items : Array Value} {ts : List Txt} {Q : Value → Shared → Prop}
theorem made_lst (hh : A.handled = none) (hl : s.heap.IsList l items) (hn : ts.length = items.size) (hb : ts.length + 1 < scanBound) (hv : ∀ (i : Nat) (v : Value), items[i]? = some v → ∃ t, ts[i]? = some t ∧ ∃ k, v = .str (sOf t) k)
    (h : MadeT prog w s ts Q) : wpAny (model prog w) A (call (.type "set") [.ref l]) Q E s := by
  obtain ⟨mc, mt, hm⟩ := PySem.F.called_set.mro; have m1 := PySem.F.called_set.made; have m2 := PySem.F.called_set.sub
  refine wpAny_call (codeAny_of_tree ?_); show wpAny _ _ (callAny (.type "set") _) _ _ _
  refine wpAny_pure ⟨Code.quiet_builtin _ (by decide +kernel), codeAny_builtin PySem.F.entry_type_call ?_⟩; rw [Around.under_plain (weight_type_call_type "set" [.ref l] []) rfl]
  have m3 := PySem.F.called_set.notType; have m4 := PySem.F.called_set.canCreate; have m5 := PySem.F.typeCall_set_1 (.ref l)
  (repeat (any_goals (first | assumption | wp_step)))
  let ob : Bool → Obj := fun led => { cls := .type "set", dict := none, data := .set #[] 0 (.fresh 0 0 led) }
  refine codeAny_mono (code_set_new_1 (.ref l) (E := E) (Q₁ := fun z s₁ => ∃ led : Bool, z = .ref s.heap.objs.size ∧ s₁ = { s with heap := s.heap.push (ob led) }) fun led => ⟨led, rfl, rfl⟩) fun r s₁ hr => ?_
  rcases r with e | fl
  · exact hr
  cases fl with
  | ret z =>
    obtain ⟨led, rfl, rfl⟩ := hr
    have g0 : (s.heap.push (ob led)).get? s.heap.objs.size = some (ob led) := Heap.get?_push_size _ rfl
    have ty : Shared.TypeIs { s with heap := s.heap.push (ob led) } (.ref s.heap.objs.size) "set" := ⟨_, g0, rfl⟩
    have m6 := PySem.F.called_set.init.lookup; have m7 := PySem.F.called_set.init.bind (.ref s.heap.objs.size)
    (repeat (any_goals (first | assumption | wp_step)))
    refine codeAny_mono (codeAny_call_builtin (R := wants (fun r s₂ => r = .none ∧ ∃ h' k, s₂ = { s with heap := h', toks := k } ∧ h'.SetOf (tk prog w) s.heap.objs.size (inT (unl [] ts)) (unl [] ts).length ∧
        (∀ b o, b < s.heap.objs.size → s.heap.get? b = some o → h'.get? b = some o)) E) PySem.F.called_set.init.plain PySem.F.entry_set_init (check_set_init_1 ty ?_)) fun r₂ s₂ hr₂ => ?_
    · obtain ⟨⟨oc, od, oa, os⟩, g1, hc, nl, hd⟩ := hl
      dsimp only at hc hd; subst hc; subst hd
      have g2 : (s.heap.push (ob led)).get? l = some { cls := .type "list", dict := od, data := .seq items nl, slots := os } := Heap.get?_push_of_some _ g1
      have n1 := PySem.F.sub_list_set; have n2 := PySem.F.sub_list_frozenset; have n3 : (Value.type "list" == Value.type "dict") = false := by decide
      have hl1 : Heap.IsList (s.heap.push (ob led)) l items := ⟨_, g2, rfl, nl, rfl⟩
      unfold Builtin.«set.__init__» noKeywords Builtin.Frozenset.updateFrom
      generalize hPI : pyIter = PI; wp_walk; subst hPI
      refine wpAny_pyIter_list (s := { s with heap := s.heap.push (ob led) }) hl1 (wpAny_bind (wpAny_runValue ?_))
      have lt : l < s.heap.objs.size := Heap.lt_size g1
      have sz : (s.heap.push (ob led)).objs.size = s.heap.objs.size + 1 := Heap.size_push ..
      have a3 : A.in1.in1.in1.handled = none := by simp [hh]
      have ne : l ≠ (s.heap.push (ob led)).objs.size := sz ▸ Nat.ne_of_lt (Nat.lt_succ_of_lt lt)
      have nS : s.heap.objs.size ∉ [(s.heap.push (ob led)).objs.size, l] := by
        rw [sz]; simp only [List.mem_cons, List.not_mem_nil, or_false, not_or]; exact ⟨Nat.ne_of_lt (Nat.lt_succ_self _), Nat.ne_of_gt lt⟩
      refine fillT ((Walks.list a3 _ l ne items).toS) s.heap.objs.size nS ts hv ts [] 0 _ rfl (by rw [Nat.zero_add]; exact hn) (by rw [List.length_nil, Nat.zero_add]; exact hb) ⟨⟨_, Heap.get?_push_size _ rfl, rfl, rfl⟩, hl1.push _⟩ ?_ ?_
      · have g3 : ((s.heap.push (ob led)).push { cls := .type "list_iterator", data := .fields #[.ref l, .int 0 0] }).get? s.heap.objs.size = some (ob led) := Heap.get?_push_of_some _ g0
        exact SetOf_congr ((setObjOf_fresh (knd := tk prog w) led).setOf g3 (by unfold scanBound; omega)) (fun _ => rfl) rfl
      · rintro ⟨h', g', d', k', os'⟩ m hS'
        obtain rfl : g' = s.gens := m.gens
        obtain rfl : d' = s.drawn := m.drawn
        obtain rfl : os' = s.os := m.os
        show wpAny _ _ _ _ _ _
        refine wpAny_pure ?_; show wpAny _ _ (ret Value.none) _ _ _
        refine wpAny_pure ⟨rfl, h', k', rfl, hS', fun b o hb e => m.heap b o ?_ (Heap.get?_push_of_some _ (Heap.get?_push_of_some _ e))⟩
        rw [sz]; simp only [List.mem_cons, List.not_mem_nil, or_false, not_or]; exact ⟨Nat.ne_of_lt hb, Nat.ne_of_lt (Nat.lt_succ_of_lt hb)⟩
    · rcases r₂ with e | fl₂
      · exact hr₂
      cases fl₂ with
      | ret r =>
        obtain ⟨rfl, h', k, rfl, hS', hk'⟩ := hr₂
        (repeat (any_goals (first | assumption | wp_step)))
        exact h _ _ hS' hk'
      | _ => exact hr₂.elim
  | _ => exact hr.elim
theorem made_tup (hh : A.handled = none) (hl : s.heap.IsTuple l items) (hn : ts.length = items.size) (hb : ts.length + 1 < scanBound) (hv : ∀ (i : Nat) (v : Value), items[i]? = some v → ∃ t, ts[i]? = some t ∧ ∃ k, v = .str (sOf t) k)
    (h : MadeT prog w s ts Q) : wpAny (model prog w) A (call (.type "set") [.ref l]) Q E s := by
  obtain ⟨mc, mt, hm⟩ := PySem.F.called_set.mro; have m1 := PySem.F.called_set.made; have m2 := PySem.F.called_set.sub
  refine wpAny_call (codeAny_of_tree ?_); show wpAny _ _ (callAny (.type "set") _) _ _ _
  refine wpAny_pure ⟨Code.quiet_builtin _ (by decide +kernel), codeAny_builtin PySem.F.entry_type_call ?_⟩; rw [Around.under_plain (weight_type_call_type "set" [.ref l] []) rfl]
  have m3 := PySem.F.called_set.notType; have m4 := PySem.F.called_set.canCreate; have m5 := PySem.F.typeCall_set_1 (.ref l)
  (repeat (any_goals (first | assumption | wp_step)))
  let ob : Bool → Obj := fun led => { cls := .type "set", dict := none, data := .set #[] 0 (.fresh 0 0 led) }
  refine codeAny_mono (code_set_new_1 (.ref l) (E := E) (Q₁ := fun z s₁ => ∃ led : Bool, z = .ref s.heap.objs.size ∧ s₁ = { s with heap := s.heap.push (ob led) }) fun led => ⟨led, rfl, rfl⟩) fun r s₁ hr => ?_
  rcases r with e | fl
  · exact hr
  cases fl with
  | ret z =>
    obtain ⟨led, rfl, rfl⟩ := hr
    have g0 : (s.heap.push (ob led)).get? s.heap.objs.size = some (ob led) := Heap.get?_push_size _ rfl
    have ty : Shared.TypeIs { s with heap := s.heap.push (ob led) } (.ref s.heap.objs.size) "set" := ⟨_, g0, rfl⟩
    have m6 := PySem.F.called_set.init.lookup; have m7 := PySem.F.called_set.init.bind (.ref s.heap.objs.size)
    (repeat (any_goals (first | assumption | wp_step)))
    refine codeAny_mono (codeAny_call_builtin (R := wants (fun r s₂ => r = .none ∧ ∃ h' k, s₂ = { s with heap := h', toks := k } ∧ h'.SetOf (tk prog w) s.heap.objs.size (inT (unl [] ts)) (unl [] ts).length ∧
        (∀ b o, b < s.heap.objs.size → s.heap.get? b = some o → h'.get? b = some o)) E) PySem.F.called_set.init.plain PySem.F.entry_set_init (check_set_init_1 ty ?_)) fun r₂ s₂ hr₂ => ?_
    · obtain ⟨⟨oc, od, oa, os⟩, g1, hc, nl, hd⟩ := hl
      dsimp only at hc hd; subst hc; subst hd
      have g2 : (s.heap.push (ob led)).get? l = some { cls := .type "tuple", dict := od, data := .seq items nl, slots := os } := Heap.get?_push_of_some _ g1
      have n1 := PySem.F.sub_tuple_set; have n2 := PySem.F.sub_tuple_frozenset; have n3 : (Value.type "tuple" == Value.type "dict") = false := by decide
      have hl1 : Heap.IsTuple (s.heap.push (ob led)) l items := ⟨_, g2, rfl, nl, rfl⟩
      unfold Builtin.«set.__init__» noKeywords Builtin.Frozenset.updateFrom
      generalize hPI : pyIter = PI; wp_walk; subst hPI
      refine wpAny_pyIter_tuple (s := { s with heap := s.heap.push (ob led) }) hl1 (wpAny_bind (wpAny_runValue ?_))
      have lt : l < s.heap.objs.size := Heap.lt_size g1
      have sz : (s.heap.push (ob led)).objs.size = s.heap.objs.size + 1 := Heap.size_push ..
      have a3 : A.in1.in1.in1.handled = none := by simp [hh]
      have ne : l ≠ (s.heap.push (ob led)).objs.size := sz ▸ Nat.ne_of_lt (Nat.lt_succ_of_lt lt)
      have nS : s.heap.objs.size ∉ [(s.heap.push (ob led)).objs.size, l] := by
        rw [sz]; simp only [List.mem_cons, List.not_mem_nil, or_false, not_or]; exact ⟨Nat.ne_of_lt (Nat.lt_succ_self _), Nat.ne_of_gt lt⟩
      refine fillT ((Walks.tuple a3 _ l ne items).toS) s.heap.objs.size nS ts hv ts [] 0 _ rfl (by rw [Nat.zero_add]; exact hn) (by rw [List.length_nil, Nat.zero_add]; exact hb) ⟨⟨_, Heap.get?_push_size _ rfl, rfl, rfl⟩, hl1.push _⟩ ?_ ?_
      · have g3 : ((s.heap.push (ob led)).push { cls := .type "tuple_iterator", data := .fields #[.ref l, .int 0 0] }).get? s.heap.objs.size = some (ob led) := Heap.get?_push_of_some _ g0
        exact SetOf_congr ((setObjOf_fresh (knd := tk prog w) led).setOf g3 (by unfold scanBound; omega)) (fun _ => rfl) rfl
      · rintro ⟨h', g', d', k', os'⟩ m hS'
        obtain rfl : g' = s.gens := m.gens
        obtain rfl : d' = s.drawn := m.drawn
        obtain rfl : os' = s.os := m.os
        show wpAny _ _ _ _ _ _
        refine wpAny_pure ?_; show wpAny _ _ (ret Value.none) _ _ _
        refine wpAny_pure ⟨rfl, h', k', rfl, hS', fun b o hb e => m.heap b o ?_ (Heap.get?_push_of_some _ (Heap.get?_push_of_some _ e))⟩
        rw [sz]; simp only [List.mem_cons, List.not_mem_nil, or_false, not_or]; exact ⟨Nat.ne_of_lt hb, Nat.ne_of_lt (Nat.lt_succ_of_lt hb)⟩
    · rcases r₂ with e | fl₂
      · exact hr₂
      cases fl₂ with
      | ret r =>
        obtain ⟨rfl, h', k, rfl, hS', hk'⟩ := hr₂
        (repeat (any_goals (first | assumption | wp_step)))
        exact h _ _ hS' hk'
      | _ => exact hr₂.elim
  | _ => exact hr.elim
end
end Ev

set_option Elab.async false
set_option linter.all false
set_option maxRecDepth 100000
set_option maxHeartbeats 1000000
namespace Ev
open PySem PySem.Spec PyProof.Rows L2
theorem unl_len : ∀ (r σ : List Txt), (unl σ r).length ≤ σ.length + r.length
  | [], σ => Nat.le_refl _
  | t :: r, σ => by
    have h := unl_len r (if σ.contains t then σ else σ ++ [t])
    have h2 : (if σ.contains t then σ else σ ++ [t]).length ≤ σ.length + 1 := by
      split
      · omega
      · rw [List.length_append]; exact Nat.le_refl _
    rw [List.length_cons]
    show (unl (if σ.contains t then σ else σ ++ [t]) r).length ≤ _
    omega
/-- how many unlike texts a list or tuple has -/
def tLenT (K : PySem.W.Frag) (ta : TE) : TE := fun σ H Q => ta σ H fun x H1 => ∃ (l : Addr) (ts : List Txt), x = .ref l ∧ (SqL K H1 l ((ts.map sOf).map V.str) ∨ SqT K H1 l ((ts.map sOf).map V.str)) ∧ ts.length < 4000 ∧ Q (.int (unlike ts)) H1
section
variable {X : Cx}
theorem pe_lenT {a : Expr} {ta : TE} {p p2 q pos : Pos} (hc : X.calm = true) (gl : Gl X "len") (ml : X.mg "len" = none) (gs : Gl X "set") (ms : X.mg "set" = none) (ha : PE X a ta) (na : starEach [a] X.env = (false, eval a X.env) :: starEach [] X.env) :
    PE X (.Call (.Name "len" p) [.Call (.Name "set" p2) [a] [] q] [] pos) (tLenT X.K ta) := by
  refine ⟨fun pins s σ H Q I h => Call_ (ld_blt I gl ml boot_len (callWith_builtin1 (args_cons (Call_ (ld_blt I gs ms boot_set (callWith_type1 (args_cons (thn (ha.run pins s σ H _ I h) fun v s1 hv => args_nil ?_) na) na rfl))) rfl) rfl rfl))⟩
  obtain ⟨x, H1, I1, r1, l, ts, rfl, hs, hb, k⟩ := hv
  cases r1
  have at' : ∀ {its : List Value}, Vals ((ts.map sOf).map V.str) its → ts.length = its.toArray.size ∧ ∀ (i : Nat) (v : Value), its.toArray[i]? = some v → ∃ t, ts[i]? = some t ∧ ∃ k, v = .str (sOf t) k := fun {its} r => by
    have el : ts.length = its.toArray.size := by rw [List.size_toArray, ← r.length, List.length_map, List.length_map]
    refine ⟨el, fun i v hv => ?_⟩
    rw [List.getElem?_toArray] at hv
    obtain ⟨t, e⟩ := SS.strs_at (strsAre_of r) i v hv
    have hi : i < ts.length := by rw [el, List.size_toArray]; exact (List.getElem?_eq_some_iff.mp hv).1
    refine ⟨ts[i], List.getElem?_eq_getElem hi, t, ?_⟩
    rw [e, List.getD_eq_getElem?_getD, List.getElem?_map, List.getElem?_eq_getElem hi]
    rfl
  have fin : MadeT X.prog X.w s1 ts fun u s₂ => wpAny (model X.prog X.w) X.A (spliced (backTo pos (starEach [] X.env))) (fun vs s₃ => wpAny (model X.prog X.w) X.A (call (.builtin "len") (u :: vs)) (EP X pins σ Q) X.xe s₃) X.xe s₂ := fun h' tk2 hS old => by
    have hu := unl_len ts []
    rw [List.length_nil, Nat.zero_add] at hu
    refine args_nil ?_
    obtain ⟨o, es, ep, t, ho, hex, hd, _, _, _, hf, hn⟩ := hS
    have I2 : Inv X pins σ H1 { s1 with heap := h', toks := tk2 } := I1.kept fun b o e => old b o (Heap.lt_size e) e
    exact call_len_set ho hex hd hf (by rw [hn]; omega) ⟨.int (unlike ts), H1, I2.tok _, ⟨_, by rw [hn]; rfl⟩, k⟩
  rcases hs with hs | hs
  · obtain ⟨its, r, pl, _⟩ := I1.list hs
    exact made_lst (I1.ok.hd hc) pl.isList (at' r).1 (by unfold scanBound; omega) (at' r).2 fin
  · obtain ⟨its, r, pl, _⟩ := I1.tuple hs
    exact made_tup (I1.ok.hd hc) pl (at' r).1 (by unfold scanBound; omega) (at' r).2 fin
end
end Ev

set_option Elab.async false
set_option linter.all false
set_option maxRecDepth 100000
set_option maxHeartbeats 1000000
/-! Expressions' and statements' rules, read by the evaluator. -/
namespace Ev
open PySem PySem.Spec PyProof.Rows L2
section
variable (K : PySem.W.Frag) (fa : Lay)
/-- it ends so, and what is wanted there holds -/
def RunO (W : EW) (φ : Ph) (H : Hp) (o : Out) (D : Ends) : Prop := match o with
  | .nx ρ' μ' => ∀ φ' H' σ', Ext φ H φ' H' → Abs K fa φ' μ' H' → REnv K fa (msk H' φ') φ' ρ' σ' → D.nx σ' H'
  | .bk ρ' μ' => ∀ φ' H' σ', Ext φ H φ' H' → Abs K fa φ' μ' H' → REnv K fa (msk H' φ') φ' ρ' σ' → D.bk σ' H'
  | .ct ρ' μ' => ∀ φ' H' σ', Ext φ H φ' H' → Abs K fa φ' μ' H' → REnv K fa (msk H' φ') φ' ρ' σ' → D.ct σ' H'
  | .rt d μ' => ∀ φ' H' v, Ext φ H φ' H' → Abs K fa φ' μ' H' → RV K fa (msk H' φ') φ' d v → D.rt v H'
  | .ex x ρ' μ' => ∀ φ' H' σ', Ext φ H φ' H' → Abs K fa φ' μ' H' → REnv K fa (msk H' φ') φ' ρ' σ' → W σ' x H'
  | .no => False
def tS (W : EW) (m : Rho → Mu → Out) : TS := fun D σ H => ∃ φ μ ρ, Abs K fa φ μ H ∧ REnv K fa (msk H φ) φ ρ σ ∧ RunO K fa W φ H (m ρ μ) D
/-- alike beside vs -/
def Like (vs : List Nat) (σ σ' : L2.St) : Prop := σ'.length = σ.length ∧ ∀ j : Nat, j ∉ vs → σ'[j]? = σ[j]?
/-- v is d, or it is a pair that a walk has made -/
def RVw (G : Hp) (φ : Ph) (d : D) (v : V) : Prop := RV K fa G φ d v ∨ ∃ l a vs, d = .tup l ∧ v = .ref a ∧ SqT K G a vs ∧ RVs K fa G φ l vs
def RVk (wk : Bool) (G : Hp) (φ : Ph) (d : D) (v : V) : Prop := if wk then RVw K fa G φ d v else RV K fa G φ d v
/-- what a target takes -/
def RVt (t : T) (G : Hp) (φ : Ph) (d : D) (v : V) : Prop := match t with
  | .nm _ => RV K fa G φ d v
  | .tp _ => RVw K fa G φ d v
/-- a target -/
def tG (t : T) : TG := fun v σ H Q => ∃ φ μ ρ d ρ', Abs K fa φ μ H ∧ REnv K fa (msk H φ) φ ρ σ ∧ RVt K fa t (msk H φ) φ d v ∧ t.put d ρ = some ρ' ∧ ∀ σ', Like t.vars σ σ' → REnv K fa (msk H φ) φ ρ' σ' → Q σ' H
def tGs (ts : List T) : TGs := fun vs σ H Q => ∃ φ μ ρ ds ρ', Abs K fa φ μ H ∧ REnv K fa (msk H φ) φ ρ σ ∧ RVs K fa (msk H φ) φ ds vs ∧ T.putL ts ds ρ = some ρ' ∧ ∀ σ', Like (T.varsL ts) σ σ' → REnv K fa (msk H φ) φ ρ' σ' → Q σ' H
end
section
variable {K : PySem.W.Frag} {fa : Lay} {W : EW} {Z : EZ} {φ φ' : Ph} {H H' : Hp} {μ : Mu} {σ : L2.St} {ρ : Rho} {D : Ends}
theorem RV.toT {G : Hp} {t : T} {d : Ev.D} {v : V} (h : RV K fa G φ d v) : RVt K fa t G φ d v := by
  cases t with
  | nm _ => exact h
  | tp _ => exact .inl h
theorem RVk.toT {G : Hp} {t : T} {wk : Bool} {d : Ev.D} {v : V} (h : RVk K fa wk G φ d v) (hw : wk = true → ∃ ts, t = .tp ts) : RVt K fa t G φ d v := by
  cases wk with
  | false => exact RV.toT h
  | true =>
    obtain ⟨ts, rfl⟩ := hw rfl
    exact h
theorem rvw_tup {G : Hp} {l : List Ev.D} {v : V} (h : RVw K fa G φ (.tup l) v) : ∃ a vs, v = .ref a ∧ SqT K G a vs ∧ RVs K fa G φ l vs := by
  rcases h with h | ⟨l', a, vs, e, r⟩
  · exact rv_tup h
  · cases e
    exact ⟨a, vs, r⟩
theorem RunO.ext {o : Out} (x : Ext φ H φ' H') (h : RunO K fa W φ H o D) : RunO K fa W φ' H' o D := by
  cases o with
  | nx ρ' μ' => exact fun φ2 H2 σ' y A R => h φ2 H2 σ' (x.trans y) A R
  | bk ρ' μ' => exact fun φ2 H2 σ' y A R => h φ2 H2 σ' (x.trans y) A R
  | ct ρ' μ' => exact fun φ2 H2 σ' y A R => h φ2 H2 σ' (x.trans y) A R
  | rt d μ' => exact fun φ2 H2 v y A R => h φ2 H2 v (x.trans y) A R
  | ex _ _ _ => exact fun φ2 H2 σ' y A R => h φ2 H2 σ' (x.trans y) A R
  | no => exact h
theorem RunO.out {α : Type} {r : Res α} {f : α → Mu → Out} (R : REnv K fa (msk H φ) φ ρ σ) (h : RunO K fa W φ H (r.out ρ f) D) : Run K fa (W σ) φ H r fun a μ' φ' H' => RunO K fa W φ' H' (f a μ') D := by
  cases r with
  | ok a μ' => exact fun φ' H' x A => RunO.ext x h
  | ex _ _ => exact fun φ' H' x A => h φ' H' σ x A (R.ext x)
  | no => exact h
theorem REnv.len2 {G : Hp} {ρ : Rho} {σ : L2.St} (h : REnv K fa G φ ρ σ) : ρ.length = σ.length := h.len
end
section
variable {X : Cx} {fa : Lay} {W : EW} {Z : EZ} {a b c e : Expr} {ma mb mc m : Rho → Mu → Res D} {pos : Pos}
theorem PS.imp {st : Stmt} {t t' : TS} (h : PS X st t) (f : ∀ D σ H, t' D σ H → t D σ H) : PS X st t' := ⟨fun pins s σ H D I q => h.run pins s σ H D I (f D σ H q)⟩
theorem PSs.imp {st : List Stmt} {t t' : TS} (h : PSs X st t) (f : ∀ D σ H, t' D σ H → t D σ H) : PSs X st t' := ⟨fun pins s σ H D I q => h.run pins s σ H D I (f D σ H q)⟩
theorem PG.imp {tg : Expr} {t t' : TG} (h : PG X tg t) (f : ∀ v σ H Q, t' v σ H Q → t v σ H Q) : PG X tg t' := ⟨fun pins s σ H v u Q I r q => h.run pins s σ H v u Q I r (f v σ H Q q)⟩
theorem PGs.imp {tg : List Expr} {t t' : TGs} (h : PGs X tg t) (f : ∀ v σ H Q, t' v σ H Q → t v σ H Q) : PGs X tg t' := ⟨fun pins s σ H v u Q I r q => h.run pins s σ H v u Q I r (f v σ H Q q)⟩
theorem PI.imp {tg it : Expr} {t t' : TI} (h : PI X tg it t) (f : ∀ σ H R, t' σ H R → t σ H R) : PI X tg it t' := ⟨fun pins s σ H R I q => h.run pins s σ H R I (f σ H R q)⟩
theorem PO.imp {e : Option Expr} {t t' : TO} (h : PO X e t) (f : ∀ σ H Q, t' σ H Q → t σ H Q) : PO X e t' := ⟨fun pins s σ H Q I q => h.run pins s σ H Q I (f σ H Q q)⟩

/-! ### names and constants -/
def evVar (i : Nat) : Rho → Mu → Res D := fun ρ μ => match ρ[i]? with
  | some (some d) => .ok d μ
  | _ => .no
theorem e_var {i : Nat} {x : Str} (hN : X.N[i]? = some x) (hv : Vis X.env.scope x) (hd : (x == ("__debug__" : Str)) = false) (hcd : (x == ("__classdict__" : Str)) = false) : PE X (.Name x pos) (tE X.K fa W (evVar i)) :=
  PE.imp (pe_var hN hv hd hcd) fun σ H Q h => by
    obtain ⟨φ, μ, ρ, A, R, h⟩ := h
    unfold evVar at h
    split at h
    · rename_i d hd
      obtain ⟨v, e, rv⟩ := R.at_ i d hd
      exact ⟨v, e, h.here A v rv⟩
    · exact False.elim h
/-- a value that is d in every heap -/
theorem e_tc {v : V} {d : D} (h : PE X e (tC v)) (hv : ∀ G φ, RV X.K fa G φ d v) : PE X e (tE X.K fa W fun _ μ => .ok d μ) := PE.imp h fun σ H Q q => by
  obtain ⟨φ, μ, ρ, A, R, q⟩ := q
  exact q.here A v (hv _ _)

/-! ### operations -/
theorem e_bin {op : Operator} {o : BOp} (ho : OpR X (binaryOp op) (rOp X.K fa fun μ x y => Res.of (binD o μ x y) μ)) (ha : PE X a (tE X.K fa W ma)) (hb : PE X b (tE X.K fa W mb)) :
    PE X (.BinOp a op b pos) (tE X.K fa W fun ρ μ => (ma ρ μ).bind fun x μ => (mb ρ μ).bind fun y μ => Res.of (binD o μ x y) μ) := PE.imp (pe_op ho ha hb) fun σ H Q h => two σ H Q h
theorem e_cat (ha : PE X a (tE X.K fa W ma)) (hb : PE X b (tE X.K fa W mb)) : PE X (.BinOp a .Add b pos) (tE X.K fa W fun ρ μ => (ma ρ μ).bind fun x μ => (mb ρ μ).bind fun y μ => catD μ x y) := PE.imp (pe_op op_catM ha hb) fun σ H Q h => two σ H Q h
theorem e_neg (ha : PE X a (tE X.K fa W ma)) : PE X (.UnaryOp .USub a pos) (tE X.K fa W fun ρ μ => (ma ρ μ).bind fun x μ => match x with
    | .int i => .ok (.int (-i)) μ
    | _ => .no) := PE.imp (pe_un un_neg' ha) fun σ H Q h => by
  obtain ⟨φ, μ, ρ, A, R, h⟩ := h
  exact ⟨φ, μ, ρ, A, R, h.bind.imp fun x μ1 φ1 H1 e1 A1 h1 v rv => ⟨φ1, μ1, x, A1, rv, h1.any⟩⟩
theorem e_cmp {op : CmpOp} {o : COp} (ho : OpR X (compareOp op) (rOp X.K fa (cmpR o))) (ha : PE X a (tE X.K fa W ma)) (hb : PE X b (tE X.K fa W mb)) (hm : behindInMarks op b = false) :
    PE X (.Compare a [op] [b] pos) (tE X.K fa W fun ρ μ => (ma ρ μ).bind fun x μ => (mb ρ μ).bind fun y μ => Res.of ((cmpD o μ x y).map .bl) μ) := PE.imp (pe_cmpR ho ha hb hm) fun σ H Q h => two σ H Q h
theorem Run.imp2 {K : PySem.W.Frag} {φ : Ph} {H : Hp} {α : Type} {r : Res α} {k k' : α → Mu → Ph → Hp → Prop} (h : Run K fa Z φ H r k)
    (f : ∀ a μ', r = .ok a μ' → ∀ φ' H', Ext φ H φ' H' → Abs K fa φ' μ' H' → k a μ' φ' H' → k' a μ' φ' H') : Run K fa Z φ H r k' := by
  cases r with
  | ok a μ' => exact fun φ' H' x A => f a μ' rfl φ' H' x A (h φ' H' x A)
  | ex _ _ => exact h
  | no => exact h
theorem bind_ok {α β : Type} {r : Res α} {f : α → Mu → Res β} {b : β} {μ : Mu} (h : r.bind f = .ok b μ) : ∃ a μ', r = .ok a μ' ∧ f a μ' = .ok b μ := by
  cases r with
  | ok a μ' => exact ⟨a, μ', rfl, h⟩
  | ex _ _ => cases h
  | no => cases h
theorem of_ok {α : Type} {o : Option α} {a : α} {μ μ' : Mu} (h : Res.of o μ = .ok a μ') : o = some a ∧ μ' = μ := by
  cases o with
  | none => cases h
  | some b => cases h; exact ⟨rfl, rfl⟩
/-- a truth value, as a test -/
theorem tst {K : PySem.W.Frag} {r : Res D} {φ : Ph} {H : Hp} {Q : Bool → Hp → Prop} (hr : ∀ d μ, r = .ok d μ → ∃ k, d = .bl k) (h : Run K fa Z φ H (r.bind fun d μ => Res.of (truthD μ d) μ) fun b _ _ H' => Q b H') :
    Run K fa Z φ H r (toV K fa fun x H' => ∃ k, x = V.bl k ∧ Q k H') := by
  refine Run.imp2 h.bind fun d μ1 er φ1 H1 e1 A1 h1 v rv => ?_
  obtain ⟨k, rfl⟩ := hr d μ1 er
  exact ⟨k, rv_bl rv, h1.here A1⟩
theorem cmp_bl {o : COp} {μ μ' : Mu} {x y d : D} (h : Res.of ((cmpD o μ x y).map D.bl) μ = .ok d μ') : ∃ k, d = .bl k := by
  obtain ⟨h1, _⟩ := of_ok h
  obtain ⟨k, _, rfl⟩ := map_bl h1
  exact ⟨k, rfl⟩
theorem t_cmp {op : CmpOp} {o : COp} (ho : OpR X (compareOp op) (rOp X.K fa (cmpR o))) (ha : PE X a (tE X.K fa W ma)) (hb : PE X b (tE X.K fa W mb)) (hm : behindInMarks op b = false) :
    PT X (.Compare a [op] [b] pos) (tT X.K fa W fun ρ μ => ((ma ρ μ).bind fun x μ => (mb ρ μ).bind fun y μ => Res.of ((cmpD o μ x y).map .bl) μ).bind fun d μ => Res.of (truthD μ d) μ) := PT.imp (pt_cmpR ho ha hb hm) fun σ H Q h => by
  obtain ⟨φ, μ, ρ, A, R, h⟩ := h
  refine two σ H _ ⟨φ, μ, ρ, A, R, tst (fun d μ1 er => ?_) h⟩
  obtain ⟨_, _, _, er⟩ := bind_ok er
  obtain ⟨_, _, _, er⟩ := bind_ok er
  exact cmp_bl er
/-- a op b op' c -/
def evChain (o o' : COp) (ma mb mc : Rho → Mu → Res D) : Rho → Mu → Res D := fun ρ μ => (ma ρ μ).bind fun x μ => (mb ρ μ).bind fun y μ => (Res.of (cmpD o μ x y) μ).bind fun k μ =>
  if k then (mc ρ μ).bind fun z μ => Res.of ((cmpD o' μ y z).map .bl) μ else .ok (.bl false) μ
theorem chain_core {o o' : COp} (σ : L2.St) (H : Hp) (Q : VK) (h : tE X.K fa W (evChain o o' ma mb mc) σ H Q) : tChain (rOp X.K fa (cmpR o)) (rOp X.K fa (cmpR o')) (tE X.K fa W ma) (tE X.K fa W mb) (tE X.K fa W mc) σ H Q := by
  obtain ⟨φ, μ, ρ, A, R, h⟩ := h
  refine ⟨φ, μ, ρ, A, R, h.bind.imp fun x μ1 φ1 H1 e1 A1 h1 v rv => ?_⟩
  refine ⟨φ1, μ1, ρ, A1, R.ext e1, h1.bind.imp fun y μ2 φ2 H2 e2 A2 h2 u ru => ?_⟩
  have R2 := (R.ext e1).ext e2
  obtain ⟨k, ek, h3⟩ := h2.bind.of
  refine ⟨φ2, μ2, x, y, A2, rv.ext e2, ru, ?_⟩
  show Run X.K fa _ φ2 H2 (Res.of ((cmpD o μ2 x y).map D.bl) μ2) _
  rw [ek]
  refine fun φ3 H3 e3 A3 w rw' => ⟨k, rv_bl rw', ?_⟩
  have h3 := h3 φ3 H3 e3 A3
  cases k with
  | false => exact h3.here A3 _ mk_bl
  | true =>
    refine ⟨φ3, μ2, ρ, A3, R2.ext e3, ?_⟩
    refine (show Run X.K fa (W σ) φ3 H3 (mc ρ μ2) _ from h3.bind).imp fun z μ4 φ4 H4 e4 A4 h4 z' rz => ?_
    exact ⟨φ4, μ4, y, z, A4, (ru.ext e3).ext e4, rz, h4.any⟩
theorem e_cmp2 {op op' : CmpOp} {o o' : COp} (ho : OpR X (compareOp op) (rOp X.K fa (cmpR o))) (ho' : OpR X (compareOp op') (rOp X.K fa (cmpR o'))) (ha : PE X a (tE X.K fa W ma)) (hb : PE X b (tE X.K fa W mb)) (hc : PE X c (tE X.K fa W mc))
    (hm : lastMarks [op, op'] [b, c] = false) : PE X (.Compare a [op, op'] [b, c] pos) (tE X.K fa W (evChain o o' ma mb mc)) := PE.imp (pe_chain ho ho' ha hb hc hm) fun σ H Q h => chain_core σ H Q h
theorem t_cmp2 {op op' : CmpOp} {o o' : COp} (ho : OpR X (compareOp op) (rOp X.K fa (cmpR o))) (ho' : OpR X (compareOp op') (rOp X.K fa (cmpR o'))) (ha : PE X a (tE X.K fa W ma)) (hb : PE X b (tE X.K fa W mb)) (hc : PE X c (tE X.K fa W mc))
    (hm : lastMarks [op, op'] [b, c] = false) : PT X (.Compare a [op, op'] [b, c] pos) (tT X.K fa W fun ρ μ => (evChain o o' ma mb mc ρ μ).bind fun d μ => Res.of (truthD μ d) μ) := PT.imp (pt_chain ho ho' ha hb hc hm) fun σ H Q h => by
  obtain ⟨φ, μ, ρ, A, R, h⟩ := h
  refine chain_core σ H _ ⟨φ, μ, ρ, A, R, tst (fun d μ1 er => ?_) h⟩
  unfold evChain at er
  obtain ⟨_, _, _, er⟩ := bind_ok er
  obtain ⟨_, _, _, er⟩ := bind_ok er
  obtain ⟨k, _, _, er⟩ := bind_ok er
  cases k with
  | false => cases er; exact ⟨false, rfl⟩
  | true =>
    obtain ⟨_, _, _, er⟩ := bind_ok (show (mc ρ _).bind _ = _ from er)
    exact cmp_bl er

/-! ### truth -/
theorem tru_rv {K : PySem.W.Frag} {φ : Ph} {H : Hp} {μ : Mu} (A : Abs K fa φ μ H) {d : D} {v : V} {k : Bool} (r : RV K fa (msk H φ) φ d v) (h : truthD μ d = some k) : TruV K v H k := by
  have seqs : ∀ (p : Addr) (l : List D) (vs : List V), RVs K fa (msk H φ) φ l vs → (!l.isEmpty) = !vs.isEmpty := fun p l vs rs => by
    have := rs.length
    cases l <;> cases vs <;> first | rfl | simp at this
  cases d with
  | non => cases rv_non r; cases h; rfl
  | bl b => cases rv_bl r; cases h; rfl
  | int i => cases rv_int r; cases h; rfl
  | str s =>
    obtain ⟨rfl, _⟩ := rv_str r
    obtain ⟨c, e⟩ := ite_some (show (if s.length ≤ lim then some (!s.isEmpty) else none) = some k from h)
    refine ⟨by rw [sOf_len, lim_eq]; exact c, ?_⟩
    cases e
    rw [sOf_len]
    cases s with
    | nil => rfl
    | cons c s => simp; omega
  | tup l =>
    cases h
    obtain ⟨p, vs, rfl, hs, rs⟩ := rv_tup r
    exact .inr (.inl ⟨vs, Same.seqT msk_same hs, seqs p l vs rs⟩)
  | lst l =>
    cases h
    obtain ⟨p, vs, rfl, hs, rs⟩ := rv_lst r
    exact .inl ⟨vs, Same.sqL msk_same hs, seqs p l vs rs⟩
  | loc n =>
    obtain ⟨p, hp, rfl⟩ := rv_loc r
    unfold truthD at h
    dsimp only at h
    cases hm : μ[n]? with
    | none => rw [hm] at h; cases h
    | some c =>
      rw [hm] at h
      cases c with
      | lst l =>
        cases h
        obtain ⟨vs, e, rs⟩ := A.cell n p _ hp hm
        exact .inl ⟨vs, .inl (.inl e), seqs p l vs rs⟩
      | dct l =>
        cases h
        obtain ⟨kvs, e2, e3⟩ := A.cell n p _ hp hm
        refine .inr (.inr ⟨kvs, e2, ?_⟩)
        cases l with
        | nil => cases (show kvs = [] from e3); rfl
        | cons _ _ => obtain ⟨_, _, _, rfl, _⟩ := e3; rfl
      | _ => cases h
  | fn k => cases h
/-- any expression whose test is its value's truth -/
theorem t_truth (ha : PE X a (tE X.K fa W ma)) (he : ∀ whole, isTrue a X.env whole = (do let v ← whole; standAt a.pos; holding [v] (truthy v))) :
    PT X a (tT X.K fa W fun ρ μ => (ma ρ μ).bind fun d μ => Res.of (truthD μ d) μ) := PT.imp (pt_truth ha he) fun σ H Q h => by
  obtain ⟨φ, μ, ρ, A, R, h⟩ := h
  refine ⟨φ, μ, ρ, A, R, h.bind.imp fun d μ1 φ1 H1 e1 A1 h1 v rv => ?_⟩
  obtain ⟨k, ek, q⟩ := h1.of
  exact ⟨k, tru_rv A1 rv ek, q φ1 H1 (Ext.refl _ _) A1⟩

/-! ### and, or, not, if -/
variable {rest : List Expr} {ta tb : Rho → Mu → Res Bool}
theorem t_and (ha : PT X a (tT X.K fa W ta)) (hb : PW X (.BoolOp .And (b :: rest) pos) (tT X.K fa W tb)) : PW X (.BoolOp .And (a :: b :: rest) pos) (tT X.K fa W fun ρ μ => (ta ρ μ).bind fun k μ => if k then tb ρ μ else .ok false μ) := by
  refine ⟨fun wh pins s σ H Q I h => (pw_and ha hb).run wh pins s σ H Q I ?_⟩
  obtain ⟨φ, μ, ρ, A, R, h⟩ := h
  refine ⟨φ, μ, ρ, A, R, h.bind.imp fun k μ1 φ1 H1 e1 A1 h1 => ?_⟩
  cases k with
  | true => exact ⟨φ1, μ1, ρ, A1, R.ext e1, h1⟩
  | false => exact h1.here A1
theorem t_or (ha : PT X a (tT X.K fa W ta)) (hb : PW X (.BoolOp .Or (b :: rest) pos) (tT X.K fa W tb)) : PW X (.BoolOp .Or (a :: b :: rest) pos) (tT X.K fa W fun ρ μ => (ta ρ μ).bind fun k μ => if k then .ok true μ else tb ρ μ) := by
  refine ⟨fun wh pins s σ H Q I h => (pw_or ha hb).run wh pins s σ H Q I ?_⟩
  obtain ⟨φ, μ, ρ, A, R, h⟩ := h
  refine ⟨φ, μ, ρ, A, R, h.bind.imp fun k μ1 φ1 H1 e1 A1 h1 => ?_⟩
  cases k with
  | true => exact h1.here A1
  | false => exact ⟨φ1, μ1, ρ, A1, R.ext e1, h1⟩
theorem t_not (ha : PT X a (tT X.K fa W ta)) : PT X (.UnaryOp .Not a pos) (tT X.K fa W fun ρ μ => (ta ρ μ).bind fun k μ => .ok (!k) μ) := PT.imp (L2.pt_not ha) fun σ H Q h => by
  obtain ⟨φ, μ, ρ, A, R, h⟩ := h
  exact ⟨φ, μ, ρ, A, R, h.bind.imp fun k μ1 φ1 H1 e1 A1 h1 => h1.here A1⟩
theorem e_and (ha : PE X a (tE X.K fa W ma)) (hb : PE X (.BoolOp .And (b :: rest) pos) (tE X.K fa W mb)) :
    PE X (.BoolOp .And (a :: b :: rest) pos) (tE X.K fa W fun ρ μ => (ma ρ μ).bind fun x μ => (Res.of (truthD μ x) μ).bind fun k μ => if k then mb ρ μ else .ok x μ) := PE.imp (pe_andT ha hb) fun σ H Q h => by
  obtain ⟨φ, μ, ρ, A, R, h⟩ := h
  refine ⟨φ, μ, ρ, A, R, h.bind.imp fun d μ1 φ1 H1 e1 A1 h1 v rv => ?_⟩
  obtain ⟨k, ek, q⟩ := h1.bind.of
  have q := q φ1 H1 (Ext.refl _ _) A1
  refine ⟨k, tru_rv A1 rv ek, ?_⟩
  cases k with
  | true => exact ⟨φ1, μ1, ρ, A1, R.ext e1, q⟩
  | false => exact q.here A1 v rv
theorem e_or (ha : PE X a (tE X.K fa W ma)) (hb : PE X (.BoolOp .Or (b :: rest) pos) (tE X.K fa W mb)) :
    PE X (.BoolOp .Or (a :: b :: rest) pos) (tE X.K fa W fun ρ μ => (ma ρ μ).bind fun x μ => (Res.of (truthD μ x) μ).bind fun k μ => if k then .ok x μ else mb ρ μ) := PE.imp (pe_orT ha hb) fun σ H Q h => by
  obtain ⟨φ, μ, ρ, A, R, h⟩ := h
  refine ⟨φ, μ, ρ, A, R, h.bind.imp fun d μ1 φ1 H1 e1 A1 h1 v rv => ?_⟩
  obtain ⟨k, ek, q⟩ := h1.bind.of
  have q := q φ1 H1 (Ext.refl _ _) A1
  refine ⟨k, tru_rv A1 rv ek, ?_⟩
  cases k with
  | true => exact q.here A1 v rv
  | false => exact ⟨φ1, μ1, ρ, A1, R.ext e1, q⟩
theorem e_not (ha : PE X a (tE X.K fa W ma)) : PE X (.UnaryOp .Not a pos) (tE X.K fa W fun ρ μ => (ma ρ μ).bind fun x μ => Res.of ((truthD μ x).map fun k => .bl (!k)) μ) := PE.imp (pe_notT ha) fun σ H Q h => by
  obtain ⟨φ, μ, ρ, A, R, h⟩ := h
  refine ⟨φ, μ, ρ, A, R, h.bind.imp fun d μ1 φ1 H1 e1 A1 h1 v rv => ?_⟩
  obtain ⟨x, ex, q⟩ := h1.of
  obtain ⟨k, ek, rfl⟩ := ofmap ex
  exact ⟨k, tru_rv A1 rv ek, q φ1 H1 (Ext.refl _ _) A1 _ mk_bl⟩
theorem e_ite (hc : PT X c (tT X.K fa W ta)) (ha : PE X a (tE X.K fa W ma)) (hb : PE X b (tE X.K fa W mb)) : PE X (.IfExp c a b pos) (tE X.K fa W fun ρ μ => (ta ρ μ).bind fun k μ => if k then ma ρ μ else mb ρ μ) := PE.imp (pe_ifExp hc ha hb) fun σ H Q h => by
  obtain ⟨φ, μ, ρ, A, R, h⟩ := h
  refine ⟨φ, μ, ρ, A, R, h.bind.imp fun k μ1 φ1 H1 e1 A1 h1 => ?_⟩
  cases k with
  | true => exact ⟨φ1, μ1, ρ, A1, R.ext e1, h1⟩
  | false => exact ⟨φ1, μ1, ρ, A1, R.ext e1, h1⟩

/-! ### argument lists, displays, places, slices, calls -/
variable {es : List Expr} {ms : Rho → Mu → Res (List D)} {mo mo' : Rho → Mu → Res (Option Int)}
theorem a_nil : PA X [] (tA X.K fa W fun _ μ => .ok [] μ) := PA.imp pa_nil fun σ H Q h => by
  obtain ⟨φ, μ, ρ, A, R, h⟩ := h
  exact h.here A [] RVs.nil
theorem a_cons (ha : PE X e (tE X.K fa W ma)) (hb : PA X es (tA X.K fa W ms)) (hs : starEach (e :: es) X.env = (false, eval e X.env) :: starEach es X.env) :
    PA X (e :: es) (tA X.K fa W fun ρ μ => (ma ρ μ).bind fun x μ => (ms ρ μ).bind fun xs μ => .ok (x :: xs) μ) := PA.imp (pa_cons ha hb hs) fun σ H Q h => by
  obtain ⟨φ, μ, ρ, A, R, h⟩ := h
  refine ⟨φ, μ, ρ, A, R, h.bind.imp fun d μ1 φ1 H1 e1 A1 h1 v rv => ?_⟩
  refine ⟨φ1, μ1, ρ, A1, R.ext e1, h1.bind.imp fun ds μ2 φ2 H2 e2 A2 h2 vs rs => ?_⟩
  exact h2.here A2 (v :: vs) (RVs.cons (rv.ext e2) rs)
theorem e_tup {x1} (h : PA X es (tA X.K fa W ms)) : PE X (.Tuple es x1 pos) (tE X.K fa W fun ρ μ => (ms ρ μ).bind fun ds μ => if ds.length ≤ lim then .ok (.tup ds) μ else .no) := PE.imp (pe_tupP h) fun σ H Q h => by
  obtain ⟨φ, μ, ρ, A, R, h⟩ := h
  refine ⟨φ, μ, ρ, A, R, h.bind.imp fun ds μ1 φ1 H1 e1 A1 h1 vs rs => ?_⟩
  by_cases hl : ds.length ≤ lim
  · rw [if_pos hl] at h1
    refine ⟨by rw [rs.length, lim_eq]; exact hl, fun p o ho hp => ?_⟩
    obtain ⟨x1, A2, r2⟩ := new_tup A1 rs ho hp
    exact h1 _ _ x1 A2 _ r2
  · rw [if_neg hl] at h1; exact False.elim h1
theorem e_lst (m : Bool) (h : PA X es (tA X.K fa W ms)) : PE X (.List es pos) (tE X.K fa W fun ρ μ => (ms ρ μ).bind fun ds μ => if ds.length ≤ lim then (if m then .ok (.loc μ.length) (μ ++ [.lst ds]) else .ok (.lst ds) μ) else .no) := PE.imp (pe_lst h) fun σ H Q h => by
  obtain ⟨φ, μ, ρ, A, R, h⟩ := h
  refine ⟨φ, μ, ρ, A, R, h.bind.imp fun ds μ1 φ1 H1 e1 A1 h1 vs rs => ?_⟩
  by_cases hl : ds.length ≤ lim
  · rw [if_pos hl] at h1
    refine ⟨by rw [rs.length, lim_eq]; exact hl, fun p hp => ?_⟩
    cases m with
    | true =>
      obtain ⟨x1, A2, r2⟩ := new_loc A1 rs hp
      exact h1 _ _ x1 A2 _ r2
    | false =>
      obtain ⟨x1, A2, r2⟩ := new_lst A1 rs hp
      exact h1 _ _ x1 A2 _ r2
  · rw [if_neg hl] at h1; exact False.elim h1
theorem lrep_some {l : List D} {y d : D} (h : lrepD l y = some d) : ∃ j : Int, y = .int j ∧ -(2 ^ 62) ≤ j ∧ j < 2 ^ 62 ∧ l.length * j.toNat ≤ lim ∧ d = .lst (List.replicate j.toNat l).flatten := by
  cases y with
  | int j =>
    obtain ⟨c, e⟩ := ite_some (show (if -(2 ^ 62) ≤ j ∧ j < 2 ^ 62 ∧ l.length * j.toNat ≤ lim then some (D.lst (List.replicate j.toNat l).flatten) else none) = some d from h)
    cases e
    exact ⟨j, rfl, c.1, c.2.1, c.2.2, rfl⟩
  | _ => cases h
theorem e_lrep {p2 : Pos} (ha : PA X es (tA X.K fa W ms)) (hb : PE X b (tE X.K fa W mb)) :
    PE X (.BinOp (.List es p2) .Mult b pos) (tE X.K fa W fun ρ μ => (ms ρ μ).bind fun ds μ => if ds.length ≤ lim then (mb ρ μ).bind fun y μ => Res.of (lrepD ds y) μ else .no) := PE.imp (pe_op op_rep (pe_lst ha) hb) fun σ H Q h => by
  obtain ⟨φ, μ, ρ, A, R, h⟩ := h
  refine ⟨φ, μ, ρ, A, R, h.bind.imp fun ds μ1 φ1 H1 e1 A1 h1 vs rs => ?_⟩
  by_cases hl : ds.length ≤ lim
  · rw [if_pos hl] at h1
    refine ⟨by rw [rs.length, lim_eq]; exact hl, fun p hp => ?_⟩
    obtain ⟨x1, A2, r2⟩ := new_lst A1 rs hp
    have hm : msk (upd H1 p (.lst vs)) φ1 p = some (.lst vs) := by rw [msk_out (A1.notIn hp), upd_same]
    refine ⟨φ1, μ1, ρ, A2, (R.ext e1).ext x1, (h1.ext x1).bind.imp fun y μ3 φ3 H3 e3 A3 h3 v rv => ?_⟩
    obtain ⟨d, e, q⟩ := h3.of
    obtain ⟨j, rfl, c1, c2, c3, rfl⟩ := lrep_some e
    cases rv_int rv
    have hH := (msk_some (e3.keep p _ hm)).2
    refine ⟨p, j, vs, rfl, rfl, hH, by omega, by omega, by rw [rs.length, lim_eq]; exact c3, fun z hz => ?_⟩
    obtain ⟨x4, A4, r4⟩ := new_lst A3 (rep_rvs j.toNat ((rs.ext x1).ext e3)) hz
    exact q φ3 _ x4 A4 _ r4
  · rw [if_neg hl] at h1; exact False.elim h1
theorem e_ix (hw : fa.w = X.w) (hu : X.A.units + 64 < cLine) (ha : PE X a (tE X.K fa W ma)) (hb : PE X b (tE X.K fa W mb)) (hs : PlainIx b) : PE X (.Subscript a b pos) (tE X.K fa W fun ρ μ => (ma ρ μ).bind fun x μ => (mb ρ μ).bind fun y μ => Res.of (idxD μ x y) μ) :=
  PE.imp (pe_ix (ix_M hw hu) ha hb hs) fun σ H Q h => two σ H Q h
theorem o_none : PO X none (tI X.K fa W fun _ μ => .ok none μ) := PO.imp po_none fun σ H Q h => by
  obtain ⟨φ, μ, ρ, A, R, h⟩ := h
  exact h.here A
theorem o_some (h : PE X e (tE X.K fa W ma)) : PO X (some e) (tI X.K fa W fun ρ μ => (ma ρ μ).bind fun x μ => match x with
    | .int i => .ok (some i) μ
    | _ => .no) := PO.imp (po_some h) fun σ H Q h => by
  obtain ⟨φ, μ, ρ, A, R, h⟩ := h
  refine ⟨φ, μ, ρ, A, R, h.bind.imp fun d μ1 φ1 H1 e1 A1 h1 v rv => ?_⟩
  cases d with
  | int i => exact ⟨i, rv_int rv, h1.here A1⟩
  | _ => exact False.elim h1
theorem e_slc {lo hi : Option Expr} {p2 : Pos} (ha : PE X a (tE X.K fa W ma)) (hl : PO X lo (tI X.K fa W mo)) (hh : PO X hi (tI X.K fa W mo')) :
    PE X (.Subscript a (.Slice lo hi none p2) pos) (tE X.K fa W fun ρ μ => (ma ρ μ).bind fun x μ => (mo ρ μ).bind fun l μ => (mo' ρ μ).bind fun h μ => Res.of (slcD μ x l h) μ) := PE.imp (pe_slice sl_M ha hl hh) fun σ H Q h => by
  obtain ⟨φ, μ, ρ, A, R, h⟩ := h
  refine ⟨φ, μ, ρ, A, R, h.bind.imp fun x μ1 φ1 H1 e1 A1 h1 v rv => ?_⟩
  refine ⟨φ1, μ1, ρ, A1, R.ext e1, h1.bind.imp fun l μ2 φ2 H2 e2 A2 h2 => ?_⟩
  refine ⟨φ2, μ2, ρ, A2, (R.ext e1).ext e2, h2.bind.imp fun u μ3 φ3 H3 e3 A3 h3 => ?_⟩
  exact ⟨φ3, μ3, x, A3, (rv.ext e2).ext e3, h3.any⟩
/-- a built-in's call -/
theorem bi_run {f : Mu → List D → Res D} (σ : L2.St) (H : Hp) (Q : VK) (h : tE X.K fa W (fun ρ μ => (ms ρ μ).bind fun ds μ => f μ ds) σ H Q) : tCB (rBi X.K fa f) (tA X.K fa W ms) σ H Q := by
  obtain ⟨φ, μ, ρ, A, R, h⟩ := h
  exact ⟨φ, μ, ρ, A, R, h.bind.imp fun ds μ1 φ1 H1 e1 A1 h1 vs rs => ⟨φ1, μ1, ds, A1, rs, h1.any⟩⟩
theorem e_biB {id : String} {x : Str} {p : Pos} {bi : Bi} (hc : CallR X (.builtin id) (rBi X.K fa (biR bi))) (hg : Gl X x) (hm : X.mg x = none) (hv : bootBuiltins x = some (.builtin id)) (ha : PA X (e :: es) (tA X.K fa W ms)) (hn : x ≠ "__name__") (hdb : (x == ("__debug__" : Str)) = false)
    (he : starEach (e :: es) X.env = (false, eval e X.env) :: starEach es X.env) (hpl : (backTo pos (starEach es X.env)).any (·.1) = false) :
    PE X (.Call (.Name x p) (e :: es) [] pos) (tE X.K fa W fun ρ μ => (ms ρ μ).bind fun ds μ => Res.of (biD bi μ ds) μ) := PE.imp (pe_callB hc hg hm hv ha hn hdb he hpl) fun σ H Q h => bi_run σ H Q h
theorem e_biT {T : String} {x : Str} {p : Pos} {bi : Bi} (hc : CallR X (.type T) (rBi X.K fa (biR bi))) (hg : Gl X x) (hm : X.mg x = none) (hv : bootBuiltins x = some (.type T)) (ha : PA X (e :: es) (tA X.K fa W ms)) (hn : x ≠ "__name__") (hdb : (x == ("__debug__" : Str)) = false)
    (he : starEach (e :: es) X.env = (false, eval e X.env) :: starEach es X.env) (hpl : (backTo pos (starEach es X.env)).any (·.1) = false) :
    PE X (.Call (.Name x p) (e :: es) [] pos) (tE X.K fa W fun ρ μ => (ms ρ μ).bind fun ds μ => Res.of (biD bi μ ds) μ) := PE.imp (pe_callTy hc hg hm hv ha hn hdb he hpl) fun σ H Q h => bi_run σ H Q h
end
end Ev

set_option Elab.async false
set_option linter.all false
set_option maxRecDepth 100000
set_option maxHeartbeats 1000000
/-! Methods, targets, what is walked, loops, comprehensions. -/
namespace Ev
open PySem PySem.Spec PyProof.Rows L2
def Me.ty : Me → String
  | .index => "str"
  | .join => "str"
  | _ => "list"
section
variable {X : Cx} {fa : Lay} {W : EW} {Z : EZ} {a b c e o : Expr} {es : List Expr} {ma mb mc m : Rho → Mu → Res D} {ms : Rho → Mu → Res (List D)} {pos apos cpos : Pos} {name : Str} {id : String}
theorem ty_me {m : Me} {K : PySem.W.Frag} {φ : Ph} {H : Hp} {μ : Mu} (A : Abs K fa φ μ H) {d : D} {v : V} (r : RV K fa (msk H φ) φ d v) (h : meTy m μ d = true) : tyV K m.ty v H := by
  have lsts : ∀ (hm : m.ty = "list"), (match (generalizing := false) d with | .loc n => (match μ[n]? with | some (.lst _) => true | _ => false) | _ => false) = true → tyV K m.ty v H := fun hm h => by
    cases d with
    | loc n =>
      obtain ⟨p, hp, rfl⟩ := rv_loc r
      dsimp only at h
      cases hn : μ[n]? with
      | none => rw [hn] at h; cases h
      | some c =>
        rw [hn] at h
        cases c with
        | lst l =>
          obtain ⟨vs, e1, _⟩ := A.cell n p _ hp hn
          exact .inl ⟨hm, vs, .inl (.inl e1)⟩
        | _ => cases h
    | _ => cases h
  have stx : ∀ (hm : m.ty = "str"), (match (generalizing := false) d with | .str _ => true | _ => false) = true → tyV K m.ty v H := fun hm h => by
    cases d with
    | str s =>
      obtain ⟨rfl, _⟩ := rv_str r
      exact hm
    | _ => cases h
  cases m <;> first | exact lsts rfl h | exact stx rfl h
theorem e_me {m : Me} (pa : PlainAttrs m.ty) (slot : Slot m.ty name id) (hty : typeOf (.builtin id) = pure (.type "method_descriptor")) (hm : MtR X id (rMe X.K fa (meR m))) (ho : PE X o (tE X.K fa W ma)) (ha : PA X (e :: es) (tA X.K fa W ms))
    (hbase : attributeBase o name X.env (eval o X.env) = eval o X.env)
    (hfew : ((backTo cpos (starEach (e :: es) X.env)).all (fun x => !x.1) && (backToKw cpos (keywordEach [] X.env)).all (fun x => x.1.isSome)
      && decide ((e :: es).length + ([] : List Keyword).length + (if ([] : List Keyword).isEmpty then 0 else 1) < 30)) = true)
    (hline : (apos.endLine == cpos.line) = true) (hs : starEach (e :: es) X.env = (false, eval e X.env) :: starEach es X.env) (hplain : (backTo cpos (starEach es X.env)).any (·.1) = false) :
    PE X (.Call (.Attribute o name apos) (e :: es) [] cpos) (tE X.K fa W fun ρ μ => (ma ρ μ).bind fun x μ => if meTy m μ x then (ms ρ μ).bind fun ds μ => meD m μ x ds else .no) :=
  PE.imp (pe_bm pa slot hty hm ho ha hbase hfew hline hs hplain) fun σ H Q h => by
    obtain ⟨φ, μ, ρ, A, R, h⟩ := h
    refine ⟨φ, μ, ρ, A, R, h.bind.imp fun x μ1 φ1 H1 e1 A1 h1 v rv => ?_⟩
    by_cases ht : meTy m μ1 x = true
    · rw [if_pos ht] at h1
      refine ⟨ty_me A1 rv ht, φ1, μ1, ρ, A1, R.ext e1, h1.bind.imp fun ds μ2 φ2 H2 e2 A2 h2 vs rs => ?_⟩
      exact ⟨φ2, μ2, x, ds, A2, rv.ext e2, rs, h2.any⟩
    · rw [if_neg ht] at h1; exact False.elim h1
theorem e_me0 {m : Me} (pa : PlainAttrs m.ty) (slot : Slot m.ty name id) (hty : typeOf (.builtin id) = pure (.type "method_descriptor")) (hm : MtR X id (rMe X.K fa (meR m))) (ho : PE X o (tE X.K fa W ma))
    (hbase : attributeBase o name X.env (eval o X.env) = eval o X.env) (hline : (apos.endLine == cpos.line) = true) :
    PE X (.Call (.Attribute o name apos) [] [] cpos) (tE X.K fa W fun ρ μ => (ma ρ μ).bind fun x μ => if meTy m μ x then (Res.ok [] μ).bind fun ds μ => meD m μ x ds else .no) :=
  PE.imp (pe_bm0 pa slot hty hm ho hbase hline) fun σ H Q h => by
    obtain ⟨φ, μ, ρ, A, R, h⟩ := h
    refine ⟨φ, μ, ρ, A, R, h.bind.imp fun x μ1 φ1 H1 e1 A1 h1 v rv => ?_⟩
    by_cases ht : meTy m μ1 x = true
    · rw [if_pos ht] at h1
      exact ⟨ty_me A1 rv ht, φ1, μ1, x, [], A1, rv, RVs.nil, h1.any⟩
    · rw [if_neg ht] at h1; exact False.elim h1

/-! ### targets -/
theorem g_name {i : Nat} {x : Str} (hm : fa.may i) (hN : X.N.Nodup) (hi : X.N[i]? = some x) (hx : Loc X.env.scope x) (hf : X.fn x = true ∨ X.env.scope.names.lookup x = some .local) : PG X (.Name x pos) (tG X.K fa (.nm i)) := PG.imp (pg_name hN hi hx hf) fun v σ H Q h => by
  obtain ⟨φ, μ, ρ, d, ρ', A, R, rv, e, q⟩ := h
  unfold T.put at e
  cases e
  refine q _ ⟨by rw [List.length_set], fun j hj => ?_⟩ (R.set hm rv)
  rw [List.getElem?_set_ne (fun e => hj (by unfold T.vars; simp [e]))]
theorem g_nil : PGs X [] (tGs X.K fa []) := PGs.imp pgs_nil fun v σ H Q h => by
  obtain ⟨φ, μ, ρ, ds, ρ', A, R, rs, e, q⟩ := h
  cases ds with
  | nil =>
    unfold T.putL at e
    cases e
    exact ⟨rvs0 rs, q _ ⟨rfl, fun _ _ => rfl⟩ R⟩
  | cons d ds => unfold T.putL at e; cases e
theorem g_cons {t : T} {ts : List T} (h1 : PG X e (tG X.K fa t)) (h2 : PGs X es (tGs X.K fa ts)) (hs : (assignEach (e :: es) X.env).map (·.2) = assign e X.env :: (assignEach es X.env).map (·.2)) : PGs X (e :: es) (tGs X.K fa (t :: ts)) := PGs.imp (pgs_cons h1 h2 hs) fun v σ H Q h => by
  obtain ⟨φ, μ, ρ, ds, ρ', A, R, rs, e, q⟩ := h
  cases ds with
  | nil => unfold T.putL at e; cases e
  | cons d ds =>
    unfold T.putL at e
    obtain ⟨ρ1, e1, e2⟩ := ofbind e
    unfold RVs at rs
    obtain ⟨w, r, rfl, rw', rr⟩ := rs
    refine ⟨w, r, rfl, φ, μ, ρ, d, ρ1, A, R, RV.toT rw', e1, fun σ1 l1 R1 => ⟨φ, μ, ρ1, ds, ρ', A, R1, rr, e2, fun σ2 l2 R2 => q σ2 ⟨l2.1.trans l1.1, fun j hj => ?_⟩ R2⟩⟩
    unfold T.varsL at hj
    rw [List.mem_append, not_or] at hj
    exact (l2.2 j hj.2).trans (l1.2 j hj.1)
theorem putL_length : ∀ {ts : List T} {ds : List D} {ρ ρ' : Rho}, T.putL ts ds ρ = some ρ' → ds.length = ts.length
  | [], [], _, _, _ => rfl
  | [], _ :: _, _, _, h => by unfold T.putL at h; cases h
  | _ :: _, [], _, _, h => by unfold T.putL at h; cases h
  | t :: ts, d :: ds, ρ, ρ', h => by
    unfold T.putL at h
    obtain ⟨ρ1, _, h⟩ := ofbind h
    rw [List.length_cons, List.length_cons, putL_length h]
theorem g_tup {k n : Nat} {ts : List T} (hc : X.calm = true) (h : PGs X es (tGs X.K fa ts)) (hl : ts.length = n) (hn : (assignEach es X.env).length = n) (hst : (assignEach es X.env).findIdx? (·.1) = none) :
    PG X (.Tuple es k pos) (tG X.K fa (.tp ts)) := PG.imp (pg_tup hc h hn hst) fun v σ H Q h => by
  obtain ⟨φ, μ, ρ, d, ρ', A, R, rv, e, q⟩ := h
  unfold T.put at e
  split at e
  · obtain ⟨p, vs, rfl, hs, rs⟩ := rvw_tup rv
    exact ⟨p, vs, rfl, Same.seqT msk_same hs, by rw [rs.length, putL_length e, hl], φ, μ, ρ, _, ρ', A, R, rs, e, fun σ' l R' => q σ' (by unfold T.vars; exact l) R'⟩
  · cases e

/-! ### small statements -/
theorem s_expr (he : PE X e (tE X.K fa W m)) (hs : swapsWith e none pos.line X.env = pure false) : PS X (.Expr e pos) (tS X.K fa W fun ρ μ => (m ρ μ).out ρ fun _ μ => .nx ρ μ) := PS.imp (ps_expr he hs) fun D σ H h => by
  obtain ⟨φ, μ, ρ, A, R, h⟩ := h
  exact ⟨φ, μ, ρ, A, R, (h.out R).imp fun x μ1 φ1 H1 e1 A1 h1 v rv => h1 φ1 H1 σ (Ext.refl _ _) A1 (R.ext e1)⟩
theorem s_doc {x j p p'} : PS X (.Expr (.Constant (.str x) j p) p') (tS X.K fa W fun ρ μ => .nx ρ μ) := PS.imp ps_doc fun D σ H h => by
  obtain ⟨φ, μ, ρ, A, R, h⟩ := h
  exact h φ H σ (Ext.refl _ _) A R
theorem s_ret (he : PE X e (tE X.K fa W m)) : PS X (.Return (some e) pos) (tS X.K fa W fun ρ μ => (m ρ μ).out ρ fun d μ => .rt d μ) := PS.imp (ps_ret he) fun D σ H h => by
  obtain ⟨φ, μ, ρ, A, R, h⟩ := h
  exact ⟨φ, μ, ρ, A, R, (h.out R).imp fun x μ1 φ1 H1 e1 A1 h1 v rv => h1 φ1 H1 v (Ext.refl _ _) A1 rv⟩
theorem s_retN : PS X (.Return none pos) (tS X.K fa W fun _ μ => .rt .non μ) := PS.imp ps_retN fun D σ H h => by
  obtain ⟨φ, μ, ρ, A, R, h⟩ := h
  exact h φ H _ (Ext.refl _ _) A mk_non
theorem s_pass : PS X (.Pass pos) (tS X.K fa W fun ρ μ => .nx ρ μ) := PS.imp ps_pass fun D σ H h => by
  obtain ⟨φ, μ, ρ, A, R, h⟩ := h
  exact h φ H σ (Ext.refl _ _) A R
theorem s_brk : PS X (.Break pos) (tS X.K fa W fun ρ μ => .bk ρ μ) := PS.imp ps_break fun D σ H h => by
  obtain ⟨φ, μ, ρ, A, R, h⟩ := h
  exact h φ H σ (Ext.refl _ _) A R
theorem s_cont : PS X (.Continue pos) (tS X.K fa W fun ρ μ => .ct ρ μ) := PS.imp ps_continue fun D σ H h => by
  obtain ⟨φ, μ, ρ, A, R, h⟩ := h
  exact h φ H σ (Ext.refl _ _) A R
def evAsg (t : T) (m : Rho → Mu → Res D) : Rho → Mu → Out := fun ρ μ => (m ρ μ).out ρ fun d μ => match t.put d ρ with
  | some ρ' => .nx ρ' μ
  | none => .no
theorem asg_core {te : TE} {t : T} (D : Ends) (σ : L2.St) (H : Hp) (hm : ∀ Q, tE X.K fa W m σ H Q → te σ H Q) (h : tS X.K fa W (evAsg t m) D σ H) : te σ H fun x H1 => tG X.K fa t x σ H1 D.nx := by
  obtain ⟨φ, μ, ρ, A, R, h⟩ := h
  refine hm _ ⟨φ, μ, ρ, A, R, (h.out R).imp fun d μ1 φ1 H1 e1 A1 h1 v rv => ?_⟩
  split at h1
  · rename_i ρ' e
    exact ⟨φ1, μ1, ρ, d, ρ', A1, R.ext e1, RV.toT rv, e, fun σ' _ R' => h1 φ1 H1 σ' (Ext.refl _ _) A1 R'⟩
  · exact False.elim h1
theorem s_asg {tg : Expr} {t : T} (he : PE X e (tE X.K fa W m)) (hg : PG X tg (tG X.K fa t)) (hs : swapsWithSole [tg] e pos.line X.env = pure false) (hw : swappedStores [tg] e X.env = pure none)
    (h1 : (assignEach [tg] X.env).map (·.2) = [assign tg X.env]) : PS X (.Assign [tg] e pos) (tS X.K fa W (evAsg t m)) := PS.imp (ps_asg he hg hs hw h1) fun D σ H h => asg_core D σ H (fun _ q => q) h
def evSetIdx (mv mo mi : Rho → Mu → Res D) : Rho → Mu → Out := fun ρ μ => (mv ρ μ).out ρ fun v μ => (mo ρ μ).out ρ fun x μ => (mi ρ μ).out ρ fun y μ => match setD μ x y v with
  | some μ' => .nx ρ μ'
  | none => .no
theorem pset_or {t t' : TSet} (h : PSet X t) (h' : PSet X t') : PSet X (fun o i v H Q => t o i v H Q ∨ t' o i v H Q) := by
  intro pins s σ H o i v ov iv u Q I ro ri rv q
  rcases q with q | q
  · exact h pins s σ H o i v ov iv u Q I ro ri rv q
  · exact h' pins s σ H o i v ov iv u Q I ro ri rv q
def tDT (K : PySem.W.Frag) (fa : Lay) : TSet := fun o i v H Q => ∃ φ a b k l kx, o = .ref a ∧ i = .ref b ∧ isKT k = true ∧ l.length < lim ∧ IsDT K fa (msk H φ) φ H a l kx ∧ RV K fa (msk H φ) φ k (.ref b) ∧ ∀ u, RelV v u → Q (upd H a (dtO fa.w a (storedH kx (nk k) b u)))
theorem pset_dt (hw : fa.w = X.w) (hu : X.A.units + 64 < cLine) : PSet X (tDT X.K fa) := by
  intro pins s σ H o i v ov iv u Q I ro ri rv h
  obtain ⟨φ, a, b, k, l, kx, rfl, rfl, hk, hl, r, hb, q⟩ := h
  cases ro
  cases ri
  exact dtt_put hu hw I r hl hk hb fun s' I' => ⟨_, I', q u rv⟩
theorem set_dtt {K : PySem.W.Frag} {φ : Ph} {H : Hp} {μ : Mu} (A : Abs K fa φ μ H) {n : Nat} {a : Addr} {l : List (D × D)} {kx : List (NestedKey × Addr × Value)} (ha : φ.sh[n]? = some a) (r : RXs K fa (msk H φ) φ l kx) :
    Ext φ H φ (upd H a (dtO fa.w a kx)) ∧ Abs K fa φ (μ.set n (.dtt l)) (upd H a (dtO fa.w a kx)) := Abs.set A ha ⟨kx, upd_same, r⟩
theorem s_setIdx {o i : Expr} {mv mo mi : Rho → Mu → Res D} {tpos : Pos} (hwd : fa.w = X.w) (hu : X.A.units + 64 < cLine) (he : PE X e (tE X.K fa W mv)) (ho : PE X o (tE X.K fa W mo)) (hi : PE X i (tE X.K fa W mi))
    (ha : ∀ v, assign (.Subscript o i tpos) X.env v = (do
      let ov ← holding [v] (eval o X.env)
      let iv ← holding [v, ov] (eval i X.env)
      standAt tpos
      holding [v, ov, iv] (setItem ov iv v)
      release [v, ov, iv] [])) (hs : swapsWithSole [.Subscript o i tpos] e pos.line X.env = pure false) (hw : swappedStores [.Subscript o i tpos] e X.env = pure none)
    (h1 : (assignEach [.Subscript o i tpos] X.env).map (·.2) = [assign (.Subscript o i tpos) X.env]) : PS X (.Assign [.Subscript o i tpos] e pos) (tS X.K fa W (evSetIdx mv mo mi)) :=
  PS.imp (ps_asg he (pg_sub ho hi (pset_or set_list (pset_or (set_dict (by omega)) (pset_dt hwd hu))) ha) hs hw h1) fun D σ H h => by
    obtain ⟨φ, μ, ρ, A, R, h⟩ := h
    refine ⟨φ, μ, ρ, A, R, (h.out R).imp fun d μ1 φ1 H1 e1 A1 h1 v rv => ?_⟩
    refine ⟨φ1, μ1, ρ, A1, R.ext e1, (h1.out (R.ext e1)).imp fun x μ2 φ2 H2 e2 A2 h2 w rx => ?_⟩
    refine ⟨φ2, μ2, ρ, A2, (R.ext e1).ext e2, (h2.out ((R.ext e1).ext e2)).imp fun y μ3 φ3 H3 e3 A3 h3 u ry => ?_⟩
    have rx := rx.ext e3
    cases hs : setD μ3 x y d with
    | none => rw [hs] at h3; exact False.elim h3
    | some μ4 =>
      rw [hs] at h3
      unfold setD at hs
      split at hs
      · rename_i nl hl
        obtain ⟨n, l⟩ := nl
        obtain ⟨p, vs, rfl, hp, rfl, hH, rs⟩ := lst_at2 A3 hl rx
        cases y with
        | int j =>
          obtain ⟨k, hk, rfl⟩ := ofmap (show (ixZ l.length j).map (fun k => μ3.set n (.lst (l.set k d))) = some μ4 from hs)
          cases rv_int ry
          obtain ⟨x1, A4⟩ := set_lst A3 hp (rs.set ((rv.ext e2).ext e3) k)
          refine .inl ⟨p, vs, j, k, rfl, rfl, hH, by rw [rs.length]; exact hk, ?_⟩
          exact h3 φ3 _ σ x1 A4 ((((R.ext e1).ext e2).ext e3).ext x1)
        | _ => cases hs
      · unfold setDD at hs
        by_cases hkt : isKT y = true
        · rw [if_pos hkt] at hs
          cases hd : dttAt μ3 x with
          | none => rw [hd] at hs; cases hs
          | some nl =>
            rw [hd] at hs
            obtain ⟨n, l⟩ := nl
            obtain ⟨c2, e⟩ := ite_some (show (if l.length < lim then some (μ3.set n (.dtt (putD l y d))) else none) = some μ4 from hs)
            cases e
            obtain ⟨p, kx, rfl, hp, rfl, rs⟩ := dtt_at A3 hd rx
            obtain ⟨b, rfl⟩ := kt_ref hkt ry
            refine .inr (.inr ⟨φ3, p, b, y, l, kx, rfl, rfl, hkt, c2, rs, ry, fun u ru => ?_⟩)
            obtain ⟨x1, A4⟩ := set_dtt A3 hp (rs.rx.put hkt ry ru ((rv.ext e2).ext e3))
            exact h3 φ3 _ σ x1 A4 ((((R.ext e1).ext e2).ext e3).ext x1)
        · rw [if_neg hkt] at hs
          cases hd : dctAt μ3 x with
          | none => rw [hd] at hs; cases hs
          | some nl =>
            rw [hd] at hs
            obtain ⟨n, l⟩ := nl
            obtain ⟨⟨c1, c2⟩, e⟩ := ite_some (show (if isKey y = true ∧ l.length < lim then some (μ3.set n (.dct (putD l y d))) else none) = some μ4 from hs)
            cases e
            obtain ⟨p, kvs, rfl, hp, rfl, hH, rs⟩ := dct_at A3 hd rx
            obtain ⟨kk, hk, rfl⟩ := key_rv c1 ry
            obtain ⟨x1, A4⟩ := set_dct A3 hp (rs.put hk ((rv.ext e2).ext e3))
            refine .inr (.inl ⟨p, _, rfl, DPut.k hH (by rw [rs.len, lim_eq]; exact c2), ?_⟩)
            exact h3 φ3 _ σ x1 A4 ((((R.ext e1).ext e2).ext e3).ext x1)
variable {c : Expr} {A B : List Stmt} {tc : Rho → Mu → Res Bool} {oa ob : Rho → Mu → Out}
theorem s_if (hc : PT X c (tT X.K fa W tc)) (ha : PSs X A (tS X.K fa W oa)) (hb : PSs X B (tS X.K fa W ob)) : PS X (.If c A B pos) (tS X.K fa W fun ρ μ => (tc ρ μ).out ρ fun k μ => if k then oa ρ μ else ob ρ μ) := PS.imp (ps_if hc ha hb) fun D σ H h => by
  obtain ⟨φ, μ, ρ, A, R, h⟩ := h
  refine ⟨φ, μ, ρ, A, R, (h.out R).imp fun k μ1 φ1 H1 e1 A1 h1 => ?_⟩
  cases k with
  | true => exact ⟨φ1, μ1, ρ, A1, R.ext e1, h1⟩
  | false => exact ⟨φ1, μ1, ρ, A1, R.ext e1, h1⟩
theorem ss_nil : PSs X [] (tS X.K fa W fun ρ μ => .nx ρ μ) := PSs.imp pss_nil fun D σ H h => by
  obtain ⟨φ, μ, ρ, A, R, h⟩ := h
  exact h φ H σ (Ext.refl _ _) A R
def evSeq (o1 o2 : Rho → Mu → Out) : Rho → Mu → Out := fun ρ μ => match o1 ρ μ with
  | .nx ρ' μ' => o2 ρ' μ'
  | o => o
theorem ss_cons {st : Stmt} {rest : List Stmt} {o1 o2 : Rho → Mu → Out} (h1 : PS X st (tS X.K fa W o1)) (h2 : PSs X rest (tS X.K fa W o2)) : PSs X (st :: rest) (tS X.K fa W (evSeq o1 o2)) := PSs.imp (pss_cons h1 h2) fun D σ H h => by
  obtain ⟨φ, μ, ρ, A, R, h⟩ := h
  refine ⟨φ, μ, ρ, A, R, ?_⟩
  unfold evSeq at h
  split at h
  · rename_i ρ' μ' eq
    rw [eq]
    exact fun φ' H' σ' x A' R' => ⟨φ', μ', ρ', A', R', h.ext x⟩
  · rename_i hn
    cases q : o1 ρ μ with
    | nx ρ' μ' => exact absurd q (hn ρ' μ')
    | _ => rw [q] at h; exact h

/-! ### while -/
theorem s_while {body : List Stmt} {kill : List Nat} {N : Nat} (hp : PassesOwn (model X.prog X.w) X.A X.env X.xe) (hc : PT X c (tT X.K fa W tc)) (hb : PSs X body (tS X.K fa W oa)) :
    PS X (.While c body [] pos) (tS X.K fa W fun ρ μ => whileL kill tc oa N ρ μ) := PS.imp (ps_while hp hc hb) fun D σ H h => by
  obtain ⟨φ, μ, ρ, A, R, h⟩ := h
  refine ⟨fun n σ H => ∃ φ μ ρ, Abs X.K fa φ μ H ∧ REnv X.K fa (msk H φ) φ ρ σ ∧ RunO X.K fa W φ H (whileL kill tc oa n ρ μ) D, ⟨N, φ, μ, ρ, A, R, h⟩, ?_⟩
  rintro n σ H ⟨φ, μ, ρ, A, R, h⟩
  cases n with
  | zero => exact False.elim h
  | succ n =>
    unfold whileL at h
    refine ⟨φ, μ, wipeR ρ kill, A, R.kill kill, (h.out (R.kill kill)).imp fun k μ1 φ1 H1 e1 A1 h1 => ?_⟩
    have R1 := (R.kill kill).ext e1
    cases k with
    | false => exact h1 φ1 H1 σ (Ext.refl _ _) A1 R1
    | true =>
      refine ⟨fun σ' H' => ∃ φ μ ρ, Abs X.K fa φ μ H' ∧ REnv X.K fa (msk H' φ) φ ρ σ' ∧ RunO X.K fa W φ H' (whileL kill tc oa n ρ μ) D, fun σ' H' q => ⟨n, Nat.lt_succ_self n, q⟩, φ1, μ1, _, A1, R1, ?_⟩
      have h1 : RunO X.K fa W φ1 H1 (match oa (wipeR ρ kill) μ1 with
        | .nx ρ2 μ2 => whileL kill tc oa n ρ2 μ2
        | .ct ρ2 μ2 => whileL kill tc oa n ρ2 μ2
        | .bk ρ2 μ2 => .nx ρ2 μ2
        | o => o) D := h1
      cases q : oa (wipeR ρ kill) μ1 with
      | nx ρ2 μ2 => rw [q] at h1; exact fun φ' H' σ' x A' R' => ⟨φ', μ2, ρ2, A', R', h1.ext x⟩
      | ct ρ2 μ2 => rw [q] at h1; exact fun φ' H' σ' x A' R' => ⟨φ', μ2, ρ2, A', R', h1.ext x⟩
      | bk ρ2 μ2 => rw [q] at h1; exact h1
      | rt d μ2 => rw [q] at h1; exact h1
      | ex _ _ _ => rw [q] at h1; exact h1
      | no => rw [q] at h1; exact h1

end
end Ev

set_option Elab.async false
set_option linter.all false
set_option maxRecDepth 100000
set_option maxHeartbeats 1000000
/-! What is walked. -/
namespace Ev
open PySem PySem.Spec PyProof.Rows L2
abbrev Grd := List (Nat × List D)
section
variable (K : PySem.W.Frag) (fa : Lay)
/-- a state behind (φ0, H0) in which the lists of g stand -/
structure Std (g : Grd) (φ0 : Ph) (H0 : Hp) (φ : Ph) (μ : Mu) (H : Hp) : Prop where
  pre : ∃ t, φ.sh = φ0.sh ++ t
  same : Same (msk H0 φ0) (msk H φ)
  abs : Abs K fa φ μ H
  st : stays μ g = true
/-- the walker J gives the items l -/
def WalkD (J : It) (l : List D) (g : Grd) (φ0 : Ph) (H0 : Hp) (wk : Bool := false) : Prop :=
  Walk J l.length (fun H => ∃ φ μ, Std K fa g φ0 H0 φ μ H) fun i H x H' => ∀ φ μ, Std K fa g φ0 H0 φ μ H → ∃ d, l[i]? = some d ∧ Ext φ H φ H' ∧ Abs K fa φ μ H' ∧ RVk K fa wk (msk H' φ) φ d x
/-- its items are pairs that the walk makes -/
def IK.wk : IK → Bool
  | .enum => true
  | .zip2 => true
  | _ => false
def iD (W : EW) (k : IK) (ms : Rho → Mu → Res (List D)) : TI := fun σ H R => ∃ φ μ ρ, Abs K fa φ μ H ∧ REnv K fa (msk H φ) φ ρ σ ∧ Run K fa (W σ) φ H (ms ρ μ) fun ss μ1 φ1 H1 => ∃ l g, itemsD k μ1 ss = some (l, g) ∧ ∀ J, WalkD K fa J l g φ1 H1 k.wk → R J H1
end
section
variable {K : PySem.W.Frag} {fa : Lay} {W : EW} {Z : EZ} {φ φ0 : Ph} {H H0 : Hp} {μ μ0 : Mu} {g : Grd} {l l2 : List D} {a b : Addr}
theorem pre_get {φ φ0 : Ph} (h : ∃ t, φ.sh = φ0.sh ++ t) {n : Nat} {a : Addr} (e : φ0.sh[n]? = some a) : φ.sh[n]? = some a := by
  obtain ⟨t, q⟩ := h
  rw [q, List.getElem?_append_left (List.getElem?_eq_some_iff.mp e).1]
  exact e
theorem Std.rv (s : Std K fa g φ0 H0 φ μ H) {d : D} {v : V} (r : RV K fa (msk H0 φ0) φ0 d v) : RV K fa (msk H φ) φ d v := RV.mono s.same (fun _ _ q => pre_get s.pre q) d v r
theorem Std.rvs (s : Std K fa g φ0 H0 φ μ H) {d : List D} {v : List V} (r : RVs K fa (msk H0 φ0) φ0 d v) : RVs K fa (msk H φ) φ d v := RVs.mono s.same (fun _ _ q => pre_get s.pre q) d v r
def HasL (K : PySem.W.Frag) (fa : Lay) (g : Grd) (φ0 : Ph) (H0 : Hp) (a : Addr) (l : List D) : Prop := ∀ φ μ H, Std K fa g φ0 H0 φ μ H → ∃ vs, SqL K H a vs ∧ RVs K fa (msk H φ) φ l vs
def HasT (K : PySem.W.Frag) (fa : Lay) (g : Grd) (φ0 : Ph) (H0 : Hp) (a : Addr) (l : List D) : Prop := ∀ φ μ H, Std K fa g φ0 H0 φ μ H → ∃ vs, SqT K H a vs ∧ RVs K fa (msk H φ) φ l vs
theorem has_tup {v : V} (r : RV K fa (msk H0 φ0) φ0 (.tup l) v) : ∃ a, v = .ref a ∧ HasT K fa g φ0 H0 a l := by
  obtain ⟨a, vs, rfl, hs, rs⟩ := rv_tup r
  exact ⟨a, rfl, fun φ μ H s => ⟨vs, Same.seqT (fun p o q => msk_same _ _ (s.same p o q)) hs, s.rvs rs⟩⟩
theorem has_lst {v : V} (r : RV K fa (msk H0 φ0) φ0 (.lst l) v) : ∃ a, v = .ref a ∧ HasL K fa g φ0 H0 a l := by
  obtain ⟨a, vs, rfl, hs, rs⟩ := rv_lst r
  exact ⟨a, rfl, fun φ μ H s => ⟨vs, Same.sqL (fun p o q => msk_same _ _ (s.same p o q)) hs, s.rvs rs⟩⟩
theorem stays_mem {n : Nat} (h : stays μ g = true) (hm : (n, l) ∈ g) : μ[n]? = some (.lst l) := by
  unfold stays at h
  rw [List.all_eq_true] at h
  exact of_decide_eq_true (h (n, l) hm)
theorem has_loc {v : V} {n : Nat} (hm : (n, l) ∈ g) (r : RV K fa (msk H0 φ0) φ0 (.loc n) v) : ∃ a, v = .ref a ∧ HasL K fa g φ0 H0 a l := by
  obtain ⟨a, ha, rfl⟩ := rv_loc r
  refine ⟨a, rfl, fun φ μ H s => ?_⟩
  obtain ⟨vs, e, rs⟩ := s.abs.cell n a _ (pre_get s.pre ha) (stays_mem s.st hm)
  exact ⟨vs, .inl (.inl e), rs⟩
theorem get_of {i : Nat} (h : i < l.length) : ∃ d, l[i]? = some d := ⟨l[i], List.getElem?_eq_getElem h⟩
theorem walk_ofL (h : HasL K fa g φ0 H0 a l) : WalkD K fa (Itl K a) l g φ0 H0 := by
  refine ⟨fun i H hi ⟨φ, μ, s⟩ => ?_, fun H ⟨φ, μ, s⟩ => ?_, fun i H x H' hi _ y φ μ s => ?_⟩
  · obtain ⟨vs, hq, rs⟩ := h φ μ H s
    obtain ⟨d, hd⟩ := get_of hi
    obtain ⟨v, hv, _⟩ := rs.get hd
    exact ⟨vs, v, hq, hv⟩
  · obtain ⟨vs, hq, rs⟩ := h φ μ H s
    exact ⟨vs, hq, by rw [rs.length]; exact Nat.le_refl _⟩
  · obtain ⟨rfl, y⟩ := y
    obtain ⟨vs, hq, rs⟩ := h φ μ _ s
    obtain ⟨d, hd⟩ := get_of hi
    obtain ⟨v, hv, rv⟩ := rs.get hd
    have := y vs hq
    rw [hv] at this
    cases this
    exact ⟨d, hd, Ext.refl _ _, s.abs, rv⟩
theorem walk_ofT (h : HasT K fa g φ0 H0 a l) : WalkD K fa (Itt K a) l g φ0 H0 := by
  refine ⟨fun i H hi ⟨φ, μ, s⟩ => ?_, fun H ⟨φ, μ, s⟩ => ?_, fun i H x H' hi _ y φ μ s => ?_⟩
  · obtain ⟨vs, hq, rs⟩ := h φ μ H s
    obtain ⟨d, hd⟩ := get_of hi
    obtain ⟨v, hv, _⟩ := rs.get hd
    exact ⟨vs, v, hq, hv⟩
  · obtain ⟨vs, hq, rs⟩ := h φ μ H s
    exact ⟨vs, hq, by rw [rs.length]; exact Nat.le_refl _⟩
  · obtain ⟨rfl, y⟩ := y
    obtain ⟨vs, hq, rs⟩ := h φ μ _ s
    obtain ⟨d, hd⟩ := get_of hi
    obtain ⟨v, hv, rv⟩ := rs.get hd
    have := y vs hq
    rw [hv] at this
    cases this
    exact ⟨d, hd, Ext.refl _ _, s.abs, rv⟩
theorem walk_ofS {t : Txt} (ht : okT t = true) : WalkD K fa (Its (sOf t)) (t.map fun c => .str [c]) g φ0 H0 := by
  have hz : (sOf t).cps.size = t.length := by simp [sOf]
  refine ⟨fun i H hi _ => ?_, fun H _ => ?_, fun i H x H' hi _ y φ μ s => ?_⟩
  · show i < (sOf t).cps.size
    rw [hz]; simpa using hi
  · show (sOf t).cps.size ≤ _
    rw [hz, List.length_map]; exact Nat.le_refl _
  · obtain ⟨rfl, c, hc, rfl⟩ := y
    have hc : t[i]? = some c := by simpa [sOf] using hc
    refine ⟨.str [c], by rw [List.getElem?_map, hc]; rfl, Ext.refl _ _, s.abs, ?_⟩
    show RV K fa _ _ _ _
    exact mk_str (s := [c]) (okT_sub ht fun z hz => by
      have : z = c := by simpa using hz
      subst this
      exact List.mem_of_getElem? hc)
theorem walk_ofR {lo : Int} {n : Nat} : WalkD K fa (Itr lo n) (rngL lo n) g φ0 H0 := by
  have hz : (rngL lo n).length = n := by simp [rngL]
  refine ⟨fun i H hi _ => ?_, fun H _ => ?_, fun i H x H' hi _ y φ μ s => ?_⟩
  · show i < n
    rw [hz] at hi; exact hi
  · show n ≤ _
    rw [hz]; exact Nat.le_refl _
  · obtain ⟨rfl, rfl⟩ := y
    rw [hz] at hi
    refine ⟨.int (lo + (i : Nat)), ?_, Ext.refl _ _, s.abs, (show RV K fa _ _ _ _ from mk_int)⟩
    unfold rngL
    rw [List.getElem?_map, List.getElem?_range hi]
    rfl
theorem enumFrom_length : ∀ (k : Nat) (l : List D), (enumFrom k l).length = l.length
  | _, [] => rfl
  | k, d :: r => by unfold enumFrom; rw [List.length_cons, List.length_cons, enumFrom_length (k + 1) r]
theorem enumFrom_get : ∀ (k : Nat) (l : List D) (i : Nat) (d : D), l[i]? = some d → (enumFrom k l)[i]? = some (.tup [.int ((k + i : Nat) : Int), d])
  | _, [], _, _, h => by simp at h
  | k, e :: r, 0, d, h => by simp at h; subst h; unfold enumFrom; simp
  | k, e :: r, i + 1, d, h => by
    unfold enumFrom
    rw [List.getElem?_cons_succ, enumFrom_get (k + 1) r i d (by simpa using h)]
    have : k + 1 + i = k + (i + 1) := by omega
    rw [this]
theorem pair_ok (A : Abs K fa φ μ H) {d e : D} {v u : V} (rd : RV K fa (msk H φ) φ d v) (re : RV K fa (msk H φ) φ e u) {T : Addr} (hT : H T = none) :
    Ext φ H φ (upd H T (.tup [v, u])) ∧ Abs K fa φ μ (upd H T (.tup [v, u])) ∧ RVk K fa true (msk (upd H T (.tup [v, u])) φ) φ (.tup [d, e]) (.ref T) := by
  have x : Ext φ H φ (upd H T (.tup [v, u])) := Ext.fresh A hT
  exact ⟨x, Abs.fresh A hT, .inr ⟨_, T, _, rfl, rfl, .inl (.inl (by rw [msk_out (A.notIn hT), upd_same])), (RVs.cons rd (RVs.one re)).ext x⟩⟩
theorem walk_ofE (h : HasL K fa g φ0 H0 a l) : WalkD K fa (Ite K a) (enumFrom 0 l) g φ0 H0 true := by
  refine ⟨fun i H hi ⟨φ, μ, s⟩ => ?_, fun H ⟨φ, μ, s⟩ => ?_, fun i H x H' hi _ y φ μ s => ?_⟩
  · rw [enumFrom_length] at hi
    obtain ⟨vs, hq, rs⟩ := h φ μ H s
    obtain ⟨d, hd⟩ := get_of hi
    obtain ⟨v, hv, _⟩ := rs.get hd
    exact ⟨vs, v, hq, hv⟩
  · obtain ⟨vs, hq, rs⟩ := h φ μ H s
    exact ⟨vs, hq, by rw [rs.length, enumFrom_length]; exact Nat.le_refl _⟩
  · rw [enumFrom_length] at hi
    obtain ⟨T, w, rfl, hT, rfl, y⟩ := y
    obtain ⟨vs, hq, rs⟩ := h φ μ _ s
    obtain ⟨d, hd⟩ := get_of hi
    obtain ⟨v, hv, rv⟩ := rs.get hd
    have := y vs hq
    rw [hv] at this
    cases this
    obtain ⟨x1, A1, r1⟩ := pair_ok s.abs (mk_int (i := ((i : Nat) : Int))) rv hT
    exact ⟨_, by rw [enumFrom_get 0 l i d hd, Nat.zero_add], x1, A1, r1⟩
/-- enumerate over a tuple -/
def IteT (K : PySem.W.Frag) (a : Addr) : It :=
  ⟨fun i H => ∃ (xs : List V) (x : V), SqT K H a xs ∧ xs[i]? = some x, fun i H v H' => ∃ T x, v = .ref T ∧ H T = none ∧ H' = upd H T (.tup [.int (i : Nat), x]) ∧ ∀ xs, SqT K H a xs → xs[i]? = some x, fun i H => ∃ xs : List V, SqT K H a xs ∧ xs.length ≤ i⟩
theorem walk_ofET (h : HasT K fa g φ0 H0 a l) : WalkD K fa (IteT K a) (enumFrom 0 l) g φ0 H0 true := by
  refine ⟨fun i H hi ⟨φ, μ, s⟩ => ?_, fun H ⟨φ, μ, s⟩ => ?_, fun i H x H' hi _ y φ μ s => ?_⟩
  · rw [enumFrom_length] at hi
    obtain ⟨vs, hq, rs⟩ := h φ μ H s
    obtain ⟨d, hd⟩ := get_of hi
    obtain ⟨v, hv, _⟩ := rs.get hd
    exact ⟨vs, v, hq, hv⟩
  · obtain ⟨vs, hq, rs⟩ := h φ μ H s
    exact ⟨vs, hq, by rw [rs.length, enumFrom_length]; exact Nat.le_refl _⟩
  · rw [enumFrom_length] at hi
    obtain ⟨T, w, rfl, hT, rfl, y⟩ := y
    obtain ⟨vs, hq, rs⟩ := h φ μ _ s
    obtain ⟨d, hd⟩ := get_of hi
    obtain ⟨v, hv, rv⟩ := rs.get hd
    have := y vs hq
    rw [hv] at this
    cases this
    obtain ⟨x1, A1, r1⟩ := pair_ok s.abs (mk_int (i := ((i : Nat) : Int))) rv hT
    exact ⟨_, by rw [enumFrom_get 0 l i d hd, Nat.zero_add], x1, A1, r1⟩
theorem zip_get {l l2 : List D} {i : Nat} (hi : i < ((l.zip l2).map fun p => D.tup [p.1, p.2]).length) : ∃ d e, l[i]? = some d ∧ l2[i]? = some e ∧ ((l.zip l2).map fun p => D.tup [p.1, p.2])[i]? = some (.tup [d, e]) := by
  rw [List.length_map, List.length_zip] at hi
  have h1 : i < l.length := by omega
  have h2 : i < l2.length := by omega
  refine ⟨l[i], l2[i], List.getElem?_eq_getElem h1, List.getElem?_eq_getElem h2, ?_⟩
  rw [List.getElem?_map]
  have : (l.zip l2)[i]? = some (l[i], l2[i]) := by
    rw [List.getElem?_eq_getElem (by rw [List.length_zip]; omega), List.getElem_zip]
  rw [this]
  rfl
theorem walk_ofZ (h : HasL K fa g φ0 H0 a l) (h2 : HasL K fa g φ0 H0 b l2) : WalkD K fa (Itz K a b) ((l.zip l2).map fun p => .tup [p.1, p.2]) g φ0 H0 true := by
  refine ⟨fun i H hi ⟨φ, μ, s⟩ => ?_, fun H ⟨φ, μ, s⟩ => ?_, fun i H x H' hi _ y φ μ s => ?_⟩
  · obtain ⟨vs, hq, rs⟩ := h φ μ H s
    obtain ⟨us, hq2, rs2⟩ := h2 φ μ H s
    obtain ⟨d, e, hd, he, _⟩ := zip_get hi
    obtain ⟨v, hv, _⟩ := rs.get hd
    obtain ⟨u, hu, _⟩ := rs2.get he
    exact ⟨vs, us, v, u, hq, hq2, hv, hu⟩
  · obtain ⟨vs, hq, rs⟩ := h φ μ H s
    obtain ⟨us, hq2, rs2⟩ := h2 φ μ H s
    refine ⟨vs, us, hq, hq2, ?_⟩
    rw [List.length_map, List.length_zip, rs.length, rs2.length]
    omega
  · obtain ⟨T, w, w2, rfl, hT, rfl, y, y2⟩ := y
    obtain ⟨vs, hq, rs⟩ := h φ μ _ s
    obtain ⟨us, hq2, rs2⟩ := h2 φ μ _ s
    obtain ⟨d, e, hd, he, hz⟩ := zip_get hi
    obtain ⟨v, hv, rv⟩ := rs.get hd
    obtain ⟨u, hu, ru⟩ := rs2.get he
    have := y vs hq
    rw [hv] at this
    cases this
    have := y2 us hq2
    rw [hu] at this
    cases this
    obtain ⟨x1, A1, r1⟩ := pair_ok s.abs rv ru hT
    exact ⟨_, hz, x1, A1, r1⟩
theorem walk_ofZT (h : HasT K fa g φ0 H0 a l) (h2 : HasT K fa g φ0 H0 b l2) : WalkD K fa (RZ.ItzT K a b) ((l.zip l2).map fun p => .tup [p.1, p.2]) g φ0 H0 true := by
  refine ⟨fun i H hi ⟨φ, μ, s⟩ => ?_, fun H ⟨φ, μ, s⟩ => ?_, fun i H x H' hi _ y φ μ s => ?_⟩
  · obtain ⟨vs, hq, rs⟩ := h φ μ H s
    obtain ⟨us, hq2, rs2⟩ := h2 φ μ H s
    obtain ⟨d, e, hd, he, _⟩ := zip_get hi
    obtain ⟨v, hv, _⟩ := rs.get hd
    obtain ⟨u, hu, _⟩ := rs2.get he
    exact ⟨vs, us, v, u, hq, hq2, hv, hu⟩
  · obtain ⟨vs, hq, rs⟩ := h φ μ H s
    obtain ⟨us, hq2, rs2⟩ := h2 φ μ H s
    refine ⟨vs, us, hq, hq2, ?_⟩
    rw [List.length_map, List.length_zip, rs.length, rs2.length]
    omega
  · obtain ⟨T, w, w2, rfl, hT, rfl, y, y2⟩ := y
    obtain ⟨vs, hq, rs⟩ := h φ μ _ s
    obtain ⟨us, hq2, rs2⟩ := h2 φ μ _ s
    obtain ⟨d, e, hd, he, hz⟩ := zip_get hi
    obtain ⟨v, hv, rv⟩ := rs.get hd
    obtain ⟨u, hu, ru⟩ := rs2.get he
    have := y vs hq
    rw [hv] at this
    cases this
    have := y2 us hq2
    rw [hu] at this
    cases this
    obtain ⟨x1, A1, r1⟩ := pair_ok s.abs rv ru hT
    exact ⟨_, hz, x1, A1, r1⟩
end
end Ev

set_option Elab.async false
set_option linter.all false
set_option maxRecDepth 100000
set_option maxHeartbeats 1000000
/-! enumerate over a tuple; what is walked, by its source. -/
namespace Ev
open PySem PySem.Spec PyProof.Rows L2
open AutoSeq1 (wpAny_loadPart')
theorem meets_enumT (l : Addr) (items : Array Value) (n : Nat) (dct : Option Addr) (sl : Array (Option Value)) :
    Meets (Builtin.«enumerate.__new__» ⟨[.type "enumerate", .ref l], []⟩) (fun _ R s => s.heap.get? l = some { cls := .type "tuple", dict := dct, data := .seq items n, slots := sl } ∧
      R (.ok (.ret (.ref (s.heap.push { cls := .type "tuple_iterator", data := .fields #[.ref l, .int 0 0] }).objs.size)))
        { s with heap := (s.heap.push { cls := .type "tuple_iterator", data := .fields #[.ref l, .int 0 0] }).push { cls := .type "enumerate", data := .fields #[.none, .bool false, .ref s.heap.objs.size, rawInt 0, .none, .none] } }) :=
  .of_wp fun prog w A R s h => by
    obtain ⟨hp, g, d, tk, os⟩ := s; obtain ⟨hl, h⟩ := h
    have hsub := sub_enumerate
    have hL : Heap.IsTuple (Shared.heap ⟨hp, g, d, tk, os⟩) l items := ⟨_, hl, rfl, n, rfl⟩
    wp_walk using wpAny_loadPart' hl
    refine wpAny_stack_any fun st => wpAny_pure ?_
    split
    · rename_i c _ _ _ _ _
      cases (c == Value.type "enumerate")
      · wp_walk using wpAny_loadPart' hl, wpAny_pyIter_tuple hL
        exact ⟨_, rfl, h⟩
      · wp_walk using wpAny_loadPart' hl, wpAny_pyIter_tuple hL
        exact ⟨_, rfl, h⟩
    · wp_walk using wpAny_loadPart' hl, wpAny_pyIter_tuple hL
      exact ⟨_, rfl, h⟩
theorem call_enumT {prog : Program} {w : World} {A : Around} {E : Value → Shared → Prop} {s : Shared} {l : Addr} {items : Array Value} {Q : Value → Shared → Prop} (hL : s.heap.IsTuple l items)
    (h : ∀ h', IsEnum h' (s.heap.objs.size + 1) s.heap.objs.size 0 .none → h'.IsTupleIter s.heap.objs.size l 0 → h'.objs.size = s.heap.objs.size + 2 →
      (∀ b o, s.heap.get? b = some o → h'.get? b = some o) → Q (.ref (s.heap.objs.size + 1)) { s with heap := h' }) :
    wpAny (model prog w) A (call (.type "enumerate") [.ref l]) Q E s := by
  obtain ⟨⟨c, dct, dt, sl⟩, hl, hc, n, hd⟩ := hL
  replace hc : c = .type "tuple" := hc
  replace hd : dt = .seq items n := hd
  subst hc hd
  refine callType_new F.called_enumerate (by decide) (F.typeCall_enumerate_1 _) (F.newCall_enumerate_1 _) (fun obj => F.args_object_init_2 obj _) F.entry_enumerate_new
    (meets_enumT l items n dct sl) ⟨hl, ?_⟩
  have hz : (s.heap.push { cls := .type "tuple_iterator", data := .fields #[.ref l, .int 0 0] }).objs.size = s.heap.objs.size + 1 := Heap.size_push ..
  show _ ∧ _
  rw [hz]
  have he : IsEnum ((s.heap.push { cls := .type "tuple_iterator", data := .fields #[.ref l, .int 0 0] }).push
      { cls := .type "enumerate", data := .fields #[.none, .bool false, .ref s.heap.objs.size, rawInt 0, .none, .none] }) (s.heap.objs.size + 1) s.heap.objs.size 0 .none := by
    have := Heap.get?_push_size (s.heap.push { cls := .type "tuple_iterator", data := .fields #[.ref l, .int 0 0] })
      (o := { cls := .type "enumerate", data := .fields #[.none, .bool false, .ref s.heap.objs.size, rawInt 0, .none, .none] }) rfl
    rw [hz] at this; exact this
  refine ⟨⟨_, he, rfl⟩, h _ he ⟨_, Heap.get?_push_of_some _ (Heap.get?_push_size _ rfl), rfl, rfl⟩ (by rw [Heap.size_push, hz]) fun b o x => Heap.get?_push_of_some _ (Heap.get?_push_of_some _ x)⟩
theorem turn_enumT {P : Program} {w : World} {K : PySem.W.Frag} {elts : List Expr} {kk : Nat} {tpos : Pos} (a e it : Addr) :
    Turn P w K (.Tuple elts kk tpos) (IteT K a) [e, it] e (fun i h => (∃ old, IsEnum h e it ((i : Nat) : Int) old) ∧ h.IsTupleIter it a i ∧ e ≠ it) where
  mem := by simp
  obj := fun i h st b hb => by
    obtain ⟨⟨old, he⟩, ⟨o, ho, hc, hd⟩, _⟩ := st
    have e' : b = e ∨ b = it := by simpa using hb
    rcases e' with z | z
    · rw [z]; exact ⟨_, he, fun v q => nomatch q⟩
    · rw [z]; exact ⟨o, ho, fun v q => by rw [hd] at q; cases q⟩
  keep := fun i h h' st k => let ⟨⟨old, he⟩, hi, hne⟩ := st; ⟨⟨old, k e (by simp) _ he⟩, hi.at fun o q => k it (by simp) o q, hne⟩
  item := by
    intro X hP hw hK hc i pins s σ H E I hf st hg
    subst hP hw hK
    obtain ⟨⟨old, he⟩, hit, hne⟩ := st
    obtain ⟨xs, x, hq, hx⟩ := hg
    obtain ⟨its, rv, p, hz⟩ := I.tuple hq
    obtain ⟨u, hu, ru⟩ := rv.get hx
    have hel : e < s.heap.objs.size := Heap.lt_size he
    have hil : it < s.heap.objs.size := by obtain ⟨_, q, _⟩ := hit; exact Heap.lt_size q
    have hit2 := hit
    obtain ⟨oi, hoi, hci, _⟩ := hit2
    have hta : a ≠ it := fun q => by
      obtain ⟨o, ho, hoc, _⟩ := p
      rw [q, hoi] at ho; cases ho
      rw [hci] at hoc; exact absurd (by injection hoc) (show ¬ ("tuple_iterator" = "tuple") by decide)
    have hte : e ≠ a := fun q => by
      obtain ⟨o, ho, hoc, _⟩ := p
      rw [← q, he] at ho; cases ho
      exact absurd (by injection hoc) (show ¬ ("enumerate" = "tuple") by decide)
    have hlt : i < its.toArray.size := by
      have := (List.getElem?_eq_some_iff.mp hu).1
      simpa using this
    refine wpAny_pyNext_enum_itemD (Draws.tuple (A := X.A.in1) (I.ok.hd hc) it a hta its.toArray) he ⟨hit, (show s.heap.IsTuple a its.toArray from p)⟩ hlt hne (by simp [hne, hte]) fun x' h' tk hPx ho hst hT hsz hk => ?_
    have ex : x' = u := by
      have : its[i]? = some x' := by simpa using hPx
      rw [hu] at this; exact (Option.some.inj this).symm
    subst ex
    refine ⟨_, rfl, wpAny_letOwnedTupleGo_enum (s := { s with heap := h', toks := tk + 1 }) ho fun h'' he' sb => ?_⟩
    have hT2 : h''.get? s.heap.objs.size = some { cls := .type "tuple", data := .seq #[.int i tk, x'] } := (sb.2 _ (Nat.ne_of_gt hel)).trans hT
    have new : ObjOk X.prog X.w (upd H s.heap.objs.size (.tup [.int (i : Nat), x])) h'' s.heap.objs.size (.tup [.int (i : Nat), x]) :=
      ⟨by show 2 ≤ sizeLine; decide, [.int i tk, x'], .cons ⟨_, rfl⟩ (.cons ru .nil), ⟨_, hT2, rfl, _, rfl⟩⟩
    have I1 : Inv X pins σ (upd H s.heap.objs.size (.tup [.int (i : Nat), x])) { s with heap := h'', toks := tk + 1 } :=
      I.turnedNew (ch := [e, it]) (fun b ob hb q => (sb.2 b (fun z => hb (by simp [z]))).trans (hk b ob (fun z => hb (by simp [z])) (fun z => hb (by simp [z])) q)) hf (Nat.le_refl _) new
    refine ⟨.ref s.heap.objs.size, _, I1, rfl, ⟨_, x, rfl, I.hok.fresh (Nat.le_refl _), rfl, fun ys hy => by rw [I.tuple_inj hy hq]; exact hx⟩, ⟨⟨x', ?_⟩, hst.1.at fun o q => (sb.2 it (Ne.symm hne)).trans q, hne⟩, fun b hb => ?_⟩
    · have e1 : ((i + 1 : Nat) : Int) = (i : Int) + 1 := by omega
      rw [e1]; exact he'
    · have hb' : b < s.heap.objs.size := by
        have e' : b = e ∨ b = it := by simpa using hb
        rcases e' with z | z
        · rw [z]; exact hel
        · rw [z]; exact hil
      rw [upd_ne (Nat.ne_of_lt hb')]
      exact (hf b hb).1
  done := by
    intro X hP hw hK hc i pins s σ H E I hf st hg
    subst hP hw hK
    obtain ⟨⟨old, he⟩, hit, hne⟩ := st
    obtain ⟨xs, hq, hx⟩ := hg
    obtain ⟨its, rv, p, hz⟩ := I.tuple hq
    obtain ⟨f0, f1, f2, f3, f4, f5⟩ := hf it (by simp)
    have hl := rv.length
    have hT : s.TypeIs (.ref e) "enumerate" := ⟨_, he, rfl⟩
    unfold pyNext
    refine wpAny_bind (wpAny_attempt (wpAny_callSpecial?_slot (name := Str.ofString "__next__") hT F.slot_enumerate_next
      (wpAny_call_entry F.slot_enumerate_next hT F.entry_enumerate_next ?_ (F.args_enumerate_next_1 _))))
    show wpAny _ _ (field (.ref e) 2 >>= _) _ _ _
    refine wpAny_bind (wpAny_field he rfl (x := .ref it) rfl ?_)
    refine wpAny_bind (wpAny_nextOf_tuple_end (A := X.A.in1) (I.ok.hd hc) hit (show s.heap.IsTuple a its.toArray from p) (by simp; omega) fun h' x he' hx' => ?_)
    obtain ⟨o, ho, hc⟩ := hx'
    refine wpAny_bind (wpAny_isInstance (T := "StopIteration") (b := true) ⟨o, ho, hc⟩ isSubtype_stop ?_)
    exact wpAny_pure ⟨rfl, I.turned (t' := s.toks) (fun b o hb q => he' b o hb q) f0 f1 f3 f4 f5⟩
  self := fun A i s Q E st h => let ⟨⟨_, he⟩, _⟩ := st; wpAny_pyIter_enum he h
def iEnumT (K : PySem.W.Frag) (ta : TA) : TI := fun σ H R => ta σ H fun vs H1 => ∃ a xs, vs = [.ref a] ∧ SqT K H1 a xs ∧ R (IteT K a) H1
theorem pi_enumT {X : Cx} {e : Expr} {ta : TA} {p pos tpos : Pos} {elts : List Expr} {kk : Nat} (hg : Gl X "enumerate") (hm : X.mg "enumerate" = none) (ha : PA X [e] ta) (hs : starEach [e] X.env = [(false, eval e X.env)]) :
    PI X (.Tuple elts kk tpos) (.Call (.Name "enumerate" p) [e] [] pos) (iEnumT X.K ta) := by
  refine ⟨fun pins s σ H R I h => ?_⟩
  refine Call_ (ld_blt I hg hm boot_enumerate (PyProof.Rows.callWith_type1 (thn (ha.run pos pins s σ H _ I h) fun us s1 ⟨vs, H1, I1, r1, q1⟩ => ?_) hs rfl))
  obtain ⟨a, xs, ex, hq, q⟩ := q1
  subst ex
  cases r1 with
  | cons r rr =>
    cases rr
    cases r
    obtain ⟨its, rv, p', hz⟩ := I1.tuple hq
    refine call_enumT (show s1.heap.IsTuple a its.toArray from p') fun h' he hit hsz hk => wpAny_pyIter_enum he ?_
    have I2 : Inv X pins σ H1 { s1 with heap := h' } := I1.kept (t' := s1.toks) hk
    refine ⟨s1.heap.objs.size + 1, [s1.heap.objs.size + 1, s1.heap.objs.size], _, _, H1, rfl, I2, turn_enumT a (s1.heap.objs.size + 1) s1.heap.objs.size, ⟨⟨.none, he⟩, hit, Nat.succ_ne_self _⟩, fun b hb => ?_, q⟩
    have e' : b = s1.heap.objs.size + 1 ∨ b = s1.heap.objs.size := by simpa using hb
    have hle : s1.heap.objs.size ≤ b := by
      rcases e' with z | z
      · rw [z]; exact Nat.le_add_right _ _
      · rw [z]; exact Nat.le_refl _
    exact I1.fpOk hle (I1.hok.fresh hle)
end Ev

set_option Elab.async false
set_option linter.all false
set_option maxRecDepth 100000
set_option maxHeartbeats 1000000
/-! zip of a list and a tuple: walked, and as a list. -/
namespace Ev
open PySem PySem.Spec PyProof.Rows L2 RZ
/-! ### walked -/
def ItzM (K : PySem.W.Frag) (a b : Addr) : It :=
  ⟨fun i H => ∃ (xs ys : List V) (x y : V), SqL K H a xs ∧ SqT K H b ys ∧ xs[i]? = some x ∧ ys[i]? = some y,
    fun i H v H' => ∃ T x y, v = .ref T ∧ H T = none ∧ H' = upd H T (.tup [x, y]) ∧ (∀ xs, SqL K H a xs → xs[i]? = some x) ∧ ∀ ys, SqT K H b ys → ys[i]? = some y,
    fun i H => ∃ xs ys : List V, SqL K H a xs ∧ SqT K H b ys ∧ i = min xs.length ys.length⟩
theorem sep_of {z TI TO i1 i2 a b : Addr} (D : ZipApart z TI TO i1 i2 a b) : ZipSep2 z TI TO i1 i2 [i1, a] [i2, b] := by
  constructor <;> simp [D.TIz, D.TOz, D.TITO, D.TIi1, D.TIi2, D.TOi1, D.TOi2, D.i1z.symm, D.i2z.symm, D.l1z.symm, D.l2z.symm, D.l1TO.symm, D.l2TO.symm, D.i12, D.i12.symm, D.l2i1.symm, D.l1i2.symm]
theorem turn_zipM {P : Program} {w : World} {K : PySem.W.Frag} {elts : List Expr} {kk : Nat} {tpos : Pos} {a b z TI TO i1 i2 : Addr} (D : ZipApart z TI TO i1 i2 a b) :
    Turn P w K (.Tuple elts kk tpos) (ItzM K a b) [z, TI, TO, i1, i2] z (fun i h => IsZip h z TI TO .none ∧ IsPair h TI (.ref i1) (.ref i2) ∧ (∃ x y, IsPair h TO x y) ∧ h.IsListIter i1 a i ∧ h.IsTupleIter i2 b i) where
  mem := by simp
  obj := fun i h st c hc => by
    obtain ⟨hz, hTI, ⟨x, y, hTO⟩, ⟨o1, e1, _, d1⟩, ⟨o2, e2, _, d2⟩⟩ := st
    have e' : c = z ∨ c = TI ∨ c = TO ∨ c = i1 ∨ c = i2 := by simpa using hc
    rcases e' with q | q | q | q | q <;> rw [q]
    · exact ⟨_, hz, fun v q => nomatch q⟩
    · exact ⟨_, hTI, fun v q => nomatch q⟩
    · exact ⟨_, hTO, fun v q => nomatch q⟩
    · exact ⟨o1, e1, fun v q => by rw [d1] at q; cases q⟩
    · exact ⟨o2, e2, fun v q => by rw [d2] at q; cases q⟩
  keep := fun i h h' st k => by
    obtain ⟨hz, hTI, ⟨x, y, hTO⟩, h1, h2⟩ := st
    exact ⟨k z (by simp) _ hz, k TI (by simp) _ hTI, ⟨x, y, k TO (by simp) _ hTO⟩, h1.at fun o q => k i1 (by simp) o q, h2.at fun o q => k i2 (by simp) o q⟩
  item := by
    intro X hP hw hK hc i pins s σ H E I hf st hg
    subst hP hw hK
    obtain ⟨hz, hTI, ⟨x0, y0, hTO⟩, h1, h2⟩ := st
    obtain ⟨xs, ys, x, y, hqx, hqy, hx, hy⟩ := hg
    obtain ⟨its, rv, p, _⟩ := I.list hqx
    obtain ⟨its2, rv2, p2, _⟩ := I.tuple hqy
    obtain ⟨u, hu, ru⟩ := rv.get hx
    obtain ⟨u2, hu2, ru2⟩ := rv2.get hy
    have hzl : z < s.heap.objs.size := Heap.lt_size hz
    have hi1 : i < its.toArray.size := by simpa using (List.getElem?_eq_some_iff.mp hu).1
    have hi2 : i < its2.toArray.size := by simpa using (List.getElem?_eq_some_iff.mp hu2).1
    refine wpAny_pyNext_zipD2_item (sep_of D) (Draws.list (A := X.A.in1) (I.ok.hd hc) i1 a D.l1i1 its.toArray) (Draws.tuple (A := X.A.in1) (I.ok.hd hc) i2 b D.l2i2 its2.toArray) hz hTI hTO ⟨h1, p.isList⟩ ⟨h2, p2⟩ hi1 hi2 fun x1 x2 h' tk y1 y2 z' TO' s1 s2 hT hsz hk => ?_
    have e1 : x1 = u := by
      have y1 : its[i]? = some x1 := by simpa using y1
      rw [hu] at y1
      exact (Option.some.inj y1).symm
    have e2 : x2 = u2 := by
      have y2 : its2[i]? = some x2 := by simpa using y2
      rw [hu2] at y2
      exact (Option.some.inj y2).symm
    subst e1 e2
    refine ⟨_, rfl, wpAny_letOwnedTupleGo_zip (s := { s with heap := h', toks := tk }) z' fun h'' z'' sb => ?_⟩
    have hT2 : h''.get? s.heap.objs.size = some { cls := .type "tuple", data := .seq #[x1, x2] } := (sb.2 _ (Nat.ne_of_gt hzl)).trans hT
    have new : ObjOk X.prog X.w (upd H s.heap.objs.size (.tup [x, y])) h'' s.heap.objs.size (.tup [x, y]) :=
      ⟨by show 2 ≤ sizeLine; decide, [x1, x2], .cons ru (.cons ru2 .nil), ⟨_, hT2, rfl, _, rfl⟩⟩
    have I1 : Inv X pins σ (upd H s.heap.objs.size (.tup [x, y])) { s with heap := h'', toks := tk } :=
      I.turnedNew (ch := [z, TI, TO, i1, i2]) (fun c o hb q => (sb.2 c (fun q' => hb (by simp [q']))).trans (hk c o (fun q' => hb (by simp [q'])) (fun q' => hb (by simp [q'])) (fun q' => hb (by simp [q'])) (fun q' => hb (by simp [q'])) q)) hf (Nat.le_refl _) new
    refine ⟨.ref s.heap.objs.size, _, I1, rfl, ⟨_, x, y, rfl, I.hok.fresh (Nat.le_refl _), rfl, fun l hl => by rw [I.list_inj hl hqx]; exact hx, fun l hl => by rw [I.tuple_inj hl hqy]; exact hy⟩, ⟨z'', ?_, ⟨x1, x2, ?_⟩, ?_, ?_⟩, fun c hcm => ?_⟩
    · exact (sb.2 _ D.TIz).trans (hk _ _ D.TIz D.TITO D.TIi1 D.TIi2 hTI)
    · exact (sb.2 _ D.TOz).trans TO'
    · exact s1.1.at fun o q => (sb.2 _ D.i1z).trans q
    · exact s2.1.at fun o q => (sb.2 _ D.i2z).trans q
    · have hlt : c < s.heap.objs.size := by
        have e' : c = z ∨ c = TI ∨ c = TO ∨ c = i1 ∨ c = i2 := by simpa using hcm
        rcases e' with q | q | q | q | q <;> rw [q]
        · exact hzl
        · exact Heap.lt_size hTI
        · exact Heap.lt_size hTO
        · obtain ⟨_, e1, _⟩ := h1; exact Heap.lt_size e1
        · obtain ⟨_, e2, _⟩ := h2; exact Heap.lt_size e2
      rw [upd_ne (Nat.ne_of_lt hlt)]
      exact (hf c hcm).1
  done := by
    intro X hP hw hK hc i pins s σ H E I hf st hg
    subst hP hw hK
    obtain ⟨hz, hTI, ⟨x0, y0, hTO⟩, h1, h2⟩ := st
    obtain ⟨xs, ys, hqx, hqy, hend⟩ := hg
    obtain ⟨its, rv, p, _⟩ := I.list hqx
    obtain ⟨its2, rv2, p2, _⟩ := I.tuple hqy
    have l1 := rv.length
    have l2 := rv2.length
    have n1 : its.toArray.size = its.length := by simp
    have n2 : its2.toArray.size = its2.length := by simp
    exact wpAny_pyNext_zipD2_end (sep_of D) (Draws.list (A := X.A.in1) (I.ok.hd hc) i1 a D.l1i1 its.toArray) (Draws.tuple (A := X.A.in1) (I.ok.hd hc) i2 b D.l2i2 its2.toArray) hz hTI hTO ⟨h1, p.isList⟩ ⟨h2, p2⟩ (by omega) (by omega) (by omega) fun h' tk hk =>
      ⟨rfl, I.turnedL (ch := [z, TI, TO, i1, i2]) (fun c o hb q => hk c o (fun q' => hb (by simp [q'])) (fun q' => hb (by simp [q'])) (fun q' => hb (by simp [q'])) (fun q' => hb (by simp [q'])) q) hf⟩
  self := fun A i s Q E st h => wpAny_pyIter_zip st.1 h
/-! ### it is made -/
abbrev zm1 (h : Heap) (l1 : Addr) : Heap := h.push { cls := .type "list_iterator", data := .fields #[.ref l1, .int 0 0] }
abbrev zm2 (h : Heap) (l1 l2 : Addr) : Heap := (zm1 h l1).push { cls := .type "tuple_iterator", data := .fields #[.ref l2, .int 0 0] }
abbrev zm3 (h : Heap) (l1 l2 : Addr) : Heap := (zm2 h l1 l2).push { cls := .type "tuple", data := .seq #[.ref h.objs.size, .ref (zm1 h l1).objs.size] }
abbrev zm4 (h : Heap) (l1 l2 : Addr) : Heap := (zm3 h l1 l2).push { cls := .type "tuple", data := .seq #[.none, .none] }
abbrev zm5 (h : Heap) (l1 l2 : Addr) : Heap := (zm4 h l1 l2).push { cls := .type "zip", data := .fields #[.none, .bool false, .bool false, .ref (zm2 h l1 l2).objs.size, .ref (zm3 h l1 l2).objs.size] }
theorem meets_zipM_new (l1 l2 : Addr) (xs ys : Array Value) :
    Meets (Builtin.«zip.__new__» ⟨[.type "zip", .ref l1, .ref l2], []⟩) (fun _ R s => s.heap.IsList l1 xs ∧ s.heap.IsTuple l2 ys ∧ R (.ok (.ret (.ref (zm4 s.heap l1 l2).objs.size))) { s with heap := zm5 s.heap l1 l2 }) :=
  .of_wp fun prog w A R s h => by
    obtain ⟨hp, g, d, tk, os⟩ := s
    obtain ⟨hl1, hl2, h⟩ := h
    have hsub := sub_zip
    have hL1 : Heap.IsList (Shared.heap ⟨hp, g, d, tk, os⟩) l1 xs := hl1
    have hL2 : Heap.IsTuple (Shared.heap ⟨zm1 hp l1, g, d, tk, os⟩) l2 ys := Heap.IsTuple.push hl2 _
    wp_walk using wpAny_pyIter_list hL1, wpAny_pyIter_tuple hL2
    exact ⟨_, rfl, h⟩
section
variable {prog : Program} {w : World} {A : Around} {E : Value → Shared → Prop} {s : Shared}
theorem call_zipM {l1 l2 : Addr} {xs ys : Array Value} {Q : Value → Shared → Prop} (hl1 : s.heap.IsList l1 xs) (hl2 : s.heap.IsTuple l2 ys)
    (h : ∀ h', IsZip h' (s.heap.objs.size + 4) (s.heap.objs.size + 2) (s.heap.objs.size + 3) .none → IsPair h' (s.heap.objs.size + 2) (.ref s.heap.objs.size) (.ref (s.heap.objs.size + 1)) → IsPair h' (s.heap.objs.size + 3) .none .none →
      h'.IsListIter s.heap.objs.size l1 0 → h'.IsTupleIter (s.heap.objs.size + 1) l2 0 → h'.objs.size = s.heap.objs.size + 5 → (∀ c o, s.heap.get? c = some o → h'.get? c = some o) → Q (.ref (s.heap.objs.size + 4)) { s with heap := h' }) :
    wpAny (model prog w) A (call (.type "zip") [.ref l1, .ref l2]) Q E s := by
  refine callType_new F.called_zip (by decide) (F.typeCall_zip_2 _ _) (F.newCall_zip_2 _ _) (fun obj => F.args_object_init_3 obj _ _) F.entry_zip_new (meets_zipM_new l1 l2 xs ys) ⟨hl1, hl2, ?_⟩
  have z1 : (zm1 s.heap l1).objs.size = s.heap.objs.size + 1 := Heap.size_push ..
  have z2 : (zm2 s.heap l1 l2).objs.size = s.heap.objs.size + 2 := by rw [Heap.size_push, z1]
  have z3 : (zm3 s.heap l1 l2).objs.size = s.heap.objs.size + 3 := by rw [Heap.size_push, z2]
  have z4 : (zm4 s.heap l1 l2).objs.size = s.heap.objs.size + 4 := by rw [Heap.size_push, z3]
  have z5 : (zm5 s.heap l1 l2).objs.size = s.heap.objs.size + 5 := by rw [Heap.size_push, z4]
  have up1 : ∀ {c o}, (zm4 s.heap l1 l2).get? c = some o → (zm5 s.heap l1 l2).get? c = some o := fun e => Heap.get?_push_of_some _ e
  have up2 : ∀ {c o}, (zm3 s.heap l1 l2).get? c = some o → (zm5 s.heap l1 l2).get? c = some o := fun e => up1 (Heap.get?_push_of_some _ e)
  have up3 : ∀ {c o}, (zm2 s.heap l1 l2).get? c = some o → (zm5 s.heap l1 l2).get? c = some o := fun e => up2 (Heap.get?_push_of_some _ e)
  have up4 : ∀ {c o}, (zm1 s.heap l1).get? c = some o → (zm5 s.heap l1 l2).get? c = some o := fun e => up3 (Heap.get?_push_of_some _ e)
  have up5 : ∀ {c o}, s.heap.get? c = some o → (zm5 s.heap l1 l2).get? c = some o := fun e => up4 (Heap.get?_push_of_some _ e)
  have g5 : (zm5 s.heap l1 l2).get? (zm4 s.heap l1 l2).objs.size = some _ := Heap.get?_push_size _ rfl
  have g4 : (zm5 s.heap l1 l2).get? (zm3 s.heap l1 l2).objs.size = some _ := up1 (Heap.get?_push_size _ rfl)
  have g3 : (zm5 s.heap l1 l2).get? (zm2 s.heap l1 l2).objs.size = some _ := up2 (Heap.get?_push_size _ rfl)
  have g2 : (zm5 s.heap l1 l2).get? (zm1 s.heap l1).objs.size = some _ := up3 (Heap.get?_push_size _ rfl)
  have g1 : (zm5 s.heap l1 l2).get? s.heap.objs.size = some _ := up4 (Heap.get?_push_size _ rfl)
  show _ ∧ _
  rw [z2, z3, z4] at g5
  rw [z1, z2] at g3
  rw [z3] at g4
  rw [z1] at g2
  rw [z4]
  exact ⟨⟨_, g5, rfl⟩, h _ g5 g3 g4 ⟨_, g1, rfl, rfl⟩ ⟨_, g2, rfl, rfl⟩ z5 fun c o x => up5 x⟩
/-! ### the next pair while the last one is still there -/
variable {z TI TO T i1 i2 : Addr} {fp1 fp2 : List Addr} {n1 n2 i : Nat} {P1 P2 : Nat → Value → Prop} {St1 St2 : Nat → Heap → Prop} {f : Bool} {oT : Obj}
theorem zipH_item {Q : Value → Shared → Prop} (S : ZipSep2 z TI TO i1 i2 fp1 fp2) (D1 : Draws prog w A i1 fp1 n1 P1 St1) (D2 : Draws prog w A i2 fp2 n2 P2 St2) (hz : IsZipHeld s.heap z TI TO T f) (hT : s.heap.get? T = some oT) (hTI : IsPair s.heap TI (.ref i1) (.ref i2)) (st1 : St1 i s.heap) (st2 : St2 i s.heap) (h1 : i < n1) (h2 : i < n2)
    (hQ : ∀ x1 x2 h' tk, P1 i x1 → P2 i x2 → IsZipHeld h' z TI TO T true → St1 (i + 1) h' → St2 (i + 1) h' → IsPair h' s.heap.objs.size x1 x2 → h'.objs.size = s.heap.objs.size + 1 → (∀ c o, c ≠ z → c ≠ i1 → c ≠ i2 → s.heap.get? c = some o → h'.get? c = some o) → Q (.ref s.heap.objs.size) { s with heap := h', toks := tk }) :
    wpAny (model prog w) A (Builtin.«zip.__next__» ⟨[.ref z], []⟩) (fun fin s' => ∃ v, fin = .done (.ret v) ∧ Q v s') E s := by
  obtain ⟨hp, g, d, tk0, os⟩ := s
  show wpAny _ _ (field (.ref z) 2 >>= _) _ _ _
  refine wpAny_bind (wpAny_field hz rfl (x := .bool false) rfl ?_)
  show wpAny _ _ (field (.ref z) 3 >>= _) _ _ _
  refine wpAny_bind (wpAny_field hz rfl (x := .ref TI) rfl ?_)
  refine wpAny_bind (wpAny_seqItems hTI rfl ?_)
  show wpAny _ _ (Builtin.SmallTypes.ownedTupleIsFree (.ref z) >>= _) _ _ _
  refine wpAny_bind (wpAny_tupleHeld_zip hz hT fun ha za sa => ?_)
  simp only [Bool.false_eq_true, if_false]
  refine wpAny_bind ?_
  rw [← Array.forIn_toList]
  simp only [List.forIn_cons, List.forIn_nil]
  refine wpAny_bind (wpAny_bind (wpAny_holding ?_))
  show wpAny _ _ (Builtin.SmallTypes.nextOf (.ref i1) >>= _) _ _ _
  have st1a : St1 i ha := D1.over st1 sa S.zf1
  have st2a : St2 i ha := D2.over st2 sa S.zf2
  refine wpAny_bind (D1.item i ⟨ha, g, d, tk0, os⟩ _ _ h1 st1a fun x1 hb tb y1 s1b sb => wpAny_pure ?_)
  replace sb : Heap.SameBut i1 ha hb := sb
  refine wpAny_pure ?_
  refine wpAny_bind (wpAny_bind (wpAny_holding ?_))
  show wpAny _ _ (Builtin.SmallTypes.nextOf (.ref i2) >>= _) _ _ _
  have st2b : St2 i hb := D2.over st2a sb S.sep1_2
  refine wpAny_bind (D2.item i ⟨hb, g, d, tb, os⟩ _ _ h2 st2b fun x2 hc tc y2 s2c sc => wpAny_pure ?_)
  replace sc : Heap.SameBut i2 hb hc := sc
  refine wpAny_pure (wpAny_pure ?_)
  show wpAny _ _ (newTuple [x1, x2] >>= _) _ _ _
  refine wpAny_bind (wpAny_newTuple ?_)
  have hsz : hc.objs.size = hp.objs.size := by rw [sc.1, sb.1, sa.1]
  have zc : IsZipHeld hc z TI TO T true := sc.extBut _ _ S.zi2 (sb.extBut _ _ S.zi1 za)
  have hk : ∀ c o, c ≠ z → c ≠ i1 → c ≠ i2 → hp.get? c = some o → hc.get? c = some o := fun c o c1 c2 c3 e => sc.extBut _ _ c3 (sb.extBut _ _ c2 (sa.extBut _ _ c1 e))
  have s1c : St1 (i + 1) hc := D1.over s1b sc S.sep2_1
  refine wpAny_pure ⟨_, rfl, ?_⟩
  show Q (.ref hc.objs.size) _
  have pp : IsPair (hc.push { cls := .type "tuple", data := .seq #[x1, x2] }) hc.objs.size x1 x2 := Heap.get?_push_size _ rfl
  have pz : (hc.push { cls := .type "tuple", data := .seq #[x1, x2] }).objs.size = hc.objs.size + 1 := Heap.size_push ..
  rw [hsz] at pp pz ⊢
  exact hQ x1 x2 _ tc y1 y2 (Heap.get?_push_of_some _ zc) (D1.frame _ _ _ s1c fun b _ o e => Heap.get?_push_of_some _ e) (D2.frame _ _ _ s2c fun b _ o e => Heap.get?_push_of_some _ e) pp pz fun c o c1 c2 c3 e => Heap.get?_push_of_some _ (hk c o c1 c2 c3 e)
theorem zipH_end {Q : Fin → Shared → Prop} (S : ZipSep2 z TI TO i1 i2 fp1 fp2) (D1 : Draws prog w A i1 fp1 n1 P1 St1) (D2 : Draws prog w A i2 fp2 n2 P2 St2) (hz : IsZipHeld s.heap z TI TO T f) (hT : s.heap.get? T = some oT) (hTI : IsPair s.heap TI (.ref i1) (.ref i2)) (st1 : St1 i s.heap) (st2 : St2 i s.heap) (h1 : i ≤ n1) (h2 : i ≤ n2) (hend : i = n1 ∨ i = n2)
    (hE : ∀ h' e tk, (∀ c o, c ≠ z → c ≠ i1 → c ≠ i2 → s.heap.get? c = some o → h'.get? c = some o) → (∃ o, h'.get? e = some o ∧ o.cls = .type "StopIteration") → E (.ref e) { s with heap := h', toks := tk }) :
    wpAny (model prog w) A (Builtin.«zip.__next__» ⟨[.ref z], []⟩) Q E s := by
  obtain ⟨hp, g, d, tk0, os⟩ := s
  show wpAny _ _ (field (.ref z) 2 >>= _) _ _ _
  refine wpAny_bind (wpAny_field hz rfl (x := .bool false) rfl ?_)
  show wpAny _ _ (field (.ref z) 3 >>= _) _ _ _
  refine wpAny_bind (wpAny_field hz rfl (x := .ref TI) rfl ?_)
  refine wpAny_bind (wpAny_seqItems hTI rfl ?_)
  show wpAny _ _ (Builtin.SmallTypes.ownedTupleIsFree (.ref z) >>= _) _ _ _
  refine wpAny_bind (wpAny_tupleHeld_zip hz hT fun ha za sa => ?_)
  simp only [Bool.false_eq_true, if_false]
  refine wpAny_bind ?_
  rw [← Array.forIn_toList]
  simp only [List.forIn_cons, List.forIn_nil]
  refine wpAny_bind (wpAny_bind (wpAny_holding ?_))
  show wpAny _ _ (Builtin.SmallTypes.nextOf (.ref i1) >>= _) _ _ _
  have st1a : St1 i ha := D1.over st1 sa S.zf1
  have st2a : St2 i ha := D2.over st2 sa S.zf2
  by_cases c1 : i = n1
  · subst c1
    refine wpAny_bind (D1.done ⟨ha, g, d, tk0, os⟩ _ _ st1a fun hb e sb he => ?_)
    exact hE hb e tk0 (fun c o c1 c2 _ x => sb _ _ c2 (sa.extBut _ _ c1 x)) he
  · have c2 : i = n2 := by omega
    refine wpAny_bind (D1.item i ⟨ha, g, d, tk0, os⟩ _ _ (by omega) st1a fun x1 hb tb y1 s1b sb => wpAny_pure ?_)
    replace sb : Heap.SameBut i1 ha hb := sb
    refine wpAny_pure ?_
    refine wpAny_bind (wpAny_bind (wpAny_holding ?_))
    show wpAny _ _ (Builtin.SmallTypes.nextOf (.ref i2) >>= _) _ _ _
    have st2b : St2 i hb := D2.over st2a sb S.sep1_2
    subst c2
    refine wpAny_bind (D2.done ⟨hb, g, d, tb, os⟩ _ _ st2b fun hc e sc he => ?_)
    exact hE hc e tb (fun c o c1 c2 c3 x => sc _ _ c3 (sb.extBut _ _ c2 (sa.extBut _ _ c1 x))) he
theorem pyNext_zipH_item {Q : Option Value → Shared → Prop} (S : ZipSep2 z TI TO i1 i2 fp1 fp2) (D1 : Draws prog w A.in1 i1 fp1 n1 P1 St1) (D2 : Draws prog w A.in1 i2 fp2 n2 P2 St2) (hz : IsZipHeld s.heap z TI TO T f) (hT : s.heap.get? T = some oT) (hTI : IsPair s.heap TI (.ref i1) (.ref i2)) (st1 : St1 i s.heap) (st2 : St2 i s.heap) (h1 : i < n1) (h2 : i < n2)
    (hQ : ∀ x1 x2 h' tk, P1 i x1 → P2 i x2 → IsZipHeld h' z TI TO T true → St1 (i + 1) h' → St2 (i + 1) h' → IsPair h' s.heap.objs.size x1 x2 → h'.objs.size = s.heap.objs.size + 1 → (∀ c o, c ≠ z → c ≠ i1 → c ≠ i2 → s.heap.get? c = some o → h'.get? c = some o) → Q (some (.ref s.heap.objs.size)) { s with heap := h', toks := tk }) :
    wpAny (model prog w) A (pyNext (.ref z)) Q E s := by
  have hTy : s.TypeIs (.ref z) "zip" := ⟨_, hz, rfl⟩
  unfold pyNext
  exact wpAny_bind (wpAny_attempt (wpAny_callSpecial?_slot (name := Str.ofString "__next__") hTy F.slot_zip_next (wpAny_call_entry F.slot_zip_next hTy F.entry_zip_next
      (zipH_item S D1 D2 hz hT hTI st1 st2 h1 h2 fun x1 x2 h' tk y1 y2 a1 a2 a3 a4 a5 a6 => wpAny_pure (hQ x1 x2 h' tk y1 y2 a1 a2 a3 a4 a5 a6)) (F.args_zip_next_1 _))))
theorem pyNext_zipH_end {Q : Option Value → Shared → Prop} (S : ZipSep2 z TI TO i1 i2 fp1 fp2) (D1 : Draws prog w A.in1 i1 fp1 n1 P1 St1) (D2 : Draws prog w A.in1 i2 fp2 n2 P2 St2) (hz : IsZipHeld s.heap z TI TO T f) (hT : s.heap.get? T = some oT) (hTI : IsPair s.heap TI (.ref i1) (.ref i2)) (st1 : St1 i s.heap) (st2 : St2 i s.heap) (h1 : i ≤ n1) (h2 : i ≤ n2) (hend : i = n1 ∨ i = n2)
    (hQ : ∀ h' tk, (∀ c o, c ≠ z → c ≠ i1 → c ≠ i2 → s.heap.get? c = some o → h'.get? c = some o) → Q none { s with heap := h', toks := tk }) : wpAny (model prog w) A (pyNext (.ref z)) Q E s := by
  have hTy : s.TypeIs (.ref z) "zip" := ⟨_, hz, rfl⟩
  unfold pyNext
  refine wpAny_bind (wpAny_attempt (wpAny_callSpecial?_slot (name := Str.ofString "__next__") hTy F.slot_zip_next (wpAny_call_entry F.slot_zip_next hTy F.entry_zip_next
      (zipH_end S D1 D2 hz hT hTI st1 st2 h1 h2 hend fun h' e tk hk he => ?_) (F.args_zip_next_1 _))))
  obtain ⟨o, ho, hc⟩ := he
  refine wpAny_bind (wpAny_isInstance (T := "StopIteration") (b := true) ⟨o, ho, hc⟩ isSubtype_stop ?_)
  exact wpAny_pure (hQ _ _ hk)
end
end Ev

set_option Elab.async false
set_option linter.all false
set_option maxRecDepth 100000
set_option maxHeartbeats 1000000
/-! list(zip(..)) of a list and a tuple. -/
namespace Ev
open PySem PySem.Spec PyProof.Rows L2 RZ
theorem zip_no_len : typeLookup (.type "zip") "__len__" = pure none := by
  rw [typeLookup_type, builtinLookup_eq_fast]
  kernel_rfl
theorem zip_no_hint : typeLookup (.type "zip") "__length_hint__" = pure none := by
  rw [typeLookup_type, builtinLookup_eq_fast]
  kernel_rfl
/-- the pairs that were made -/
structure ZG (P1 P2 : Nat → Value → Prop) (lo : Addr) (h : Heap) (as : List Addr) : Prop where
  rise : as.Pairwise (· < ·)
  above : ∀ a ∈ as, lo < a
  pairs : ∀ (j : Nat) (a : Addr), as[j]? = some a → ∃ x y, P1 j x ∧ P2 j y ∧ h.get? a = some { cls := .type "tuple", data := .seq #[x, y] }
/-- the zip at i -/
def ZSt (z TI TO i1 i2 S : Addr) (St1 St2 : Nat → Heap → Prop) (i : Nat) (h : Heap) : Prop := IsPair h TI (.ref i1) (.ref i2) ∧ St1 i h ∧ St2 i h ∧
  ((IsZip h z TI TO .none ∧ ∃ a b, IsPair h TO a b) ∨ ∃ (T : Addr) (f : Bool) (oT : Obj), IsZipHeld h z TI TO T f ∧ h.get? T = some oT ∧ T ≠ z ∧ T ≠ TO ∧ T ≠ i1 ∧ T ≠ i2 ∧ T ≠ S)
section
variable {prog : Program} {w : World} {A : Around} {E : Value → Shared → Prop} {s : Shared} {z TI TO i1 i2 S : Addr} {fp1 fp2 : List Addr} {n1 n2 i : Nat} {P1 P2 : Nat → Value → Prop} {St1 St2 : Nat → Heap → Prop}
/-- S lies apart, behind all of it -/
structure ZAp (z TI TO i1 i2 S : Addr) (fp1 fp2 : List Addr) : Prop where
  z : z < S
  TI : TI < S
  TO : TO < S
  i1 : i1 < S
  i2 : i2 < S
  f1 : ∀ b ∈ fp1, b < S
  f2 : ∀ b ∈ fp2, b < S
theorem ZSt.keep {h h' : Heap} (D1 : Draws prog w A i1 fp1 n1 P1 St1) (D2 : Draws prog w A i2 fp2 n2 P2 St2) (a : ZAp z TI TO i1 i2 S fp1 fp2) (st : ZSt z TI TO i1 i2 S St1 St2 i h) (k : ∀ b o, b ≠ S → h.get? b = some o → h'.get? b = some o) : ZSt z TI TO i1 i2 S St1 St2 i h' := by
  obtain ⟨t1, t2, t3, t4⟩ := st
  refine ⟨k _ _ (Nat.ne_of_lt a.TI) t1, D1.frame _ _ _ t2 fun b hb o e => k b o (Nat.ne_of_lt (a.f1 b hb)) e, D2.frame _ _ _ t3 fun b hb o e => k b o (Nat.ne_of_lt (a.f2 b hb)) e, ?_⟩
  rcases t4 with ⟨t4, x, y, t5⟩ | ⟨T, f, oT, t4, t5, q⟩
  · exact .inl ⟨k _ _ (Nat.ne_of_lt a.z) t4, x, y, k _ _ (Nat.ne_of_lt a.TO) t5⟩
  · exact .inr ⟨T, f, oT, k _ _ (Nat.ne_of_lt a.z) t4, k _ _ q.2.2.2.2 t5, q⟩
theorem zl_item {Q : Option Value → Shared → Prop} (Z : ZipSep2 z TI TO i1 i2 fp1 fp2) (D1 : Draws prog w A.in1 i1 fp1 n1 P1 St1) (D2 : Draws prog w A.in1 i2 fp2 n2 P2 St2) (st : ZSt z TI TO i1 i2 S St1 St2 i s.heap) (hS : S < s.heap.objs.size) (a : ZAp z TI TO i1 i2 S fp1 fp2) (h1 : i < n1) (h2 : i < n2)
    (hQ : ∀ x1 x2 h' tk, P1 i x1 → P2 i x2 → ZSt z TI TO i1 i2 S St1 St2 (i + 1) h' → IsPair h' s.heap.objs.size x1 x2 → h'.objs.size = s.heap.objs.size + 1 → (∀ c o, c ≠ z → c ≠ TO → c ≠ i1 → c ≠ i2 → s.heap.get? c = some o → h'.get? c = some o) → Q (some (.ref s.heap.objs.size)) { s with heap := h', toks := tk }) :
    wpAny (model prog w) A (pyNext (.ref z)) Q E s := by
  obtain ⟨t1, t2, t3, t4⟩ := st
  have ne : ∀ {b}, b < S → s.heap.objs.size ≠ b := fun h => Nat.ne_of_gt (Nat.lt_trans h hS)
  rcases t4 with ⟨t4, x, y, t5⟩ | ⟨T, f, oT, t4, t5, q1, q2, q3, q4, q5⟩
  · refine wpAny_pyNext_zipD2_item Z D1 D2 t4 t1 t5 t2 t3 h1 h2 fun x1 x2 h' tk y1 y2 z1 z2 s1 s2 hT hsz hk => ?_
    exact hQ x1 x2 h' tk y1 y2 ⟨hk _ _ Z.TIz Z.TITO Z.TIi1 Z.TIi2 t1, s1, s2, .inr ⟨_, false, _, z1, hT, ne a.z, ne a.TO, ne a.i1, ne a.i2, Nat.ne_of_gt hS⟩⟩ hT hsz hk
  · refine pyNext_zipH_item Z D1 D2 t4 t5 t1 t2 t3 h1 h2 fun x1 x2 h' tk y1 y2 z1 s1 s2 hT hsz hk => ?_
    exact hQ x1 x2 h' tk y1 y2 ⟨hk _ _ Z.TIz Z.TIi1 Z.TIi2 t1, s1, s2, .inr ⟨T, true, oT, z1, hk _ _ q1 q3 q4 t5, q1, q2, q3, q4, q5⟩⟩ hT hsz fun c o c1 c2 c3 c4 e => hk c o c1 c3 c4 e
theorem zl_done {Q : Option Value → Shared → Prop} (Z : ZipSep2 z TI TO i1 i2 fp1 fp2) (D1 : Draws prog w A.in1 i1 fp1 n1 P1 St1) (D2 : Draws prog w A.in1 i2 fp2 n2 P2 St2) (st : ZSt z TI TO i1 i2 S St1 St2 i s.heap) (hi : i = min n1 n2)
    (hQ : ∀ h' tk, (∀ c o, c ≠ z → c ≠ TO → c ≠ i1 → c ≠ i2 → s.heap.get? c = some o → h'.get? c = some o) → Q none { s with heap := h', toks := tk }) : wpAny (model prog w) A (pyNext (.ref z)) Q E s := by
  obtain ⟨t1, t2, t3, t4⟩ := st
  rcases t4 with ⟨t4, x, y, t5⟩ | ⟨T, f, oT, t4, t5, _⟩
  · exact wpAny_pyNext_zipD2_end Z D1 D2 t4 t1 t5 t2 t3 (by omega) (by omega) (by omega) hQ
  · exact pyNext_zipH_end Z D1 D2 t4 t5 t1 t2 t3 (by omega) (by omega) (by omega) fun h' tk hk => hQ h' tk fun c o c1 c2 c3 c4 e => hk c o c1 c3 c4 e
end
section
variable {prog : Program} {w : World} {A : Around} {s : Shared} {R : Result → Shared → Prop} {z TI TO i1 i2 S : Addr} {fp1 fp2 : List Addr} {n1 n2 : Nat} {P1 P2 : Nat → Value → Prop} {St1 St2 : Nat → Heap → Prop}
theorem zl_loop (Z : ZipSep2 z TI TO i1 i2 fp1 fp2) (D1 : Draws prog w A.in1.in1 i1 fp1 n1 P1 St1) (D2 : Draws prog w A.in1.in1 i2 fp2 n2 P2 St2) (a : ZAp z TI TO i1 i2 S fp1 fp2) (hn : min n1 n2 ≤ sizeLine) (res : Value) {hb : Heap}
    (hR : ∀ h' tk acc c as, (∀ b o, b ≠ S → b ≠ z → b ≠ TO → b ≠ i1 → b ≠ i2 → hb.get? b = some o → h'.get? b = some o) → h'.get? S = some { cls := .type "list", dict := none, data := .seq acc c, slots := #[] } → as.length = min n1 n2 → ZG P1 P2 S h' as → acc.toList = as.map Value.ref → R (.ok (.ret res)) { s with heap := h', toks := tk }) :
    ∀ (k i : Nat) (h : Heap) (tk c : Nat) (acc : Array Value) (as : List Addr), min n1 n2 - i = k → i ≤ min n1 n2 → ZSt z TI TO i1 i2 S St1 St2 i h → (∀ b o, b ≠ S → b ≠ z → b ≠ TO → b ≠ i1 → b ≠ i2 → hb.get? b = some o → h.get? b = some o) →
      h.get? S = some { cls := .type "list", dict := none, data := .seq acc c, slots := #[] } → acc.toList = as.map Value.ref → as.length = i → ZG P1 P2 S h as →
      codeAny (model prog w) A (.builtin "list.extend.loop" ⟨[.ref S, .ref z, res], []⟩) R { s with heap := h, toks := tk } := by
  have neS : ∀ {b}, b < S → S ≠ b := fun h => Nat.ne_of_gt h
  intro k
  induction k with
  | zero =>
    intro i h tk c acc as hk hi st hkeep hS hacc hal hG
    refine codeAny_builtin F.entry_extend_loop ?_
    rw [Around.under_plainId F.plain_extend_loop _]
    show wpAny _ A.in1 (pyNext (.ref z) >>= _) _ _ _
    refine wpAny_bind (zl_done (s := { s with heap := h, toks := tk }) (A := A.in1) Z D1 D2 st (by omega) fun h' tk' he => ?_)
    refine wpAny_pure (hR h' tk' acc c as (fun b o q1 q2 q3 q4 q5 e => he b o q2 q3 q4 q5 (hkeep b o q1 q2 q3 q4 q5 e)) (he S _ (neS a.z) (neS a.TO) (neS a.i1) (neS a.i2) hS) (by omega) ⟨hG.rise, hG.above, fun j b hj => ?_⟩ hacc)
    obtain ⟨x, y, z1, z2, z3⟩ := hG.pairs j b hj
    have hbS := hG.above b (List.mem_of_getElem? hj)
    have gt : ∀ {d}, d < S → b ≠ d := fun q => Nat.ne_of_gt (Nat.lt_trans q hbS)
    exact ⟨x, y, z1, z2, he b _ (gt a.z) (gt a.TO) (gt a.i1) (gt a.i2) z3⟩
  | succ k ih =>
    intro i h tk c acc as hk hi st hkeep hS hacc hal hG
    have hsz : acc.size = i := by rw [← Array.length_toList, hacc, List.length_map, hal]
    have hSl : S < h.objs.size := Heap.lt_size hS
    refine codeAny_builtin F.entry_extend_loop ?_
    rw [Around.under_plainId F.plain_extend_loop _]
    show wpAny _ A.in1 (pyNext (.ref z) >>= _) _ _ _
    refine wpAny_bind (zl_item (s := { s with heap := h, toks := tk }) (A := A.in1) Z D1 D2 st hSl a (by omega) (by omega) fun x1 x2 h' tk' y1 y2 st' ht hz hkp => ?_)
    dsimp only at ht hz hkp ⊢
    have hS' := hkp S _ (neS a.z) (neS a.TO) (neS a.i1) (neS a.i2) hS
    have up : ∀ b o, b ≠ S → h'.get? b = some o → (h'.update S (Obj.mapSeq (·.push (Value.ref h.objs.size)))).get? b = some o := fun b o hb e => (Heap.get?_update_other _ _ (Ne.symm hb)).trans e
    show wpAny _ A.in1 (updateSeq S (·.push (Value.ref h.objs.size)) >>= _) _ _ _
    refine wpAny_bind ?_
    refine wpAny_updateSeq hS' rfl (wpAny_pure ⟨plainId_quiet F.plain_extend_loop _, ih (i + 1) _ tk' _ (acc.push (Value.ref h.objs.size)) (as ++ [h.objs.size]) (by omega) (by omega) (st'.keep D1 D2 a up)
      (fun b o q1 q2 q3 q4 q5 e => up b o q1 (hkp b o q2 q3 q4 q5 (hkeep b o q1 q2 q3 q4 q5 e))) (Heap.get?_update_self _ hS' rfl) (by rw [Array.toList_push, hacc, List.map_append]; rfl) (by rw [List.length_append, hal]; rfl) ⟨?_, ?_, ?_⟩⟩) (by rw [hsz]; omega) (by show (acc.push (Value.ref h.objs.size)).size ≤ sizeLine + 1; rw [Array.size_push, hsz]; omega)
    · refine List.pairwise_append.mpr ⟨hG.rise, List.pairwise_singleton _ _, fun b hb d hd => ?_⟩
      rw [List.mem_singleton.mp hd]
      obtain ⟨j, hj⟩ := List.mem_iff_getElem?.mp hb
      obtain ⟨_, _, _, _, e⟩ := hG.pairs j b hj
      exact Heap.lt_size e
    · intro b hb
      rcases List.mem_append.mp hb with hb | hb
      · exact hG.above b hb
      · rw [List.mem_singleton.mp hb]; exact hSl
    · intro j b hj
      rcases Nat.lt_trichotomy j as.length with q | q | q
      · rw [List.getElem?_append_left q] at hj
        obtain ⟨x, y, z1, z2, z3⟩ := hG.pairs j b hj
        have hbS := hG.above b (List.mem_of_getElem? hj)
        have gt : ∀ {d}, d < S → b ≠ d := fun q => Nat.ne_of_gt (Nat.lt_trans q hbS)
        exact ⟨x, y, z1, z2, up b _ (Nat.ne_of_gt hbS) (hkp b _ (gt a.z) (gt a.TO) (gt a.i1) (gt a.i2) z3)⟩
      · subst q
        have hb : h.objs.size = b := by simpa using hj
        subst hb
        rw [hal]
        exact ⟨x1, x2, y1, y2, up _ _ (Nat.ne_of_gt hSl) ht⟩
      · have hnone : (as ++ [h.objs.size])[j]? = none := List.getElem?_eq_none (by rw [List.length_append, List.length_singleton]; omega)
        rw [hnone] at hj; cases hj
theorem zl_extend (Z : ZipSep2 z TI TO i1 i2 fp1 fp2) (D1 : Draws prog w A.in1.in1 i1 fp1 n1 P1 St1) (D2 : Draws prog w A.in1.in1 i2 fp2 n2 P2 St2) (a : ZAp z TI TO i1 i2 S fp1 fp2) (hn : min n1 n2 ≤ sizeLine) (res : Value) (c₀ : Nat) (st : ZSt z TI TO i1 i2 S St1 St2 0 s.heap) (hz : IsZip s.heap z TI TO .none)
    (hS : s.heap.get? S = some { cls := .type "list", data := .seq #[] c₀ })
    (hR : ∀ h' tk acc c as, (∀ b o, b ≠ S → b ≠ z → b ≠ TO → b ≠ i1 → b ≠ i2 → s.heap.get? b = some o → h'.get? b = some o) → h'.get? S = some { cls := .type "list", dict := none, data := .seq acc c, slots := #[] } → as.length = min n1 n2 → ZG P1 P2 S h' as → acc.toList = as.map Value.ref → R (.ok (.ret res)) { s with heap := h', toks := tk }) :
    wpAny (model prog w) A.in1 (Builtin.List.listExtendWith (.ref S) (.ref z) res)
      (fun fin s' => match fin with | .done f => R (.ok f) s' | .again c' => c'.quiet = true ∧ codeAny (model prog w) A c' R s') (fun e s' => R (.error e) s') s := by
  have hT : ∀ {h : Heap}, IsZip h z TI TO .none → ({ s with heap := h } : Shared).TypeIs (.ref z) "zip" := fun e => ⟨_, e, rfl⟩
  have hSz : S ≠ z := Nat.ne_of_gt a.z
  unfold Builtin.List.listExtendWith
  refine wpAny_bind (wpAny_typeOf (T := "zip") (hT hz) ?_)
  have h1 : Builtin.List.listSameRef (.ref S) (.ref z) = false := by simp [Builtin.List.listSameRef, hSz]
  have h2 : (Value.type "zip" == Value.type "list") = false := by decide
  have h3 : (Value.type "zip" == Value.type "tuple") = false := by decide
  simp only [h1, h2, h3, Bool.or_false, Bool.false_eq_true, if_false]
  refine wpAny_bind (wpAny_pyIter_zip hz ?_)
  refine wpAny_bind (wpAny_holding ?_)
  unfold Builtin.List.listLengthHint
  refine wpAny_bind (wpAny_specialOf (hT hz) zip_no_len ?_)
  show wpAny _ A.in1 (specialOf (Value.ref z) (Str.ofString "__length_hint__") >>= _) _ _ _
  refine wpAny_bind (wpAny_specialOf (hT hz) zip_no_hint ?_)
  refine wpAny_pure ?_
  show wpAny _ A.in1 (rule "list.extend.makes-room" >>= fun _ => Builtin.List.listTouch (.ref S) >>= fun _ => again (.builtin "list.extend.loop" ⟨[.ref S, .ref z, res], []⟩)) _ _ _
  refine wpAny_bind (wpAny_rule ?_)
  refine wpAny_bind ?_
  show wpAny _ A.in1 (updateSeq S (·.push .none) >>= fun _ => updateSeq S (·.pop)) _ _ _
  refine wpAny_bind (wpAny_updateSeq hS rfl ?_)
  have hS2 := Heap.get?_update_self (Obj.mapSeq (·.push Value.none)) hS rfl
  refine wpAny_updateSeq (hz := by seq_fits) hS2 rfl ?_
  have hS3 := Heap.get?_update_self (Obj.mapSeq (·.pop)) hS2 rfl
  have oth : ∀ b o, b ≠ S → s.heap.get? b = some o → ((s.heap.update S (Obj.mapSeq (·.push Value.none))).update S (Obj.mapSeq (·.pop))).get? b = some o :=
    fun b o hb e => (Heap.get?_update_other _ _ (Ne.symm hb)).trans ((Heap.get?_update_other _ _ (Ne.symm hb)).trans e)
  refine wpAny_pure ⟨plainId_quiet F.plain_extend_loop _, zl_loop (s := s) (hb := s.heap) Z D1 D2 a hn res hR _ 0 _ s.toks _ #[] [] (Nat.sub_zero _) (Nat.zero_le _) (st.keep D1 D2 a oth) (fun b o q1 _ _ _ _ e => oth b o q1 e) hS3 rfl rfl
    ⟨List.Pairwise.nil, (fun _ ha => nomatch ha), (fun j a hj => by simp at hj)⟩⟩
theorem zl_init (Z : ZipSep2 z TI TO i1 i2 fp1 fp2) (D1 : Draws prog w A.in1.in1 i1 fp1 n1 P1 St1) (D2 : Draws prog w A.in1.in1 i2 fp2 n2 P2 St2) (a : ZAp z TI TO i1 i2 S fp1 fp2) (hn : min n1 n2 ≤ sizeLine) (st : ZSt z TI TO i1 i2 S St1 St2 0 s.heap) (hz : IsZip s.heap z TI TO .none)
    (hS : s.heap.get? S = some { cls := .type "list", data := .seq #[] })
    (hR : ∀ h' tk acc c as, (∀ b o, b ≠ S → b ≠ z → b ≠ TO → b ≠ i1 → b ≠ i2 → s.heap.get? b = some o → h'.get? b = some o) → h'.get? S = some { cls := .type "list", dict := none, data := .seq acc c, slots := #[] } → as.length = min n1 n2 → ZG P1 P2 S h' as → acc.toList = as.map Value.ref → R (.ok (.ret .none)) { s with heap := h', toks := tk }) :
    wpAny (model prog w) A.in1 (Builtin.«list.__init__» ⟨[.ref S, .ref z], []⟩)
      (fun fin s' => match fin with | .done f => R (.ok f) s' | .again c' => c'.quiet = true ∧ codeAny (model prog w) A c' R s') (fun e s' => R (.error e) s') s := by
  show wpAny _ A.in1 (do let old ← Builtin.List.listItems (.ref S); Builtin.List.listUpdate (.ref S) (fun _ => #[]); letGo old.toList.reverse; Builtin.List.listExtendWith (.ref S) (.ref z) .none) _ _ s
  refine wpAny_bind ?_
  unfold Builtin.List.listItems
  refine wpAny_bind (wpAny_seqItems hS rfl (wpAny_pure ?_))
  show wpAny _ A.in1 (updateSeq S (fun _ => #[]) >>= fun _ => letGo (#[] : Array Value).toList.reverse >>= fun _ => Builtin.List.listExtendWith (.ref S) (.ref z) .none) _ _ s
  refine wpAny_bind (wpAny_updateSeq hS rfl ?_)
  have hS2 := Heap.get?_update_self (Obj.mapSeq (fun _ => (#[] : Array Value))) hS rfl
  have oth : ∀ b o, b ≠ S → s.heap.get? b = some o → (s.heap.update S (Obj.mapSeq (fun _ => (#[] : Array Value)))).get? b = some o := fun b o hb e => (Heap.get?_update_other _ _ (Ne.symm hb)).trans e
  refine wpAny_bind (wpAny_letGo ?_)
  exact zl_extend Z D1 D2 a hn .none _ (st.keep D1 D2 a oth) (oth _ _ (Nat.ne_of_lt a.z) hz) hS2 fun h' tk acc c as hk hS' hl hG hacc => hR h' tk acc c as (fun b o q1 q2 q3 q4 q5 e => hk b o q1 q2 q3 q4 q5 (oth b o q1 e)) hS' hl hG hacc
end
section
variable {prog : Program} {w : World} {A : Around} {E : Value → Shared → Prop} {s : Shared} {z TI TO i1 i2 : Addr} {fp1 fp2 : List Addr} {n1 n2 : Nat} {P1 P2 : Nat → Value → Prop} {St1 St2 : Nat → Heap → Prop}
theorem call_listZip {Q : Value → Shared → Prop} (Z : ZipSep2 z TI TO i1 i2 fp1 fp2) (D1 : Draws prog w A.in1.in1.in1 i1 fp1 n1 P1 St1) (D2 : Draws prog w A.in1.in1.in1 i2 fp2 n2 P2 St2) (a : ZAp z TI TO i1 i2 s.heap.objs.size fp1 fp2) (hn : min n1 n2 ≤ sizeLine) (st : ZSt z TI TO i1 i2 s.heap.objs.size St1 St2 0 s.heap) (hz : IsZip s.heap z TI TO .none)
    (hQ : ∀ h' tk acc c as, (∀ b o, b ≠ z → b ≠ TO → b ≠ i1 → b ≠ i2 → s.heap.get? b = some o → h'.get? b = some o) → h'.get? s.heap.objs.size = some { cls := .type "list", dict := none, data := .seq acc c, slots := #[] } → as.length = min n1 n2 → ZG P1 P2 s.heap.objs.size h' as → acc.toList = as.map Value.ref → Q (.ref s.heap.objs.size) { s with heap := h', toks := tk }) :
    wpAny (model prog w) A (call (.type "list") [.ref z]) Q E s := by
  refine callType_codes (Q₁ := fun obj s₁ => obj = .ref s.heap.objs.size ∧ s₁ = { s with heap := s.heap.push { cls := .type "list", data := .seq #[] } }) F.called_list (F.typeCall_list_1 _) F.entry_list_init (code_list_new _ ⟨rfl, rfl⟩) fun obj s₁ h₁ => ?_
  obtain ⟨rfl, rfl⟩ := h₁
  have hS : (s.heap.push { cls := .type "list", data := .seq #[] }).get? s.heap.objs.size = some { cls := .type "list", data := .seq #[] } := Heap.get?_push_size _ rfl
  have up : ∀ b o, b ≠ s.heap.objs.size → s.heap.get? b = some o → (s.heap.push { cls := .type "list", data := .seq #[] }).get? b = some o := fun b o _ e => Heap.get?_push_of_some _ e
  refine ⟨⟨_, hS, rfl⟩, F.args_list_init_2 _ _, zl_init (A := A.in1) Z D1 D2 a hn (st.keep D1 D2 a up) (up _ _ (Nat.ne_of_lt a.z) hz) hS fun h' tk acc c as hk hS' hl hG hacc => ?_⟩
  exact ⟨rfl, hQ h' tk acc c as (fun b o q2 q3 q4 q5 e => hk b o (Nat.ne_of_lt (Heap.lt_size e)) q2 q3 q4 q5 (up b o (Nat.ne_of_lt (Heap.lt_size e)) e)) hS' hl hG hacc⟩
end
end Ev

set_option Elab.async false
set_option linter.all false
set_option maxRecDepth 100000
set_option maxHeartbeats 1000000
/-! zip: by what is walked; list(zip(..)) by the evaluator. -/
namespace Ev
open PySem PySem.Spec PyProof.Rows L2 RZ
theorem lookup_ndA {β : Type} {y : Addr} {u : β} : ∀ {l : List (Addr × β)}, (l.map (·.1)).Nodup → (y, u) ∈ l → l.lookup y = some u
  | [], _, h => by cases h
  | (z, v) :: r, nd, h => by
    rw [List.map_cons, List.nodup_cons] at nd
    rw [List.lookup_cons]
    rcases List.mem_cons.mp h with e | h'
    · cases e
      rw [show (y == y) = true from beq_self_eq_true y]
    · have : (y == z) = false := beq_eq_false_iff_ne.mpr fun e => nd.1 (by subst e; exact List.mem_map.mpr ⟨_, h', rfl⟩)
      rw [this]
      exact lookup_ndA nd.2 h'
theorem lookup_outA {β : Type} {y : Addr} : ∀ {l : List (Addr × β)}, (∀ p ∈ l, p.1 ≠ y) → l.lookup y = none
  | [], _ => rfl
  | (z, v) :: r, h => by
    rw [List.lookup_cons, show (y == z) = false from beq_eq_false_iff_ne.mpr fun e => h _ List.mem_cons_self e.symm]
    exact lookup_outA fun p hp => h p (List.mem_cons_of_mem _ hp)
/-- the pairs are known, and the list of them -/
def zipH (H : Hp) (h : Heap) (S : Addr) (as : List Addr) (ps : List (V × V)) : Hp := fun b => if b = S then some (.lst (as.map V.ref)) else match (as.zip ps).lookup b with
  | some p => some (.frz ((h.get? b).getD default) (.tup [p.1, p.2]))
  | none => H b
section
variable {X : Cx} {pins : List (Addr × Obj)} {σ : L2.St} {H : Hp} {s : Shared}
theorem pairs_laid {h' : Heap} {tk : Nat} {S : Addr} {xs ys : List V} {its its2 : List Value} {acc : Array Value} {c : Nat} {as : List Addr} (I : Inv X pins σ H s) (rv : Vals xs its) (rv2 : Vals ys its2) (hk : ∀ b o, s.heap.get? b = some o → h'.get? b = some o) (hSs : s.heap.objs.size ≤ S)
    (hS : h'.get? S = some { cls := .type "list", dict := none, data := .seq acc c, slots := #[] }) (hl : as.length = min its.length its2.length) (hG : ZG (fun i v => its[i]? = some v) (fun i v => its2[i]? = some v) S h' as) (hacc : acc.toList = as.map Value.ref) (hz : as.length ≤ sizeLine) :
    ∃ H' : Hp, (∀ b o, H b = some o → H' b = some o) ∧ H S = none ∧ H' S = some (.lst (as.map V.ref)) ∧ (∀ (j : Nat) (a : Addr), as[j]? = some a → H a = none ∧ ∃ x y, xs[j]? = some x ∧ ys[j]? = some y ∧ ∃ o : Obj, o.dict = none ∧ H' a = some (.frz o (.tup [x, y]))) ∧ Inv X pins σ H' { s with heap := h', toks := tk } := by
  have l1 := rv.length
  have l2 := rv2.length
  have nd : as.Nodup := List.Pairwise.imp (fun {a b} (h : a < b) => Nat.ne_of_lt h) hG.rise
  have new : ∀ t ∈ as, H t = none := fun t ht => I.hok.fresh (Nat.le_trans hSs (Nat.le_of_lt (hG.above t ht)))
  have newS : H S = none := I.hok.fresh hSs
  have hlz : as.length = (xs.zip ys).length := by rw [List.length_zip, l1, l2, hl]
  have fst : (as.zip (xs.zip ys)).map (·.1) = as := List.map_fst_zip (Nat.le_of_eq hlz)
  have off : ∀ b, b ∉ as → b ≠ S → zipH H h' S as (xs.zip ys) b = H b := fun b h1 h2 => by
    unfold zipH
    rw [if_neg h2, lookup_outA fun p hp e => h1 (by rw [← e]; exact (List.of_mem_zip hp).1)]
  have atS : zipH H h' S as (xs.zip ys) S = some (.lst (as.map V.ref)) := if_pos rfl
  have atP : ∀ (j : Nat) (a : Addr), as[j]? = some a → ∃ x y, xs[j]? = some x ∧ ys[j]? = some y ∧ zipH H h' S as (xs.zip ys) a = some (.frz ((h'.get? a).getD default) (.tup [x, y])) := fun j a hj => by
    have hlt : j < as.length := (List.getElem?_eq_some_iff.mp hj).1
    have hx : j < xs.length := by rw [l1]; omega
    have hy : j < ys.length := by rw [l2]; omega
    refine ⟨xs[j], ys[j], List.getElem?_eq_getElem hx, List.getElem?_eq_getElem hy, ?_⟩
    have hm : (a, (xs[j], ys[j])) ∈ as.zip (xs.zip ys) := List.mem_of_getElem? (i := j) (by
      rw [List.getElem?_zip_eq_some]
      exact ⟨hj, by rw [List.getElem?_zip_eq_some]; exact ⟨List.getElem?_eq_getElem hx, List.getElem?_eq_getElem hy⟩⟩)
    unfold zipH
    rw [if_neg (Nat.ne_of_gt (hG.above a (List.mem_of_getElem? hj))), lookup_ndA (by rw [fst]; exact nd) hm]
  have kp : ∀ b u, H b = some u → zipH H h' S as (xs.zip ys) b = some u := fun b u e => by
    rw [off b (fun z => by rw [new b z] at e; cases e) (fun z => by rw [z, newS] at e; cases e)]
    exact e
  refine ⟨zipH H h' S as (xs.zip ys), kp, newS, atS, fun j a hj => ⟨new a (List.mem_of_getElem? hj), ?_⟩, ?_⟩
  · obtain ⟨x, y, e1, e2, e3⟩ := atP j a hj
    obtain ⟨u1, u2, f1, f2, f3⟩ := hG.pairs j a hj
    exact ⟨x, y, e1, e2, _, by rw [f3]; rfl, e3⟩
  refine I.call' (ch := []) rfl ⟨fun b o q _ _ _ => hk b o q, fun b o q _ _ _ => ⟨o.slots, hk b o q⟩, fun b o q n _ => ?_, fun b o q _ => ⟨o, hk b o q⟩, fun b xs q => kp b _ q, fun b o u q => kp b _ q, fun b ps q => ⟨#[], by rw [kp b _ q]; simp⟩⟩ (fun b u q => ?_) I.bare fun b z => by simp at z
  · have hb : b < S := Nat.lt_of_lt_of_le (Heap.lt_size q) hSs
    rw [off b (fun z => absurd (hG.above b z) (Nat.not_lt.mpr (Nat.le_of_lt hb))) (Nat.ne_of_lt hb)]
    exact n
  · by_cases hb : b ∈ as
    · obtain ⟨j, hj⟩ := List.mem_iff_getElem?.mp hb
      obtain ⟨x, y, e1, e2, e3⟩ := atP j b hj
      rw [e3] at q
      cases q
      obtain ⟨u1, u2, f1, f2, f3⟩ := hG.pairs j b hj
      obtain ⟨w1, g1, g2⟩ := rv.get e1
      obtain ⟨w2, g3, g4⟩ := rv2.get e2
      have f1 : its[j]? = some u1 := f1
      have f2 : its2[j]? = some u2 := f2
      rw [g1] at f1
      rw [g3] at f2
      cases f1
      cases f2
      exact ⟨by rw [f3]; rfl, by show 2 ≤ sizeLine; decide, [u1, u2], .cons g2 (.cons g4 .nil), ⟨_, f3, rfl, _, rfl⟩⟩
    · by_cases hb2 : b = S
      · rw [hb2] at q ⊢
        rw [atS] at q
        cases q
        refine ⟨by rw [List.length_map]; exact hz, acc.toList, c, by rw [hacc]; exact LiI.vals_refs as, ?_⟩
        rw [Array.toArray_toList]
        exact hS
      · rw [off b hb hb2] at q
        exact (I.hok b u q).stay (fun d v _ y => hk d v y) (fun d y => kp d _ y) fun d xs y => kp d _ y
def tZipL (K : PySem.W.Frag) (ta : TA) : TE := fun σ H Q => ta σ H fun vs H1 => ∃ a b xs ys, vs = [.ref a, .ref b] ∧ SqL K H1 a xs ∧ SqT K H1 b ys ∧ ∀ (S : Addr) (as : List Addr) (H' : Hp), (∀ b o, H1 b = some o → H' b = some o) → H1 S = none → H' S = some (.lst (as.map V.ref)) → as.length = min xs.length ys.length →
  (∀ (j : Nat) (a : Addr), as[j]? = some a → H1 a = none ∧ ∃ x y, xs[j]? = some x ∧ ys[j]? = some y ∧ ∃ o : Obj, o.dict = none ∧ H' a = some (.frz o (.tup [x, y]))) → Q (.ref S) H'
theorem pe_zipL {e e2 : Expr} {ta : TA} {p p2 q pos : Pos} (hc : X.calm = true) (hg : Gl X "list") (hm : X.mg "list" = none) (hg2 : Gl X "zip") (hm2 : X.mg "zip" = none) (ha : PA X [e, e2] ta) (hs : starEach [e, e2] X.env = (false, eval e X.env) :: starEach [e2] X.env) (hpl : (backTo q (starEach [e2] X.env)).any (·.1) = false) :
    PE X (.Call (.Name "list" p) [.Call (.Name "zip" p2) [e, e2] [] q] [] pos) (tZipL X.K ta) := by
  refine ⟨fun pins s σ H Q I h => ?_⟩
  refine wpAny_Call_Name_kw (ld_blt I hg hm boot_list ?_)
  refine PyProof.Rows.callWith_type1 ?_ rfl rfl
  show wpAny _ _ (spliced ((false, eval (.Call (.Name "zip" p2) [e, e2] [] q) X.env) :: backTo pos (starEach [] X.env))) _ _ s
  refine Calls.spliced_cons ?_
  refine wpAny_Call_Name_kw (ld_blt I hg2 hm2 PyProof.Rows.boot_zip (PyProof.Rows.callWith_type1 (thn (ha.run q pins s σ H _ I h) fun us s1 ⟨vs, H1, I1, r1, q1⟩ => ?_) hs hpl))
  obtain ⟨a, b, xs, ys, ex, hqx, hqy, q1⟩ := q1
  subst ex
  cases r1 with
  | cons r rr =>
    cases rr with
    | cons r' rr =>
      cases rr
      cases r
      cases r'
      obtain ⟨its, rv, p1, hzx⟩ := I1.list hqx
      obtain ⟨its2, rv2, p2, _⟩ := I1.tuple hqy
      obtain ⟨o2, ho2, _⟩ := id p2
      have hb : b < s1.heap.objs.size := Heap.lt_size ho2
      refine call_zipM p1.isList (show s1.heap.IsTuple b its2.toArray from p2) fun h' hz hTI hTO h1 h2 hsz hk => ?_
      refine Calls.spliced_nil ?_
      have D := PySem.W.ktu_apart s1.heap.objs.size a b p1.lt hb
      have hh : X.A.handled = none := I1.ok.hd hc
      have hlt := p1.lt
      refine call_listZip (s := { s1 with heap := h' }) (sep_of D) (Draws.list (A := X.A.in1.in1.in1) hh s1.heap.objs.size a D.l1i1 its.toArray) (Draws.tuple (A := X.A.in1.in1.in1) hh (s1.heap.objs.size + 1) b D.l2i2 its2.toArray)
        ⟨?_, ?_, ?_, ?_, ?_, fun d hd => ?_, fun d hd => ?_⟩ ?_ ⟨hTI, ⟨h1, p1.isList.at fun o e => hk _ o e⟩, ⟨h2, Heap.IsTuple.at (show s1.heap.IsTuple b its2.toArray from p2) fun o e => hk _ o e⟩, .inl ⟨hz, _, _, hTO⟩⟩ hz fun h'' tk acc c as hk2 hS hl hG hacc => ?_
      · show _ < h'.objs.size; rw [hsz]; exact Nat.lt_succ_self _
      · show _ < h'.objs.size; rw [hsz]; omega
      · show _ < h'.objs.size; rw [hsz]; omega
      · show _ < h'.objs.size; rw [hsz]; omega
      · show _ < h'.objs.size; rw [hsz]; omega
      · show _ < h'.objs.size
        rw [hsz]
        rcases List.mem_cons.mp hd with e | hd
        · rw [e]; omega
        · rw [List.mem_singleton.mp hd]; exact Nat.lt_of_lt_of_le hlt (Nat.le_add_right _ _)
      · show _ < h'.objs.size
        rw [hsz]
        rcases List.mem_cons.mp hd with e | hd
        · rw [e]; omega
        · rw [List.mem_singleton.mp hd]; exact Nat.lt_of_lt_of_le hb (Nat.le_add_right _ _)
      · rw [List.size_toArray, List.size_toArray]
        have := rv.length
        omega
      · rw [List.size_toArray, List.size_toArray] at hl
        have hG' : ZG (fun i v => its[i]? = some v) (fun i v => its2[i]? = some v) h'.objs.size h'' as := ⟨hG.rise, hG.above, fun j a hj => by
          obtain ⟨x, y, z1, z2, z3⟩ := hG.pairs j a hj
          exact ⟨x, y, by simpa using z1, by simpa using z2, z3⟩⟩
        have lx := rv.length
        have ly := rv2.length
        obtain ⟨H', k1, k2, k3, k4, J⟩ := pairs_laid (tk := tk) I1 rv rv2 (fun d o e => hk2 d o (Nat.ne_of_lt (Nat.lt_of_lt_of_le (Heap.lt_size e) (Nat.le_add_right _ _))) (Nat.ne_of_lt (Nat.lt_of_lt_of_le (Heap.lt_size e) (Nat.le_add_right _ _))) (Nat.ne_of_lt (Heap.lt_size e)) (Nat.ne_of_lt (Nat.lt_of_lt_of_le (Heap.lt_size e) (Nat.le_add_right _ _))) (hk d o e)) (by rw [hsz]; omega) hS hl hG' hacc (by omega)
        exact ⟨.ref _, H', J, rfl, q1 _ as H' k1 k2 k3 (by rw [hl, lx, ly]) k4⟩
/-- zip, by what is walked -/
def iZip3 (K : PySem.W.Frag) (ta : TA) : TI := fun σ H R => ta σ H fun vs H1 => ∃ a b xs ys, vs = [.ref a, .ref b] ∧ ((SqL K H1 a xs ∧ SqL K H1 b ys ∧ R (Itz K a b) H1) ∨ (SqT K H1 a xs ∧ SqT K H1 b ys ∧ R (ItzT K a b) H1) ∨ (SqL K H1 a xs ∧ SqT K H1 b ys ∧ R (ItzM K a b) H1))
theorem pi_zip3 {e e2 : Expr} {ta : TA} {p pos tpos : Pos} {elts : List Expr} {kk : Nat} (hg : Gl X "zip") (hm : X.mg "zip" = none) (ha : PA X [e, e2] ta) (hs : starEach [e, e2] X.env = (false, eval e X.env) :: starEach [e2] X.env) (hpl : (backTo pos (starEach [e2] X.env)).any (·.1) = false) :
    PI X (.Tuple elts kk tpos) (.Call (.Name "zip" p) [e, e2] [] pos) (iZip3 X.K ta) := by
  refine ⟨fun pins s σ H R I h => ?_⟩
  refine Call_ (ld_blt I hg hm PyProof.Rows.boot_zip (PyProof.Rows.callWith_type1 (thn (ha.run pos pins s σ H _ I h) fun us s1 ⟨vs, H1, I1, r1, q1⟩ => ?_) hs hpl))
  obtain ⟨a, b, xs, ys, ex, q1⟩ := q1
  subst ex
  cases r1 with
  | cons r rr =>
    cases rr with
    | cons r' rr =>
      cases rr
      cases r
      cases r'
      have fresh5 : ∀ c, c ∈ [s1.heap.objs.size + 4, s1.heap.objs.size + 2, s1.heap.objs.size + 3, s1.heap.objs.size, s1.heap.objs.size + 1] → FpOk X pins H1 c := fun c hcm => by
        have hle : s1.heap.objs.size ≤ c := by
          simp only [List.mem_cons, List.not_mem_nil, or_false] at hcm
          rcases hcm with z | z | z | z | z <;> rw [z] <;> omega
        exact I1.fpOk hle (I1.hok.fresh hle)
      have I2 : ∀ {h' : Heap}, (∀ c o, s1.heap.get? c = some o → h'.get? c = some o) → Inv X pins σ H1 { s1 with heap := h' } := fun hk => I1.kept (t' := s1.toks) hk
      rcases q1 with ⟨hqx, hqy, q⟩ | ⟨hqx, hqy, q⟩ | ⟨hqx, hqy, q⟩
      · obtain ⟨its, rv, p1, _⟩ := I1.list hqx
        obtain ⟨its2, rv2, p2, _⟩ := I1.list hqy
        exact call_zip_2 p1.isList p2.isList fun h' hz hTI hTO h1 h2 hsz hk => wpAny_pyIter_zip hz ⟨_, _, _, _, H1, rfl, I2 hk, turn_zip (PySem.W.ktu_apart s1.heap.objs.size a b p1.lt p2.lt), ⟨hz, hTI, ⟨_, _, hTO⟩, h1, h2⟩, fresh5, q⟩
      · obtain ⟨its, rv, p1, _⟩ := I1.tuple hqx
        obtain ⟨its2, rv2, p2, _⟩ := I1.tuple hqy
        obtain ⟨o1, ho1, _⟩ := id p1
        obtain ⟨o2, ho2, _⟩ := id p2
        exact call_zipT (show s1.heap.IsTuple a its.toArray from p1) (show s1.heap.IsTuple b its2.toArray from p2) fun h' hz hTI hTO h1 h2 hsz hk => wpAny_pyIter_zip hz ⟨_, _, _, _, H1, rfl, I2 hk, turn_zipT (PySem.W.ktu_apart s1.heap.objs.size a b (Heap.lt_size ho1) (Heap.lt_size ho2)), ⟨hz, hTI, ⟨_, _, hTO⟩, h1, h2⟩, fresh5, q⟩
      · obtain ⟨its, rv, p1, _⟩ := I1.list hqx
        obtain ⟨its2, rv2, p2, _⟩ := I1.tuple hqy
        obtain ⟨o2, ho2, _⟩ := id p2
        exact call_zipM p1.isList (show s1.heap.IsTuple b its2.toArray from p2) fun h' hz hTI hTO h1 h2 hsz hk => wpAny_pyIter_zip hz ⟨_, _, _, _, H1, rfl, I2 hk, turn_zipM (PySem.W.ktu_apart s1.heap.objs.size a b p1.lt (Heap.lt_size ho2)), ⟨hz, hTI, ⟨_, _, hTO⟩, h1, h2⟩, fresh5, q⟩
end
section
variable {K : PySem.W.Frag} {fa : Lay} {φ φ0 : Ph} {H H0 H' : Hp} {μ μ0 : Mu} {g : Grd} {l l2 : List D} {a b : Addr}
theorem walk_ofZM (h : HasL K fa g φ0 H0 a l) (h2 : HasT K fa g φ0 H0 b l2) : WalkD K fa (ItzM K a b) ((l.zip l2).map fun p => .tup [p.1, p.2]) g φ0 H0 true := by
  refine ⟨fun i H hi ⟨φ, μ, s⟩ => ?_, fun H ⟨φ, μ, s⟩ => ?_, fun i H x H' hi _ y φ μ s => ?_⟩
  · obtain ⟨vs, hq, rs⟩ := h φ μ H s
    obtain ⟨us, hq2, rs2⟩ := h2 φ μ H s
    obtain ⟨d, e, hd, he, _⟩ := zip_get hi
    obtain ⟨v, hv, _⟩ := rs.get hd
    obtain ⟨u, hu, _⟩ := rs2.get he
    exact ⟨vs, us, v, u, hq, hq2, hv, hu⟩
  · obtain ⟨vs, hq, rs⟩ := h φ μ H s
    obtain ⟨us, hq2, rs2⟩ := h2 φ μ H s
    refine ⟨vs, us, hq, hq2, ?_⟩
    rw [List.length_map, List.length_zip, rs.length, rs2.length]
  · obtain ⟨T, w, w2, rfl, hT, rfl, y, y2⟩ := y
    obtain ⟨vs, hq, rs⟩ := h φ μ _ s
    obtain ⟨us, hq2, rs2⟩ := h2 φ μ _ s
    obtain ⟨d, e, hd, he, hz⟩ := zip_get hi
    obtain ⟨v, hv, rv⟩ := rs.get hd
    obtain ⟨u, hu, ru⟩ := rs2.get he
    have := y vs hq
    rw [hv] at this
    cases this
    have := y2 us hq2
    rw [hu] at this
    cases this
    obtain ⟨x1, A1, r1⟩ := pair_ok s.abs rv ru hT
    exact ⟨_, hz, x1, A1, r1⟩
/-- more objects, that nobody shares -/
theorem Abs.more (A : Abs K fa φ μ H) (kp : ∀ b o, H b = some o → H' b = some o) : Ext φ H φ H' ∧ Abs K fa φ μ H' := by
  have x : Ext φ H φ H' := ⟨⟨[], by simp⟩, rfl, fun b hb _ => by
    obtain ⟨o, ho⟩ := (A.hid b hb).2
    rw [ho, kp b o ho], fun b o e => by
    obtain ⟨e1, e2⟩ := msk_some e
    rw [msk_out e1]
    exact kp b o e2⟩
  exact ⟨x, A.len, A.nd, fun b hb => ⟨(A.hid b hb).1, let ⟨o, ho⟩ := (A.hid b hb).2; ⟨o, kp b o ho⟩⟩, fun i b c h1 h2 => CellR.mono (c := c) (h := A.cell i b c h1 h2) x.same (fun _ _ q => q) fun o q => kp b o q, A.tab.mono (fun _ q => q) (fun b _ ps q => kp b _ q) x.same⟩
end
section
variable {X : Cx} {fa : Lay} {W : EW} {ms : Rho → Mu → Res (List D)} {e e2 : Expr} {p p2 q pos : Pos}
theorem lst_has {φ : Ph} {μ : Mu} {H : Hp} {d : D} {l : List D} {v : V} (A : Abs X.K fa φ μ H) (h : lstOf μ d = some l) (rv : RV X.K fa (msk H φ) φ d v) : ∃ a vs, v = .ref a ∧ SqL X.K H a vs ∧ RVs X.K fa (msk H φ) φ l vs := by
  cases d with
  | lst l' =>
    cases h
    obtain ⟨a, vs, rfl, hs, rs⟩ := rv_lst rv
    exact ⟨a, vs, rfl, Same.sqL msk_same hs, rs⟩
  | loc n =>
    have h : (match μ[n]? with | some (.lst l) => some l | _ => none) = some l := h
    cases hm : μ[n]? with
    | none => rw [hm] at h; cases h
    | some c =>
      rw [hm] at h
      cases c with
      | lst l' =>
        cases h
        obtain ⟨a, ha, rfl⟩ := rv_loc rv
        obtain ⟨vs, e, rs⟩ := A.cell n a _ ha hm
        exact ⟨a, vs, rfl, .inl (.inl e), rs⟩
      | _ => cases h
  | _ => cases h
theorem e_zipL (hc : X.calm = true) (hg : Gl X "list") (hm : X.mg "list" = none) (hg2 : Gl X "zip") (hm2 : X.mg "zip" = none) (ha : PA X [e, e2] (tA X.K fa W ms)) (hs : starEach [e, e2] X.env = (false, eval e X.env) :: starEach [e2] X.env) (hpl : (backTo q (starEach [e2] X.env)).any (·.1) = false) :
    PE X (.Call (.Name "list" p) [.Call (.Name "zip" p2) [e, e2] [] q] [] pos) (tE X.K fa W fun ρ μ => (ms ρ μ).bind fun ss μ => Res.of (zipLD μ ss) μ) := PE.imp (pe_zipL hc hg hm hg2 hm2 ha hs hpl) fun σ H Q h => by
  obtain ⟨φ, μ, ρ, A, R, h⟩ := h
  refine ⟨φ, μ, ρ, A, R, h.bind.imp fun ss μ1 φ1 H1 e1 A1 h1 vs rs => ?_⟩
  obtain ⟨d, ed, q1⟩ := h1.of
  match ss, ed with
  | [x, .tup r], ed =>
    obtain ⟨l, hl, rfl⟩ := ofmap (show (lstOf μ1 x).map (fun l => D.lst ((l.zip r).map fun p => .tup [p.1, p.2])) = some d from ed)
    unfold RVs at rs
    obtain ⟨v, vs1, rfl, r1, rs⟩ := rs
    unfold RVs at rs
    obtain ⟨u, vs2, rfl, r2, rs⟩ := rs
    unfold RVs at rs
    subst rs
    obtain ⟨a, xs, rfl, sx, rx⟩ := lst_has A1 hl r1
    obtain ⟨b, ys, rfl, sy, ry⟩ := rv_tup r2
    refine ⟨a, b, xs, ys, rfl, sx, Same.seqT msk_same sy, fun S as H' kp nS eS hlen hp => ?_⟩
    obtain ⟨x1, A2⟩ := Abs.more A1 kp
    refine q1 φ1 H' x1 A2 _ (mk_lst (vs := as.map V.ref) (.inl (.inl (by rw [msk_out (A1.notIn nS)]; exact eS))) (RVs.of_get (by rw [List.length_map, List.length_map, List.length_zip, hlen, rx.length, ry.length]) fun j d' v' g1 g2 => ?_))
    rw [List.getElem?_map] at g1 g2
    obtain ⟨pr, g3, rfl⟩ := ofmap g1
    obtain ⟨t, g4, rfl⟩ := ofmap g2
    rw [List.getElem?_zip_eq_some] at g3
    obtain ⟨nt, xv, yv, f1, f2, o, fo, f3⟩ := hp j t g4
    obtain ⟨w1, k1, k2⟩ := rx.get g3.1
    obtain ⟨w2, k3, k4⟩ := ry.get g3.2
    rw [f1] at k1
    rw [f2] at k3
    cases k1
    cases k3
    exact mk_tup (.inl ⟨o, fo, by rw [msk_out (A1.notIn nt)]; exact f3⟩) (RVs.cons (k2.ext x1) (RVs.one (k4.ext x1)))
end
end Ev

set_option Elab.async false
set_option linter.all false
set_option maxRecDepth 100000
set_option maxHeartbeats 1000000
/-! Loops and comprehensions. -/
namespace Ev
open PySem PySem.Spec PyProof.Rows L2
section
variable {K : PySem.W.Frag} {fa : Lay} {W : EW} {Z : EZ} {φ φ0 : Ph} {H H0 : Hp} {μ : Mu} {g : Grd} {l : List D}
theorem Std.self (A : Abs K fa φ μ H) (h : stays μ g = true) : Std K fa g φ H φ μ H := ⟨⟨[], by simp⟩, fun _ _ q => q, A, h⟩
theorem stays_nil : stays μ [] = true := rfl
theorem stays_one {n : Nat} (h : μ[n]? = some (.lst l)) : stays μ [(n, l)] = true := by
  unfold stays
  rw [List.all_cons, List.all_nil]
  simp [h]
end
section
variable {X : Cx} {fa : Lay} {W : EW} {Z : EZ} {e tg iter : Expr} {m : Rho → Mu → Res D} {ms : Rho → Mu → Res (List D)} {pos : Pos}
theorem pi_seq (he : PE X e (tE X.K fa W m)) : PI X tg e (iD X.K fa W .seq fun ρ μ => (m ρ μ).bind fun x μ => .ok [x] μ) := by
  refine ⟨fun pins s σ H R I h => ?_⟩
  obtain ⟨φ, μ, ρ, A, RR, h⟩ := h
  dsimp only at h
  cases hm : m ρ μ with
  | ex _ _ => exact (pi_list he).run pins s σ H R I ⟨φ, μ, ρ, A, RR, by rw [hm] at h ⊢; exact h⟩
  | no => rw [hm] at h; exact False.elim h
  | ok d μ1 =>
    rw [hm] at h
    have h : ∀ φ' H', Ext φ H φ' H' → Abs X.K fa φ' μ1 H' → ∃ l g, itemsD .seq μ1 [d] = some (l, g) ∧ ∀ J, WalkD X.K fa J l g φ' H' → R J H' := h
    have run : ∀ (k : D → Mu → Ph → Hp → Prop), (∀ φ' H', Ext φ H φ' H' → Abs X.K fa φ' μ1 H' → k d μ1 φ' H') → Run X.K fa (W σ) φ H (m ρ μ) k := fun k q => by rw [hm]; exact q
    have lists : ∀ (l : List D) (g : Grd), (∀ φ1 H1 v, RV X.K fa (msk H1 φ1) φ1 d v → ∃ a, v = .ref a ∧ HasL X.K fa g φ1 H1 a l) → stays μ1 g = true → itemsD .seq μ1 [d] = some (l, g) → wpAny (model X.prog X.w) X.A (eval e X.env) (fun v s1 => wpAny (model X.prog X.w) X.A (pyIter v) (PIE X pins σ tg R) X.xe s1) X.xe s := fun l g hl hg hi =>
      (pi_list he).run pins s σ H R I ⟨φ, μ, ρ, A, RR, run _ fun φ1 H1 e1 A1 v rv => by
        obtain ⟨a, rfl, hL⟩ := hl φ1 H1 v rv
        obtain ⟨l', g', e, q⟩ := h φ1 H1 e1 A1
        rw [hi] at e
        cases e
        exact ⟨a, rfl, (let ⟨vs, hs, _⟩ := hL φ1 μ1 H1 (Std.self A1 hg); ⟨vs, hs⟩), q _ (walk_ofL hL)⟩⟩
    have nots : itemsD .seq μ1 [d] = none → wpAny (model X.prog X.w) X.A (eval e X.env) (fun v s1 => wpAny (model X.prog X.w) X.A (pyIter v) (PIE X pins σ tg R) X.xe s1) X.xe s := fun hi =>
      (pi_list he).run pins s σ H R I ⟨φ, μ, ρ, A, RR, run _ fun φ1 H1 e1 A1 v rv => by
        obtain ⟨l', g', e, q⟩ := h φ1 H1 e1 A1
        rw [hi] at e
        cases e⟩
    cases d with
    | tup l =>
      exact (pi_tup he).run pins s σ H R I ⟨φ, μ, ρ, A, RR, run _ fun φ1 H1 e1 A1 v rv => by
        obtain ⟨a, rfl, hT⟩ := has_tup (g := []) rv
        obtain ⟨l', g', e, q⟩ := h φ1 H1 e1 A1
        cases e
        exact ⟨a, rfl, (let ⟨vs, hs, _⟩ := hT φ1 μ1 H1 (Std.self A1 stays_nil); ⟨vs, hs⟩), q _ (walk_ofT hT)⟩⟩
    | lst l => exact lists l [] (fun φ1 H1 v rv => has_lst rv) stays_nil rfl
    | str t =>
      exact (pi_str he).run pins s σ H R I ⟨φ, μ, ρ, A, RR, run _ fun φ1 H1 e1 A1 v rv => by
        obtain ⟨rfl, ht⟩ := rv_str rv
        obtain ⟨l', g', e, q⟩ := h φ1 H1 e1 A1
        cases e
        exact ⟨_, rfl, q _ (walk_ofS ht)⟩⟩
    | loc n =>
      have hi : itemsD .seq μ1 [.loc n] = (match μ1[n]? with | some (.lst l) => some (l, [(n, l)]) | _ => none) := rfl
      cases hn : μ1[n]? with
      | none => exact nots (by rw [hi, hn])
      | some c =>
        cases c with
        | lst l => exact lists l [(n, l)] (fun φ1 H1 v rv => has_loc List.mem_cons_self rv) (stays_one hn) (by rw [hi, hn])
        | _ => exact nots (by rw [hi, hn])
    | _ => exact nots rfl
theorem items_rng1 {μ : Mu} {ss l : List D} {g : Grd} (h : itemsD .rng1 μ ss = some (l, g)) : ∃ j : Int, ss = [.int j] ∧ -(2 ^ 62) ≤ j ∧ j < 2 ^ 62 ∧ l = rngL 0 j.toNat := by
  match ss, h with
  | [.int j], h =>
    obtain ⟨c, e⟩ := ite_some (show (if -(2 ^ 62) ≤ j ∧ j < 2 ^ 62 then some (rngL 0 j.toNat, ([] : Grd)) else none) = some (l, g) from h)
    cases e
    exact ⟨j, rfl, c.1, c.2, rfl⟩
theorem items_rng2 {μ : Mu} {ss l : List D} {g : Grd} (h : itemsD .rng2 μ ss = some (l, g)) : ∃ i j : Int, ss = [.int i, .int j] ∧ (-(2 ^ 62) ≤ i ∧ i < 2 ^ 62 ∧ -(2 ^ 62) ≤ j ∧ j < 2 ^ 62) ∧ l = rngL i (j - i).toNat := by
  match ss, h with
  | [.int i, .int j], h =>
    obtain ⟨c, e⟩ := ite_some (show (if -(2 ^ 62) ≤ i ∧ i < 2 ^ 62 ∧ -(2 ^ 62) ≤ j ∧ j < 2 ^ 62 then some (rngL i (j - i).toNat, ([] : Grd)) else none) = some (l, g) from h)
    cases e
    exact ⟨i, j, rfl, c, rfl⟩
theorem pi_rng1 {p : Pos} (hg : Gl X "range") (hm : X.mg "range" = none) (ha : PA X [e] (tA X.K fa W ms)) (hs : starEach [e] X.env = [(false, eval e X.env)]) : PI X tg (.Call (.Name "range" p) [e] [] pos) (iD X.K fa W .rng1 ms) := PI.imp (pi_range1 hg hm ha hs) fun σ H R h => by
  obtain ⟨φ, μ, ρ, A, RR, h⟩ := h
  refine ⟨φ, μ, ρ, A, RR, h.imp fun ss μ1 φ1 H1 e1 A1 h1 vs rs => ?_⟩
  obtain ⟨l, g, e, q⟩ := h1
  obtain ⟨j, rfl, c1, c2, rfl⟩ := items_rng1 e
  obtain ⟨v, rfl, rv⟩ := rvs1 rs
  cases rv_int rv
  exact ⟨j, rfl, c1, c2, q _ walk_ofR⟩
theorem pi_rng2 {e2 : Expr} {p : Pos} (hg : Gl X "range") (hm : X.mg "range" = none) (ha : PA X [e, e2] (tA X.K fa W ms)) (hs : starEach [e, e2] X.env = [(false, eval e X.env), (false, eval e2 X.env)]) (hs2 : starEach [e2] X.env = [(false, eval e2 X.env)]) :
    PI X tg (.Call (.Name "range" p) [e, e2] [] pos) (iD X.K fa W .rng2 ms) := PI.imp (pi_range2 hg hm ha hs hs2) fun σ H R h => by
  obtain ⟨φ, μ, ρ, A, RR, h⟩ := h
  refine ⟨φ, μ, ρ, A, RR, h.imp fun ss μ1 φ1 H1 e1 A1 h1 vs rs => ?_⟩
  obtain ⟨l, g, e, q⟩ := h1
  obtain ⟨i, j, rfl, c, rfl⟩ := items_rng2 e
  obtain ⟨v, u, rfl, rv, ru⟩ := rvs2 rs
  cases rv_int rv
  cases rv_int ru
  exact ⟨i, j, rfl, c, q _ walk_ofR⟩
/-- lo, lo + c, .. -/
theorem walk_ofC {K : PySem.W.Frag} {fa : Lay} {g : Grd} {φ0 : Ph} {H0 : Hp} {lo c : Int} {n : Nat} : WalkD K fa (Itc lo c n) (stpL lo c n) g φ0 H0 := by
  have hz : (stpL lo c n).length = n := by simp [stpL]
  refine ⟨fun i H hi _ => ?_, fun H _ => ?_, fun i H x H' hi _ y φ μ s => ?_⟩
  · show i < n
    rw [hz] at hi; exact hi
  · show n ≤ _
    rw [hz]; exact Nat.le_refl _
  · obtain ⟨rfl, rfl⟩ := y
    rw [hz] at hi
    refine ⟨.int (lo + (i : Nat) * c), ?_, Ext.refl _ _, s.abs, (show RV K fa _ _ _ _ from mk_int)⟩
    unfold stpL
    rw [List.getElem?_map, List.getElem?_range hi]
    rfl
theorem items_rng3 {μ : Mu} {ss l : List D} {g : Grd} (h : itemsD .rng3 μ ss = some (l, g)) : ∃ i j c : Int, ss = [.int i, .int j, .int c] ∧ (-(2 ^ 61) ≤ i ∧ i < 2 ^ 61 ∧ -(2 ^ 61) ≤ j ∧ j < 2 ^ 61 ∧ 1 ≤ c ∧ c < 1000000) ∧ l = stpL i c (if i < j then ((j - i - 1) / c + 1).toNat else 0) := by
  match ss, h with
  | [.int i, .int j, .int c], h =>
    obtain ⟨q, e⟩ := ite_some (show (if -(2 ^ 61) ≤ i ∧ i < 2 ^ 61 ∧ -(2 ^ 61) ≤ j ∧ j < 2 ^ 61 ∧ 1 ≤ c ∧ c < 1000000 then some (stpL i c (if i < j then ((j - i - 1) / c + 1).toNat else 0), ([] : Grd)) else none) = some (l, g) from h)
    cases e
    exact ⟨i, j, c, rfl, q, rfl⟩
theorem rgc_pos {i j c : Int} (h1 : -(2 ^ 61) ≤ i) (h2 : i < 2 ^ 61) (h3 : -(2 ^ 61) ≤ j) (h4 : j < 2 ^ 61) (h5 : 1 ≤ c) (h6 : c < 1000000) : RgC i j c (if i < j then ((j - i - 1) / c + 1).toNat else 0) := by
  have hd : i < j → 0 ≤ (j - i - 1) / c ∧ (j - i - 1) / c ≤ j - i - 1 ∧ (j - i - 1) / c * c ≤ j - i - 1 := fun h =>
    ⟨Int.ediv_nonneg (by omega) (by omega), Int.ediv_le_self _ (by omega), Int.ediv_mul_le _ (by omega)⟩
  have e : Builtin.Range.rangeSize i j c = (((if i < j then ((j - i - 1) / c + 1).toNat else 0) : Nat) : Int) := by
    unfold Builtin.Range.rangeSize
    rw [if_pos (by omega)]
    by_cases h : i < j
    · rw [if_pos h, if_pos h, Int.toNat_of_nonneg (by have := (hd h).1; omega)]
    · rw [if_neg h, if_neg h]; rfl
  refine ⟨by omega, by omega, ?_, e⟩
  unfold Builtin.Range.small
  rw [e]
  by_cases h : i < j
  · have q := hd h
    rw [if_pos h, Int.toNat_of_nonneg (by omega)]
    simp only [Builtin.Range.rangeFitsLong, Bool.and_eq_true, Bool.or_eq_true, decide_eq_true_eq, beq_iff_eq]
    generalize (j - i - 1) / c * c = y at *
    generalize (j - i - 1) / c = x at *
    rw [if_pos (show c > 0 by omega), Bool.and_eq_true, decide_eq_true_iff, decide_eq_true_iff]
    omega
  · rw [if_neg h]
    simp only [Builtin.Range.rangeFitsLong, Bool.and_eq_true, Bool.or_eq_true, decide_eq_true_eq, beq_iff_eq]
    rw [if_pos (show c > 0 by omega), Bool.and_eq_true, decide_eq_true_iff, decide_eq_true_iff]
    omega
theorem pi_rng3 {e2 e3 : Expr} {p : Pos} (hg : Gl X "range") (hm : X.mg "range" = none) (ha : PA X [e, e2, e3] (tA X.K fa W ms)) (hs : starEach [e, e2, e3] X.env = (false, eval e X.env) :: starEach [e2, e3] X.env) (hpl : (backTo pos (starEach [e2, e3] X.env)).any (·.1) = false) :
    PI X tg (.Call (.Name "range" p) [e, e2, e3] [] pos) (iD X.K fa W .rng3 ms) := PI.imp (pi_range3 hg hm ha hs hpl) fun σ H R h => by
  obtain ⟨φ, μ, ρ, A, RR, h⟩ := h
  refine ⟨φ, μ, ρ, A, RR, h.imp fun ss μ1 φ1 H1 e1 A1 h1 vs rs => ?_⟩
  obtain ⟨l, g, e, q⟩ := h1
  obtain ⟨i, j, c, rfl, ⟨c1, c2, c3, c4, c5, c6⟩, rfl⟩ := items_rng3 e
  unfold RVs at rs
  obtain ⟨v, r1, rfl, rv, rs⟩ := rs
  obtain ⟨u, w, rfl, ru, rw'⟩ := rvs2 rs
  cases rv_int rv
  cases rv_int ru
  cases rv_int rw'
  exact ⟨i, j, c, _, rfl, rgc_pos c1 c2 c3 c4 c5 c6, q _ walk_ofC⟩
/-- backwards -/
theorem walk_ofV {K : PySem.W.Frag} {fa : Lay} {g : Grd} {φ0 : Ph} {H0 : Hp} {a : Addr} {l : List D} {n : Nat} (hL : HasL K fa g φ0 H0 a l) (hn : n = l.length) : WalkD K fa (Itv K a n) l.reverse g φ0 H0 := by
  subst hn
  refine ⟨fun i H hi hs => ?_, fun H _ => ?_, fun i H x H' hi hs y φ μ s => ?_⟩
  · rw [List.length_reverse] at hi
    obtain ⟨φ, μ, s⟩ := hs
    obtain ⟨vs, hq, rs⟩ := hL φ μ H s
    obtain ⟨d, hd⟩ : ∃ d, l[l.length - 1 - i]? = some d := ⟨_, List.getElem?_eq_getElem (by omega)⟩
    obtain ⟨v, hv, _⟩ := rs.get hd
    exact ⟨hi, vs, v, hq, hv⟩
  · rw [List.length_reverse]; exact Nat.le_refl _
  · rw [List.length_reverse] at hi
    obtain ⟨rfl, hx⟩ := y
    obtain ⟨vs, hq, rs⟩ := hL φ μ _ s
    obtain ⟨d, hd⟩ : ∃ d, l[l.length - 1 - i]? = some d := ⟨_, List.getElem?_eq_getElem (by omega)⟩
    obtain ⟨v, hv, rv⟩ := rs.get hd
    have := hx vs hq
    rw [hv] at this
    cases this
    exact ⟨d, by rw [List.getElem?_reverse hi]; exact hd, Ext.refl _ _, s.abs, rv⟩
theorem walk_ofVT {K : PySem.W.Frag} {fa : Lay} {g : Grd} {φ0 : Ph} {H0 : Hp} {a : Addr} {l : List D} {n : Nat} (hL : HasT K fa g φ0 H0 a l) (hn : n = l.length) : WalkD K fa (RT.ItvT K a n) l.reverse g φ0 H0 := by
  subst hn
  refine ⟨fun i H hi hs => ?_, fun H _ => ?_, fun i H x H' hi hs y φ μ s => ?_⟩
  · rw [List.length_reverse] at hi
    obtain ⟨φ, μ, s⟩ := hs
    obtain ⟨vs, hq, rs⟩ := hL φ μ H s
    obtain ⟨d, hd⟩ : ∃ d, l[l.length - 1 - i]? = some d := ⟨_, List.getElem?_eq_getElem (by omega)⟩
    obtain ⟨v, hv, _⟩ := rs.get hd
    exact ⟨hi, vs, v, hq, hv⟩
  · rw [List.length_reverse]; exact Nat.le_refl _
  · rw [List.length_reverse] at hi
    obtain ⟨rfl, hx⟩ := y
    obtain ⟨vs, hq, rs⟩ := hL φ μ _ s
    obtain ⟨d, hd⟩ : ∃ d, l[l.length - 1 - i]? = some d := ⟨_, List.getElem?_eq_getElem (by omega)⟩
    obtain ⟨v, hv, rv⟩ := rs.get hd
    have := hx vs hq
    rw [hv] at this
    cases this
    exact ⟨d, by rw [List.getElem?_reverse hi]; exact hd, Ext.refl _ _, s.abs, rv⟩
theorem own_hasL {K : PySem.W.Frag} {fa : Lay} {φ : Ph} {H : Hp} {μ : Mu} {d : D} {l : List D} {v : V} (h : seqOf μ d = some l) (rv : RV K fa (msk H φ) φ d v) : (∃ a, v = .ref a ∧ HasT K fa (ownL l d) φ H a l ∧ ownL l d = []) ∨ (∃ a, v = .ref a ∧ HasL K fa (ownL l d) φ H a l ∧ stays μ (ownL l d) = true) := by
  cases d with
  | tup q => cases h; obtain ⟨a, e, hT⟩ := has_tup (g := ownL l (.tup l)) rv; exact .inl ⟨a, e, hT, rfl⟩
  | lst q => cases h; obtain ⟨a, e, hL⟩ := has_lst (g := ownL l (.lst l)) rv; exact .inr ⟨a, e, hL, stays_nil⟩
  | loc n =>
    have h : (match μ[n]? with | some (.lst l) => some l | _ => none) = some l := h
    cases hn : μ[n]? with
    | none => rw [hn] at h; cases h
    | some c =>
      rw [hn] at h
      cases c with
      | lst l0 =>
        cases h
        obtain ⟨a, e, hL⟩ := has_loc (g := ownL l (.loc n)) (show (n, l) ∈ ownL l (.loc n) from List.mem_cons_self) rv
        exact .inr ⟨a, e, hL, stays_one hn⟩
      | _ => cases h
  | _ => cases h
theorem pi_revD {p : Pos} (hg : Gl X "reversed") (hm : X.mg "reversed" = none) (he : PE X e (tE X.K fa W m)) (hs : starEach [e] X.env = (false, eval e X.env) :: starEach [] X.env) : PI X tg (.Call (.Name "reversed" p) [e] [] pos) (iD X.K fa W .rev fun ρ μ => (m ρ μ).bind fun x μ => .ok [x] μ) := PI.imp (RT.pi_revA hg hm he hs) fun σ H R h => by
  obtain ⟨φ, μ, ρ, A, RR, h⟩ := h
  refine ⟨φ, μ, ρ, A, RR, h.bind.imp fun d μ1 φ1 H1 e1 A1 h1 v rv => ?_⟩
  obtain ⟨l, g, e, q⟩ := h1.here A1
  obtain ⟨l0, hl0, e⟩ := ofmap (show (seqOf μ1 d).map (fun l => (l.reverse, ownL l d)) = some (l, g) from e)
  cases e
  rcases own_hasL hl0 rv with ⟨a, rfl, hT, h0⟩ | ⟨a, rfl, hL, hst⟩
  · obtain ⟨vs, hq, rs⟩ := hT φ1 μ1 H1 (Std.self A1 (by rw [h0]; exact stays_nil))
    exact ⟨a, vs, rfl, .inr ⟨hq, q _ (walk_ofVT hT rs.length)⟩⟩
  · obtain ⟨vs, hq, rs⟩ := hL φ1 μ1 H1 (Std.self A1 hst)
    exact ⟨a, vs, rfl, .inl ⟨hq, q _ (walk_ofV hL rs.length)⟩⟩
/-- what is enumerated: a tuple, or a list -/
theorem items_enum {μ : Mu} {ss l : List D} {g : Grd} (h : itemsD .enum μ ss = some (l, g)) : (∃ l0, ss = [.tup l0] ∧ l = enumFrom 0 l0 ∧ g = []) ∨
    (∃ l0, ss = [.lst l0] ∧ l = enumFrom 0 l0 ∧ g = []) ∨ ∃ n l0, ss = [.loc n] ∧ μ[n]? = some (.lst l0) ∧ l = enumFrom 0 l0 ∧ g = [(n, l0)] := by
  match ss, h with
  | [.tup l0], h => cases h; exact .inl ⟨l0, rfl, rfl, rfl⟩
  | [.lst l0], h => cases h; exact .inr (.inl ⟨l0, rfl, rfl, rfl⟩)
  | [.loc n], h =>
    have h : (match μ[n]? with | some (.lst l) => some (enumFrom 0 l, [(n, l)]) | _ => none) = some (l, g) := h
    cases hn : μ[n]? with
    | none => rw [hn] at h; cases h
    | some c =>
      rw [hn] at h
      cases c with
      | lst l0 => cases h; exact .inr (.inr ⟨n, l0, rfl, hn, rfl, rfl⟩)
      | _ => cases h
theorem pi_enumD {p tpos : Pos} {elts : List Expr} {kk : Nat} (hg : Gl X "enumerate") (hm : X.mg "enumerate" = none) (ha : PA X [e] (tA X.K fa W ms)) (hs : starEach [e] X.env = [(false, eval e X.env)]) :
    PI X (.Tuple elts kk tpos) (.Call (.Name "enumerate" p) [e] [] pos) (iD X.K fa W .enum ms) := by
  refine ⟨fun pins s σ H R I h => ?_⟩
  obtain ⟨φ, μ, ρ, A, RR, h⟩ := h
  cases hm2 : ms ρ μ with
  | ex _ _ => exact (pi_enumT hg hm ha hs).run pins s σ H R I ⟨φ, μ, ρ, A, RR, by rw [hm2] at h ⊢; exact h⟩
  | no => rw [hm2] at h; exact False.elim h
  | ok ss μ1 =>
    rw [hm2] at h
    have h : ∀ φ' H', Ext φ H φ' H' → Abs X.K fa φ' μ1 H' → ∃ l g, itemsD .enum μ1 ss = some (l, g) ∧ ∀ J, WalkD X.K fa J l g φ' H' true → R J H' := h
    have run : ∀ (k : List D → Mu → Ph → Hp → Prop), (∀ φ' H', Ext φ H φ' H' → Abs X.K fa φ' μ1 H' → k ss μ1 φ' H') → Run X.K fa (W σ) φ H (ms ρ μ) k := fun k q => by rw [hm2]; exact q
    by_cases ht : ∃ l0, ss = [.tup l0]
    · obtain ⟨l0, rfl⟩ := ht
      refine (pi_enumT hg hm ha hs).run pins s σ H R I ⟨φ, μ, ρ, A, RR, run _ fun φ1 H1 e1 A1 vs rs => ?_⟩
      obtain ⟨l', g', e, q⟩ := h φ1 H1 e1 A1
      cases e
      obtain ⟨v, rfl, rv⟩ := rvs1 rs
      obtain ⟨a, rfl, hT⟩ := has_tup (g := []) rv
      obtain ⟨xs, hx, _⟩ := hT φ1 μ1 H1 (Std.self A1 stays_nil)
      exact ⟨a, xs, rfl, hx, q _ (walk_ofET hT)⟩
    · refine (pi_enum hg hm ha hs).run pins s σ H R I ⟨φ, μ, ρ, A, RR, run _ fun φ1 H1 e1 A1 vs rs => ?_⟩
      obtain ⟨l', g', e, q⟩ := h φ1 H1 e1 A1
      rcases items_enum e with ⟨l0, rfl, _⟩ | ⟨l0, rfl, rfl, rfl⟩ | ⟨n, l0, rfl, hn, rfl, rfl⟩
      · exact absurd ⟨l0, rfl⟩ ht
      · obtain ⟨v, rfl, rv⟩ := rvs1 rs
        obtain ⟨a, rfl, hL⟩ := has_lst (g := []) rv
        obtain ⟨xs, hx, _⟩ := hL φ1 μ1 H1 (Std.self A1 stays_nil)
        exact ⟨a, xs, rfl, hx, q _ (walk_ofE hL)⟩
      · obtain ⟨v, rfl, rv⟩ := rvs1 rs
        obtain ⟨a, rfl, hL⟩ := has_loc (g := [(n, l0)]) List.mem_cons_self rv
        obtain ⟨xs, hx, _⟩ := hL φ1 μ1 H1 (Std.self A1 (stays_one hn))
        exact ⟨a, xs, rfl, hx, q _ (walk_ofE hL)⟩
theorem own_has {K : PySem.W.Frag} {φ : Ph} {H : Hp} {μ : Mu} {d : D} {l : List D} {v : V} {g : Grd} (h : lstOf μ d = some l) (hg : ∀ p ∈ ownL l d, p ∈ g) (rv : RV K fa (msk H φ) φ d v) : ∃ a, v = .ref a ∧ HasL K fa g φ H a l := by
  cases d with
  | lst l0 => cases h; exact has_lst rv
  | loc n => exact has_loc (hg (n, l) (by unfold ownL; exact List.mem_cons_self)) rv
  | _ => cases h
theorem own_stays {μ : Mu} {d : D} {l : List D} (h : lstOf μ d = some l) : stays μ (ownL l d) = true := by
  cases d with
  | loc n =>
    have h : (match μ[n]? with | some (.lst l) => some l | _ => none) = some l := h
    cases hn : μ[n]? with
    | none => rw [hn] at h; cases h
    | some c =>
      rw [hn] at h
      cases c with
      | lst l0 => cases h; exact stays_one hn
      | _ => cases h
  | _ => rfl
theorem stays_app {μ : Mu} {g g' : Grd} (h : stays μ g = true) (h' : stays μ g' = true) : stays μ (g ++ g') = true := by
  unfold stays at *
  rw [List.all_append, h, h']
  rfl
theorem items_zip {μ : Mu} {ss l : List D} {g : Grd} (h : itemsD .zip2 μ ss = some (l, g)) : ∃ a b l1 l2, ss = [a, b] ∧ l = (l1.zip l2).map (fun p => D.tup [p.1, p.2]) ∧
    ((lstOf μ a = some l1 ∧ lstOf μ b = some l2 ∧ g = ownL l1 a ++ ownL l2 b) ∨ (a = .tup l1 ∧ b = .tup l2 ∧ g = []) ∨ (lstOf μ a = some l1 ∧ b = .tup l2 ∧ g = ownL l1 a)) := by
  match ss, h with
  | [a, b], h =>
    unfold itemsD at h
    dsimp only at h
    split at h
    · rename_i l1 l2 h1 h2
      cases h
      exact ⟨a, b, l1, l2, rfl, rfl, .inl ⟨h1, h2, rfl⟩⟩
    · rename_i l1 h1 h2
      split at h
      · cases h
        exact ⟨_, _, _, _, rfl, rfl, .inr (.inr ⟨h1, rfl, rfl⟩)⟩
      · cases h
    · split at h
      · cases h
        exact ⟨_, _, _, _, rfl, rfl, .inr (.inl ⟨rfl, rfl, rfl⟩)⟩
      · cases h
theorem pi_zipD {e2 : Expr} {p tpos : Pos} {elts : List Expr} {kk : Nat} (hg : Gl X "zip") (hm : X.mg "zip" = none) (ha : PA X [e, e2] (tA X.K fa W ms)) (hs : starEach [e, e2] X.env = (false, eval e X.env) :: starEach [e2] X.env) (hpl : (backTo pos (starEach [e2] X.env)).any (·.1) = false) :
    PI X (.Tuple elts kk tpos) (.Call (.Name "zip" p) [e, e2] [] pos) (iD X.K fa W .zip2 ms) := PI.imp (pi_zip3 hg hm ha hs hpl) fun σ H R h => by
  obtain ⟨φ, μ, ρ, A, RR, h⟩ := h
  refine ⟨φ, μ, ρ, A, RR, h.imp fun ss μ1 φ1 H1 e1 A1 h1 vs rs => ?_⟩
  obtain ⟨l, g, e, q⟩ := h1
  obtain ⟨a, b, l1, l2, rfl, rfl, c⟩ := items_zip e
  obtain ⟨v, u, rfl, rv, ru⟩ := rvs2 rs
  rcases c with ⟨h1, h2, rfl⟩ | ⟨rfl, rfl, rfl⟩ | ⟨h1, rfl, rfl⟩
  · obtain ⟨p1, rfl, L1⟩ := own_has (g := ownL l1 a ++ ownL l2 b) h1 (fun p hp => List.mem_append_left _ hp) rv
    obtain ⟨p2, rfl, L2⟩ := own_has (g := ownL l1 a ++ ownL l2 b) h2 (fun p hp => List.mem_append_right _ hp) ru
    have hst := Std.self A1 (stays_app (own_stays h1) (own_stays h2))
    obtain ⟨xs, hx, _⟩ := L1 φ1 μ1 H1 hst
    obtain ⟨ys, hy, _⟩ := L2 φ1 μ1 H1 hst
    exact ⟨p1, p2, xs, ys, rfl, .inl ⟨hx, hy, q _ (walk_ofZ L1 L2)⟩⟩
  · obtain ⟨p1, rfl, L1⟩ := has_tup (g := []) rv
    obtain ⟨p2, rfl, L2⟩ := has_tup (g := []) ru
    have hst := Std.self A1 (g := []) stays_nil
    obtain ⟨xs, hx, _⟩ := L1 φ1 μ1 H1 hst
    obtain ⟨ys, hy, _⟩ := L2 φ1 μ1 H1 hst
    exact ⟨p1, p2, xs, ys, rfl, .inr (.inl ⟨hx, hy, q _ (walk_ofZT L1 L2)⟩)⟩
  · obtain ⟨p1, rfl, L1⟩ := own_has (g := ownL l1 a) h1 (fun p hp => hp) rv
    obtain ⟨p2, rfl, L2⟩ := has_tup (g := ownL l1 a) ru
    have hst := Std.self A1 (own_stays h1)
    obtain ⟨xs, hx, _⟩ := L1 φ1 μ1 H1 hst
    obtain ⟨ys, hy, _⟩ := L2 φ1 μ1 H1 hst
    exact ⟨p1, p2, xs, ys, rfl, .inr (.inr ⟨hx, hy, q _ (walk_ofZM L1 L2)⟩)⟩

/-! ### for -/
def forT (t : T) (oa : Rho → Mu → Out) : D → Rho → Mu → Out := fun d ρ μ => match t.put d ρ with
  | some ρ' => oa ρ' μ
  | none => .no
def evFor (kill : List Nat) (t : T) (k : IK) (ms : Rho → Mu → Res (List D)) (oa : Rho → Mu → Out) : Rho → Mu → Out := fun ρ μ => (ms ρ μ).out ρ fun ss μ => match itemsD k μ ss with
  | some (l, g) => forL g kill (forT t oa) l ρ μ
  | none => .no
theorem forL_stays {K : PySem.W.Frag} {φ : Ph} {H : Hp} {En : Ends} {g : Grd} {kill : List Nat} {turn : D → Rho → Mu → Out} {l : List D} {ρ : Rho} {μ : Mu} (h : RunO K fa W φ H (forL g kill turn l ρ μ) En) : stays μ g = true := by
  cases l with
  | nil =>
    unfold forL at h
    by_cases c : stays μ g = true
    · exact c
    · rw [if_neg c] at h; exact False.elim h
  | cons d r =>
    unfold forL at h
    by_cases c : stays μ g = true
    · exact c
    · rw [if_neg c] at h; exact False.elim h
theorem Ext.std {K : PySem.W.Frag} {φ φ' : Ph} {H H' : Hp} {μ' : Mu} {g : Grd} (x : Ext φ H φ' H') (A : Abs K fa φ' μ' H') (h : stays μ' g = true) : Std K fa g φ H φ' μ' H' := ⟨x.pre, x.same, A, h⟩
theorem s_for {kill : List Nat} {t : T} {k : IK} {body : List Stmt} {oa : Rho → Mu → Out} (hp : PassesOwn (model X.prog X.w) X.A X.env X.xe) (hc : X.calm = true) (hi : PI X tg iter (iD X.K fa W k ms)) (hg : PG X tg (tG X.K fa t)) (hb : PSs X body (tS X.K fa W oa))
    (hs : ∀ x, foldedSetIterable iter X.env x = pure x) (hw : k.wk = true → ∃ ts, t = .tp ts) : PS X (.For tg iter body [] pos) (tS X.K fa W (evFor kill t k ms oa)) := PS.imp (ps_for hp hc hi hg hb hs) fun D σ H h => by
  obtain ⟨φ, μ, ρ, A, R, h⟩ := h
  refine ⟨φ, μ, ρ, A, R, (h.out R).imp fun ss μ1 φ1 H1 e1 A1 h1 => ?_⟩
  cases hit : itemsD k μ1 ss with
  | none => rw [hit] at h1; exact False.elim h1
  | some p =>
    obtain ⟨l, g⟩ := p
    rw [hit] at h1
    have h1 : RunO X.K fa W φ1 H1 (forL g kill (forT t oa) l ρ μ1) D := h1
    refine ⟨l, g, rfl, fun J w => ?_⟩
    refine for_it w (fun i σ' H' => ∃ φ' μ' ρ', Ext φ1 H1 φ' H' ∧ Abs X.K fa φ' μ' H' ∧ REnv X.K fa (msk H' φ') φ' ρ' σ' ∧ RunO X.K fa W φ' H' (forL g kill (forT t oa) (l.drop i) ρ' μ') D) ⟨φ1, μ1, ρ, Ext.refl _ _, A1, R.ext e1, by rw [List.drop_zero]; exact h1⟩ ?_ ?_ ?_
    · rintro i σ' H' hi ⟨φ', μ', ρ', x, A', R', h'⟩
      exact ⟨φ', μ', x.std A' (forL_stays h')⟩
    · rintro i v σ' H' H'' hi ⟨φ', μ', ρ', x, A', R', h'⟩ y
      have hst := forL_stays h'
      obtain ⟨d, hd, x2, A2, rv⟩ := y φ' μ' (x.std A' hst)
      have hdr : l.drop i = d :: l.drop (i + 1) := by
        obtain ⟨hl, e⟩ := List.getElem?_eq_some_iff.mp hd
        rw [← e]
        exact List.drop_eq_getElem_cons hl
      rw [hdr] at h'
      unfold forL at h'
      rw [if_pos hst] at h'
      have R2 := (R'.kill kill).ext x2
      have h2 := RunO.ext x2 h'
      cases hput : t.put d (wipeR ρ' kill) with
      | none => unfold forT at h2; rw [hput] at h2; exact False.elim h2
      | some ρ2 =>
        have eT : forT t oa d (wipeR ρ' kill) μ' = oa ρ2 μ' := by unfold forT; rw [hput]
        rw [eT] at h2
        refine ⟨φ', μ', _, d, ρ2, A2, R2, rv.toT hw, hput, fun σ2 _ R3 => ⟨φ', μ', ρ2, A2, R3, ?_⟩⟩
        cases ho : oa ρ2 μ' with
        | nx ρ3 μ3 => rw [ho] at h2; exact fun φ3 H3 σ3 x3 A3 R4 => ⟨φ3, μ3, ρ3, (x.trans x2).trans x3, A3, R4, RunO.ext x3 h2⟩
        | ct ρ3 μ3 => rw [ho] at h2; exact fun φ3 H3 σ3 x3 A3 R4 => ⟨φ3, μ3, ρ3, (x.trans x2).trans x3, A3, R4, RunO.ext x3 h2⟩
        | bk ρ3 μ3 => rw [ho] at h2; exact h2
        | rt d3 μ3 => rw [ho] at h2; exact h2
        | ex _ _ _ => rw [ho] at h2; exact h2
        | no => rw [ho] at h2; exact h2
    · rintro σ' H' ⟨φ', μ', ρ', x, A', R', h'⟩
      have hst := forL_stays h'
      rw [List.drop_length] at h'
      unfold forL at h'
      rw [if_pos hst] at h'
      exact h' φ' H' σ' (Ext.refl _ _) A' (R'.kill kill)
end
end Ev

set_option Elab.async false
set_option linter.all false
set_option maxRecDepth 100000
set_option maxHeartbeats 1000000
/-! Comprehensions. -/
namespace Ev
open PySem PySem.Spec PyProof.Rows L2
theorem wipe_in {σ : L2.St} {j : Nat} : ∀ {vs : List Nat}, j ∈ vs → (L2.wipe σ vs)[j]? = if j < σ.length then some none else none
  | v :: vs, h => by
    unfold L2.wipe
    by_cases e : v = j
    · subst e
      by_cases hl : v < σ.length
      · rw [if_pos hl, List.getElem?_set_self (by rw [L2.wipe_length]; exact hl)]
      · rw [if_neg hl, List.getElem?_eq_none (by rw [List.length_set, L2.wipe_length]; omega)]
    · rw [List.getElem?_set_ne e]
      exact wipe_in ((List.mem_cons.mp h).resolve_left fun q => e q.symm)
theorem wipe_out {σ : L2.St} {j : Nat} : ∀ {vs : List Nat}, j ∉ vs → (L2.wipe σ vs)[j]? = σ[j]?
  | [], _ => rfl
  | v :: vs, h => by
    rw [List.mem_cons, not_or] at h
    unfold L2.wipe
    rw [List.getElem?_set_ne (fun e => h.1 e.symm)]
    exact wipe_out h.2
theorem wipe_like {σ σ2 : L2.St} {vs ts : List Nat} (hs : ∀ j ∈ ts, j ∈ vs) (l : Like ts (L2.wipe σ vs) σ2) : L2.wipe σ2 vs = L2.wipe σ vs := by
  apply List.ext_getElem?
  intro j
  have hl : σ2.length = σ.length := by rw [l.1, L2.wipe_length]
  by_cases h : j ∈ vs
  · rw [wipe_in h, wipe_in h, hl]
  · rw [wipe_out h, l.2 j fun q => h (hs j q)]
section
variable {K : PySem.W.Frag} {fa : Lay} {W : EW} {Z : EZ} {φ φ' φ'' φ1 : Ph} {H H' H'' H1 : Hp} {μ μ' μ'' μ1 : Mu} {L : Addr} {acc : List Ev.D}
theorem REnv.mono {G G' : Hp} {ρ : Rho} {σ : L2.St} (hG : Same G G') (hp : ∀ (n : Nat) (a : Addr), φ.sh[n]? = some a → φ'.sh[n]? = some a) (h : REnv K fa G φ ρ σ) : REnv K fa G' φ' ρ σ :=
  ⟨h.len, fun i d e => let ⟨v, a, b⟩ := h.at_ i d e; ⟨v, a, RV.mono hG hp d v b⟩, h.kp⟩
variable (K fa φ1 H1 L) in
/-- within a comprehension: its list lies hidden at L -/
structure CS (acc : List Ev.D) (φ' : Ph) (μ' : Mu) (H' : Hp) : Prop where
  pre : ∃ t, φ'.sh = φ1.sh ++ t
  hd : φ'.hd = L :: φ1.hd
  hold : ∀ a ∈ φ1.hd, (∀ ps, H1 a ≠ some (.tbl ps)) → H' a = H1 a
  keep : Same (msk H1 φ1) (msk H' φ')
  abs : Abs K fa φ' μ' H'
  lst : ∃ vs, H' L = some (.lst vs) ∧ RVs K fa (msk H' φ') φ' acc vs
theorem CS.start (A : Abs K fa φ1 μ1 H1) (hD : H1 L = none) : CS K fa φ1 H1 L [] ⟨φ1.sh, L :: φ1.hd⟩ μ1 (upd H1 L (.lst [])) := by
  have np := A.notIn hD
  have kp : Same (msk H1 φ1) (msk (upd H1 L (.lst [])) ⟨φ1.sh, L :: φ1.hd⟩) := fun a o h => by
    obtain ⟨h1, h2⟩ := msk_some h
    have ne : a ≠ L := ne_of_none h2 hD
    rw [msk_out, upd_ne ne, h2]
    rintro (q | q)
    · exact h1 (.inl q)
    · rcases List.mem_cons.mp q with q | q
      · exact ne q
      · exact h1 (.inr q)
  refine ⟨⟨[], by simp⟩, rfl, fun a h _ => upd_ne (A.ne hD (.inr h)), kp, ⟨A.len, A.nd, fun a h => ?_, fun i a c h1 h2 => ?_, A.tab.mono (fun _ q => List.mem_cons_of_mem _ q) (fun _ _ _ q => some_upd hD q) kp⟩, ⟨[], upd_same, RVs.nil⟩⟩
  · rcases List.mem_cons.mp h with rfl | h
    · exact ⟨fun q => np (.inl q), _, upd_same⟩
    · exact ⟨(A.hid a h).1, let ⟨u, e⟩ := (A.hid a h).2; ⟨u, some_upd hD e⟩⟩
  · exact CellR.mono (φ := φ1) (c := c) (h := A.cell i a c h1 h2) kp (fun _ _ q => q) fun u q => some_upd hD q
theorem CS.ext (c : CS K fa φ1 H1 L acc φ' μ' H') (x : Ext φ' H' φ'' H'') (A : Abs K fa φ'' μ'' H'') : CS K fa φ1 H1 L acc φ'' μ'' H'' := by
  obtain ⟨t, e⟩ := c.pre
  obtain ⟨u, e'⟩ := x.pre
  obtain ⟨vs, h1, h2⟩ := c.lst
  have hD : L ∈ φ'.hd := by rw [c.hd]; exact List.mem_cons_self
  exact ⟨⟨t ++ u, by rw [e', e, List.append_assoc]⟩, x.hd.trans c.hd, fun a h n => (x.hold a (by rw [c.hd]; exact List.mem_cons_of_mem _ h) (by rw [c.hold a h n]; exact n)).trans (c.hold a h n), fun a o h => x.keep a o (c.keep a o h), A,
    ⟨vs, (x.hold L hD (by rw [h1]; exact fun _ q => nomatch q)).trans h1, h2.ext x⟩⟩
theorem CS.app (c : CS K fa φ1 H1 L acc φ' μ' H') (hn : L ∉ φ1.hd) {vs : List V} (hv : H' L = some (.lst vs)) {d : Ev.D} {y : V} (r : RV K fa (msk H' φ') φ' d y) : CS K fa φ1 H1 L (acc ++ [d]) φ' μ' (upd H' L (.lst (vs ++ [y]))) := by
  have hD : L ∈ φ' := .inr (by rw [c.hd]; exact List.mem_cons_self)
  have em : msk (upd H' L (.lst (vs ++ [y]))) φ' = msk H' φ' := msk_upd hD
  obtain ⟨us, h1, h2⟩ := c.lst
  rw [hv] at h1
  cases h1
  have hs : ∀ a ∈ φ'.sh, a ≠ L := fun a h e => (c.abs.hid L (by rw [c.hd]; exact List.mem_cons_self)).1 (e ▸ h)
  refine ⟨c.pre, c.hd, fun a h n => ?_, by rw [em]; exact c.keep, ⟨c.abs.len, c.abs.nd, fun a h => ⟨(c.abs.hid a h).1, ?_⟩, fun i a q h3 h4 => ?_, c.abs.tab.mono (fun _ q => q) (fun a _ ps q => by rw [upd_ne (fun e => by rw [e, hv] at q; cases q)]; exact q) (fun a o h => by rw [em]; exact h)⟩, ⟨_, upd_same, by rw [em]; exact h2.append (RVs.one r)⟩⟩
  · rw [upd_ne (fun e => hn (by rw [← e]; exact h))]; exact c.hold a h n
  · by_cases e : a = L
    · subst e; exact ⟨_, upd_same⟩
    · rw [upd_ne e]; exact (c.abs.hid a h).2
  · rw [em]
    refine CellR.mono (c := q) (h := c.abs.cell i a q h3 h4) (fun _ _ z => z) (fun _ _ z => z) fun u z => ?_
    rw [upd_ne (hs a (List.mem_of_getElem? h3))]; exact z
theorem CS.tabs (c : CS K fa φ1 H1 L acc φ' μ' H') {vs : List V} (hv : H' L = some (.lst vs)) {φ2 : Ph} (e : φ2.hd = φ1.hd := by rfl) (sm : Same (msk H' φ') (msk H' φ2)) : TabM fa φ2 H' := fun p hp => by
  obtain ⟨h1, ps, h2, h3, h4⟩ := c.abs.tab p hp
  refine ⟨?_, ps, h2, h3, fun pos cv q => ?_⟩
  · rw [c.hd] at h1
    rw [e]
    rcases List.mem_cons.mp h1 with h1 | h1
    · rw [h1, hv] at h2; cases h2
    · exact h1
  · obtain ⟨z, e1, e2⟩ := h4 pos cv q
    exact ⟨z, e1, sm _ _ e2⟩
/-- the list comes into sight -/
theorem CS.out (c : CS K fa φ1 H1 L acc φ' μ' H') (A1 : Abs K fa φ1 μ1 H1) (hD : H1 L = none) :
    Ext φ1 H1 ⟨φ'.sh, φ1.hd⟩ H' ∧ Abs K fa ⟨φ'.sh, φ1.hd⟩ μ' H' ∧ RV K fa (msk H' ⟨φ'.sh, φ1.hd⟩) ⟨φ'.sh, φ1.hd⟩ (.lst acc) (.ref L) := by
  have hDh : L ∈ φ'.hd := by rw [c.hd]; exact List.mem_cons_self
  have sm : Same (msk H' φ') (msk H' ⟨φ'.sh, φ1.hd⟩) := fun a o h => by
    obtain ⟨h1, h2⟩ := msk_some h
    rw [msk_out, h2]
    rintro (q | q)
    · exact h1 (.inl q)
    · exact h1 (.inr (by rw [c.hd]; exact List.mem_cons_of_mem _ q))
  obtain ⟨vs, h1, h2⟩ := c.lst
  refine ⟨⟨c.pre, rfl, c.hold, fun a o h => sm a o (c.keep a o h)⟩, ⟨c.abs.len, c.abs.nd, fun a h => c.abs.hid a (by rw [c.hd]; exact List.mem_cons_of_mem _ h), fun i a q h3 h4 => ?_, c.tabs h1 (sm := sm)⟩, mk_lst (vs := vs) (.inl (.inl ?_)) (RVs.mono (φ := φ') (φ' := ⟨φ'.sh, φ1.hd⟩) sm (fun _ _ z => z) _ _ h2)⟩
  · exact CellR.mono (φ := φ') (c := q) (h := c.abs.cell i a q h3 h4) sm (fun _ _ z => z) fun u z => z
  · rw [msk_out, h1]
    rintro (q | q)
    · exact (c.abs.hid L hDh).1 q
    · exact A1.notIn hD (.inr q)
/-- .. to be shared -/
theorem CS.outM (c : CS K fa φ1 H1 L acc φ' μ' H') (A1 : Abs K fa φ1 μ1 H1) (hD : H1 L = none) :
    Ext φ1 H1 ⟨φ'.sh ++ [L], φ1.hd⟩ H' ∧ Abs K fa ⟨φ'.sh ++ [L], φ1.hd⟩ (μ' ++ [.lst acc]) H' ∧ RV K fa (msk H' ⟨φ'.sh ++ [L], φ1.hd⟩) ⟨φ'.sh ++ [L], φ1.hd⟩ (.loc μ'.length) (.ref L) := by
  have hDh : L ∈ φ'.hd := by rw [c.hd]; exact List.mem_cons_self
  have hDs : L ∉ φ'.sh := (c.abs.hid L hDh).1
  have em : msk H' ⟨φ'.sh ++ [L], φ1.hd⟩ = msk H' φ' := by
    funext a
    by_cases h : a ∈ φ'
    · rw [msk_in h, msk_in]
      rcases h with h | h
      · exact .inl (List.mem_append_left _ h)
      · rw [c.hd] at h
        rcases List.mem_cons.mp h with rfl | h
        · exact .inl (List.mem_append_right _ List.mem_cons_self)
        · exact .inr h
    · rw [msk_out h, msk_out]
      rintro (q | q)
      · have q : a ∈ φ'.sh ++ [L] := q
        rcases List.mem_append.mp q with q | q
        · exact h (.inl q)
        · have : a = L := by simpa using q
          subst this
          exact h (.inr hDh)
      · exact h (.inr (by rw [c.hd]; exact List.mem_cons_of_mem _ q))
  have hp : ∀ (n : Nat) (a : Addr), φ'.sh[n]? = some a → (φ'.sh ++ [L])[n]? = some a := fun n a h => by
    rw [List.getElem?_append_left (List.getElem?_eq_some_iff.mp h).1]; exact h
  obtain ⟨vs, h1, h2⟩ := c.lst
  obtain ⟨t, ht⟩ := c.pre
  refine ⟨⟨⟨t ++ [L], by rw [ht, List.append_assoc]⟩, rfl, c.hold, fun a o h => by rw [em]; exact c.keep a o h⟩, ⟨?_, ?_, fun a h => ⟨fun q => ?_, (c.abs.hid a (by rw [c.hd]; exact List.mem_cons_of_mem _ h)).2⟩, fun i a q h3 h4 => ?_, c.tabs h1 (sm := fun a o h => by rw [em]; exact h)⟩, mk_loc ?_⟩
  · show (φ'.sh ++ [L]).length = _
    rw [List.length_append, List.length_append, c.abs.len]; rfl
  · show (φ'.sh ++ [L]).Nodup
    rw [List.nodup_append]
    refine ⟨c.abs.nd, by simp, fun a ha b hb e => ?_⟩
    have : b = L := by simpa using hb
    subst this; subst e
    exact hDs ha
  · have q : a ∈ φ'.sh ++ [L] := q
    rcases List.mem_append.mp q with q | q
    · exact (c.abs.hid a (by rw [c.hd]; exact List.mem_cons_of_mem _ h)).1 q
    · have : a = L := by simpa using q
      subst this
      exact A1.notIn hD (.inr h)
  · rw [em]
    have h3 : (φ'.sh ++ [L])[i]? = some a := h3
    by_cases hi : i < φ'.sh.length
    · rw [List.getElem?_append_left hi] at h3
      rw [List.getElem?_append_left (by rw [← c.abs.len]; exact hi)] at h4
      exact CellR.mono (c := q) (h := c.abs.cell i a q h3 h4) (fun _ _ z => z) hp fun u z => z
    · have hl : i < (φ'.sh ++ [L]).length := (List.getElem?_eq_some_iff.mp h3).1
      rw [List.length_append] at hl
      have e : i = φ'.sh.length := by simp at hl; omega
      subst e
      rw [List.getElem?_append_right (Nat.le_refl _)] at h3
      rw [List.getElem?_append_right (by rw [c.abs.len]; exact Nat.le_refl _)] at h4
      simp only [Nat.sub_self, List.getElem?_cons_zero, Option.some.injEq] at h3
      rw [c.abs.len] at h4
      simp only [Nat.sub_self, List.getElem?_cons_zero, Option.some.injEq] at h4
      subst h3; subst h4
      exact ⟨vs, h1, RVs.mono (fun _ _ z => z) hp _ _ h2⟩
  · show (φ'.sh ++ [L])[μ'.length]? = some L
    rw [← c.abs.len, List.getElem?_append_right (Nat.le_refl _), Nat.sub_self]
    rfl
end
def compT (t : T) (own : List Nat) (mt : Rho → Mu → Res Bool) (me : Rho → Mu → Res D) (ρ : Rho) : D → Mu → Res (Option D) := fun d μ => match t.put d (wipeR ρ own) with
  | some ρ' => (mt ρ' μ).calm.bind fun b μ => if b then (me ρ' μ).calm.bind fun x μ => .ok (some x) μ else .ok none μ
  | none => .no
/-- where nothing is let out -/
abbrev W0 : EW := fun _ _ _ => False
theorem calm_ok {α : Type} {r : Res α} {a : α} {μ : Mu} (h : r.calm = .ok a μ) : r = .ok a μ := by
  cases r with
  | ok b m => exact h
  | _ => cases h
theorem calm_ex {α : Type} {r : Res α} {x : Ex} {μ : Mu} : r.calm ≠ .ex x μ := fun h => by
  cases r with
  | _ => cases h
theorem bind_ex {α β : Type} {r : Res α} {f : α → Mu → Res β} {x : Ex} {μ : Mu} (hr : ∀ x μ, r ≠ .ex x μ) (h : r.bind f = .ex x μ) : ∃ a m, f a m = .ex x μ := by
  cases r with
  | ok a m => exact ⟨a, m, h⟩
  | ex y m => exact absurd rfl (hr y m)
  | no => cases h
theorem compT_ex {t : T} {own : List Nat} {mt : Rho → Mu → Res Bool} {me : Rho → Mu → Res D} {ρ : Rho} {d : D} {μ μ' : Mu} {x : Ex} : compT t own mt me ρ d μ ≠ .ex x μ' := fun h => by
  unfold compT at h
  split at h
  · obtain ⟨b, m, h⟩ := bind_ex (fun _ _ => calm_ex) h
    cases b with
    | true =>
      obtain ⟨y, m2, h⟩ := bind_ex (fun _ _ => calm_ex) (show (me _ m).calm.bind _ = _ from h)
      cases h
    | false => cases h
  · cases h
theorem compL_ex {g : Grd} {turn : D → Mu → Res (Option D)} (ht : ∀ d μ x μ', turn d μ ≠ .ex x μ') : ∀ {l acc : List D} {μ μ' : Mu} {x : Ex}, compL g turn l acc μ ≠ .ex x μ'
  | [], acc, μ, μ', x, h => by
    unfold compL at h
    split at h <;> cases h
  | d :: r, acc, μ, μ', x, h => by
    unfold compL at h
    split at h
    · obtain ⟨a, m, h⟩ := bind_ex (ht d μ) h
      exact compL_ex ht h
    · cases h
def evComp (m : Bool) (own : List Nat) (t : T) (k : IK) (ms : Rho → Mu → Res (List D)) (mt : Rho → Mu → Res Bool) (me : Rho → Mu → Res D) : Rho → Mu → Res D := fun ρ μ => (ms ρ μ).bind fun ss μ => match itemsD k μ ss with
  | some (l, g) => (compL g (compT t own mt me ρ) l [] μ).bind fun xs μ => if m then .ok (.loc μ.length) (μ ++ [.lst xs]) else .ok (.lst xs) μ
  | none => .no
theorem compT_ok {t : T} {own : List Nat} {mt : Rho → Mu → Res Bool} {me : Rho → Mu → Res D} {ρ : Rho} {d : D} {μ μ' : Mu} {o : Option D} (h : compT t own mt me ρ d μ = .ok o μ') :
    ∃ ρ' b μ1, t.put d (wipeR ρ own) = some ρ' ∧ mt ρ' μ = .ok b μ1 ∧ ((b = true ∧ ∃ x, me ρ' μ1 = .ok x μ' ∧ o = some x) ∨ (b = false ∧ o = none ∧ μ' = μ1)) := by
  unfold compT at h
  split at h
  · rename_i ρ' hp
    obtain ⟨b, μ1, h1, h2⟩ := bind_ok h
    refine ⟨ρ', b, μ1, hp, calm_ok h1, ?_⟩
    cases b with
    | true =>
      obtain ⟨x, μ2, h3, h4⟩ := bind_ok (show (me ρ' μ1).calm.bind _ = _ from h2)
      cases h4
      exact .inl ⟨rfl, x, calm_ok h3, rfl⟩
    | false => cases h2; exact .inr ⟨rfl, rfl, rfl⟩
  · cases h
theorem compL_cons {g : Grd} {turn : D → Mu → Res (Option D)} {d : D} {r acc xs : List D} {μ μ' : Mu} (h : compL g turn (d :: r) acc μ = .ok xs μ') :
    stays μ g = true ∧ acc.length < lim ∧ ∃ o μ1, turn d μ = .ok o μ1 ∧ compL g turn r (match o with | some x => acc ++ [x] | none => acc) μ1 = .ok xs μ' := by
  unfold compL at h
  by_cases c : (stays μ g && decide (acc.length < lim)) = true
  · rw [if_pos c] at h
    rw [Bool.and_eq_true, decide_eq_true_eq] at c
    obtain ⟨o, μ1, h1, h2⟩ := bind_ok h
    exact ⟨c.1, c.2, o, μ1, h1, h2⟩
  · rw [if_neg c] at h; cases h
theorem compL_nil {g : Grd} {turn : D → Mu → Res (Option D)} {acc xs : List D} {μ μ' : Mu} (h : compL g turn [] acc μ = .ok xs μ') : stays μ g = true ∧ xs = acc ∧ μ' = μ := by
  unfold compL at h
  by_cases c : stays μ g = true
  · rw [if_pos c] at h; cases h; exact ⟨c, rfl, rfl⟩
  · rw [if_neg c] at h; cases h
theorem compL_stays {g : Grd} {turn : D → Mu → Res (Option D)} {l acc xs : List D} {μ μ' : Mu} (h : compL g turn l acc μ = .ok xs μ') : stays μ g = true := by
  cases l with
  | nil => exact (compL_nil h).1
  | cons d r => exact (compL_cons h).1
section
variable {X : Cx} {fa : Lay} {W : EW} {Z : EZ} {ms : Rho → Mu → Res (List D)} {mt : Rho → Mu → Res Bool} {me : Rho → Mu → Res D}
theorem comp_core {K : PySem.W.Frag} {m : Bool} {own : List Nat} {t : T} {k : IK} (hkn : fa.keep = none) (hw : k.wk = true → ∃ ts, t = .tp ts) (hv : ∀ j ∈ t.vars, j ∈ own) (σ : L2.St) (H : Hp) (Q : VK) (h : tE K fa W (evComp m own t k ms mt me) σ H Q) :
    tLc (iD K fa W k ms) (tG K fa t) (tT K fa W0 mt) (tE K fa W0 me) own σ H Q := by
  obtain ⟨φ, μ, ρ, A, R, h⟩ := h
  refine ⟨φ, μ, ρ, A, R, h.bind.imp fun ss μ1 φ1 H1 e1 A1 h1 => ?_⟩
  cases hit : itemsD k μ1 ss with
  | none => rw [hit] at h1; exact False.elim h1
  | some p =>
    obtain ⟨l, g⟩ := p
    rw [hit] at h1
    have h1 : Run K fa (W σ) φ1 H1 ((compL g (compT t own mt me ρ) l [] μ1).bind fun xs μ => if m then .ok (.loc μ.length) (μ ++ [.lst xs]) else .ok (.lst xs) μ) (toV K fa Q) := h1
    refine ⟨l, g, rfl, fun J w D hD => ?_⟩
    have hn : D ∉ φ1.hd := fun q => A1.notIn hD (.inr q)
    have R1 := R.ext e1
    cases hc : compL g (compT t own mt me ρ) l [] μ1 with
    | ex _ _ => exact absurd hc (compL_ex fun _ _ _ _ => compT_ex)
    | no => rw [hc] at h1; exact False.elim h1
    | ok xs μf =>
      rw [hc] at h1
      have hfin : ∀ φ' H', CS K fa φ1 H1 D xs φ' μf H' → Q (.ref D) H' := fun φ' H' c => by
        cases m with
        | false =>
          obtain ⟨x, A', r⟩ := c.out A1 hD
          exact h1 _ _ x A' _ r
        | true =>
          obtain ⟨x, A', r⟩ := c.outM A1 hD
          exact h1 _ _ x A' _ r
      have std : ∀ {acc φ' μ' H'}, CS K fa φ1 H1 D acc φ' μ' H' → stays μ' g = true → Std K fa g φ1 H1 φ' μ' H' := fun c hs => ⟨c.pre, c.keep, c.abs, hs⟩
      refine lc_it w (fun i H' => ∃ acc φ' μ', CS K fa φ1 H1 D acc φ' μ' H' ∧ compL g (compT t own mt me ρ) (l.drop i) acc μ' = .ok xs μf) ⟨[], _, μ1, CS.start A1 hD, by rw [List.drop_zero]; exact hc⟩ ?_ ?_ ?_
      · rintro i H' hi ⟨acc, φ', μ', c, hr⟩
        exact ⟨φ', μ', std c (compL_stays hr)⟩
      · rintro i v H' H'' hi ⟨acc, φ', μ', c, hr⟩ y
        obtain ⟨d, hd, x2, A2, rv⟩ := y φ' μ' (std c (compL_stays hr))
        have hdr : l.drop i = d :: l.drop (i + 1) := by
          obtain ⟨hl, e⟩ := List.getElem?_eq_some_iff.mp hd
          rw [← e]
          exact List.drop_eq_getElem_cons hl
        rw [hdr] at hr
        obtain ⟨hst, hz, o, μ2, hturn, hrest⟩ := compL_cons hr
        obtain ⟨ρ', b, μ3, hput, hb, hcase⟩ := compT_ok hturn
        have c2 := c.ext x2 A2
        have RW : REnv K fa (msk H'' φ') φ' (wipeR ρ own) (L2.wipe σ own) := (R1.mono c2.keep (fun _ _ q => pre_get c2.pre q)).wipe hkn own
        refine ⟨φ', μ', _, d, ρ', A2, RW, rv.toT hw, hput, fun σ2 lk R2 => ⟨wipe_like hv lk, φ', μ', ρ', A2, R2, ?_⟩⟩
        rw [hb]
        intro φ3 H3 x3 A3
        have c3 := c2.ext x3 A3
        rcases hcase with ⟨rfl, x, hx, rfl⟩ | ⟨rfl, rfl, rfl⟩
        · show tE K fa W0 me σ2 H3 _
          refine ⟨φ3, μ3, ρ', A3, R2.ext x3, ?_⟩
          rw [hx]
          intro φ4 H4 x4 A4 yv ry
          have c4 := c3.ext x4 A4
          obtain ⟨vs, hvs, rs⟩ := c4.lst
          exact ⟨vs, hvs, by rw [rs.length, lim_eq]; exact hz, acc ++ [x], φ4, μ2, c4.app hn hvs ry, hrest⟩
        · exact ⟨acc, φ3, _, c3, hrest⟩
      · rintro H' ⟨acc, φ', μ', c, hr⟩
        rw [List.drop_length] at hr
        obtain ⟨_, rfl, rfl⟩ := compL_nil hr
        exact hfin φ' H' c
variable {elt tg iter : Expr} {ifs : List Expr} {scope : Scope} {own : List (Str × Nat)} {pos spos py : Pos} {m : Bool} {t : T} {k : IK}
theorem e_comp (hkn : fa.keep = none) (hw : k.wk = true → ∃ ts, t = .tp ts) (hc : X.calm = true) (hN : X.N.Nodup) (hi : PI X tg iter (iD X.K fa W k ms)) (ok : BlkOk X.N X.env.scope scope own) (hv : ∀ j ∈ t.vars, j ∈ own.map (·.2))
    (hg : ∀ (s : Shared) (H : Hp) (C : Addr) (cl : List (Str × Addr)) (fp : List Addr), PG (X.blk s H scope (compEnvC scope cl C X.env) fp) tg (tG X.K fa t))
    (ht : ∀ (s : Shared) (H : Hp) (C : Addr) (cl : List (Str × Addr)) (fp : List Addr), PTs (X.blk s H scope (compEnvC scope cl C X.env) fp) ifs (tT X.K fa W0 mt))
    (he : ∀ (s : Shared) (H : Hp) (C : Addr) (cl : List (Str × Addr)) (fp : List Addr), PE (X.blk s H scope (compEnvC scope cl C X.env) fp) elt (tE X.K fa W0 me)) (hs : ∀ x, foldedSetIterable iter X.env x = pure x) :
    PE X (.ListComp elt [⟨tg, iter, ifs, 0⟩] scope pos) (tE X.K fa W (evComp m (own.map (·.2)) t k ms mt me)) := PE.imp (pe_lc hc hN hi ok hg ht he hs) fun σ H Q h => comp_core hkn hw hv σ H Q h
theorem tE.mono {K : PySem.W.Frag} {mm : Rho → Mu → Res D} {σ : L2.St} {H : Hp} {Q Q' : VK} (h : tE K fa W mm σ H Q) (f : ∀ x H', Q x H' → Q' x H') : tE K fa W mm σ H Q' := by
  obtain ⟨φ, μ, ρ, A, R, h⟩ := h
  exact ⟨φ, μ, ρ, A, R, h.imp fun d μ1 φ1 H1 e1 A1 h1 v rv => f _ _ (h1 v rv)⟩
theorem s_setLc {i : Nat} {y : Str} (hkn : fa.keep = none) (hw : k.wk = true → ∃ ts, t = .tp ts) (hc : X.calm = true) (hN : X.N.Nodup) (hy : X.N[i]? = some y) (hyl : X.env.scope.names.lookup y = some .local)
    (hsw : swapsWith (.ListComp elt [⟨tg, iter, ifs, 0⟩] scope pos) (some (.Name y py)) spos.line X.env = pure true) (hi : PI X tg iter (iD X.K fa W k ms)) (ok : BlkOk X.N X.env.scope scope own) (hv : ∀ j ∈ t.vars, j ∈ own.map (·.2))
    (hg : ∀ (s : Shared) (H : Hp) (C : Addr) (cl : List (Str × Addr)) (fp : List Addr), PG (X.blk s H scope (compEnvC scope cl C X.env) fp) tg (tG X.K fa t))
    (ht : ∀ (s : Shared) (H : Hp) (C : Addr) (cl : List (Str × Addr)) (fp : List Addr), PTs (X.blk s H scope (compEnvC scope cl C X.env) fp) ifs (tT X.K fa W0 mt))
    (he : ∀ (s : Shared) (H : Hp) (C : Addr) (cl : List (Str × Addr)) (fp : List Addr), PE (X.blk s H scope (compEnvC scope cl C X.env) fp) elt (tE X.K fa W0 me)) (hs : ∀ x, foldedSetIterable iter X.env x = pure x) :
    PS X (.Assign [.Name y py] (.ListComp elt [⟨tg, iter, ifs, 0⟩] scope pos) spos) (tS X.K fa W (evAsg (.nm i) (evComp m (own.map (·.2)) t k ms mt me))) := PS.imp (ps_setLc hc hN hy hyl hsw hi ok hg ht he hs) fun D σ H h => by
  have h2 := asg_core (te := tE X.K fa W _) D σ H (fun Q q => q) h
  refine comp_core hkn hw hv σ H _ (tE.mono h2 fun x H' q => ?_)
  obtain ⟨φ, μ, ρ, d, ρ', A, R, rv, e, q⟩ := q
  unfold T.put at e
  cases e
  refine q _ ⟨by rw [List.length_set], fun j hj => ?_⟩ (R.set (fun v e => by rw [hkn] at e; cases e) rv)
  rw [List.getElem?_set_ne (fun e => hj (by unfold T.vars; simp [e]))]
end
end Ev

set_option Elab.async false
set_option linter.all false
set_option maxRecDepth 100000
set_option maxHeartbeats 1000000
/-! Calls: a def's promise, its end. -/
namespace Ev
open PySem PySem.Spec PyProof.Rows L2
section
variable {K : PySem.W.Frag} {fa : Lay} {W : EW} {Z : EZ} {φ φ' : Ph} {H H' G G' : Hp} {μ μ' : Mu}
mutual
theorem RV.closed : ∀ (d : D) (v : V), RV K fa G φ d v → d.closed φ.sh.length = true
  | .non, _, _ => rfl
  | .bl _, _, _ => rfl
  | .int _, _, _ => rfl
  | .str _, _, _ => rfl
  | .fn k l, v, h => by
    unfold RV at h
    unfold D.closed
    by_cases hk : k < LB
    · rw [if_pos hk] at h
      rw [h.1]
      rfl
    · rw [if_neg hk] at h
      obtain ⟨ci, _, _, _, _, hr⟩ := h
      exact RVs.closed l _ hr
  | .tup l, v, h => by
    unfold RV at h
    obtain ⟨a, vs, e, hs, hr⟩ := h
    unfold D.closed
    exact RVs.closed l vs hr
  | .lst l, v, h => by
    unfold RV at h
    obtain ⟨a, vs, e, hs, hr⟩ := h
    unfold D.closed
    exact RVs.closed l vs hr
  | .loc n, v, h => by
    unfold RV at h
    obtain ⟨a, ha, e⟩ := h
    unfold D.closed
    exact decide_eq_true (List.getElem?_eq_some_iff.mp ha).1
theorem RVs.closed : ∀ (l : List D) (vs : List V), RVs K fa G φ l vs → D.closedL φ.sh.length l = true
  | [], _, _ => rfl
  | d :: ds, vs, h => by
    unfold RVs at h
    obtain ⟨v, r, e, h1, h2⟩ := h
    unfold D.closedL
    rw [Bool.and_eq_true]
    exact ⟨RV.closed d v h1, RVs.closed ds r h2⟩
end
mutual
theorem RV.low (hG : Same G G') (hp : ∀ (n : Nat) (a : Addr), n < φ.sh.length → φ'.sh[n]? = some a → φ.sh[n]? = some a) : ∀ (d : D) (v : V), d.closed φ.sh.length = true → RV K fa G φ' d v → RV K fa G' φ d v
  | .non, _, _, h => by unfold RV at *; exact h
  | .bl _, _, _, h => by unfold RV at *; exact h
  | .int _, _, _, h => by unfold RV at *; exact h
  | .str _, _, _, h => by unfold RV at *; exact h
  | .fn k l, v, c, h => by
    unfold RV at *
    unfold D.closed at c
    by_cases hk : k < LB
    · rw [if_pos hk] at *; exact h
    · rw [if_neg hk] at *
      obtain ⟨ci, e1, e2, e3, e4, hr⟩ := h
      exact ⟨ci, e1, e2, e3, hG _ _ e4, RVs.low hG hp l _ c hr⟩
  | .tup l, v, c, h => by
    unfold RV at *
    obtain ⟨a, vs, e, hs, hr⟩ := h
    unfold D.closed at c
    exact ⟨a, vs, e, Same.sqP hG hs, RVs.low hG hp l vs c hr⟩
  | .lst l, v, c, h => by
    unfold RV at *
    obtain ⟨a, vs, e, hs, hr⟩ := h
    unfold D.closed at c
    exact ⟨a, vs, e, Same.sqL hG hs, RVs.low hG hp l vs c hr⟩
  | .loc n, v, c, h => by
    unfold RV at *
    obtain ⟨a, ha, e⟩ := h
    unfold D.closed at c
    exact ⟨a, hp n a (of_decide_eq_true c) ha, e⟩
theorem RVs.low (hG : Same G G') (hp : ∀ (n : Nat) (a : Addr), n < φ.sh.length → φ'.sh[n]? = some a → φ.sh[n]? = some a) : ∀ (l : List D) (vs : List V), D.closedL φ.sh.length l = true → RVs K fa G φ' l vs → RVs K fa G' φ l vs
  | [], _, _, h => by unfold RVs at *; exact h
  | d :: ds, vs, c, h => by
    unfold RVs at *
    obtain ⟨v, r, e, h1, h2⟩ := h
    unfold D.closedL at c
    rw [Bool.and_eq_true] at c
    exact ⟨v, r, e, RV.low hG hp d v c.1 h1, RVs.low hG hp ds r c.2 h2⟩
end
theorem RFs.closed : ∀ {l : List (Nat × D)} {vs : List (Str × V)}, RFs K fa G φ l vs → ∀ p ∈ l, p.2.closed φ.sh.length = true
  | [], _, _ => fun p hp => by cases hp
  | q :: r, vs, h => fun p hp => by
    obtain ⟨v, q', rfl, h1, h2, h3⟩ := h
    rcases List.mem_cons.mp hp with rfl | hp
    · exact RV.closed _ _ h2
    · exact RFs.closed h3 p hp
theorem RDs.closed : ∀ {l : List (D × D)} {vs : List (L2.Key × V)}, RDs K fa G φ l vs → ∀ p ∈ l, p.2.closed φ.sh.length = true
  | [], _, _ => fun p hp => by cases hp
  | q :: r, vs, h => fun p hp => by
    obtain ⟨k, v, q', rfl, h1, h2, h3⟩ := h
    rcases List.mem_cons.mp hp with rfl | hp
    · exact RV.closed _ _ h2
    · exact RDs.closed h3 p hp
theorem RFs.low (hG : Same G G') (hp : ∀ (n : Nat) (a : Addr), n < φ.sh.length → φ'.sh[n]? = some a → φ.sh[n]? = some a) : ∀ (l : List (Nat × D)) (vs : List (Str × V)), (∀ p ∈ l, p.2.closed φ.sh.length = true) → RFs K fa G φ' l vs → RFs K fa G' φ l vs
  | [], _, _, h => h
  | q :: r, vs, c, h => by
    obtain ⟨v, q', e, h1, h2, h3⟩ := h
    exact ⟨v, q', e, h1, RV.low hG hp _ v (c _ List.mem_cons_self) h2, RFs.low hG hp r q' (fun p hp => c p (List.mem_cons_of_mem _ hp)) h3⟩
theorem RXs.closed : ∀ {l : List (D × D)} {vs : List (NestedKey × Addr × Value)}, RXs K fa G φ l vs → ∀ p ∈ l, p.2.closed φ.sh.length = true
  | [], _, _, p, hp => by cases hp
  | x :: r, _, h, p, hp => by
    obtain ⟨b, u, v, q, e1, h1, h2, h3, h4, h5⟩ := h
    rcases List.mem_cons.mp hp with rfl | hp
    · exact RV.closed _ _ h4
    · exact RXs.closed h5 p hp
mutual
theorem nk_flat : ∀ d : D, isNK d = true → d.flat = true
  | .non, _ => rfl
  | .int _, _ => rfl
  | .str _, _ => rfl
  | .bl _, h => by unfold isNK at h; cases h
  | .lst _, h => by unfold isNK at h; cases h
  | .loc _, h => by unfold isNK at h; cases h
  | .fn _ _, h => by unfold isNK at h; cases h
  | .tup l, h => by unfold isNK at h; unfold D.flat; exact nk_flatL l h
theorem nk_flatL : ∀ l : List D, isNKs l = true → D.flatL l = true
  | [], _ => rfl
  | d :: r, h => by
    unfold isNKs at h
    unfold D.flatL
    rw [Bool.and_eq_true] at h ⊢
    exact ⟨nk_flat d h.1, nk_flatL r h.2⟩
end
theorem kt_flat {d : D} (h : isKT d = true) : d.flat = true := by
  cases d with
  | tup l => unfold isKT at h; rw [Bool.and_eq_true] at h; unfold D.flat; exact nk_flatL l h.1
  | _ => cases h
theorem RXs.low (hG : Same G G') (hp : ∀ (n : Nat) (a : Addr), n < φ.sh.length → φ'.sh[n]? = some a → φ.sh[n]? = some a) : ∀ (l : List (D × D)) (vs : List (NestedKey × Addr × Value)), (∀ p ∈ l, p.2.closed φ.sh.length = true) → RXs K fa G φ' l vs → RXs K fa G' φ l vs
  | [], _, _, h => h
  | p :: r, _, c, h => by
    obtain ⟨b, u, v, q, e1, h1, h2, h3, h4, h5⟩ := h
    exact ⟨b, u, v, q, e1, h1, RV.low hG hp _ _ (flat_closed _ _ (kt_flat h1)) h2, h3, RV.low hG hp _ v (c _ List.mem_cons_self) h4, RXs.low hG hp r q (fun p hp => c p (List.mem_cons_of_mem _ hp)) h5⟩
theorem RDs.low (hG : Same G G') (hp : ∀ (n : Nat) (a : Addr), n < φ.sh.length → φ'.sh[n]? = some a → φ.sh[n]? = some a) : ∀ (l : List (D × D)) (vs : List (L2.Key × V)), (∀ p ∈ l, p.2.closed φ.sh.length = true) → RDs K fa G φ' l vs → RDs K fa G' φ l vs
  | [], _, _, h => h
  | q :: r, vs, c, h => by
    obtain ⟨k, v, q', e, h1, h2, h3⟩ := h
    exact ⟨k, v, q', e, h1, RV.low hG hp _ v (c _ List.mem_cons_self) h2, RDs.low hG hp r q' (fun p hp => c p (List.mem_cons_of_mem _ hp)) h3⟩
theorem ext_sub (x : Ext φ H φ' H') {a : Addr} (h : a ∈ φ) : a ∈ φ' := by
  obtain ⟨t, e⟩ := x.pre
  rcases h with h | h
  · exact .inl (by rw [e]; exact List.mem_append_left _ h)
  · exact .inr (by rw [x.hd]; exact h)
theorem ext_pre (x : Ext φ H φ' H') (n : Nat) (a : Addr) (hn : n < φ.sh.length) (h : φ'.sh[n]? = some a) : φ.sh[n]? = some a := by
  obtain ⟨t, e⟩ := x.pre
  rw [e, List.getElem?_append_left hn] at h
  exact h
theorem ext_same (x : Ext φ H φ' H') : Same (msk H' φ') (msk H' φ) := fun a o h => by
  obtain ⟨h1, h2⟩ := msk_some h
  rw [msk_out fun q => h1 (ext_sub x q)]
  exact h2
/-- back to the shared objects that stood -/
theorem abs_cut (A : Abs K fa φ μ H) (x : Ext φ H φ' H') (A' : Abs K fa φ' μ' H') (c : cutOk μ.length μ μ' = true) : Ext φ H φ H' ∧ Abs K fa φ (μ'.take μ.length) H' := by
  have hlen : μ.length ≤ μ'.length := by
    obtain ⟨t, e⟩ := x.pre
    rw [← A.len, ← A'.len, e, List.length_append]
    omega
  refine ⟨⟨⟨[], by simp⟩, rfl, x.hold, fun a o h => ext_same x a o (x.keep a o h)⟩, ⟨?_, A.nd, fun a h => ⟨(A.hid a h).1, ?_⟩, fun i a q h1 h2 => ?_, fun p hp => ?_⟩⟩
  · rw [List.length_take, A.len]; omega
  · exact (A'.hid a (by rw [x.hd]; exact h)).2
  · have hi : i < φ.sh.length := (List.getElem?_eq_some_iff.mp h1).1
    have hi' : i < μ.length := by rw [← A.len]; exact hi
    rw [List.getElem?_take_of_lt hi'] at h2
    have r := A'.cell i a q (x.phi h1) h2
    have ci : μ[i]? = some q ∨ q.flat = true := by
      unfold cutOk at c
      rw [List.all_eq_true] at c
      have ci := c i (List.mem_range.mpr hi')
      rw [Bool.or_eq_true] at ci
      rcases ci with ci | ci
      · have ci := of_decide_eq_true ci
        rw [h2] at ci
        exact .inl ci.symm
      · rw [h2] at ci
        exact .inr ci
    cases q with
    | lst l =>
      obtain ⟨vs, e, rs⟩ := r
      refine ⟨vs, e, RVs.low (ext_same x) (ext_pre x) _ _ ?_ rs⟩
      rcases ci with ci | ci
      · obtain ⟨vs, _, rs⟩ := A.cell i a _ h1 ci
        exact RVs.closed _ _ rs
      · exact flat_closedL _ _ ci
    | dct l =>
      obtain ⟨vs, e, rs⟩ := r
      refine ⟨vs, e, RDs.low (ext_same x) (ext_pre x) _ _ ?_ rs⟩
      rcases ci with ci | ci
      · obtain ⟨vs, _, rs⟩ := A.cell i a _ h1 ci
        exact RDs.closed rs
      · intro p hp
        have := List.all_eq_true.mp (show (l.all fun p => p.1.flat && p.2.flat) = true from ci) p hp
        rw [Bool.and_eq_true] at this
        exact flat_closed _ _ this.2
    | dtt l =>
      obtain ⟨vs, e, rs⟩ := r
      refine ⟨vs, e, RXs.low (ext_same x) (ext_pre x) _ _ ?_ rs⟩
      rcases ci with ci | ci
      · obtain ⟨vs, _, rs⟩ := A.cell i a _ h1 ci
        exact RXs.closed rs
      · intro p hp
        have := List.all_eq_true.mp (show (l.all fun p => p.1.flat && p.2.flat) = true from ci) p hp
        rw [Bool.and_eq_true] at this
        exact flat_closed _ _ this.2
    | obj cc fs =>
      obtain ⟨dx, vs, e, rs⟩ := r
      refine ⟨dx, vs, e, RFs.low (ext_same x) (ext_pre x) _ _ ?_ rs⟩
      rcases ci with ci | ci
      · obtain ⟨dx, vs, _, rs⟩ := A.cell i a _ h1 ci
        exact RFs.closed rs
      · intro p hp
        exact flat_closed _ _ (List.all_eq_true.mp (show (fs.all fun p => p.2.flat) = true from ci) p hp)
  · obtain ⟨h1, ps, h2, h3, h4⟩ := A'.tab p hp
    refine ⟨by rw [← x.hd]; exact h1, ps, h2, h3, fun pos cv q => ?_⟩
    obtain ⟨z, e1, e2⟩ := h4 pos cv q
    exact ⟨z, e1, ext_same x _ _ e2⟩
theorem fin_run {Q : VK} {d : D} (A : Abs K fa φ μ H) (h : Run K fa Z φ H (fin μ μ' d) (toV K fa Q)) {v : V} (x : Ext φ H φ' H') (A' : Abs K fa φ' μ' H') (rv : RV K fa (msk H' φ') φ' d v) : Q v H' := by
  unfold fin at h
  by_cases c : cutOk μ.length μ μ' = true
  · rw [if_pos c] at h
    obtain ⟨x2, A2⟩ := abs_cut A x A' c
    have plain : ∀ (d : D), RV K fa (msk H' φ') φ' d v → Run K fa Z φ H (if d.closed μ.length then .ok d (μ'.take μ.length) else .no) (toV K fa Q) → Q v H' := fun d rv h => by
      by_cases cd : d.closed μ.length = true
      · rw [if_pos cd] at h
        exact h φ H' x2 A2 v (RV.low (ext_same x) (ext_pre x) d v (by rw [A.len]; exact cd) rv)
      · rw [if_neg cd] at h; exact False.elim h
    cases d with
    | loc n =>
      dsimp only at h
      obtain ⟨a, ha, rfl⟩ := rv_loc rv
      by_cases hn : n < μ.length
      · rw [if_pos hn] at h
        exact h φ H' x2 A2 _ (mk_loc (ext_pre x n a (by rw [A.len]; exact hn) ha))
      · rw [if_neg hn] at h
        cases hm : μ'[n]? with
        | none => rw [hm] at h; exact False.elim h
        | some q =>
          rw [hm] at h
          cases q with
          | lst l =>
            dsimp only at h
            by_cases cl : D.closedL μ.length l = true
            · rw [if_pos cl] at h
              obtain ⟨vs, e, rs⟩ := A'.cell n a _ ha hm
              refine h φ H' x2 A2 _ (mk_lst (vs := vs) (.inl (.inl ?_)) (RVs.low (ext_same x) (ext_pre x) _ _ (by rw [A.len]; exact cl) rs))
              rw [msk_out, e]
              rintro (q | q)
              · obtain ⟨i, hi, e2⟩ := List.mem_iff_getElem.mp q
                have h1 : φ'.sh[i]? = some a := x.phi (by rw [List.getElem?_eq_getElem hi, e2])
                obtain ⟨p1, e3⟩ := List.getElem?_eq_some_iff.mp h1
                obtain ⟨p2, e4⟩ := List.getElem?_eq_some_iff.mp ha
                have := (List.getElem_inj A'.nd).mp (e3.trans e4.symm)
                rw [A.len] at hi
                omega
              · exact (A'.hid a (by rw [x.hd]; exact q)).1 (List.mem_of_getElem? ha)
            · rw [if_neg cl] at h; exact False.elim h
          | _ => exact False.elim h
    | non => exact plain _ rv h
    | bl _ => exact plain _ rv h
    | int _ => exact plain _ rv h
    | str _ => exact plain _ rv h
    | tup _ => exact plain _ rv h
    | lst _ => exact plain _ rv h
    | fn _ _ => exact plain _ rv h
  · rw [if_neg c] at h; exact False.elim h
theorem ends_run {Q : VK} {fz : Bool} {o : Out} (A : Abs K fa φ μ H) (h : Run K fa Z φ H (ends fz μ o) (toV K fa Q)) : RunO K fa (fun _ => Z) φ H o { nx := fun _ H' => Q .non H', rt := Q } := by
  cases o with
  | nx ρ' μ' =>
    intro φ' H' σ' x A' R
    cases fz with
    | false => exact h φ' H' x A' _ mk_non
    | true => exact fin_run A (show Run K fa Z φ H (fin μ μ' .non) (toV K fa Q) from h) x A' mk_non
  | rt d μ' =>
    intro φ' H' v x A' rv
    cases fz with
    | false => exact h φ' H' x A' _ rv
    | true => exact fin_run A (show Run K fa Z φ H (fin μ μ' d) (toV K fa Q) from h) x A' rv
  | ex e _ μ' =>
    intro φ' H' σ' x A' R
    cases fz with
    | false => exact h φ' H' x A'
    | true =>
      unfold ends at h
      dsimp only at h
      by_cases c : (cutOk μ.length μ μ' && e.val.closed μ.length) = true
      · rw [if_pos rfl, if_pos c] at h
        rw [Bool.and_eq_true] at c
        obtain ⟨x2, A2⟩ := abs_cut A x A' c.1
        exact h φ H' x2 A2
      · rw [if_pos rfl, if_neg c] at h; exact False.elim h
  | bk _ _ => exact False.elim h
  | ct _ _ => exact False.elim h
  | no => exact h
end
/-- a def's promise -/
def spN (K : PySem.W.Frag) (fa : Lay) (G : Nat → Option D) (F : Nat → Option Fn) (n f : Nat) : Sp := fun vs H Q E => ∃ φ μ ds, Abs K fa φ μ H ∧ RVs K fa (msk H φ) φ ds vs ∧ Run K fa (fun x H' => E (.ref (fa.cl x.cls)) none H') φ H (run G F n f ds μ) (toV K fa Q)
theorem run_len {G : Nat → Option D} {F : Nat → Option Fn} {n f : Nat} {fd : Fn} {ds : List D} {μ : Mu} {d : D} {μ' : Mu} (hf : F f = some fd) (h : run G F n f ds μ = .ok d μ') : ds.length = fd.np := by
  cases n with
  | zero => cases h
  | succ n =>
    unfold run at h
    rw [hf] at h
    dsimp only at h
    by_cases c : ds.length = fd.np
    · exact c
    · rw [if_neg c] at h; cases h
theorem run_lenX {G : Nat → Option D} {F : Nat → Option Fn} {n f : Nat} {fd : Fn} {ds : List D} {μ : Mu} {x : Ex} {μ' : Mu} (hf : F f = some fd) (h : run G F n f ds μ = .ex x μ') : ds.length = fd.np := by
  cases n with
  | zero => cases h
  | succ n =>
    unfold run at h
    rw [hf] at h
    dsimp only at h
    by_cases c : ds.length = fd.np
    · exact c
    · rw [if_neg c] at h; cases h
theorem start_env {K : PySem.W.Frag} {fa : Lay} {G : Hp} {φ : Ph} {ds : List D} {vs : List V} {N : List Str} (hkn : fa.keep = none) (r : RVs K fa G φ ds vs) : REnv K fa G φ (ds.map some ++ List.replicate (N.length - ds.length) none) (L2.start N vs) := by
  refine ⟨by unfold L2.start; rw [List.length_append, List.length_append, List.length_map, List.length_map, List.length_replicate, List.length_replicate, r.length], fun i d h => ?_, fun i v e => by rw [hkn] at e; cases e⟩
  by_cases hi : i < ds.length
  · rw [List.getElem?_append_left (by rw [List.length_map]; exact hi), List.getElem?_map] at h
    obtain ⟨d', e1, e2⟩ := ofmap h
    cases e2
    obtain ⟨v, hv, rv⟩ := r.get e1
    refine ⟨v, ?_, rv⟩
    unfold L2.start
    rw [List.getElem?_append_left (by rw [List.length_map, r.length]; exact hi), List.getElem?_map, hv]
    rfl
  · rw [List.getElem?_append_right (by rw [List.length_map]; omega), List.getElem?_replicate] at h
    split at h <;> cases h
section
variable {P : Program} {w : World} {K : PySem.W.Frag} {mg : Str → Option Value} {base : Heap} {fa : Lay} {W : EW} {Z : EZ} {G : Nat → Option D} {F : Nat → Option Fn}
theorem fn_zero {f : Addr} {fd : FuncData} {ps : List Str} {i : Nat} : FnOk P w K mg base (L2.CX P w) 0 f fd ps (spN K fa G F 0 i) :=
  ⟨fun vs H Q E h => let ⟨φ, μ, ds, A, r, q⟩ := h; False.elim q, fun A outer s H args us vs Q E hr he hb hv h => let ⟨φ, μ, ds, A, r, q⟩ := h; False.elim q⟩
/-- a def by its body's look -/
theorem fn_ev {n i lv : Nat} {x qual : Str} {st : Stmt} {f : Addr} {fd : FuncData} {N ps : List Str} {e : Fn} (hkn : fa.keep = none) (Fu : FunD K x qual (defArgs st) (defBody st) (defScope st) [] [] f fd) (S : FnScope N ps (defScope st)) (he : F i = some e) (hp : ps.length = e.np) (hN : N.length = e.nn)
    (hbody : ∀ (cdv : Value) (A : Around) (outer : List Env) (s : Shared) (H : Hp) (E : XK), Room lv (A.deeper (envOfC qual (defScope st) s.heap.objs.size f cdv)) →
      PSs (cxOf (L2.CX P w) P w K mg base N qual (defScope st) f cdv A outer s H E) (defBody st) (tS K fa (fun _ x H' => E (.ref (fa.cl x.cls)) none H') (exSs G (run G F n) e.body))) : FnOk P w K mg base (L2.CX P w) (lv + 1) f fd ps (spN K fa G F (n + 1) i) := by
  have len : ∀ vs H Q E, spN K fa G F (n + 1) i vs H Q E → vs.length = ps.length := fun vs H Q E h => by
    obtain ⟨φ, μ, ds, A, r, q⟩ := h
    cases hr : run G F (n + 1) i ds μ with
    | ok d μ' => rw [r.length, run_len he hr, hp]
    | ex _ _ => rw [r.length, run_lenX he hr, hp]
    | no => rw [hr] at q; exact False.elim q
  refine Fu.ok S len fun cdv A outer s H vs Q E hr h => ⟨_, hbody cdv A outer s H E hr, ?_⟩
  have hl := len vs H Q E h
  obtain ⟨φ, μ, ds, Ab, r, q⟩ := h
  refine ⟨φ, μ, _, Ab, start_env (N := N) hkn r, ?_⟩
  unfold run at q
  rw [he] at q
  dsimp only at q
  rw [if_pos (by rw [← hp, ← hl, r.length]), ← hN] at q
  exact ends_run Ab q
end
section
variable {X : Cx} {fa : Lay} {W : EW} {Z : EZ} {G : Nat → Option D} {F : Nat → Option Fn} {ms : Rho → Mu → Res (List D)} {n i : Nat} {x : Str} {p pos : Pos} {e : Expr} {es : List Expr} {f : Addr} {fd : FuncData} {ps : List Str}
/-- what the wish at slots is, as the machine has it -/
def Wis (X : Cx) (fa : Lay) (W : EW) : Prop := ∃ Wm : WX, Takes X Wm ∧ ∀ σ x H, W σ x H → Wm (.ref (fa.cl x.cls)) none σ H
theorem e_call {lv : Nat} (hW : Wis X fa W) (Fo : FnOk X.prog X.w X.K X.mg X.base (L2.CX X.prog X.w) lv f fd ps (spN X.K fa G F n i)) (hr : Room lv X.A) (hg : Gl X x) (hm : X.mg x = some (.ref f)) (hk : PySem.W.keepIn X.K (.ref f) = true) (hb : Binds X.K fd ps [])
    (ha : PA X (e :: es) (tA X.K fa W ms)) (hdb : (x == ("__debug__" : Str)) = false) (he : starEach (e :: es) X.env = (false, eval e X.env) :: starEach es X.env) (hpl : (backTo pos (starEach es X.env)).any (·.1) = false) :
    PE X (.Call (.Name x p) (e :: es) [] pos) (tE X.K fa W fun ρ μ => (ms ρ μ).bind fun ds μ => run G F n i ds μ) := by
  obtain ⟨Wm, tk, hWm⟩ := hW
  refine PE.imp (pe_callS (E := WE Wm) Fo hr hg hm hk hb (fun σ => passAt tk σ) ha hdb he hpl) fun σ H Q h => ?_
  obtain ⟨φ, μ, ρ, A, R, h⟩ := h
  refine ⟨φ, μ, ρ, A, R, h.bind.imp fun ds μ1 φ1 H1 e1 A1 h1 vs rs => ?_⟩
  exact ⟨φ1, μ1, ds, A1, rs, h1.wish fun x H => hWm σ x H⟩
theorem pe_callS0 {CX : CXT} {sp : Sp} {E : L2.St → XK} {k : Nat} (F : FnOk X.prog X.w X.K X.mg X.base CX k f fd ps sp) (hr : Room k X.A) (hg : Gl X x) (hm : X.mg x = some (.ref f)) (hk : PySem.W.keepIn X.K (.ref f) = true) (hb : Binds X.K fd ps []) (hx : ∀ σ, PassesAt CX X σ (E σ))
    (hdb : (x == ("__debug__" : Str)) = false) : PE X (.Call (.Name x p) [] [] pos) (tCallS sp E tNil) := by
  refine ⟨fun pins s σ H Q I h => ?_⟩
  refine wpAny_Call_Name_kw (ld_glob I hg hm ?_ hdb)
  exact PySem.W.callWith_K0 I.kIn hk (run_fnS (us := []) F hr hb (hx σ) I .nil h)
theorem e_call0 {lv : Nat} (hW : Wis X fa W) (Fo : FnOk X.prog X.w X.K X.mg X.base (L2.CX X.prog X.w) lv f fd ps (spN X.K fa G F n i)) (hr : Room lv X.A) (hg : Gl X x) (hm : X.mg x = some (.ref f)) (hk : PySem.W.keepIn X.K (.ref f) = true) (hb : Binds X.K fd ps [])
    (hdb : (x == ("__debug__" : Str)) = false) : PE X (.Call (.Name x p) [] [] pos) (tE X.K fa W fun ρ μ => (Res.ok [] μ).bind fun ds μ => run G F n i ds μ) := by
  obtain ⟨Wm, tk, hWm⟩ := hW
  refine PE.imp (pe_callS0 (E := WE Wm) Fo hr hg hm hk hb (fun σ => passAt tk σ) hdb) fun σ H Q h => ?_
  obtain ⟨φ, μ, ρ, A, R, h⟩ := h
  exact ⟨φ, μ, [], A, RVs.nil, (show Run X.K fa (W σ) φ H (run G F n i [] μ) _ from h).wish fun x H => hWm σ x H⟩
theorem e_dict0 : PE X (.Dict [] [] pos) (tE X.K fa W fun _ μ => .ok (.loc μ.length) (μ ++ [.dct []])) := PE.imp pe_dnewK fun σ H Q h => by
  obtain ⟨φ, μ, ρ, A, R, h⟩ := h
  intro p hp
  obtain ⟨x1, A1⟩ := Abs.push (o := .dK []) (c := .dct []) A hp ⟨[], upd_same, rfl⟩
  refine h _ _ x1 A1 _ (mk_loc ?_)
  show (φ.sh ++ [p])[μ.length]? = some p
  rw [← A.len, List.getElem?_append_right (Nat.le_refl _), Nat.sub_self]
  rfl
end
end Ev

set_option Elab.async false
set_option linter.all false
set_option maxRecDepth 100000
set_option maxHeartbeats 1000000
/-! Objects, exceptions. -/
namespace Ev
open PySem PySem.Spec PyProof.Rows L2
theorem meth_form {o : Expr} {y : Str} {ap pos : Pos} {env : Env} {es : List Expr} (hb : attributeBase o y env (eval o env) = eval o env) (hl : (ap.endLine == pos.line) = true)
    (hf : methodCallForm (es.length + ([] : List Keyword).length) (backTo pos (starEach es env)) (backToKw pos (keywordEach [] env)) = true) :
    eval (.Call (.Attribute o y ap) es [] pos) env = (do
      let ov ← eval o env
      standAt ap.atName
      let (f, first) ← holding [ov] (getMethod ov y (do return (← importBound o env).getD true))
      callWith pos f first (backTo pos (starEach es env)) (backToKw pos (keywordEach [] env))) := by
  conv => lhs; unfold eval
  rw [hb]
  congr 1
  funext ov
  congr 1
  funext _
  unfold methodCall
  rw [hf]
  unfold calleeOf methodCallPos
  rw [if_pos rfl, hl]
  simp only [Bool.not_true, Bool.false_or, if_true, pure_bind]
section
variable {X : Cx} {CX : CXT} {k : Nat} {f C : Addr} {fd : FuncData} {ps : List Str} {sp : Sp} {E : L2.St → XK} {x m : Str} {p pos apos : Pos} {e o : Expr} {es : List Expr} {ta : TE} {t : TA}
def tMethS (C : Addr) (m : Str) (sp : Sp) (E : L2.St → XK) (ta : TE) (t : TA) : TE := fun σ H Q => ta σ H fun x H1 => ∃ a dx fs, x = .ref a ∧ H1 a = some (.ins C dx fs) ∧ fs.lookup m = none ∧
  t σ H1 fun vs H2 => sp (x :: vs) H2 Q (E σ)
theorem pe_methS {pl : Sem Bool} (he : PE X o ta) (c : Cls X.K C) (hm : Meth X.K C m f) (F : FnOk X.prog X.w X.K X.mg X.base CX k f fd ps sp) (hr : Room k X.A) (hb : Binds X.K fd ps []) (hx : ∀ σ, PassesAt CX X σ (E σ)) (ha : PA X (e :: es) t)
    (hst : starEach (e :: es) X.env = (false, eval e X.env) :: starEach es X.env) (hpl : (backTo pos (starEach es X.env)).any (·.1) = false)
    (ht : eval (.Call (.Attribute o m apos) (e :: es) [] pos) X.env = (do
      let ov ← eval o X.env
      standAt apos.atName
      let (f, first) ← holding [ov] (getMethod ov m pl)
      callWith pos f first (backTo pos (starEach (e :: es) X.env)) (backToKw pos (keywordEach [] X.env)))) :
    PE X (.Call (.Attribute o m apos) (e :: es) [] pos) (tMethS C m sp E ta t) := by
  refine ⟨fun pins s σ H Q I h => ?_⟩
  refine PySem.W.methodCall_KW (pl := pl) (thn (he.run pins s σ H _ I h) fun u s1 ⟨x, H1, I1, rx, a, dx, fs, ex, ea, l, q⟩ => ?_) ht
  subst ex
  obtain rfl : u = Value.ref a := rx
  refine getmeth_ok I1 ea c hm l ?_
  refine PySem.W.callWith_K (first := [.ref a]) (h₀ := X.base) I.ok.mod.kin hm.kp (thn (ha.run pos pins s1 σ H1 _ I1 q) fun us s2 ⟨vs, H2, I2, r, q2⟩ => ⟨I2.kIn, ?_⟩) hst hpl
  exact run_fnS (us := .ref a :: us) (vs := .ref a :: vs) F hr hb (hx σ) I2 (.cons rfl r) q2
theorem pe_methS0 {pl : Sem Bool} (he : PE X o ta) (c : Cls X.K C) (hm : Meth X.K C m f) (F : FnOk X.prog X.w X.K X.mg X.base CX k f fd ps sp) (hr : Room k X.A) (hb : Binds X.K fd ps []) (hx : ∀ σ, PassesAt CX X σ (E σ))
    (ht : eval (.Call (.Attribute o m apos) [] [] pos) X.env = (do
      let ov ← eval o X.env
      standAt apos.atName
      let (f, first) ← holding [ov] (getMethod ov m pl)
      callWith pos f first (backTo pos (starEach [] X.env)) (backToKw pos (keywordEach [] X.env)))) :
    PE X (.Call (.Attribute o m apos) [] [] pos) (tMethS C m sp E ta tNil) := by
  refine ⟨fun pins s σ H Q I h => ?_⟩
  refine PySem.W.methodCall_KW (pl := pl) (thn (he.run pins s σ H _ I h) fun u s1 ⟨x, H1, I1, rx, a, dx, fs, ex, ea, l, q⟩ => ?_) ht
  subst ex
  obtain rfl : u = Value.ref a := rx
  refine getmeth_ok I1 ea c hm l ?_
  exact PySem.W.callWith_K0 (first := [.ref a]) I1.kIn hm.kp (run_fnS (us := [.ref a]) (vs := [.ref a]) F hr hb (hx σ) I1 (.cons rfl .nil) q)
def tMakeS (C : Addr) (sp : Sp) (E : L2.St → XK) (t : TA) : TE := fun σ H Q => t σ H fun vs H1 => ∀ x dx, H1 x = none → H1 dx = none → dx ≠ x →
  sp (.ref x :: vs) (upd (upd H1 dx (.own x)) x (.ins C dx [])) (fun v H2 => v = .non ∧ Q (.ref x) H2) (E σ)
theorem run_makeS {pins : List (Addr × Obj)} {σ : L2.St} {H : Hp} {s : Shared} {Q : VK} {us : List Value} {vs : List V} (M : Mk X.K C f) (F : FnOk X.prog X.w X.K X.mg X.base CX k f fd ps sp) (hr : Room (k + 1) X.A) (hb : Binds X.K fd ps [])
    (hx : PassesAt CX X σ (E σ)) (I : Inv X pins σ H s) (r : Vals vs us)
    (h : ∀ x dx, H x = none → H dx = none → dx ≠ x → sp (.ref x :: vs) (upd (upd H dx (.own x)) x (.ins C dx [])) (fun v H2 => v = .non ∧ Q (.ref x) H2) (E σ)) :
    wpAny (model X.prog X.w) X.A (call (.ref C) us) (EP X pins σ Q) X.xe s := by
  have hq := h (s.heap.objs.size + 1) s.heap.objs.size (I.hok.fresh (Nat.le_succ _)) (I.hok.fresh (Nat.le_refl _)) (Nat.ne_of_lt (Nat.lt_succ_self _))
  have I2 := Inv.made (C := C) I
  have r2 : Vals (V.ref (s.heap.objs.size + 1) :: vs) (Value.ref (s.heap.objs.size + 1) :: us) := .cons rfl r
  have hl : (Value.ref (s.heap.objs.size + 1) :: us ++ []).length = ps.length := by
    have e := r2.length
    rw [F.len _ _ _ _ hq] at e
    rw [List.append_nil]
    exact e.symm
  have b := hb _ (Value.ref (s.heap.objs.size + 1) :: us) I2.kIn hl
  rw [List.append_nil] at b
  refine wpAny_call (make_map (f := f) I.kIn M.makes M.init (beq_iff_eq.mp M.fn) (codeAny_mono (F.run _ X.stack _ _ ⟨Value.ref (s.heap.objs.size + 1) :: us, []⟩ (Value.ref (s.heap.objs.size + 1) :: us) _ _ (E σ) (hr.make C us [])
    (I2.env0.make C us []) b r2 hq) fun r s' hq' => ?_))
  cases r with
  | error e => exact hx pins _ _ e s' I2 hq'
  | ok fl =>
    cases fl with
    | ret u =>
      obtain ⟨v, H', I3, rv, ev, q3⟩ := I2.after hq'
      subst ev
      exact ⟨rv, ⟨V.ref (s.heap.objs.size + 1), H', I3, rfl, q3⟩⟩
    | next => exact False.elim hq'
    | brk => exact False.elim hq'
    | cont => exact False.elim hq'
theorem pe_makeS (M : Mk X.K C f) (F : FnOk X.prog X.w X.K X.mg X.base CX k f fd ps sp) (hr : Room (k + 1) X.A) (hg : Gl X x) (hm : X.mg x = some (.ref C)) (hb : Binds X.K fd ps []) (hx : ∀ σ, PassesAt CX X σ (E σ))
    (ha : PA X (e :: es) t) (hdb : (x == ("__debug__" : Str)) = false) (he : starEach (e :: es) X.env = (false, eval e X.env) :: starEach es X.env) (hpl : (backTo pos (starEach es X.env)).any (·.1) = false) :
    PE X (.Call (.Name x p) (e :: es) [] pos) (tMakeS C sp E t) := by
  refine ⟨fun pins s σ H Q I h => ?_⟩
  refine wpAny_Call_Name_kw (ld_glob I hg hm ?_ hdb)
  refine PySem.W.callWith_K (h₀ := X.base) I.ok.mod.kin M.kp (thn (ha.run pos pins s σ H _ I h) fun us s1 ⟨vs, H1, I1, r, q⟩ => ⟨I1.kIn, ?_⟩) he hpl
  exact run_makeS M F hr hb (hx σ) I1 r q
end
/-! ### the evaluator's -/
section
variable {K : PySem.W.Frag} {fa : Lay} {φ : Ph} {H : Hp} {μ : Mu}
theorem obj_at (A : Abs K fa φ μ H) {c n : Nat} {fs : List (Nat × D)} {d : D} {v : V} (h : objAt μ c d = some (n, fs)) (rv : RV K fa (msk H φ) φ d v) :
    ∃ a dx vs, d = .loc n ∧ φ.sh[n]? = some a ∧ v = .ref a ∧ H a = some (.ins (fa.cl c) dx vs) ∧ RFs K fa (msk H φ) φ fs vs := by
  cases d with
  | loc m =>
    have h : (match μ[m]? with | some (.obj c' fs) => if c' = c then some (m, fs) else none | _ => none) = some (n, fs) := h
    cases hm : μ[m]? with
    | none => rw [hm] at h; cases h
    | some q =>
      rw [hm] at h
      cases q with
      | obj c' fs' =>
        dsimp only at h
        by_cases hc : c' = c
        · rw [if_pos hc] at h
          cases h
          subst hc
          obtain ⟨a, ha, rfl⟩ := rv_loc rv
          obtain ⟨dx, vs, e, r⟩ := A.cell n a _ ha hm
          exact ⟨a, dx, vs, rfl, ha, rfl, e, r⟩
        · rw [if_neg hc] at h; cases h
      | _ => cases h
  | _ => cases h
end
section
variable {X : Cx} {fa : Lay} {W : EW} {G : Nat → Option D} {F : Nat → Option Fn} {ma mb m : Rho → Mu → Res D} {ms : Rho → Mu → Res (List D)} {n i c a : Nat} {x y : Str} {p pos apos tpos : Pos} {e o : Expr} {es : List Expr} {f : Addr} {fd : FuncData} {ps : List Str}
theorem e_fld (hc : Cls X.K (fa.cl c)) (hn : NoAttr X.K (fa.cl c) (fa.fld a)) (hok : fa.okf a = true) (ho : PE X o (tE X.K fa W ma)) (hb : attributeBase o (fa.fld a) X.env (eval o X.env) = eval o X.env) :
    PE X (.Attribute o (fa.fld a) pos) (tE X.K fa W fun ρ μ => (ma ρ μ).bind fun x μ => Res.of (fldD μ c a x) μ) := PE.imp (pe_fld ho hb) fun σ H Q h => by
  obtain ⟨φ, μ, ρ, A, R, h⟩ := h
  refine ⟨φ, μ, ρ, A, R, h.bind.imp fun d μ1 φ1 H1 e1 A1 h1 v rv => ?_⟩
  obtain ⟨u, eu, q⟩ := h1.of
  obtain ⟨⟨m, fs⟩, eo, el⟩ := ofbind eu
  obtain ⟨b, dx, vs, rfl, hb, rfl, hH, rf⟩ := obj_at A1 eo rv
  obtain ⟨w, hw, rw'⟩ := rf.get hok el
  exact ⟨b, _, dx, vs, w, rfl, hH, hc, hn, hw, q φ1 H1 (Ext.refl _ _) A1 w rw'⟩
theorem e_meth {lv : Nat} {pl : Sem Bool} (hW : Wis X fa W) (hc : Cls X.K (fa.cl c)) (hm : Meth X.K (fa.cl c) y f) (hy : ∀ a, fa.okf a = true → fa.fld a ≠ y) (Fo : FnOk X.prog X.w X.K X.mg X.base (L2.CX X.prog X.w) lv f fd ps (spN X.K fa G F n i)) (hr : Room lv X.A) (hb : Binds X.K fd ps [])
    (ho : PE X o (tE X.K fa W ma)) (ha : PA X (e :: es) (tA X.K fa W ms)) (he : starEach (e :: es) X.env = (false, eval e X.env) :: starEach es X.env) (hpl : (backTo pos (starEach es X.env)).any (·.1) = false)
    (ht : eval (.Call (.Attribute o y apos) (e :: es) [] pos) X.env = (do
      let ov ← eval o X.env
      standAt apos.atName
      let (f, first) ← holding [ov] (getMethod ov y pl)
      callWith pos f first (backTo pos (starEach (e :: es) X.env)) (backToKw pos (keywordEach [] X.env)))) :
    PE X (.Call (.Attribute o y apos) (e :: es) [] pos) (tE X.K fa W fun ρ μ => (ma ρ μ).bind fun x μ => if (objAt μ c x).isSome then (ms ρ μ).bind fun ds μ => run G F n i (x :: ds) μ else .no) := by
  obtain ⟨Wm, tk, hWm⟩ := hW
  refine PE.imp (pe_methS (E := WE Wm) ho hc hm Fo hr hb (fun σ => passAt tk σ) ha he hpl ht) fun σ H Q h => ?_
  obtain ⟨φ, μ, ρ, A, R, h⟩ := h
  refine ⟨φ, μ, ρ, A, R, h.bind.imp fun d μ1 φ1 H1 e1 A1 h1 v rv => ?_⟩
  by_cases hs : (objAt μ1 c d).isSome = true
  · rw [if_pos hs] at h1
    obtain ⟨⟨mm, fs⟩, eo⟩ := Option.isSome_iff_exists.mp hs
    obtain ⟨b, dx, vs, rfl, hb', rfl, hH, rf⟩ := obj_at A1 eo rv
    refine ⟨b, dx, vs, rfl, hH, rf.no hy, φ1, μ1, ρ, A1, R.ext e1, h1.bind.imp fun ds μ2 φ2 H2 e2 A2 h2 us rs => ?_⟩
    exact ⟨φ2, μ2, .loc mm :: ds, A2, RVs.cons (rv.ext e2) rs, h2.wish fun x H => hWm σ x H⟩
  · rw [if_neg hs] at h1; exact False.elim h1
theorem e_meth0 {lv : Nat} {pl : Sem Bool} (hW : Wis X fa W) (hc : Cls X.K (fa.cl c)) (hm : Meth X.K (fa.cl c) y f) (hy : ∀ a, fa.okf a = true → fa.fld a ≠ y) (Fo : FnOk X.prog X.w X.K X.mg X.base (L2.CX X.prog X.w) lv f fd ps (spN X.K fa G F n i)) (hr : Room lv X.A) (hb : Binds X.K fd ps [])
    (ho : PE X o (tE X.K fa W ma))
    (ht : eval (.Call (.Attribute o y apos) [] [] pos) X.env = (do
      let ov ← eval o X.env
      standAt apos.atName
      let (f, first) ← holding [ov] (getMethod ov y pl)
      callWith pos f first (backTo pos (starEach [] X.env)) (backToKw pos (keywordEach [] X.env)))) :
    PE X (.Call (.Attribute o y apos) [] [] pos) (tE X.K fa W fun ρ μ => (ma ρ μ).bind fun x μ => if (objAt μ c x).isSome then (Res.ok [] μ).bind fun ds μ => run G F n i (x :: ds) μ else .no) := by
  obtain ⟨Wm, tk, hWm⟩ := hW
  refine PE.imp (pe_methS0 (E := WE Wm) ho hc hm Fo hr hb (fun σ => passAt tk σ) ht) fun σ H Q h => ?_
  obtain ⟨φ, μ, ρ, A, R, h⟩ := h
  refine ⟨φ, μ, ρ, A, R, h.bind.imp fun d μ1 φ1 H1 e1 A1 h1 v rv => ?_⟩
  by_cases hs : (objAt μ1 c d).isSome = true
  · rw [if_pos hs] at h1
    obtain ⟨⟨mm, fs⟩, eo⟩ := Option.isSome_iff_exists.mp hs
    obtain ⟨b, dx, vs, rfl, hb', rfl, hH, rf⟩ := obj_at A1 eo rv
    refine ⟨b, dx, vs, rfl, hH, rf.no hy, ?_⟩
    exact ⟨φ1, μ1, [.loc mm], A1, RVs.one rv, (show Run X.K fa (W σ) φ1 H1 (run G F n i [.loc mm] μ1) _ from h1).wish fun x H => hWm σ x H⟩
  · rw [if_neg hs] at h1; exact False.elim h1
theorem e_new {lv : Nat} (hW : Wis X fa W) (M : Mk X.K (fa.cl c) f) (Fo : FnOk X.prog X.w X.K X.mg X.base (L2.CX X.prog X.w) lv f fd ps (spN X.K fa G F n i)) (hr : Room (lv + 1) X.A) (hg : Gl X x) (hm : X.mg x = some (.ref (fa.cl c))) (hb : Binds X.K fd ps [])
    (ha : PA X (e :: es) (tA X.K fa W ms)) (hdb : (x == ("__debug__" : Str)) = false) (he : starEach (e :: es) X.env = (false, eval e X.env) :: starEach es X.env) (hpl : (backTo pos (starEach es X.env)).any (·.1) = false) :
    PE X (.Call (.Name x p) (e :: es) [] pos) (tE X.K fa W fun ρ μ => (ms ρ μ).bind fun ds μ => (run G F n i (.loc μ.length :: ds) (μ ++ [.obj c []])).bind fun r μ' => if r = .non then .ok (.loc μ.length) μ' else .no) := by
  obtain ⟨Wm, tk, hWm⟩ := hW
  refine PE.imp (pe_makeS (E := WE Wm) M Fo hr hg hm hb (fun σ => passAt tk σ) ha hdb he hpl) fun σ H Q h => ?_
  obtain ⟨φ, μ, ρ, A, R, h⟩ := h
  refine ⟨φ, μ, ρ, A, R, h.bind.imp fun ds μ1 φ1 H1 e1 A1 h1 vs rs z dx hz hdx hne => ?_⟩
  have x0 := Ext.fresh (o := .own z) A1 hdx
  have A0 := Abs.fresh (o := .own z) A1 hdx
  have hz0 : upd H1 dx (.own z) z = none := by rw [upd_ne (Ne.symm hne)]; exact hz
  obtain ⟨x2, A2⟩ := Abs.push (o := .ins (fa.cl c) dx []) (c := .obj c []) A0 hz0 ⟨dx, [], upd_same, rfl⟩
  have hl : (φ1.add z).sh[μ1.length]? = some z := by
    show (φ1.sh ++ [z])[μ1.length]? = some z
    rw [← A1.len, List.getElem?_append_right (Nat.le_refl _), Nat.sub_self]
    rfl
  refine ⟨φ1.add z, μ1 ++ [.obj c []], .loc μ1.length :: ds, A2, RVs.cons (mk_loc hl) ((rs.ext x0).ext x2), ?_⟩
  have h2 := ((h1.ext x0).ext x2).bind
  refine (h2.imp fun r μ3 φ3 H3 e3 A3 h3 v rv => ?_).wish fun x H => hWm σ x H
  by_cases hrn : r = .non
  · rw [if_pos hrn] at h3
    subst hrn
    exact ⟨rv_non rv, h3.here A3 (.ref z) (mk_loc (e3.phi hl))⟩
  · rw [if_neg hrn] at h3; exact False.elim h3
/-- a field's store -/
theorem set_fld (A : Abs X.K fa φ μ H) {c a : Nat} {d u : D} {v w : V} {μ' : Mu} (hok : fa.okf a = true) (h : setFd μ c a d u = some μ') (rv : RV X.K fa (msk H φ) φ d v) (ru : RV X.K fa (msk H φ) φ u w) :
    ∃ b dx vs, v = .ref b ∧ H b = some (.ins (fa.cl c) dx vs) ∧ vs.length < 1000 ∧ Ext φ H φ (upd H b (.ins (fa.cl c) dx (putF (fa.fld a) w vs))) ∧ Abs X.K fa φ μ' (upd H b (.ins (fa.cl c) dx (putF (fa.fld a) w vs))) := by
  obtain ⟨⟨m, fs⟩, eo, es⟩ := ofbind h
  obtain ⟨b, dx, vs, rfl, hb, rfl, hH, rf⟩ := obj_at A eo rv
  obtain ⟨hl, es⟩ := ite_some es
  cases es
  obtain ⟨x1, A1⟩ := Abs.set (o := .ins (fa.cl c) dx (putF (fa.fld a) w vs)) (c := .obj c (putFd a u fs)) A hb ⟨dx, _, upd_same, rf.put hok ru⟩
  exact ⟨b, dx, vs, rfl, hH, by rw [rf.len]; exact hl, x1, A1⟩
def evSetFld (c a : Nat) (mo me : Rho → Mu → Res D) : Rho → Mu → Out := fun ρ μ => (me ρ μ).out ρ fun v μ => (mo ρ μ).out ρ fun x μ => match setFd μ c a x v with
  | some μ' => .nx ρ μ'
  | none => .no
theorem s_setFld (hc : Cls X.K (fa.cl c)) (hn : NoAttr X.K (fa.cl c) (fa.fld a)) (hok : fa.okf a = true) (ho : PE X o (tE X.K fa W ma)) (he : PE X e (tE X.K fa W mb)) (hs : swapsWith e (some (.Attribute o (fa.fld a) tpos)) pos.line X.env = pure false) :
    PS X (.Assign [.Attribute o (fa.fld a) tpos] e pos) (tS X.K fa W (evSetFld c a ma mb)) := PS.imp (ps_fld ho he hs) fun D σ H h => by
  obtain ⟨φ, μ, ρ, A, R, h⟩ := h
  refine ⟨φ, μ, ρ, A, R, (h.out R).imp fun d μ1 φ1 H1 e1 A1 h1 v rv => ?_⟩
  refine ⟨φ1, μ1, ρ, A1, R.ext e1, (h1.out (R.ext e1)).imp fun z μ2 φ2 H2 e2 A2 h2 w rz => ?_⟩
  cases hs : setFd μ2 c a z d with
  | none => rw [hs] at h2; exact False.elim h2
  | some μ3 =>
    rw [hs] at h2
    obtain ⟨b, dx, vs, rfl, hH, hl, x1, A3⟩ := set_fld A2 hok hs rz (rv.ext e2)
    exact ⟨b, _, dx, vs, rfl, hH, hc, hn, hl, h2 φ2 _ σ x1 A3 (((R.ext e1).ext e2).ext x1)⟩
def evAugFld (c a : Nat) (mo me : Rho → Mu → Res D) : Rho → Mu → Out := fun ρ μ => (mo ρ μ).out ρ fun x μ => (Res.of (fldD μ c a x) μ).out ρ fun u μ => (me ρ μ).out ρ fun v μ => (Res.of (i2 u v fun i j => some (.int (i + j))) μ).out ρ fun z μ => match setFd μ c a x z with
  | some μ' => .nx ρ μ'
  | none => .no
theorem RunO.outOf {K : PySem.W.Frag} {φ : Ph} {H : Hp} {μ : Mu} {ρ : Rho} {D : Ends} {α : Type} {o : Option α} {f : α → Mu → Out} (h : RunO K fa W φ H ((Res.of o μ).out ρ f) D) : ∃ a, o = some a ∧ RunO K fa W φ H (f a μ) D := by
  cases o with
  | some a => exact ⟨a, rfl, h⟩
  | none => exact False.elim h
theorem s_augFld
    (hc : Cls X.K (fa.cl c)) (hn : NoAttr X.K (fa.cl c) (fa.fld a)) (hok : fa.okf a = true) (ho : PE X o (tE X.K fa W ma)) (he : PE X e (tE X.K fa W mb)) (hb : attributeBase o (fa.fld a) X.env (eval o X.env) = eval o X.env) :
    PS X (.AugAssign (.Attribute o (fa.fld a) tpos) .Add e pos) (tS X.K fa W (evAugFld c a ma mb)) := PS.imp (ps_fldaug ho he in_add) fun D σ H h => by
  obtain ⟨φ, μ, ρ, A, R, h⟩ := h
  refine ⟨φ, μ, ρ, A, R, (h.out R).imp fun d μ1 φ1 H1 e1 A1 h1 v rv => ?_⟩
  obtain ⟨u, eu, h1⟩ := h1.outOf
  obtain ⟨⟨m, fs⟩, eo, el⟩ := ofbind eu
  obtain ⟨bb, dx, vs, rfl, hb', rfl, hH, rf⟩ := obj_at A1 eo rv
  obtain ⟨w, hw, ru⟩ := rf.get hok el
  refine ⟨bb, _, dx, vs, w, rfl, hH, hc, hn, hw, φ1, μ1, ρ, A1, R.ext e1, (h1.out (R.ext e1)).imp fun z μ2 φ2 H2 e2 A2 h2 y ry => ?_⟩
  obtain ⟨t, et, h2⟩ := h2.outOf
  obtain ⟨i1, i2, rfl, rfl, et⟩ := i2_some et
  cases et
  cases rv_int ru
  cases rv_int ry
  refine ⟨i1, i2, rfl, rfl, ?_⟩
  have rq : RV X.K fa (msk H2 φ2) φ2 (.int (i1 + i2)) (.int (i1 + i2)) := mk_int
  cases hs : setFd μ2 c a (.loc m) (.int (i1 + i2)) with
  | none => rw [hs] at h2; exact False.elim h2
  | some μ3 =>
    rw [hs] at h2
    obtain ⟨b2, dx2, vs2, eb, hH2, hl, x1, A3⟩ := set_fld A2 hok hs (rv.ext e2) rq
    cases eb
    exact ⟨dx2, vs2, hH2, hl, h2 φ2 _ σ x1 A3 (((R.ext e1).ext e2).ext x1)⟩
end
end Ev

set_option Elab.async false
set_option linter.all false
set_option maxRecDepth 100000
set_option maxHeartbeats 1000000
/-! Exceptions. -/
namespace Ev
open PySem PySem.Spec PyProof.Rows L2
/-- an exception's class, called x -/
structure ExcF (X : Cx) (C : Addr) (x : Str) : Prop where
  is : PySem.W.excIn X.K C He.veBase "ValueError.__new__" = true
  mg : X.mg x = some (.ref C)
  kp : PySem.W.keepIn X.K (.ref C) = true
  sub : PySem.W.subIn X.K (.ref C) (.type "BaseException") = some true
  ty : PySem.W.typeIn X.K (.ref C) = some (.type "type")
theorem wis0 {X : Cx} {fa : Lay} : Wis X fa W0 := ⟨fun _ _ _ _ => False, fun _ _ x => by
  obtain ⟨_, _, _, _, _, _, _, _, _, _, _, _, _, _, _, _, z⟩ := x
  exact z.elim, fun _ _ _ h => h⟩
section
variable {X : Cx} {fa : Lay} {W : EW} {c : Nat} {x m : Str} {p p2 pos rpos np pos' : Pos} {j : Nat}
theorem s_raise (hW : Wis X fa W) (hc : X.calm = true) (f : ExcF X (fa.cl c) x) (hg : Gl X x) (hdb : (x == ("__debug__" : Str)) = false) :
    PS X (.Raise (some (.Call (.Name x p) [.Constant (.str m) j p2] [] pos)) none rpos) (tS X.K fa W fun ρ μ => .ex ⟨c, .non⟩ ρ μ) := by
  obtain ⟨Wm, tk, hWm⟩ := hW
  refine PS.imp (ps_raise hc tk (pmk_own PySem.F.excBase_ValueError f.is f.mg f.kp (raises_own f.sub f.ty) hg hdb)) fun D σ H h => ?_
  obtain ⟨φ, μ, ρ, A, R, h⟩ := h
  exact hWm σ ⟨c, .non⟩ H (h φ H σ (Ext.refl _ _) A R)
def evTry (yes no : List Nat) (ob oh : Rho → Mu → Out) : Rho → Mu → Out := fun ρ μ => match ob ρ μ with
  | .ex x ρ' μ' => if x.cls ∈ yes then oh ρ' μ' else if x.cls ∈ no then .ex x ρ' μ' else .no
  | o => o
theorem s_try {cv : Value} {yes no : List Nat} {body suite : List Stmt} {b₀ : Stmt} {ob oh : Rho → Mu → Out} (hs : X.stack = X.env :: X.outer) (hf : X.env.frame = some X.env.locals) (hc : Names X x cv) (hW : Wis X fa W)
    (hy : ∀ c ∈ yes, PySem.W.exmOne X.K (.ref (fa.cl c)) cv = some true) (hn : ∀ c ∈ no, PySem.W.exmOne X.K (.ref (fa.cl c)) cv = some false)
    (hb : ∀ (W' : EW) (pn : List (Addr × Obj)) (xe : Value → Shared → Prop), Wis (X.tr pn xe) fa W' → PassesOwn (model X.prog X.w) X.A X.env xe → PSs (X.tr pn xe) body (tS X.K fa W' ob))
    (hsu : ∀ (a : Addr) (oe : Obj) (pn : List (Addr × Obj)), PSs (X.suite a ((a, oe) :: pn)) (b₀ :: suite) (tS X.K fa W0 oh)) (hoh : ∀ ρ μ x ρ' μ', oh ρ μ ≠ .ex x ρ' μ') :
    PS X (.Try body [.ExceptHandler (some (.Name x np)) none (b₀ :: suite) pos'] [] [] pos) (tS X.K fa W (evTry yes no ob oh)) := by
  obtain ⟨Wm, tk, hWm⟩ := hW
  refine PS.imp (ps_try_only (tb := fun w => tS X.K fa (fun σ x H => w (.ref (fa.cl x.cls)) none σ H) ob) (ts := fun _ _ _ => tS X.K fa W0 oh) hs hf hc tk (fun w pn xe tk' ho => hb _ pn xe ⟨w, tk', fun _ _ _ h => h⟩ ho) fun a oe _ _ pn _ _ => hsu a oe pn) fun D σ H h => ?_
  obtain ⟨φ, μ, ρ, A, R, h⟩ := h
  refine ⟨φ, μ, ρ, A, R, ?_⟩
  unfold evTry at h
  cases q : ob ρ μ with
  | ex x ρ' μ' =>
    rw [q] at h
    dsimp only at h
    intro φ' H' σ' e A' R'
    by_cases h1 : x.cls ∈ yes
    · rw [if_pos h1] at h
      refine ⟨true, hy _ h1, fun _ a _ => ⟨φ', μ', ρ', A', R', ?_⟩, fun q => by cases q⟩
      have h := h.ext e
      cases q2 : oh ρ' μ' with
      | ex _ _ _ => exact absurd q2 (hoh _ _ _ _ _)
      | _ => rw [q2] at h; exact h
    · rw [if_neg h1] at h
      by_cases h2 : x.cls ∈ no
      · rw [if_pos h2] at h
        exact ⟨false, hn _ h2, fun q => (by cases q), fun _ => hWm σ' x H' (h φ' H' σ' e A' R')⟩
      · rw [if_neg h2] at h; exact False.elim h
  | _ => rw [q] at h; exact h
end
/-! ### simple suites -/
def hotS : List S → Bool
  | [] => true
  | .ret (.con _) :: r => hotS r
  | .asg (.nm _) (.con _) :: r => hotS r
  | .pass :: r => hotS r
  | _ => false
theorem hot_ex {G : Nat → Option D} {call : Nat → List D → Mu → Res D} : ∀ (ss : List S), hotS ss = true → ∀ ρ μ x ρ' μ', exSs G call ss ρ μ ≠ .ex x ρ' μ'
  | [], _, ρ, μ, x, ρ', μ', h => by cases h
  | s :: r, hh, ρ, μ, x, ρ', μ', h => by
    unfold hotS at hh
    split at hh
    · rename_i e; cases e
    · rename_i d _ e
      cases e
      cases h
    · rename_i i d _ e
      cases e
      exact hot_ex _ hh _ _ x ρ' μ' (show exSs G call _ _ _ = .ex x ρ' μ' from h)
    · rename_i e
      cases e
      exact hot_ex _ hh _ _ x ρ' μ' (show exSs G call _ _ _ = .ex x ρ' μ' from h)
    · cases hh
end Ev

set_option Elab.async false
set_option linter.all false
set_option maxRecDepth 100000
set_option maxHeartbeats 1000000
/-! dict(pairs). -/
namespace Ev
open PySem PySem.Spec PyProof.Rows L2
section
variable {X : Cx} {fa : Lay} {W : EW} {Z : EZ} {φ : Ph} {H G : Hp} {μ : Mu} {pins : List (Addr × Obj)} {σ : L2.St} {s : Shared}
/-- the pairs as they lie: where, the key and the worth by values, as they stand -/
structure PrI where
  t : Addr
  k : V
  v : V
  ku : Value
  vu : Value
/-- .. of these data -/
def PrAll (X : Cx) (fa : Lay) (G : Hp) (φ : Ph) (h : Heap) : List (D × D) → List PrI → Prop
  | [], rs => rs = []
  | p :: r, rs => ∃ q rs', rs = q :: rs' ∧ RV X.K fa G φ p.1 q.k ∧ RV X.K fa G φ p.2 q.v ∧ RelV q.k q.ku ∧ RelV q.v q.vu ∧ h.IsTuple q.t #[q.ku, q.vu] ∧ PrAll X fa G φ h r rs'
theorem prs_of (I : Inv X pins σ H s) : ∀ {l : List D} {ps : List (D × D)} {vs : List V} {us : List Value}, pairsD l = some ps → RVs X.K fa (msk H φ) φ l vs → Vals vs us → ∃ rs, PrAll X fa (msk H φ) φ s.heap ps rs ∧ us = rs.map (fun q => Value.ref q.t) ∧ rs.length = ps.length ∧ ps.length = l.length
  | [], _, _, _, e, h, r => by
    cases e
    cases rvs0 h
    cases r
    exact ⟨[], rfl, rfl, rfl, rfl⟩
  | d :: l, ps, vs, us, e, h, r => by
    have hd : ∃ k v ps', d = .tup [k, v] ∧ pairsD l = some ps' ∧ ps = (k, v) :: ps' := by
      unfold pairsD at e
      split at e
      · cases ‹_ :: _ = []›
      · rename_i k v r' he
        injection he with e1 e2
        subst e1 e2
        obtain ⟨ps', e3, rfl⟩ := ofmap e
        exact ⟨k, v, ps', rfl, e3, rfl⟩
      · cases e
    obtain ⟨k, v, ps', rfl, e', rfl⟩ := hd
    unfold RVs at h
    obtain ⟨w, vs', rfl, h1, h2⟩ := h
    obtain ⟨t, ts, rfl, hs, rs⟩ := rv_tup h1
    obtain ⟨x, y, rfl, rx, ry⟩ := rvs2 rs
    cases r with
    | cons r1 r2 =>
      cases r1
      obtain ⟨its, rv, p, _⟩ := I.tuple (Same.seqT msk_same hs)
      obtain ⟨ux, uy, rfl, qx, qy⟩ := vals2 rv
      obtain ⟨rs', a1, rfl, a3, a4⟩ := prs_of I e' h2 r2
      exact ⟨⟨t, x, y, ux, uy⟩ :: rs', ⟨_, rs', rfl, rx, ry, qx, qy, p, a1⟩, rfl, by rw [List.length_cons, List.length_cons, a3], by rw [List.length_cons, List.length_cons, a4]⟩
theorem PrAll.get {h : Heap} : ∀ {ps : List (D × D)} {rs : List PrI} {i : Nat} {q : PrI}, PrAll X fa G φ h ps rs → rs[i]? = some q → ∃ p, ps[i]? = some p ∧ RV X.K fa G φ p.1 q.k ∧ RV X.K fa G φ p.2 q.v ∧ RelV q.k q.ku ∧ RelV q.v q.vu ∧ h.IsTuple q.t #[q.ku, q.vu]
  | [], _, i, q, a, e => by cases (show _ = _ from a); simp at e
  | p :: r, _, 0, q, a, e => by
    obtain ⟨q', rs', rfl, h1, h2, h3, h4, h5, h6⟩ := a
    cases e
    exact ⟨p, rfl, h1, h2, h3, h4, h5⟩
  | p :: r, _, i + 1, q, a, e => by
    obtain ⟨q', rs', rfl, h1, h2, h3, h4, h5, h6⟩ := a
    obtain ⟨p', e', z⟩ := PrAll.get h6 (show rs'[i]? = some q from e)
    exact ⟨p', e', z⟩
/-- the argument of dict() -/
theorem pr_items {h : Heap} {rs : List PrI} {ps : List (D × D)} (a : PrAll X fa G φ h ps rs) {items : Array Value} (hi : items = (rs.map fun q => Value.ref q.t).toArray) : PairItems h items (fun j => (rs.map PrI.t).getD j 0) (rs.map fun q => (q.ku, q.vu)) := by
  subst hi
  refine ⟨by simp, fun j k v e => ?_⟩
  rw [List.getElem?_map] at e
  obtain ⟨q, hq, e⟩ := ofmap e
  injection e with e1 e2
  subst e1 e2
  obtain ⟨p, _, _, _, _, _, t⟩ := a.get hq
  have ht : (rs.map PrI.t).getD j 0 = q.t := by rw [List.getD_eq_getElem?_getD, List.getElem?_map, hq]; rfl
  refine ⟨by simp [hq, ht], .inl ?_⟩
  show h.IsTuple ((rs.map PrI.t).getD j 0) _
  rw [ht]
  exact t
/-- keys that are ints and texts -/
theorem pr_keys {h : Heap} : ∀ {ps : List (D × D)} {rs : List PrI}, PrAll X fa G φ h ps rs → ps.all (fun p => isKey p.1) = true → ∃ (kvs : List (L2.Key × V)) (prs : List (L2.Key × Value)), RDs X.K fa G φ ps kvs ∧ KV kvs prs ∧ prs.length = rs.length ∧ ∀ (i : Nat) (q : PrI), rs[i]? = some q → ∃ k, prs[i]? = some (k, q.vu) ∧ (mixKind X.prog X.w).is k q.ku = true
  | [], _, a, _ => by cases (show _ = _ from a); exact ⟨[], [], rfl, .nil, rfl, fun i q e => by simp at e⟩
  | p :: r, _, a, c => by
    obtain ⟨q, rs', rfl, h1, h2, h3, h4, h5, h6⟩ := a
    rw [List.all_cons, Bool.and_eq_true] at c
    obtain ⟨kvs, prs, a1, a2, a3, a4⟩ := pr_keys h6 c.2
    obtain ⟨k, hk, e⟩ := key_rv c.1 h1
    refine ⟨(k, q.v) :: kvs, (k, q.vu) :: prs, RDs.cons hk h2 a1, .cons ⟨rfl, h4⟩ a2, by rw [List.length_cons, List.length_cons, a3], fun i q' e' => ?_⟩
    cases i with
    | zero =>
      cases e'
      exact ⟨k, rfl, kV_is (P := X.prog) (w := X.w) (by rw [← e]; exact h3)⟩
    | succ i => exact a4 i q' (by simpa using e')
theorem RDs.merge : ∀ {ps acc : List (D × D)} {kvs kacc : List (L2.Key × V)}, RDs X.K fa G φ ps kvs → RDs X.K fa G φ acc kacc → RDs X.K fa G φ (ps.foldl (fun acc p => putD acc p.1 p.2) acc) (mergeK kacc kvs)
  | [], acc, _, kacc, a, b => by cases (show _ = _ from a); exact b
  | p :: r, acc, _, kacc, a, b => by
    obtain ⟨k, v, q, rfl, h1, h2, h3⟩ := a
    rw [List.foldl_cons]
    show RDs X.K fa G φ _ (mergeK (putK kacc k v) q)
    exact RDs.merge h3 (b.put h1 h2)
/-- keys that are tuples -/
theorem pr_tups {h : Heap} : ∀ {ps : List (D × D)} {rs : List PrI}, PrAll X fa G φ h ps rs → ps.all (fun p => isKT p.1) = true → ∃ prs : List (NestedKey × Addr × Value), RXs X.K fa G φ ps prs ∧ prs.length = rs.length ∧ ∀ (i : Nat) (q : PrI), rs[i]? = some q → ∃ k b, prs[i]? = some (k, b, q.vu) ∧ q.ku = .ref b
  | [], _, a, _ => by cases (show _ = _ from a); exact ⟨[], rfl, rfl, fun i q e => by simp at e⟩
  | p :: r, _, a, c => by
    obtain ⟨q, rs', rfl, h1, h2, h3, h4, h5, h6⟩ := a
    rw [List.all_cons, Bool.and_eq_true] at c
    obtain ⟨prs, a1, a3, a4⟩ := pr_tups h6 c.2
    obtain ⟨b, e⟩ := kt_ref c.1 h1
    rw [e] at h1 h3
    refine ⟨(nk p.1, b, q.vu) :: prs, ⟨b, q.vu, q.v, prs, rfl, c.1, h1, h4, h2, a1⟩, by rw [List.length_cons, List.length_cons, a3], fun i q' e' => ?_⟩
    cases i with
    | zero =>
      cases e'
      exact ⟨_, b, rfl, h3⟩
    | succ i => exact a4 i q' (by simpa using e')
theorem RXs.merge : ∀ {ps acc : List (D × D)} {prs kacc : List (NestedKey × Addr × Value)}, RXs X.K fa G φ ps prs → RXs X.K fa G φ acc kacc → RXs X.K fa G φ (ps.foldl (fun acc p => putD acc p.1 p.2) acc) (storedAllH kacc prs)
  | [], acc, _, kacc, a, b => by cases (show _ = _ from a); exact b
  | p :: r, acc, _, kacc, a, b => by
    obtain ⟨b', u, v, q, rfl, h1, h2, h3, h4, h5⟩ := a
    rw [List.foldl_cons]
    show RXs X.K fa G φ _ (storedAllH (storedH kacc (nk p.1) b' u) q)
    exact RXs.merge h5 (b.put h1 h2 h3 h4)
theorem big_sys (I : Inv X pins σ H s) : (s.heap.objs.size == sysModules) = false := beq_eq_false_iff_ne.mpr (Nat.ne_of_gt I.big)
/-- dict(x) -/
theorem dict_call (hc : X.calm = true) (hu : X.A.units + 64 < cLine) (hw : fa.w = X.w) (I : Inv X pins σ H s) (A : Abs X.K fa φ μ H) {d : D} {c : Cell} {v : V} {u : Value} (rv : RV X.K fa (msk H φ) φ d v) (ru : RelV v u) (h : dictPD μ d = some c)
    {Q : VK} (q : ∀ (p : Addr) (o : HO), H p = none → CellR X.K fa (msk (upd H p o) (φ.add p)) (φ.add p) (upd H p o) p c → Q (.ref p) (upd H p o)) : wpAny (model X.prog X.w) X.A (call (.type "dict") [u]) (EP X pins σ Q) X.xe s := by
  obtain ⟨l, hl, h⟩ := ofbind h
  obtain ⟨ps, hp, h⟩ := ofbind h
  obtain ⟨h4, h⟩ := ite_some h
  obtain ⟨a, vs, rfl, hs, rs⟩ : ∃ a vs, v = .ref a ∧ (SqL X.K H a vs ∨ SqP X.K H a vs) ∧ RVs X.K fa (msk H φ) φ l vs := by
    unfold pairL at hl
    split at hl
    · cases hl
      obtain ⟨a, vs, e, hs, rs⟩ := rv_tupP rv
      exact ⟨a, vs, e, .inr (Same.sqP msk_same hs), rs⟩
    · obtain ⟨a, vs, e, hs, rs⟩ := lst_at A rv hl
      exact ⟨a, vs, e, .inl hs, rs⟩
  cases ru
  have core : ∀ {T : String} {its : List Value} {fp : List Addr} {rr : List PrI}, Vals vs its → PrAll X fa (msk H φ) φ s.heap ps rr → rr.length = ps.length → ps.length = l.length →
      PairArg X.prog X.w T a fp [] (rr.map fun q => (q.ku, q.vu)).length (PairRel (rr.map fun q => (q.ku, q.vu))) (fun h => PlainSeq T h a its.toArray ∧ PairItems h its.toArray (fun j => (rr.map PrI.t).getD j 0) (rr.map fun q => (q.ku, q.vu))) →
      PlainSeq T s.heap a its.toArray → its = rr.map (fun q => Value.ref q.t) → wpAny (model X.prog X.w) X.A (call (.type "dict") [.ref a]) (EP X pins σ Q) X.xe s := fun {T its fp rr} hv ha e1 e2 P hplain hits => by
    have hz : (rr.map fun q => (q.ku, q.vu)).length ≤ sizeLine := by rw [List.length_map, e1, e2, sizeLine_eq]; omega
    have hok := pr_items ha (items := its.toArray) (by rw [hits])
    have x0 : ∀ p o, H p = none → Ext φ H (φ.add p) (upd H p o) := fun p o hp => Ext.add A hp
    by_cases c1 : ps.all (fun p => isKey p.1) = true
    · rw [if_pos c1] at h
      cases h
      obtain ⟨kvs, prs, a1, a2, a3, a4⟩ := pr_keys ha c1
      refine call_dict_pairs (knd := mixKind X.prog X.w) (kvs := prs) P (I.ok.hd hc) ⟨hplain, hok⟩ ⟨by rw [a3, List.length_map], fun i key v e => ?_⟩ hz fun h' tk hd' k => ?_
      · obtain ⟨q, hq, e⟩ := ofmap (show (rr[i]?).map (fun q => (q.ku, q.vu)) = some (key, v) by rw [← List.getElem?_map]; exact e)
        injection e with e1 e2
        subst e1 e2
        exact a4 i q hq
      · have hn := I.hok.fresh (Nat.le_refl s.heap.objs.size)
        have hlen : (mergeK [] kvs).length ≤ sizeLine := by
          refine Nat.le_trans (length_mergeK kvs []) ?_
          rw [List.length_nil, Nat.zero_add, a2.length, a3, e1, e2, sizeLine_eq]
          omega
        refine ⟨.ref s.heap.objs.size, _, I.laid (t' := tk) (fun b o e => k b o (by simp) e) (Nat.le_refl _) (show ObjOk X.prog X.w _ _ _ (.dK (mergeK [] kvs)) from ⟨hlen, big_sys I, merged [] prs, KV.merge a2 .nil, hd'⟩), rfl, q _ _ hn ⟨_, upd_same, ?_⟩⟩
        have x1 := x0 _ (.dK (mergeK [] kvs)) hn
        exact RDs.mono x1.same (fun _ _ q => x1.phi q) _ _ (RDs.merge a1 RDs.nil)
    · rw [if_neg c1] at h
      obtain ⟨c2, h⟩ := ite_some h
      cases h
      obtain ⟨prs, a1, a3, a4⟩ := pr_tups ha c2
      have keys : ∀ x ∈ prs, ∃ d, x.1 = nk d ∧ isKT d = true ∧ RV X.K fa (msk H φ) φ d (.ref x.2.1) := a1.keys
      have hl0 := storedAllH_length prs []
      rw [List.length_nil] at hl0
      refine call_dict_pairsH (knd := nestedKind X.prog X.w) (ps := prs) P (I.ok.hd hc) (room_nk hu) ⟨hplain, hok⟩ ⟨by rw [a3, List.length_map], fun i key v e => ?_⟩ (fun h' hk x hx => ?_) hz fun h' tk hd' k => ?_
      · obtain ⟨q, hq, e⟩ := ofmap (show (rr[i]?).map (fun q => (q.ku, q.vu)) = some (key, v) by rw [← List.getElem?_map]; exact e)
        injection e with e1 e2
        subst e1 e2
        exact a4 i q hq
      · obtain ⟨d, e1, e2, e3⟩ := keys x hx
        have := is_key I msk_same e2 e3
        rw [← e1] at this
        exact nestedKind_stays.stays (fun b o vs n e _ => hk b o (Nat.ne_of_lt (Heap.lt_size e)) (by simp) e) this
      · have hn := I.hok.fresh (Nat.le_refl s.heap.objs.size)
        have hlen : (storedAllH [] prs).length ≤ sizeLine := by
          rw [sizeLine_eq]
          omega
        have ho : ObjOk X.prog X.w (upd H s.heap.objs.size (dtO fa.w s.heap.objs.size (storedAllH [] prs))) h' s.heap.objs.size (dtO fa.w s.heap.objs.size (storedAllH [] prs)) := by
          rw [hw]
          exact dtt_obj hlen (big_sys I) hd'
        refine ⟨.ref s.heap.objs.size, _, I.laid (t' := tk) (fun b o e => k b o (by simp) e) (Nat.le_refl _) ho, rfl, q _ _ hn ⟨_, upd_same, ?_⟩⟩
        have x1 := x0 _ (dtO fa.w s.heap.objs.size (storedAllH [] prs)) hn
        exact RXs.mono x1.same (fun _ _ q => x1.phi q) _ _ (RXs.merge a1 RXs.nil)
  rcases hs with hs | hs
  · obtain ⟨its, rv2, ⟨o, n, ho, hcl, hdc, hdt⟩, _⟩ := I.list hs
    obtain ⟨rr, ha, hits, e1, e2⟩ := prs_of I hp rs rv2
    exact core rv2 ha e1 e2 (PairArg.list a its.toArray _ _) ⟨o, n, ho, hcl, hdc, hdt⟩ hits
  · obtain ⟨its, rv2, o, n, ho, hcl, hdc, hdt⟩ : ∃ its, Vals vs its ∧ PlainSeq "tuple" s.heap a its.toArray := by
      rcases hs with ⟨o, hdc, hs⟩ | ⟨o, its, n, hk, hcl, hdc, hdt, _, hv⟩
      · obtain ⟨hget, _, its, hv, o', ho', hcl, n, hdt⟩ := I.hok a _ hs
        rw [hget] at ho'
        cases ho'
        exact ⟨its, hv, o, n, hget, hcl, hdc, hdt⟩
      · exact ⟨its.toList, hv, o, n, I.kIn a o hk, hcl, hdc, by rw [Array.toArray_toList]; exact hdt⟩
    obtain ⟨rr, ha, hits, e1, e2⟩ := prs_of I hp rs rv2
    exact core rv2 ha e1 e2 (PairArg.tuple a its.toArray _ _) ⟨o, n, ho, hcl, hdc, hdt⟩ hits
end
section
variable {X : Cx} {fa : Lay} {W : EW} {m : Rho → Mu → Res D} {x : Str} {p pos : Pos} {e : Expr}
theorem e_dictP (hc : X.calm = true) (hu : X.A.units + 64 < cLine) (hw : fa.w = X.w) (hg : Gl X "dict") (hm : X.mg "dict" = none) (he : PE X e (tE X.K fa W m)) (hs : starEach [e] X.env = (false, eval e X.env) :: starEach [] X.env) :
    PE X (.Call (.Name "dict" p) [e] [] pos) (tE X.K fa W fun ρ μ => (m ρ μ).bind fun x μ => match dictPD μ x with
      | some c => .ok (.loc μ.length) (μ ++ [c])
      | none => .no) := by
  have hcall : CallR X (.type "dict") (fun vs H Q => ∃ φ μ d c v, vs = [v] ∧ Abs X.K fa φ μ H ∧ RV X.K fa (msk H φ) φ d v ∧ dictPD μ d = some c ∧ ∀ (p : Addr) (o : HO), H p = none → CellR X.K fa (msk (upd H p o) (φ.add p)) (φ.add p) (upd H p o) p c → Q (.ref p) (upd H p o)) := by
    intro pins s σ H xs us Q I r h
    obtain ⟨φ, μ, d, c, v, rfl, A, rv, e, q⟩ := h
    obtain ⟨u, rfl, ru⟩ := vals1 r
    exact dict_call hc hu hw I A rv ru e q
  refine PE.imp (pe_callTy hcall hg hm boot_dict (pa_cons he pa_nil hs) (by decide) (by decide) hs rfl) fun σ H Q h => ?_
  obtain ⟨φ, μ, ρ, A, R, h⟩ := h
  refine ⟨φ, μ, ρ, A, R, h.bind.imp fun d μ1 φ1 H1 e1 A1 h1 v rv => ?_⟩
  cases hd : dictPD μ1 d with
  | none => rw [hd] at h1; exact False.elim h1
  | some c =>
    rw [hd] at h1
    refine ⟨φ1, μ1, d, c, v, rfl, A1, rv, hd, fun q o hq hcell => ?_⟩
    obtain ⟨x1, A2⟩ := Abs.push (o := o) A1 hq hcell
    refine h1 _ _ x1 A2 _ (mk_loc ?_)
    show (φ1.sh ++ [q])[μ1.length]? = some q
    rw [← A1.len, List.getElem?_append_right (Nat.le_refl _), Nat.sub_self]
    rfl
end
end Ev

set_option Elab.async false
set_option linter.all false
set_option maxRecDepth 100000
set_option maxHeartbeats 1000000
/-! A suite that asks its exception. -/
namespace Ev
open PySem PySem.Spec PyProof.Rows L2
def notStar : Expr → Bool
  | .Starred .. => false
  | _ => true
theorem star_cons {e : Expr} {es : List Expr} {env : Env} (h : notStar e = true) : starEach (e :: es) env = (false, eval e env) :: starEach es env := by
  cases e <;> first | rfl | cases h
theorem star_back {pos : Pos} {env : Env} : ∀ {es : List Expr}, (∀ e ∈ es, notStar e = true) → (backTo pos (starEach es env)).any (·.1) = false
  | [], _ => rfl
  | e :: es, h => by
    rw [star_cons (h e List.mem_cons_self)]
    show (false || (backTo pos (starEach es env)).any (·.1)) = false
    rw [star_back fun q hq => h q (List.mem_cons_of_mem _ hq)]
    rfl
theorem excCB_ok {K : PySem.W.Frag} {D : Addr} (h : excCB K D = true) : ExcC K D := by
  unfold excCB at h
  simp only [Bool.and_eq_true, decide_eq_true_eq] at h
  obtain ⟨h1, h2, h3, h4, h5, h6, h7, h8⟩ := h
  exact ⟨h1, h2, h3, h4, h5, h6, h7, h8⟩
section
variable {X : Cx} {fa : Lay} {W : EW}
/-- the exception at a, which stands in the suite's care -/
structure HotE (X : Cx) (D a : Addr) : Prop where
  c : ExcC X.K D
  at_ : ∃ oe, (a, oe) ∈ X.pn ∧ Zc (.ref D) none oe ∧ ∃ vs, oe.data = .fields vs
theorem HotE.inst {D a : Addr} (h : HotE X D a) {pins : List (Addr × Obj)} {σ : L2.St} {H : Hp} {s : Shared} (I : Inv X pins σ H s) : ∃ oe, PySem.W.InstAt s.heap a oe D none := by
  obtain ⟨oe, hm, ⟨h1, h2⟩, vs, hv⟩ := h.at_
  obtain ⟨hget, _⟩ := I.pin (a, oe) (List.mem_append.mpr (.inl hm))
  obtain ⟨oc, od, oda, osl⟩ := oe
  dsimp only at h1 h2 hv
  subst h1 h2 hv
  exact ⟨_, hget, rfl, rfl, trivial⟩
def rHot (K : PySem.W.Frag) (D a : Addr) : List V → Hp → VK → Prop := fun xs H Q => ∃ (c : V) (u : Value) (b : Bool), xs = [.ref a, c] ∧ ClsV c u ∧ PySem.W.kitOne K (.ref D) u = some b ∧ Q (.bl b) H
theorem call_hot {D a : Addr} (h : HotE X D a) : CallR X (.builtin "isinstance") (rHot X.K D a) := by
  intro pins s σ H xs us Q I r hq
  obtain ⟨c, u, b, rfl, k, e, q⟩ := hq
  obtain ⟨u1, u2, rfl, r1, r2⟩ := vals2 r
  cases (show u1 = Value.ref a from r1)
  have e2 := k.eq r2
  subst e2
  obtain ⟨oe, J⟩ := h.inst I
  have C := h.c
  exact PySem.W.kia_one (PySem.W.handS_kitx_exc C.hg C.hk C.hs C.hd C.ha C.hn C.ht C.hm) I.kIn J e (fun z => nomatch z) fun tk => ⟨.bl b, H, I.tok tk, rfl, q⟩
def rHotT (K : PySem.W.Frag) (D a : Addr) : List V → Hp → VK → Prop := fun xs H Q => ∃ (tp : Addr) (cs : List V) (us : List Value) (b : Bool), xs = [.ref a, .ref tp] ∧ H tp = some (.tup cs) ∧ Paired ClsV cs us ∧ PySem.W.kitAny K (.ref D) us = some b ∧ Q (.bl b) H
theorem call_hotT {D a : Addr} (h : HotE X D a) : CallR X (.builtin "isinstance") (rHotT X.K D a) := by
  intro pins s σ H xs us Q I r hq
  obtain ⟨tp, cs, ws, b, rfl, hT, k, e, q⟩ := hq
  obtain ⟨u1, u2, rfl, r1, r2⟩ := vals2 r
  cases (show u1 = Value.ref a from r1)
  cases (show u2 = Value.ref tp from r2)
  obtain ⟨_, its, rv, o, h1, h2, n, h3⟩ := (show ObjOk X.prog X.w H s.heap tp (.tup cs) from I.hok tp _ hT)
  have e3 := ClsV.all k rv
  subst e3
  obtain ⟨oc, od, dt, sl⟩ := o
  simp only at h2 h3
  subst h2 h3
  obtain ⟨oe, J⟩ := h.inst I
  have C := h.c
  exact PySem.W.kia_tup (PySem.W.handS_kitx_exc C.hg C.hk C.hs C.hd C.ha C.hn C.ht C.hm) I.kIn J h1 e (fun z => nomatch z) fun tk => ⟨.bl b, H, I.tok tk, rfl, q⟩
/-- a class's name, and whether the exception is one -/
def ClN (X : Cx) (D : Addr) (e : Expr) (b : Bool) : Prop := ∃ (c : V) (u : Value), ClsV c u ∧ PE X e (tC c) ∧ PySem.W.kitOne X.K (.ref D) u = some b
variable {i : Nat} {n : Str} {D a : Addr} {p p2 pos tpos : Pos}
/-- isinstance(e, C) -/
theorem e_hot1 (h : HotE X D a) (hk : fa.keep = some (i, .ref a)) (hN : X.N[i]? = some n) (hv : Vis X.env.scope n) (hd : (n == ("__debug__" : Str)) = false) (hcd : (n == ("__classdict__" : Str)) = false)
    (hg : Gl X "isinstance") (hm : X.mg "isinstance" = none) {c : Expr} {b : Bool} (hc : ClN X D c b) (hs : notStar c = true) :
    PE X (.Call (.Name "isinstance" p) [.Name n p2, c] [] pos) (tE X.K fa W fun _ μ => .ok (.bl b) μ) := by
  obtain ⟨cv, u, k, pc, e⟩ := hc
  refine PE.imp (pe_callB (call_hot h) hg hm (by decide +kernel) (pa_cons (pe_var hN hv hd hcd) (pa_cons pc pa_nil (star_cons hs)) rfl) (by decide) (by decide) rfl (star_back (es := [c]) fun z hz => by rw [List.mem_singleton.mp hz]; exact hs)) fun σ H Q q => ?_
  obtain ⟨φ, μ, ρ, A, R, q⟩ := q
  exact ⟨.ref a, R.kp i _ hk, cv, u, b, rfl, k, e, q.here A _ mk_bl⟩
theorem pa_cls : ∀ {es : List Expr} {bs : List Bool}, Paired (fun e b => ClN X D e b) es bs → (∀ e ∈ es, notStar e = true) → ∃ cs us, PA X es (fun _ H Q => Q cs H) ∧ Paired ClsV cs us ∧ PySem.W.kitAny X.K (.ref D) us = some (bs.any id) ∧ cs.length = es.length
  | _, _, .nil, _ => ⟨[], [], PA.imp pa_nil fun _ _ _ q => q, .nil, rfl, rfl⟩
  | _, _, .cons (a := e) (b := b) h r, hs => by
    obtain ⟨c, u, k, pc, ek⟩ := h
    obtain ⟨cs, us, h1, h2, h3, h4⟩ := pa_cls r fun z hz => hs z (List.mem_cons_of_mem _ hz)
    refine ⟨c :: cs, u :: us, PA.imp (pa_cons pc h1 (star_cons (hs _ List.mem_cons_self))) fun _ _ _ q => q, .cons k h2, ?_, congrArg (· + 1) h4⟩
    unfold PySem.W.kitAny
    rw [ek]
    cases b with
    | true => rfl
    | false => exact h3
/-- isinstance(e, (C, D, ..)) -/
theorem e_hotT {tx} (h : HotE X D a) (hk : fa.keep = some (i, .ref a)) (hN : X.N[i]? = some n) (hv : Vis X.env.scope n) (hd : (n == ("__debug__" : Str)) = false) (hcd : (n == ("__classdict__" : Str)) = false)
    (hg : Gl X "isinstance") (hm : X.mg "isinstance" = none) {es : List Expr} {bs : List Bool} (hc : Paired (fun e b => ClN X D e b) es bs) (hs : ∀ e ∈ es, notStar e = true) (hl : es.length < 100) :
    PE X (.Call (.Name "isinstance" p) [.Name n p2, .Tuple es tx tpos] [] pos) (tE X.K fa W fun _ μ => .ok (.bl (bs.any id)) μ) := by
  obtain ⟨cs, us, h1, h2, h3, h4⟩ := pa_cls hc hs
  have h4 : cs.length ≤ 100 := by omega
  refine PE.imp (pe_callB (call_hotT h) hg hm (by decide +kernel) (pa_cons (pe_var hN hv hd hcd) (pa_cons (pe_tup h1) pa_nil (star_cons rfl)) rfl) (by decide) (by decide) rfl (star_back (es := [.Tuple es tx tpos]) fun z hz => by rw [List.mem_singleton.mp hz]; rfl)) fun σ H Q q => ?_
  obtain ⟨φ, μ, ρ, A, R, q⟩ := q
  refine ⟨.ref a, R.kp i _ hk, ?_⟩
  refine ⟨Nat.le_trans h4 (by decide +kernel), fun tp hp => ?_⟩
  refine ⟨tp, cs, us, _, rfl, upd_same, h2, h3, ?_⟩
  exact q φ _ (Ext.fresh A hp) (Abs.fresh A hp) _ mk_bl
/-! ### try .. except .. as -/
theorem ends_kill {K : PySem.W.Frag} {φ : Ph} {H : Hp} {o : Out} {D' : Ends} {v : V} (hk : fa.keep = none) (h : RunO K fa W φ H (o.kill i) D') :
    RunO K (fa.hot (some (i, v))) W0 φ H o { nx := fun σ' H' => D'.nx (σ'.set i none) H', rt := D'.rt, bk := fun σ' H' => D'.bk (σ'.set i none) H', ct := fun σ' H' => D'.ct (σ'.set i none) H' } := by
  cases o with
  | nx ρ' μ' => exact fun φ2 H2 σ2 x A R => h φ2 H2 _ x (Abs.hot.mp A) ((R.cool hk).drop hk i none)
  | bk ρ' μ' => exact fun φ2 H2 σ2 x A R => h φ2 H2 _ x (Abs.hot.mp A) ((R.cool hk).drop hk i none)
  | ct ρ' μ' => exact fun φ2 H2 σ2 x A R => h φ2 H2 _ x (Abs.hot.mp A) ((R.cool hk).drop hk i none)
  | rt d μ' => exact fun φ2 H2 v x A r => h φ2 H2 v x (Abs.hot.mp A) (by rw [← RV.hot]; exact r)
  | ex _ _ _ => exact False.elim h
  | no => exact False.elim h
variable {x : Str} {np pos' : Pos} {c : Nat}
theorem s_tryA {cv : Value} {no : List Nat} {body suite : List Stmt} {b₀ : Stmt} {ob oh : Rho → Mu → Out} (hs : X.stack = X.env :: X.outer) (hf : X.env.frame = some X.env.locals) (hNd : X.N.Nodup) (hi : X.N[i]? = some n) (hln : X.env.kindOf n = some .local)
    (hc : Names X x cv) (hW : Wis X fa W) (hkn : fa.keep = none) (hy : PySem.W.exmOne X.K (.ref (fa.cl c)) cv = some true) (hn : ∀ c ∈ no, PySem.W.exmOne X.K (.ref (fa.cl c)) cv = some false)
    (hb : ∀ (W' : EW) (pn : List (Addr × Obj)) (xe : Value → Shared → Prop), Wis (X.tr pn xe) fa W' → PassesOwn (model X.prog X.w) X.A X.env xe → PSs (X.tr pn xe) body (tS X.K fa W' ob))
    (hsu : ∀ (a : Addr) (oe : Obj) (pn : List (Addr × Obj)), Zc (.ref (fa.cl c)) none oe → (∃ vs, oe.data = .fields vs) → PSs (X.suite a ((a, oe) :: pn)) (b₀ :: suite) (tS X.K (fa.hot (some (i, .ref a))) W0 oh)) :
    PS X (.Try body [.ExceptHandler (some (.Name x np)) (some n) (b₀ :: suite) pos'] [] [] pos) (tS X.K fa W (evTryA i c no ob oh)) := by
  obtain ⟨Wm, tk, hWm⟩ := hW
  refine PS.imp (ps_try_as (tb := fun w => tS X.K fa (fun σ x H => w (.ref (fa.cl x.cls)) none σ H) ob) (ts := fun a cls d => fun D σ H => cls = .ref (fa.cl c) ∧ d = none ∧ tS X.K (fa.hot (some (i, .ref a))) W0 oh D σ H) hs hf hNd hi hln hc tk
    (fun w pn xe tk' ho => hb _ pn xe ⟨w, tk', fun _ _ _ h => h⟩ ho) fun a oe cls d pn hz hfd => ⟨fun pins s σ H D I q => by
      obtain ⟨rfl, rfl, q⟩ := q
      exact (hsu a oe pn hz hfd).run pins s σ H D I q⟩) fun D σ H h => ?_
  obtain ⟨φ, μ, ρ, A, R, h⟩ := h
  refine ⟨φ, μ, ρ, A, R, ?_⟩
  unfold evTryA at h
  cases q : ob ρ μ with
  | ex x ρ' μ' =>
    rw [q] at h
    dsimp only at h
    intro φ' H' σ' e A' R'
    by_cases h1 : x.cls = c
    · rw [if_pos h1] at h
      by_cases hl : i < ρ'.length
      · rw [if_pos hl] at h
        refine ⟨true, by rw [h1]; exact hy, fun _ a _ => ⟨by rw [h1], rfl, φ', μ', ρ'.set i none, Abs.hot.mpr A', ?_, ?_⟩, fun q => by cases q⟩
        · refine (R'.drop hkn i _).heat fun j v e2 => ?_
          cases e2
          exact List.getElem?_set_self (by rw [← R'.len]; exact hl)
        · exact ends_kill hkn (h.ext e)
      · rw [if_neg hl] at h; exact False.elim h
    · rw [if_neg h1] at h
      by_cases h2 : x.cls ∈ no
      · rw [if_pos h2] at h
        exact ⟨false, hn _ h2, fun q => (by cases q), fun _ => hWm σ' x H' (h φ' H' σ' e A' R')⟩
      · rw [if_neg h2] at h; exact False.elim h
  | _ => rw [q] at h; exact h
/-! ### a def that is asked of the exception -/
/-- a def that answers b of an exception of class k -/
def HotF (P : Program) (w : World) (K : PySem.W.Frag) (mg : Str → Option Value) (base : Heap) (fa : Lay) (y : Str) (k : Nat) (b : Bool) : Prop :=
  ∃ (f : Addr) (fd : FuncData) (q : Str), mg y = some (.ref f) ∧ PySem.W.keepIn K (.ref f) = true ∧ L2.Binds K fd [q] [] ∧
    ∀ (A : Around) (outer : List Env) (s : Shared) (H : Hp) (args : Args) (a : Addr) (oe : Obj) (φ : Ph) (μ : Mu) (Q : VK), L2H.RoomH 1 A → L2H.PinOk outer H s (a, oe) → Zc (.ref (fa.cl k)) none oe → (∃ vs, oe.data = .fields vs) → ExcC K (fa.cl k) →
      Env0 P w K mg base A outer s H → BindsTo s fd args [(q, .ref a)] → Abs K fa φ μ H → (∀ φ' H', Ext φ H φ' H' → Abs K fa φ' μ H' → Q (.bl b) H') →
      codeAny (model P w) A (.call (.ref f) args) (CR (L2.CX P w) outer P w H s Q fun _ _ _ => False) s
theorem e_hotF {y : Str} {k : Nat} {b : Bool} (hF : HotF X.prog X.w X.K X.mg X.base fa y k b) (h : HotE X (fa.cl k) a) (hk : fa.keep = some (i, .ref a)) (hr : L2H.RoomH 1 X.A) (hN : X.N[i]? = some n) (hv : Vis X.env.scope n) (hd : (n == ("__debug__" : Str)) = false) (hcd : (n == ("__classdict__" : Str)) = false)
    (hg : Gl X y) (hdb : (y == ("__debug__" : Str)) = false) : PE X (.Call (.Name y p) [.Name n p2] [] pos) (tE X.K fa W fun _ μ => .ok (.bl b) μ) := by
  obtain ⟨f, fd, q, hm, hkp, hb, run⟩ := hF
  refine ⟨fun pins s σ H Q I hq => ?_⟩
  obtain ⟨φ, μ, ρ, A, R, hq⟩ := hq
  have pa := pa_cons (pe_var (pos := p2) hN hv hd hcd) pa_nil (star_cons rfl)
  refine wpAny_Call_Name_kw (ld_glob I hg hm ?_ hdb)
  refine PySem.W.callWith_K (h₀ := X.base) I.ok.mod.kin hkp (thn (pa.run pos pins s σ H (fun vs H1 => vs = [.ref a] ∧ H1 = H) I ⟨_, R.kp i _ hk, rfl, rfl⟩) fun us s1 ⟨vs, H1, I1, r, e1, e2⟩ => ⟨I1.kIn, ?_⟩) rfl rfl
  subst e1 e2
  cases r with
  | cons r1 r2 =>
    cases r2
    obtain rfl : _ = Value.ref a := r1
    obtain ⟨oe, hm2, hz, hf⟩ := h.at_
    have P1 := I1.pin (a, oe) (List.mem_append_left _ hm2)
    have hpin : L2H.PinOk X.stack H1 s1 (a, oe) := ⟨P1.1, P1.2.1, fun hm => (List.mem_cons.mp (I1.stkSub a hm)).elim P1.2.2.1 P1.2.2.2.1, P1.2.2.2.2⟩
    have bb := hb s1 [.ref a] I1.kIn rfl
    refine wpAny_call (codeAny_mono (run X.A X.stack s1 H1 ⟨[.ref a], []⟩ a oe φ μ Q hr hpin hz hf h.c I1.env0 bb A fun φ' H' e A' => hq φ' H' e A' _ mk_bl) fun r s' hq => ?_)
    cases r with
    | error e =>
      obtain ⟨_, _, _, _, _, _, _, _, _, _, _, _, z⟩ := hq
      exact z.elim
    | ok fl =>
      cases fl with
      | ret u => exact I1.after hq
      | next => exact False.elim hq
      | brk => exact False.elim hq
      | cont => exact False.elim hq
end
section
variable {P : Program} {w : World} {K : PySem.W.Frag} {mg : Str → Option Value} {base : Heap} {fa : Lay} {G : Nat → Option D} {call : Nat → List D → Mu → Res D}
theorem hotF_of {N : List Str} {y qual q : Str} {st : Stmt} {f : Addr} {fd : FuncData} {k : Nat} {b : Bool} {ss : List S} (Fu : FunD K y qual (defArgs st) (defBody st) (defScope st) [] [] f fd) (S : FnScope N [q] (defScope st)) (hm : mg y = some (.ref f)) (hb : L2.Binds K fd [q] [])
    (hbody : ∀ (cdv : Value) (A : Around) (outer : List Env) (s : Shared) (H : Hp) (a : Addr) (oe : Obj), L2H.RoomH 0 (A.deeper (envOfC qual (defScope st) s.heap.objs.size f cdv)) → Zc (.ref (fa.cl k)) none oe → (∃ vs, oe.data = .fields vs) → ExcC K (fa.cl k) →
      PSs (L2H.cxH (L2.CX P w) P w K mg base N qual (defScope st) f cdv A outer s H (fun _ _ _ => False) (a, oe)) (defBody st) (tS K (fa.hot (some (0, .ref a))) W0 (exSs G call ss)))
    (hval : ∀ ρ μ, exSs G call ss ρ μ = .rt (.bl b) μ) : HotF P w K mg base fa y k b := by
  obtain ⟨oc, od, dV, kV, doc, pm, an, cdv, ct, osl, rfl, lk, hcd, _, _⟩ := Fu.ex
  refine ⟨f, _, q, hm, Fu.kp, hb, fun A outer s H args a oe φ μ Q hr hpin hz hf hC e0 hbd Ab hq => ?_⟩
  have KX : K.In s.heap := e0.mod.kin.keeps fun b o e => (e0.bs b o e).1
  have lim : s.heap.NoLimit := e0.mod.nolimit.keeps fun b o e => (e0.bs b o e).1
  have hkind : ∀ y ∈ [(q, Value.ref a)], (defScope st).names.lookup y.1 = some .local ∨ ((defScope st).names.lookup y.1 = some .cell ∧ ((cellsFrom (s.heap.objs.size + 1) (defScope st).names []).lookup y.1).isSome = true) := fun y hy => by
    rw [List.mem_singleton.mp hy]
    rcases S.par q List.mem_cons_self with z | z
    · exact .inl z
    · exact .inr ⟨z, PySem.W.cellsFrom_some _ _ _ (.inl z)⟩
  refine codeAny_call_function hr.depth (KX _ _ lk) rfl S.co S.gen rfl (PySem.W.codeRec_of KX hcd) (hbd _ _ _ _ ?_)
  refine wpAny_newFunctionEnv_cells S.kind hkind fun env he s1 x => ?_
  subst he
  refine ⟨lim.keeps x.toInCall.keep, codeAny_func ?_⟩
  have I : Inv (L2H.cxH (L2.CX P w) P w K mg base N qual (defScope st) f cdv A outer s H (fun _ _ _ => False) (a, oe)) [] (L2.start N [.ref a]) H s1 := L2H.inv_startH (ps := [q]) (us := [.ref a]) (vs := [.ref a]) S hpin e0 rfl (.cons rfl .nil) x
  have hN : 1 ≤ N.length := by have := congrArg List.length S.pre; rw [List.length_take] at this; simp at this; omega
  refine wpAny_mono ((hbody cdv A outer s H a oe (hr.deeper _) hz hf hC).run [] s1 (L2.start N [.ref a]) H { nx := fun _ H' => Q .non H', rt := Q } I ⟨φ, μ, List.replicate N.length none, Abs.hot.mpr Ab, ⟨?_, fun j d e => ?_, fun j v e => ?_⟩, ?_⟩) (fun fl s' hs => ?_) fun e s' hs => hs
  · unfold L2.start
    rw [List.length_append, List.length_map, List.length_replicate, List.length_replicate]
    show N.length = 1 + (N.length - 1)
    omega
  · rw [List.getElem?_replicate] at e
    split at e <;> cases e
  · cases e
    rfl
  · rw [hval]
    exact fun φ' H' v e A' rv => by rw [rv_bl rv]; exact hq φ' H' e (Abs.hot.mp A')
  have fin : ∀ {σ' : L2.St} {H' : Hp} {v : V} {u : Value}, Inv (L2H.cxH (L2.CX P w) P w K mg base N qual (defScope st) f cdv A outer s H (fun _ _ _ => False) (a, oe)) [] σ' H' s' → RelV v u → Q v H' → CE outer P w H s Q u s' :=
    fun {σ' H' v u} J rv q => ⟨v, H', J.os, J.bare, J.base, J.hok, rv, q⟩
  cases fl with
  | ret u =>
    obtain ⟨v, σ', H', J, rv, q⟩ := hs
    exact fin J rv q
  | next =>
    obtain ⟨σ', H', J, q⟩ := hs
    exact fin (v := V.non) (u := Value.none) J rfl q
  | brk =>
    obtain ⟨_, _, _, q⟩ := hs
    exact False.elim q
  | cont =>
    obtain ⟨_, _, _, q⟩ := hs
    exact False.elim q
end
end Ev

set_option Elab.async false
set_option linter.all false
set_option maxRecDepth 100000
set_option maxHeartbeats 1000000
/-! Lambdas that take names of their maker along: the promise of one that lives. -/
namespace Ev
open PySem PySem.Spec PyProof.Rows L2
/-- what runs in a lambda's body -/
def lcx (P : Program) (w : World) (K : PySem.W.Frag) (mg : Str → Option Value) (base : Heap) (N : List Str) (qual : Str) (scope : Scope) (f c' : Addr) (cl : List (Str × Addr)) (A : Around) (outer : List Env) (s : Shared) (H : Hp) (E : XK) : Cx :=
  { prog := P, w := w, K := K, mg := mg, base := base, A := A.deeper (PySem.W.envX qual scope s.heap.objs.size f (.ref c') cl), N := N, s_0 := s, H_0 := H, env := PySem.W.envX qual scope s.heap.objs.size f (.ref c') cl,
    outer := outer, stack := PySem.W.envX qual scope s.heap.objs.size f (.ref c') cl :: outer, ex := [], fn := fun _ => false, calm := true, pn := [],
    xe := fun e s' => wpAny (model P w) (A.deeper (PySem.W.envX qual scope s.heap.objs.size f (.ref c') cl)) (leaving (PySem.W.envX qual scope s.heap.objs.size f (.ref c') cl) e) (fun _ s2 => L2.CX P w outer H s E e s2) (fun e' s2 => L2.CX P w outer H s E e' s2) s' }
/-- the names of a lambda: parameters, and such as it takes along -/
structure LamN (scope : Scope) (ps ys : List Str) : Prop where
  kind : scope.kind = .function
  co : scope.isCoroutine = false
  gen : scope.isGenerator = false
  nocell : ∀ y ∈ scope.names, y.2 ≠ .cell
  par : ∀ x ∈ ps, scope.names.lookup x = some .local
  cap : ∀ y ∈ ys, scope.names.lookup y = some .free
  all : ∀ z ∈ scope.names, z.2 = .free → z.1 ∈ ys
  nd : (ps ++ ys).Nodup
theorem lookup_nd {α : Type} {y : Str} {u : α} : ∀ {l : List (Str × α)}, (l.map (·.1)).Nodup → (y, u) ∈ l → l.lookup y = some u
  | [], _, h => by cases h
  | (z, v) :: r, nd, h => by
    rw [List.map_cons, List.nodup_cons] at nd
    rw [List.lookup_cons]
    rcases List.mem_cons.mp h with e | h'
    · cases e
      rw [show (y == y) = true from beq_self_eq_true y]
    · have : (y == z) = false := beq_eq_false_iff_ne.mpr fun e => nd.1 (by subst e; exact List.mem_map.mpr ⟨_, h', rfl⟩)
      rw [this]
      exact lookup_nd nd.2 h'
theorem zip_rev {ps : List Str} {us : List Value} {i : Nat} {y : Str} {u : Value} (nd : ps.Nodup) (hl : us.length = ps.length) (h1 : ps[i]? = some y) (h2 : us[i]? = some u) : (ps.zip us).reverse.lookup y = some u := by
  refine lookup_nd ?_ ?_
  · rw [List.map_reverse, (List.reverse_perm _).nodup_iff, List.map_fst_zip (Nat.le_of_eq hl.symm)]
    exact nd
  · rw [List.mem_reverse]
    exact List.mem_of_getElem? (i := i) (by rw [List.getElem?_zip_eq_some]; exact ⟨h1, h2⟩)
section
variable {P : Program} {w : World} {K : PySem.W.Frag} {mg : Str → Option Value} {base : Heap} {lv : Nat} {f c' : Addr} {qual : Str} {params : Arguments} {body : Expr} {scope : Scope} {cl : List (Str × Addr)} {pm ctv : Value} {ps ys : List Str} {sp : Sp}
/-- the cells of what it takes along -/
structure Caps (base : Heap) (cl : List (Str × Addr)) (ys : List Str) (cvs : List V) : Prop where
  len : cvs.length = ys.length
  inj : ∀ x y c, cl.lookup x = some c → cl.lookup y = some c → x = y
  cell : ∀ x c, cl.lookup x = some c → ∃ v, base.IsCell c v
  has : ∀ (i : Nat) (y : Str) (v : V), ys[i]? = some y → cvs[i]? = some v → ∃ c u, cl.lookup y = some c ∧ base.IsCell c (some u) ∧ RelV v u
/-- a lambda that lives in base keeps the promise that its body keeps -/
theorem lam_ok {cvs : List V} (hf : base.get? f = some (PySem.W.kla_obj "<lambda>" qual params body scope cl pm c' ctv)) (L : LamN scope ps ys) (C : Caps base cl ys cvs) (hcode : ∀ vs H Q E, sp vs H Q E → H c' = some (LamX.CodeO c' qual))
    (len : ∀ vs H Q E, sp vs H Q E → vs.length = ps.length)
    (hbody : ∀ (A : Around) (outer : List Env) (s : Shared) (H : Hp) (vs : List V) (Q : VK) (E : XK), Room lv (A.deeper (PySem.W.envX qual scope s.heap.objs.size f (.ref c') cl)) → sp vs H Q E →
      ∃ t : TE, PE (lcx P w K mg base (ps ++ ys) qual scope f c' cl A outer s H E) body t ∧ t ((vs ++ cvs).map some) H Q) :
    FnOk P w K mg base (L2.CX P w) (lv + 1) f (PySem.W.kla_fn "<lambda>" qual params body scope cl pm (.ref c') ctv) ps sp := by
  refine ⟨len, fun A outer s H args us vs Q E hr e0 hb r hsp => ?_⟩
  have hl := len vs H Q E hsp
  have hlu : us.length = ps.length := by rw [← r.length]; exact hl
  obtain ⟨⟨oc, vs', t, hoc, hdc, hvc⟩, _, _⟩ := e0.hok c' _ (hcode vs H Q E hsp)
  have kp0 : ∀ b o, base.get? b = some o → s.heap.get? b = some o := fun b o e => (e0.bs b o e).1
  have lim : s.heap.NoLimit := e0.mod.nolimit.keeps kp0
  obtain ⟨t, ht, hq⟩ := hbody A outer s H vs Q E (hr.deeper _) hsp
  refine PySem.W.kla_callFunE hr.depth (kp0 f _ hf) rfl L.co L.gen rfl ⟨c', oc, vs', _, rfl, hoc, hdc, hvc⟩ ?_
  refine hb _ _ _ _ ?_
  refine wpAny_newFunctionEnv L.nocell (fun x hx => L.par x.1 (List.of_mem_zip hx).1) (fun h1 hns hsb => ⟨lim.fresh _ hsb, ?_⟩) L.kind
  show codeAny _ _ (.expr body (PySem.W.envX qual scope s.heap.objs.size f (.ref c') cl)) _ _
  have kp : ∀ b o, s.heap.get? b = some o → h1.get? b = some o := fun b o e => hsb.extBut b o (Nat.ne_of_lt (Heap.lt_size e)) (Heap.get?_push_of_some _ e)
  have ndP : ps.Nodup := (List.nodup_append.mp L.nd).1
  have noA : ∀ b : Addr, b ∉ (lcx P w K mg base (ps ++ ys) qual scope f c' cl A outer s H E).ex := fun b z => absurd (show b ∈ ([] : List Addr) from z) (by simp)
  have hasC : ∀ y, scope.names.lookup y = some .free → ∃ c, cl.lookup y = some c := fun y hy => by
    obtain ⟨i, hi, e⟩ := List.mem_iff_getElem.mp (L.all _ (PySem.mem_of_lookup hy) rfl)
    obtain ⟨c, u, h, _⟩ := C.has i y (cvs[i]'(by rw [C.len]; exact hi)) (by rw [List.getElem?_eq_getElem hi, e]) (List.getElem?_eq_getElem _)
    exact ⟨c, h⟩
  have J : Inv (lcx P w K mg base (ps ++ ys) qual scope f c' cl A outer s H E) [] ((vs ++ cvs).map some) H { s with heap := h1, toks := s.toks + (ps.zip us).length } := by
    refine ⟨⟨e0.mod, L.kind, rfl, rfl, Nat.le_refl _, C.inj, fun y hy => ?_, fun y c z _ => (by cases z), fun _ => hr.hd, Around.frames_deeper e0.frames, .inr ⟨rfl, rfl⟩, fun b z => absurd z (noA b), e0.bs, e0.bsz, fun b _ _ => noA b, fun b z => absurd z (noA b), e0.funs, e0.frf⟩,
      rfl, e0.bare, Un.kept kp, ⟨_, hns, fun i y v g1 g2 g3 => ?_⟩, fun y c e => ?_, e0.hok.fresh (Nat.le_refl _), fun y c e => ?_, fun q hq => absurd (show q ∈ ([] : List (Addr × Obj)) ++ [] from hq) (by simp), e0.hok.kept kp, ?_⟩
    · have hy : scope.names.lookup y = some .cell ∨ scope.names.lookup y = some .free := hy
      rcases hy with hy | hy
      · exact absurd rfl (L.nocell _ (PySem.mem_of_lookup hy))
      · exact hasC y hy
    · have g1 : (ps ++ ys)[i]? = some y := g1
      rw [List.getElem?_map] at g2
      obtain ⟨v', g4, g5⟩ := ofmap g2
      cases g5
      by_cases hi : i < ps.length
      · rw [List.getElem?_append_left hi] at g1
        rw [List.getElem?_append_left (by rw [hl]; exact hi)] at g4
        obtain ⟨u, hu, rv⟩ := r.get g4
        exact ⟨u, rv, .inl ⟨L.par y (List.mem_of_getElem? g1), zip_rev ndP hlu g1 hu⟩⟩
      · rw [List.getElem?_append_right (by omega)] at g1
        rw [List.getElem?_append_right (by omega), hl] at g4
        obtain ⟨c, u, h3, h4, h5⟩ := C.has _ y v g1 g4
        exact ⟨u, h5, .inr ⟨.inr (L.cap y (List.mem_of_getElem? g1)), c, h3, (h4.keeps kp0).keeps kp⟩⟩
    · obtain ⟨v, hv⟩ := C.cell y c e
      exact ⟨v, (hv.keeps kp0).keeps kp⟩
    · obtain ⟨v, o, ho, _⟩ := C.cell y c e
      exact (e0.bs c o ho).2
    · show ((vs ++ cvs).map some).length = (ps ++ ys).length
      rw [List.length_map, List.length_append, List.length_append, hl, C.len]
  refine PySem.W.kla_codeExpr (wpAny_mono (ht.run [] _ _ H Q J hq) (fun v s' hz => ?_) fun e s' hz => hz)
  obtain ⟨w', H', J', rv, q⟩ := hz
  exact ⟨w', H', J'.os, J'.bare, J'.base, J'.hok, rv, q⟩
end

/-! ### a lambda that lives beside what stood -/
def Lay.wclo (fa : Lay) (ci : CloI) : Lay := { fa with clo := some ci }
section
variable {K : PySem.W.Frag} {fa : Lay} {ci : CloI} {G G' : Hp} {φ φ' : Ph} {H H' : Hp} {μ : Mu}
mutual
theorem RV.clo (hn : fa.clo = none) : ∀ (d : D) (v : V), RV K fa G φ d v → RV K (fa.wclo ci) G φ d v
  | .non, _, h => by unfold RV at *; exact h
  | .bl _, _, h => by unfold RV at *; exact h
  | .int _, _, h => by unfold RV at *; exact h
  | .str _, _, h => by unfold RV at *; exact h
  | .loc _, _, h => by unfold RV at *; exact h
  | .fn k l, v, h => by
    unfold RV at *
    by_cases hk : k < LB
    · rw [if_pos hk] at *; exact h
    · rw [if_neg hk] at *
      obtain ⟨c, e, _⟩ := h
      rw [hn] at e; cases e
  | .tup l, v, h => by
    unfold RV at *
    obtain ⟨a, vs, e, hs, hr⟩ := h
    exact ⟨a, vs, e, hs, RVs.clo hn l vs hr⟩
  | .lst l, v, h => by
    unfold RV at *
    obtain ⟨a, vs, e, hs, hr⟩ := h
    exact ⟨a, vs, e, hs, RVs.clo hn l vs hr⟩
theorem RVs.clo (hn : fa.clo = none) : ∀ (l : List D) (vs : List V), RVs K fa G φ l vs → RVs K (fa.wclo ci) G φ l vs
  | [], _, h => by unfold RVs at *; exact h
  | d :: ds, vs, h => by
    unfold RVs at *
    obtain ⟨v, r, e, h1, h2⟩ := h
    exact ⟨v, r, e, RV.clo hn d v h1, RVs.clo hn ds r h2⟩
end
mutual
theorem RV.unclo (hn : fa.clo = none) : ∀ (d : D) (v v' : V), RV K fa G φ d v → RV K (fa.wclo ci) G' φ' d v' → RV K fa G' φ' d v'
  | .non, _, _, _, h => by unfold RV at *; exact h
  | .bl _, _, _, _, h => by unfold RV at *; exact h
  | .int _, _, _, _, h => by unfold RV at *; exact h
  | .str _, _, _, _, h => by unfold RV at *; exact h
  | .loc _, _, _, _, h => by unfold RV at *; exact h
  | .fn k l, v, v', q, h => by
    unfold RV at *
    by_cases hk : k < LB
    · rw [if_pos hk] at *; exact h
    · rw [if_neg hk] at *
      obtain ⟨c, e, _⟩ := q
      rw [hn] at e; cases e
  | .tup l, v, v', q, h => by
    unfold RV at *
    obtain ⟨a, vs, e, hs, hr⟩ := h
    obtain ⟨_, us, _, _, qr⟩ := q
    exact ⟨a, vs, e, hs, RVs.unclo hn l us vs qr hr⟩
  | .lst l, v, v', q, h => by
    unfold RV at *
    obtain ⟨a, vs, e, hs, hr⟩ := h
    obtain ⟨_, us, _, _, qr⟩ := q
    exact ⟨a, vs, e, hs, RVs.unclo hn l us vs qr hr⟩
theorem RVs.unclo (hn : fa.clo = none) : ∀ (l : List D) (vs vs' : List V), RVs K fa G φ l vs → RVs K (fa.wclo ci) G' φ' l vs' → RVs K fa G' φ' l vs'
  | [], _, _, _, h => by unfold RVs at *; exact h
  | d :: ds, vs, vs', q, h => by
    unfold RVs at *
    obtain ⟨v, r, e, h1, h2⟩ := h
    obtain ⟨u, t, _, q1, q2⟩ := q
    exact ⟨v, r, e, RV.unclo hn d u v q1 h1, RVs.unclo hn ds t r q2 h2⟩
end
mutual
theorem RV.flat : ∀ (d : D) (v : V), d.flat = true → RV K (fa.wclo ci) G φ d v → RV K fa G φ d v
  | .non, _, _, h => by unfold RV at *; exact h
  | .bl _, _, _, h => by unfold RV at *; exact h
  | .int _, _, _, h => by unfold RV at *; exact h
  | .str _, _, _, h => by unfold RV at *; exact h
  | .loc _, _, _, h => by unfold RV at *; exact h
  | .fn k l, v, c, h => by unfold D.flat at c; cases c
  | .tup l, v, c, h => by
    unfold RV at *
    unfold D.flat at c
    obtain ⟨a, vs, e, hs, hr⟩ := h
    exact ⟨a, vs, e, hs, RVs.flat l vs c hr⟩
  | .lst l, v, c, h => by
    unfold RV at *
    unfold D.flat at c
    obtain ⟨a, vs, e, hs, hr⟩ := h
    exact ⟨a, vs, e, hs, RVs.flat l vs c hr⟩
theorem RVs.flat : ∀ (l : List D) (vs : List V), D.flatL l = true → RVs K (fa.wclo ci) G φ l vs → RVs K fa G φ l vs
  | [], _, _, h => by unfold RVs at *; exact h
  | d :: ds, vs, c, h => by
    unfold RVs at *
    unfold D.flatL at c
    rw [Bool.and_eq_true] at c
    obtain ⟨v, r, e, h1, h2⟩ := h
    exact ⟨v, r, e, RV.flat d v c.1 h1, RVs.flat ds r c.2 h2⟩
end
theorem RFs.clo (hn : fa.clo = none) : ∀ (l : List (Nat × D)) (vs : List (Str × V)), RFs K fa G φ l vs → RFs K (fa.wclo ci) G φ l vs
  | [], _, h => h
  | p :: r, vs, h => let ⟨v, q, e, h1, h2, h3⟩ := h; ⟨v, q, e, h1, RV.clo hn _ v h2, RFs.clo hn r q h3⟩
theorem RDs.clo (hn : fa.clo = none) : ∀ (l : List (D × D)) (vs : List (L2.Key × V)), RDs K fa G φ l vs → RDs K (fa.wclo ci) G φ l vs
  | [], _, h => h
  | p :: r, vs, h => let ⟨k, v, q, e, h1, h2, h3⟩ := h; ⟨k, v, q, e, h1, RV.clo hn _ v h2, RDs.clo hn r q h3⟩
theorem RXs.clo (hn : fa.clo = none) : ∀ (l : List (D × D)) (vs : List (NestedKey × Addr × Value)), RXs K fa G φ l vs → RXs K (fa.wclo ci) G φ l vs
  | [], _, h => h
  | p :: r, vs, h => let ⟨b, u, v, q, e1, h1, h2, h3, h4, h5⟩ := h; ⟨b, u, v, q, e1, h1, RV.clo hn _ _ h2, h3, RV.clo hn _ v h4, RXs.clo hn r q h5⟩
theorem RFs.unclo (hn : fa.clo = none) : ∀ (l : List (Nat × D)) (us vs : List (Str × V)), RFs K fa G φ l us → RFs K (fa.wclo ci) G' φ' l vs → RFs K fa G' φ' l vs
  | [], _, _, _, h => h
  | p :: r, us, vs, z, h => let ⟨v, q, e, h1, h2, h3⟩ := h; let ⟨_, _, _, _, z2, z3⟩ := z; ⟨v, q, e, h1, RV.unclo hn _ _ v z2 h2, RFs.unclo hn r _ q z3 h3⟩
theorem RDs.unclo (hn : fa.clo = none) : ∀ (l : List (D × D)) (us vs : List (L2.Key × V)), RDs K fa G φ l us → RDs K (fa.wclo ci) G' φ' l vs → RDs K fa G' φ' l vs
  | [], _, _, _, h => h
  | p :: r, us, vs, z, h => let ⟨k, v, q, e, h1, h2, h3⟩ := h; let ⟨_, _, _, _, _, z2, z3⟩ := z; ⟨k, v, q, e, h1, RV.unclo hn _ _ v z2 h2, RDs.unclo hn r _ q z3 h3⟩
theorem RXs.unclo (hn : fa.clo = none) : ∀ (l : List (D × D)) (us vs : List (NestedKey × Addr × Value)), RXs K fa G φ l us → RXs K (fa.wclo ci) G' φ' l vs → RXs K fa G' φ' l vs
  | [], _, _, _, h => h
  | p :: r, us, vs, z, h => let ⟨b, u, v, q, e1, h1, h2, h3, h4, h5⟩ := h; let ⟨_, _, _, _, _, _, z2, _, z4, z5⟩ := z; ⟨b, u, v, q, e1, h1, RV.unclo hn _ _ _ z2 h2, h3, RV.unclo hn _ _ v z4 h4, RXs.unclo hn r _ q z5 h5⟩
theorem CellR.clo {a : Addr} (hn : fa.clo = none) : ∀ (c : Cell), CellR K fa G φ H a c → CellR K (fa.wclo ci) G φ H a c
  | .lst l, h => let ⟨vs, e, r⟩ := h; ⟨vs, e, RVs.clo hn l vs r⟩
  | .dct l, h => let ⟨vs, e, r⟩ := h; ⟨vs, e, RDs.clo hn l vs r⟩
  | .dtt l, h => let ⟨vs, e, r⟩ := h; ⟨vs, e, RXs.clo hn l vs r⟩
  | .obj c l, h => let ⟨dx, vs, e, r⟩ := h; ⟨dx, vs, e, RFs.clo hn l vs r⟩
theorem CellR.unclo {a a' : Addr} (hn : fa.clo = none) : ∀ (c : Cell), CellR K fa G φ H a c → CellR K (fa.wclo ci) G' φ' H' a' c → CellR K fa G' φ' H' a' c
  | .lst l, z, h => let ⟨vs, e, r⟩ := h; let ⟨_, _, q⟩ := z; ⟨vs, e, RVs.unclo hn l _ vs q r⟩
  | .dct l, z, h => let ⟨vs, e, r⟩ := h; let ⟨_, _, q⟩ := z; ⟨vs, e, RDs.unclo hn l _ vs q r⟩
  | .dtt l, z, h => let ⟨vs, e, r⟩ := h; let ⟨_, _, q⟩ := z; ⟨vs, e, RXs.unclo hn l _ vs q r⟩
  | .obj c l, z, h => let ⟨dx, vs, e, r⟩ := h; let ⟨_, _, _, q⟩ := z; ⟨dx, vs, e, RFs.unclo hn l _ vs q r⟩
theorem Abs.clo (hn : fa.clo = none) (A : Abs K fa φ μ H) : Abs K (fa.wclo ci) φ μ H := ⟨A.len, A.nd, A.hid, fun i a c h1 h2 => CellR.clo hn c (A.cell i a c h1 h2), A.tab⟩
theorem Abs.unclo (hn : fa.clo = none) (A : Abs K fa φ μ H) (A' : Abs K (fa.wclo ci) φ' μ H') : Abs K fa φ' μ H' :=
  ⟨A'.len, A'.nd, A'.hid, fun i a c h1 h2 => let ⟨_, _, z⟩ := A.at h2; CellR.unclo hn c z (A'.cell i a c h1 h2), A'.tab⟩
theorem capt_rv {ρ : Rho} {σ : L2.St} (R : REnv K fa G φ ρ σ) : ∀ {is : List Nat} {cs : List D}, capt ρ is = some cs → ∃ cvs, RVs K fa G φ cs cvs ∧ cvs.length = is.length ∧ ∀ (j i : Nat) (v : V), is[j]? = some i → cvs[j]? = some v → σ[i]? = some (some v)
  | [], cs, h => by
    cases h
    exact ⟨[], RVs.nil, rfl, fun j i v e _ => by simp at e⟩
  | i :: r, cs, h => by
    unfold capt at h
    split at h
    · rename_i d hd
      obtain ⟨ds, h2, rfl⟩ := ofmap h
      obtain ⟨cvs, h3, h4, h5⟩ := capt_rv R h2
      obtain ⟨v, hv, rv⟩ := R.at_ i d hd
      refine ⟨v :: cvs, RVs.cons rv h3, by rw [List.length_cons, List.length_cons, h4], fun j i' u e1 e2 => ?_⟩
      cases j with
      | zero =>
        simp only [List.getElem?_cons_zero, Option.some.injEq] at e1 e2
        subst e1; subst e2
        exact hv
      | succ j => exact h5 j i' u (by simpa using e1) (by simpa using e2)
    · cases h
end
section
variable {X : Cx} {pins : List (Addr × Obj)} {σ : L2.St} {H : Hp} {s : Shared} {fa : Lay} {φ : Ph} {μ : Mu}
/-- a lambda is made; what stood stands -/
theorem lam_make3 {c P : Addr} {q : Str} {params : Arguments} {body : Expr} {scope : Scope} {pos : Pos} {E : Value → Shared → Prop} {Q : Value → Shared → Prop} (I : Inv X pins σ H s) (A : Abs X.K fa φ μ H) (TB : LamX.TabB X.base X.mg c P) (hcode : X.env.code = .ref c)
    (hq : q = X.env.qual ++ "<lambda>") (hm : (P, q) ∈ fa.tabs) (hu : ∀ p ∈ fa.tabs, p.1 = P → p.2 = q) (hdef : defaultsOf params X.env = ([], [])) (hfree : ∀ y ∈ scope.names, y.2 = .free → ∃ c, X.env.cells.lookup y.1 = some c)
    (h : ∀ (f c' : Addr) (pm ctv : Value) (H1 : Hp) (s' : Shared), Inv X pins σ H1 s' → Ext φ H φ H1 → Abs X.K fa φ μ H1 → s'.heap.get? f = some (PySem.W.kla_obj "<lambda>" q params body scope (cloFrom X.env.cells scope.names []) pm c' ctv) →
      H1 f = none → f ∉ frs X.stack → msk H1 φ c' = some (LamX.CodeO c' q) → Q (.ref f) s') : wpAny (model X.prog X.w) X.A (eval (.Lambda params body scope pos) X.env) Q E s := by
  obtain ⟨hh, ps, hP, ht, ha⟩ := A.tab _ hm
  have hP : H P = some (.tbl ps) := hP
  have hh : P ∈ φ.hd := hh
  refine PySem.W.kla_eval hdef ?_
  have bP : s.heap.BuiltinsAt X.mg P := TB.bm.keeps I.bk
  have oP : s.heap.get? P = some { cls := .none, data := .fields ps } := I.hok P _ hP
  have nofr : ∀ f, s.heap.objs.size ≤ f → f ∉ frs X.stack := fun f hf z => by
    rcases List.mem_cons.mp (I.stkSub _ z) with e | e
    · rw [e] at hf; exact Nat.lt_irrefl _ (Nat.lt_of_lt_of_le I.lt hf)
    · exact I.nofs hf e
  cases hc : codeAmong pos ps.toList with
  | none =>
    rw [← hq]
    refine PySem.W.kla_makeFunction (ps := ps) (closure_ok hfree) I.ok.glob (I.mod.glob.keeps I.bk) hcode (TB.code.keeps I.bk) oP ht hc TB.gP bP fun c' ctv h' tk hx hge hlt hrec htb => ?_
    obtain ⟨c2, oc, vs, t, e2, hoc, hd, hv⟩ := hrec
    cases e2
    have nC : H c' = none := I.hok.fresh hge
    have nPc : P ≠ c' := ne_of_none hP nC
    have hsz : s.heap.objs.size ≤ h'.objs.size := Nat.le_trans hge (Nat.le_of_lt hlt)
    have I1 := LamX.inv_table (t' := tk) (more := #[rawInt pos.line, rawInt pos.col, .ref c']) (h' := h'.push (PySem.W.kla_obj "<lambda>" q params body scope (cloFrom X.env.cells scope.names []) ((X.mg "__name__").getD .none) c' ctv)) I hP
      (fun b o hb e => Heap.get?_push_of_some _ (hx b o hb e)) (Heap.get?_push_of_some _ htb) hge ⟨oc, vs, t, Heap.get?_push_of_some _ hoc, hd, hv⟩
    have ne_c : ∀ {b : Addr} {o : HO}, H b = some o → b ≠ c' := fun {b o} e => ne_of_none e nC
    have at_ : ∀ b, b ≠ P → b ≠ c' → upd (upd H P (.tbl (ps ++ #[rawInt pos.line, rawInt pos.col, .ref c']))) c' (LamX.CodeO c' q) b = H b := fun b h1 h2 => (upd_ne h2).trans (upd_ne h1)
    have x1 : Ext φ H φ (upd (upd H P (.tbl (ps ++ #[rawInt pos.line, rawInt pos.col, .ref c']))) c' (LamX.CodeO c' q)) := by
      refine ⟨⟨[], by simp⟩, rfl, fun b hb nt => ?_, fun b o e => ?_⟩
      · obtain ⟨o, ho⟩ := (A.hid b hb).2
        exact at_ b (fun z => nt ps (by rw [z]; exact hP)) (ne_c ho)
      · obtain ⟨e1, e2⟩ := msk_some e
        rw [msk_out e1, at_ b (fun z => e1 (by rw [z]; exact .inr hh)) (ne_c e2)]
        exact e2
    have mC : msk (upd (upd H P (.tbl (ps ++ #[rawInt pos.line, rawInt pos.col, .ref c']))) c' (LamX.CodeO c' q)) φ c' = some (LamX.CodeO c' q) := by
      rw [msk_out (A.notIn nC), upd_same]
    refine h h'.objs.size c' ((X.mg "__name__").getD .none) ctv _ _ I1 x1 ⟨A.len, A.nd, fun b hb => ⟨(A.hid b hb).1, ?_⟩, fun i b q h1 h2 => ?_, fun p hp => ?_⟩ (Heap.get?_push_size _ rfl) ?_ (nofr _ hsz) mC
    · by_cases z : b = P
      · exact ⟨_, by rw [z, upd_ne nPc, upd_same]⟩
      · obtain ⟨o, ho⟩ := (A.hid b hb).2
        exact ⟨o, by rw [at_ b z (ne_c ho)]; exact ho⟩
    · refine CellR.mono (c := q) (h := A.cell i b q h1 h2) x1.same (fun _ _ z => z) fun o ho => ?_
      rw [at_ b (fun z => (A.hid P hh).1 (by rw [← z]; exact List.mem_of_getElem? h1)) (ne_c ho)]
      exact ho
    · obtain ⟨z1, ps2, z2, z3, z4⟩ := A.tab p hp
      refine ⟨z1, ?_⟩
      by_cases z : p.1 = P
      · have e := hu p hp z
        refine ⟨_, by rw [z, upd_ne nPc, upd_same], by rw [show (ps ++ #[rawInt pos.line, rawInt pos.col, .ref c']).toList = ps.toList ++ [rawInt pos.line, rawInt pos.col, .ref c'] by simp]; exact PySem.TriplesOk_snoc _ _ _ _ ht, fun p' cv hcv => ?_⟩
        rw [show (ps ++ #[rawInt pos.line, rawInt pos.col, .ref c']).toList = ps.toList ++ [rawInt pos.line, rawInt pos.col, .ref c'] by simp] at hcv
        rw [e]
        rcases LamX.among_app _ ht hcv with y | y
        · obtain ⟨c0, e1, e2⟩ := ha p' cv y
          exact ⟨c0, e1, x1.keep _ _ e2⟩
        · exact ⟨c', y, mC⟩
      · refine ⟨ps2, by rw [at_ _ z (ne_c z2)]; exact z2, z3, fun p' cv hcv => ?_⟩
        obtain ⟨c0, e1, e2⟩ := z4 p' cv hcv
        exact ⟨c0, e1, x1.keep _ _ e2⟩
    · have n1 : h'.objs.size ≠ c' := Nat.ne_of_gt hlt
      have n2 : h'.objs.size ≠ P := Nat.ne_of_gt (Nat.lt_of_lt_of_le (Heap.lt_size oP) hsz)
      rw [at_ _ n2 n1]
      exact I.hok.fresh hsz
  | some cv =>
    obtain ⟨c', e, hco⟩ := ha pos cv hc
    subst e
    rw [← hq]
    refine PySem.W.kla_makeFunctionHit (ps := ps) (closure_ok hfree) I.ok.glob (I.mod.glob.keeps I.bk) hcode (TB.code.keeps I.bk) oP ht hc bP fun ctv h' tk hx hsz => ?_
    exact h h'.objs.size c' ((X.mg "__name__").getD .none) ctv H _ (I.kept fun b o e => Heap.get?_push_of_some _ (hx b o e)) (Ext.refl _ _) A (Heap.get?_push_size _ rfl) (I.hok.fresh hsz) (nofr _ hsz) hco
end
end Ev

set_option Elab.async false
set_option linter.all false
set_option maxRecDepth 100000
set_option maxHeartbeats 1000000
/-! A call of what a local holds; a call with a lambda. -/
namespace Ev
open PySem PySem.Spec PyProof.Rows L2
/-- the promise of what a local holds -/
def spV (K : PySem.W.Frag) (fa : Lay) (G : Nat → Option D) (F : Nat → Option Fn) (n k : Nat) (a : Addr) : Sp := fun vs H Q E => ∃ φ μ ds l, Abs K fa φ μ H ∧ RVs K fa (msk H φ) φ ds vs ∧ RV K fa (msk H φ) φ (.fn k l) (.ref a) ∧
  Run K fa (fun x H' => E (.ref (fa.cl x.cls)) none H') φ H (run G F n k (ds ++ l) μ) (toV K fa Q)
/-- a lambda's own: parameters, what it takes along, its body -/
def lamFn (ps ys : List Str) (e : E) : Fn := ⟨ps.length + ys.length, ps.length + ys.length, [.ret e], false⟩
theorem ends_ret {G : Nat → Option D} {call : Nat → List D → Mu → Res D} {e : E} {ρ : Rho} {μ : Mu} : ends false μ (exSs G call [.ret e] ρ μ) = evE G call e ρ μ := by
  unfold exSs exS
  cases evE G call e ρ μ <;> rfl
section
variable {P : Program} {w : World} {K : PySem.W.Frag} {mg : Str → Option Value} {base : Heap} {fa : Lay} {ci : CloI} {G : Nat → Option D} {F : Nat → Option Fn} {n k lv : Nat} {params : Arguments} {body : Expr} {scope : Scope} {cl : List (Str × Addr)} {pm ctv : Value} {ps ys : List Str} {e : E}
theorem lam_ev (hci : fa.clo = some ci) (hk : ¬ ci.k < LB) (hF : F ci.k = some (lamFn ps ys e)) (hkn : fa.keep = none) (hf : base.get? ci.a = some (PySem.W.kla_obj "<lambda>" ci.q params body scope cl pm ci.c ctv)) (L : LamN scope ps ys) (C : Caps base cl ys ci.vs)
    (hbody : ∀ (A : Around) (outer : List Env) (s : Shared) (H : Hp) (E : XK), Room lv (A.deeper (PySem.W.envX ci.q scope s.heap.objs.size ci.a (.ref ci.c) cl)) →
      PE (lcx P w K mg base (ps ++ ys) ci.q scope ci.a ci.c cl A outer s H E) body (tE K fa (fun _ x H' => E (.ref (fa.cl x.cls)) none H') (evE G (run G F n) e))) :
    FnOk P w K mg base (L2.CX P w) (lv + 1) ci.a (PySem.W.kla_fn "<lambda>" ci.q params body scope cl pm (.ref ci.c) ctv) ps (spV K fa G F (n + 1) ci.k ci.a) := by
  have key : ∀ {H : Hp} {φ : Ph} {l : List D}, RV K fa (msk H φ) φ (.fn ci.k l) (.ref ci.a) → msk H φ ci.c = some (LamX.CodeO ci.c ci.q) ∧ RVs K fa (msk H φ) φ l ci.vs := fun {H φ l} h => by
    unfold RV at h
    rw [if_neg hk] at h
    obtain ⟨c2, e1, _, _, e2, e3⟩ := h
    rw [hci] at e1
    cases e1
    exact ⟨e2, e3⟩
  have len : ∀ vs H Q E, spV K fa G F (n + 1) ci.k ci.a vs H Q E → vs.length = ps.length := fun vs H Q E h => by
    obtain ⟨φ, μ, ds, l, A, r, rl, q⟩ := h
    have h2 := (key rl).2.length
    rw [C.len] at h2
    have : (ds ++ l).length = (lamFn ps ys e).np := by
      cases hr : run G F (n + 1) ci.k (ds ++ l) μ with
      | ok d μ' => exact run_len hF hr
      | ex _ _ => exact run_lenX hF hr
      | no => rw [hr] at q; exact False.elim q
    rw [List.length_append] at this
    have e3 : (lamFn ps ys e).np = ps.length + ys.length := rfl
    rw [r.length]
    omega
  refine lam_ok hf L C (fun vs H Q E h => ?_) len fun A outer s H vs Q E hr h => ?_
  · obtain ⟨φ, μ, ds, l, _, _, rl, _⟩ := h
    exact (msk_some (key rl).1).2
  · refine ⟨_, hbody A outer s H E hr, ?_⟩
    obtain ⟨φ, μ, ds, l, Ab, r, rl, q⟩ := h
    have ra := r.append (key rl).2
    refine ⟨φ, μ, (ds ++ l).map some, Ab, ⟨by rw [List.length_map, List.length_map, ra.length], fun i d hi => ?_, fun i v hi => by rw [hkn] at hi; cases hi⟩, ?_⟩
    · rw [List.getElem?_map] at hi
      obtain ⟨d', e1, e2⟩ := ofmap hi
      cases e2
      obtain ⟨v, hv, rv⟩ := ra.get e1
      exact ⟨v, by rw [List.getElem?_map, hv]; rfl, rv⟩
    · have h2 : (ds ++ l).length = ps.length + ys.length := by
        cases hr : run G F (n + 1) ci.k (ds ++ l) μ with
        | ok d μ' => exact run_len hF hr
        | ex _ _ => exact run_lenX hF hr
        | no => rw [hr] at q; exact False.elim q
      unfold run at q
      rw [hF] at q
      dsimp only [lamFn] at q
      rw [if_pos h2, h2, Nat.sub_self, List.replicate_zero, List.append_nil, ends_ret] at q
      exact q
end
section
variable {G : Nat → Option D} {fa : Lay} {W : EW} {X : Cx}
variable (X fa G W) in
def PAll (call : Nat → List D → Mu → Res D) : List E → List Expr → Prop
  | [], xs => xs = []
  | e :: es, xs => ∃ x r, xs = x :: r ∧ notStar x = true ∧ PE X x (tE X.K fa W (evE G call e)) ∧ PAll call es r
theorem PAll.star {call : Nat → List D → Mu → Res D} : ∀ {es : List E} {xs : List Expr}, PAll G fa W X call es xs → ∀ x ∈ xs, notStar x = true
  | [], xs, h, x, hx => by unfold PAll at h; subst h; cases hx
  | e :: es, xs, h, x, hx => by
    unfold PAll at h
    obtain ⟨y, r, rfl, h1, h2, h3⟩ := h
    rcases List.mem_cons.mp hx with rfl | hx
    · exact h1
    · exact PAll.star h3 x hx
theorem PAll.pa {call : Nat → List D → Mu → Res D} : ∀ {es : List E} {xs : List Expr}, PAll G fa W X call es xs → PA X xs (tA X.K fa W (evEs G call es))
  | [], xs, h => by unfold PAll at h; subst h; exact a_nil
  | e :: es, xs, h => by
    unfold PAll at h
    obtain ⟨y, r, rfl, h1, h2, h3⟩ := h
    exact a_cons h2 (PAll.pa h3) (star_cons h1)
end
/-! ### a call of it -/
section
variable {X : Cx} {fa : Lay} {W : EW} {G : Nat → Option D} {F : Nat → Option Fn} {ms : Rho → Mu → Res (List D)} {n i lv : Nat} {y : Str} {p pos : Pos} {x : Expr} {xs : List Expr}
/-- the number and the place of what may be called so -/
def LiveV (fa : Lay) (k : Nat) (a : Addr) : Prop := (k < LB ∧ fa.isf k = true ∧ a = fa.fn k) ∨ (¬ k < LB ∧ ∃ ci, fa.clo = some ci ∧ k = ci.k ∧ a = ci.a)
theorem rv_live {K : PySem.W.Frag} {G : Hp} {φ : Ph} {k : Nat} {l : List D} {v : V} (h : RV K fa G φ (.fn k l) v) : ∃ a, v = .ref a ∧ LiveV fa k a := by
  unfold RV at h
  by_cases hk : k < LB
  · rw [if_pos hk] at h
    exact ⟨_, h.2.2, .inl ⟨hk, h.2.1, rfl⟩⟩
  · rw [if_neg hk] at h
    obtain ⟨ci, e1, e2, e3, _⟩ := h
    exact ⟨_, e3, .inr ⟨hk, ci, e1, e2, rfl⟩⟩
theorem FnAt.keep {h h' : Heap} {a : Addr} (x : PySem.W.FnAt a h) (k : ∀ b o, h.get? b = some o → h'.get? b = some o) : PySem.W.FnAt a h' := let ⟨oc, od, fd, sl, e⟩ := x; ⟨oc, od, fd, sl, k _ _ e⟩
theorem e_callv (hW : Wis X fa W) (hN : X.N[i]? = some y) (hv : Vis X.env.scope y) (hr : Room lv X.A) (d1 : (y == ("__debug__" : Str)) = false) (d2 : (y == ("__classdict__" : Str)) = false)
    (live : ∀ k a, LiveV fa k a → ∃ fd ps, FnOk X.prog X.w X.K X.mg X.base (L2.CX X.prog X.w) lv a fd ps (spV X.K fa G F n k a) ∧ Binds X.K fd ps [] ∧ PySem.W.FnAt a X.base)
    (ha : PA X (x :: xs) (tA X.K fa W ms)) (he : starEach (x :: xs) X.env = (false, eval x X.env) :: starEach xs X.env) (hpl : (backTo pos (starEach xs X.env)).any (·.1) = false) :
    PE X (.Call (.Name y p) (x :: xs) [] pos) (tE X.K fa W fun ρ μ => match ρ[i]? with
      | some (some (.fn k l)) => (ms ρ μ).bind fun ds μ => run G F n k (ds ++ l) μ
      | _ => .no) := by
  obtain ⟨Wm, tk, hWm⟩ := hW
  refine ⟨fun pins s σ H Q I h => ?_⟩
  obtain ⟨φ, μ, ρ, A, R, h⟩ := h
  dsimp only at h
  split at h
  · rename_i k l hρ
    obtain ⟨v, hv1, rv⟩ := R.at_ i _ hρ
    obtain ⟨a, rfl, lv1⟩ := rv_live rv
    obtain ⟨fd, ps, Fo, hb, hat⟩ := live k a lv1
    refine wpAny_Call_Name_kw (thn ((pe_var (pos := p) hN hv d1 d2).run pins s σ H (fun v H1 => v = .ref a ∧ H1 = H) I ⟨.ref a, hv1, rfl, rfl⟩) fun u s1 ⟨v, H1, I1, r1, q1⟩ => ?_)
    obtain ⟨rfl, rfl⟩ := q1
    cases r1
    refine PySem.W.callWith_F (FnAt.keep hat I1.bk) (thn (ha.run pos pins s1 σ H1 (fun vs H2 => spV X.K fa G F n k a vs H2 Q (WE Wm σ)) I1 ⟨φ, μ, ρ, A, R, h.bind.imp fun ds μ1 φ1 H2 e1 A1 h1 vs rs => ?_⟩) fun us s2 ⟨vs, H2, I2, r, q⟩ => ⟨FnAt.keep hat I2.bk, ?_⟩) he hpl
    · exact ⟨φ1, μ1, ds, l, A1, rs, rv.ext e1, h1.wish fun x H => hWm σ x H⟩
    · exact run_fnS Fo hr hb (passAt tk σ) I2 r q
  · exact False.elim h
/-! ### a call with a lambda -/
/-- the arguments, then a last one -/
theorem args_then {call : Nat → List D → Mu → Res D} {pins : List (Addr × Obj)} {σ : L2.St} {z : Expr} (hW : True) : ∀ {es : List E} {xs : List Expr}, (∀ (Kc : List V → Hp → Prop) (Q : List Value → Shared → Prop) (s : Shared) (H : Hp), PAll G fa W X call es xs → Inv X pins σ H s → tA X.K fa W (evEs G call es) σ H Kc →
    (∀ us s1 vs H1, Inv X pins σ H1 s1 → Vals vs us → Kc vs H1 → wpAny (model X.prog X.w) X.A (spliced (backTo pos (starEach [z] X.env))) (fun us2 s2 => Q (us ++ us2) s2) X.xe s1) →
    wpAny (model X.prog X.w) X.A (spliced (backTo pos (starEach (xs ++ [z]) X.env))) Q X.xe s)
  | [], xs, Kc, Q, s, H, ha, I, h, k => by
    unfold PAll at ha
    subst ha
    obtain ⟨φ, μ, ρ, A, R, h⟩ := h
    have h : Run X.K fa (W σ) φ H (.ok [] μ) _ := h
    exact k [] s [] H I .nil (h φ H (Ext.refl _ _) A [] RVs.nil)
  | e :: es, xs, Kc, Q, s, H, ha, I, h, k => by
    unfold PAll at ha
    obtain ⟨x, r, rfl, h1, h2, h3⟩ := ha
    rw [List.cons_append, star_cons h1]
    refine Calls.spliced_cons (x := eval x X.env) (rest := backTo pos (starEach (r ++ [z]) X.env)) (thn (h2.run pins s σ H (fun v H1 => tA X.K fa W (evEs G call es) σ H1 fun vs H2 => Kc (v :: vs) H2) I ?_) fun u s1 ⟨v, H1, I1, rv, q⟩ => ?_)
    · obtain ⟨φ, μ, ρ, A, R, h⟩ := h
      have h : Run X.K fa (W σ) φ H ((evE G call e ρ μ).bind fun x μ => (evEs G call es ρ μ).bind fun xs μ => .ok (x :: xs) μ) _ := h
      refine ⟨φ, μ, ρ, A, R, h.bind.imp fun d μ1 φ1 H1 e1 A1 h1 v rv => ⟨φ1, μ1, ρ, A1, R.ext e1, h1.bind.imp fun ds μ2 φ2 H2 e2 A2 h2 vs rs => ?_⟩⟩
      exact h2 φ2 H2 (Ext.refl _ _) A2 (v :: vs) (RVs.cons (rv.ext e2) rs)
    · refine args_then hW _ _ s1 H1 h3 I1 q fun us s2 vs H2 I2 rs q2 => ?_
      have := k (u :: us) s2 (v :: vs) H2 I2 (.cons rv rs) q2
      exact this
end

/-! ### the ground of what is called with a lambda -/
def hidF (h : Heap) (H : Hp) (fs : List Addr) : Heap := hidT h fun b => if b ∈ fs then some (.tbl #[]) else H b
theorem hidF_get {h : Heap} {H : Hp} {fs : List Addr} {b : Addr} {o : Obj} (e : h.get? b = some o) (n : H b = none) (nf : b ∉ fs) : (hidF h H fs).get? b = some o := hidT_get e (by rw [if_neg nf]; exact n)
theorem of_hidF {h : Heap} {H : Hp} {fs : List Addr} {b : Addr} {o : Obj} (e : (hidF h H fs).get? b = some o) : h.get? b = some o ∧ H b = none ∧ b ∉ fs := by
  obtain ⟨e1, e2⟩ := of_hidT e
  by_cases hb : b ∈ fs
  · rw [if_pos hb] at e2; cases e2
  · rw [if_neg hb] at e2; exact ⟨e1, e2, hb⟩
section
variable {X : Cx} {pins : List (Addr × Obj)} {σ : L2.St} {H : Hp} {s : Shared}
theorem hid_env (I : Inv X pins σ H s) : Env0 X.prog X.w X.K X.mg (hidF s.heap H (frs X.stack)) X.A X.stack s H := by
  have e0 := I.env0
  have kp : ∀ b o, X.base.get? b = some o → (hidF s.heap H (frs X.stack)).get? b = some o := fun b o e => hidF_get (I.bs b o e).1 (I.bs b o e).2 fun z => by
    have := (e0.funs.mem z).1
    rw [e] at this; cases this
  obtain ⟨mb, hb1, hb2⟩ := I.mod.blt
  refine ⟨e0.frames, ⟨I.mod.kin.keeps kp, I.mod.glob.keeps kp, ⟨mb, hb1.keeps kp, hb2⟩, I.mod.nolimit.keeps kp⟩, fun b o e => ⟨(of_hidF e).1, (of_hidF e).2.1⟩, Nat.le_of_eq (hidT_size _ _), ?_, e0.frf, e0.hok, e0.bare⟩
  refine PySem.W.funFrames_hide e0.funs fun env he a ha => ?_
  have hm : a ∈ frs X.stack := List.mem_filterMap.mpr ⟨env, he, ha⟩
  obtain ⟨_, o, ho, _⟩ := e0.funs.mem hm
  exact List.mem_filter.mpr ⟨List.mem_range.mpr (Heap.lt_size ho), by dsimp only; rw [if_pos hm]; rfl⟩
/-- cells are no frames -/
theorem cell_nofr (I : Inv X pins σ H s) (hfn : ∀ x, X.fn x = true) {y : Str} {c : Addr} (h : X.env.cells.lookup y = some c) : c ∉ frs X.stack := fun z => by
  obtain ⟨v, o, ho, hd⟩ := I.cell y c h
  have low : ∀ b ∈ frs X.outer, b < X.s_0.heap.objs.size := fun b hb => by
    obtain ⟨_, o, ho, _⟩ := I.ok.funs.mem hb
    exact Heap.lt_size ho
  have hi := I.ok.cab y c (hfn y) h
  rcases I.ok.stk with e | ⟨e, e2⟩
  · rw [e] at z
    exact Nat.lt_irrefl _ (Nat.lt_of_lt_of_le (low c z) hi)
  · rw [e] at z
    have z : c ∈ (X.env :: X.outer).filterMap (·.frame) := z
    rw [List.filterMap_cons, e2] at z
    rcases List.mem_cons.mp z with z | z
    · obtain ⟨m, ⟨o2, es, ep, h1, h2, _⟩, _⟩ := I.loc
      rw [← z, ho] at h1
      cases h1
      rw [hd] at h2; cases h2
    · exact Nat.lt_irrefl _ (Nat.lt_of_lt_of_le (low c z) hi)
/-- what it takes along lies in the ground -/
theorem caps_of {scope : Scope} {ps ys : List Str} {caps : List Nat} {cvs : List V} (I : Inv X pins σ H s) (hfn : ∀ x, X.fn x = true) (L : LamN scope ps ys)
    (hl : caps.length = ys.length) (hc : ∀ (j : Nat) (y : Str), ys[j]? = some y → ∃ i, caps[j]? = some i ∧ X.N[i]? = some y ∧ X.env.scope.names.lookup y = some .cell)
    (h1 : cvs.length = caps.length) (h2 : ∀ (j i : Nat) (v : V), caps[j]? = some i → cvs[j]? = some v → σ[i]? = some (some v)) : Caps (hidF s.heap H (frs X.stack)) (cloFrom X.env.cells scope.names []) ys cvs := by
  have isC : ∀ y ∈ ys, X.env.scope.names.lookup y = some .cell := fun y hy => by
    obtain ⟨j, hj, e⟩ := List.mem_iff_getElem.mp hy
    obtain ⟨_, _, _, h⟩ := hc j y (by rw [List.getElem?_eq_getElem hj, e])
    exact h
  have cm : ∀ {y c}, (cloFrom X.env.cells scope.names []).lookup y = some c → X.env.cells.lookup y = some c := fun {y c} e => by
    rcases cloFrom_mem (PySem.mem_of_lookup e) with hm | ⟨g1, g2⟩
    · cases hm
    · obtain ⟨c1, hc1⟩ := I.ok.has y (.inl (isC y (L.all _ g1 rfl)))
      rw [g2, hc1]
      rfl
  have put : ∀ {y c} {v : Option Value}, X.env.cells.lookup y = some c → s.heap.IsCell c v → (hidF s.heap H (frs X.stack)).IsCell c v := fun {y c v} e ⟨o, ho, hd⟩ => ⟨o, hidF_get ho (I.freeC y c e) (cell_nofr I hfn e), hd⟩
  refine ⟨h1.trans hl, fun x y c g1 g2 => I.ok.inj x y c (cm g1) (cm g2), fun x c g => ?_, fun j y v g1 g2 => ?_⟩
  · obtain ⟨v, hv⟩ := I.cell x c (cm g)
    exact ⟨v, put (cm g) hv⟩
  · obtain ⟨i, g3, g4, g5⟩ := hc j y g1
    obtain ⟨m, hn, hlk⟩ := I.loc
    obtain ⟨u, r, q⟩ := hlk i y v g4 (h2 j i v g3 g2) (.inr (.inl g5))
    rcases q with ⟨g6, _⟩ | ⟨_, c, g7, g8⟩
    · have g6 : X.env.scope.names.lookup y = some .local := g6
      rw [g5] at g6; cases g6
    · obtain ⟨c', g9⟩ := mem_lookup (cloFrom_has (cells := X.env.cells) (acc := []) (PySem.mem_of_lookup (L.cap y (List.mem_of_getElem? g1))))
      have := cm g9
      rw [g7] at this
      cases this
      exact ⟨c, u, g9, put g7 g8, r⟩
end
section
variable {X : Cx} {fa : Lay} {W : EW} {G : Nat → Option D} {F : Nat → Option Fn} {n m f k lv : Nat} {y : Str} {p pos lpos : Pos} {x : Expr} {xs : List Expr} {es : List E} {call : Nat → List D → Mu → Res D}
/-- where a lambda lies -/
def CloAt (k : Nat) (params : Arguments) (body : Expr) (scope : Scope) (ys : List Str) (base : Heap) (ci : CloI) : Prop := ci.k = k ∧ ∃ cl pm ctv, base.get? ci.a = some (PySem.W.kla_obj "<lambda>" ci.q params body scope cl pm ci.c ctv) ∧ Caps base cl ys ci.vs
/-- what the making of a lambda asks -/
structure MkL (X : Cx) (fa : Lay) (G : Nat → Option D) (F : Nat → Option Fn) (m f k : Nat) (params : Arguments) (body : Expr) (scope : Scope) (ys : List Str) (lv : Nat) : Prop where
  hno : fa.clo = none
  hfn : ∀ x, X.fn x = true
  tab : ∃ cc P, X.env.code = .ref cc ∧ LamX.TabB X.base X.mg cc P ∧ (P, X.env.qual ++ "<lambda>") ∈ fa.tabs ∧ ∀ p ∈ fa.tabs, p.1 = P → p.2 = X.env.qual ++ "<lambda>"
  callee : ∀ base ci, X.K.In base → CloAt k params body scope ys base ci → ∃ fd ps', FnOk X.prog X.w X.K X.mg base (L2.CX X.prog X.w) lv (fa.fn f) fd ps' (spN X.K (fa.wclo ci) (noLam G) F m f) ∧ Binds X.K fd ps' []
theorem e_callL {params : Arguments} {body : Expr} {scope : Scope} {ps ys : List Str} {caps : List Nat} {cal : List D → Mu → Res D} (hW : Wis X fa W) (hLB : ¬ k < LB) (hdef : defaultsOf params X.env = ([], [])) (L : LamN scope ps ys)
    (hl : caps.length = ys.length) (hc : ∀ (j : Nat) (y : Str), ys[j]? = some y → ∃ i, caps[j]? = some i ∧ X.N[i]? = some y ∧ X.env.scope.names.lookup y = some .cell)
    (hcal : (∀ ds μ, cal ds μ = .no) ∨ ∃ m, (∀ ds μ, cal ds μ = within μ (run (noLam G) F m f ds μ)) ∧ MkL X fa G F m f k params body scope ys lv)
    (hr : Room lv X.A) (hg : Gl X y) (hmg : X.mg y = some (.ref (fa.fn f))) (hk : PySem.W.keepIn X.K (.ref (fa.fn f)) = true) (hdb : (y == ("__debug__" : Str)) = false) (ha : PAll G fa W X call es (x :: xs)) :
    PE X (.Call (.Name y p) ((x :: xs) ++ [.Lambda params body scope lpos]) [] pos) (tE X.K fa W fun ρ μ => (evEs G call es ρ μ).bind fun ds μ => match capt ρ caps with
      | some cs => cal (ds ++ [.fn k cs]) μ
      | none => .no) := by
  obtain ⟨Wm, tk, hWm⟩ := hW
  refine ⟨fun pins s σ H Q I h => ?_⟩
  obtain ⟨φ, μ, ρ, A, R, h⟩ := h
  have hfree : ∀ z ∈ scope.names, z.2 = .free → ∃ c, X.env.cells.lookup z.1 = some c := fun z hz e => by
    obtain ⟨j, hj, e2⟩ := List.mem_iff_getElem.mp (L.all z hz e)
    obtain ⟨_, _, _, q⟩ := hc j z.1 (by rw [List.getElem?_eq_getElem hj, e2])
    exact I.ok.has _ (.inl q)
  have s1 := star_cons (es := xs ++ [.Lambda params body scope lpos]) (env := X.env) (ha.star x List.mem_cons_self)
  have s2 := star_back (pos := pos) (env := X.env) (es := xs ++ [.Lambda params body scope lpos]) fun z hz => by
    rcases List.mem_append.mp hz with q | q
    · exact ha.star z (List.mem_cons_of_mem _ q)
    · rw [List.mem_singleton.mp q]; rfl
  refine wpAny_Call_Name_kw (ld_glob I hg hmg ?_ hdb)
  refine PySem.W.callWith_K (h₀ := X.base) I.ok.mod.kin hk ?_ s1 s2
  refine args_then (G := G) (W := W) (fa := fa) (call := call) trivial (fun vs H1 => ∃ φ1 μ1 ds, Abs X.K fa φ1 μ1 H1 ∧ REnv X.K fa (msk H1 φ1) φ1 ρ σ ∧ RVs X.K fa (msk H1 φ1) φ1 ds vs ∧ Run X.K fa (W σ) φ1 H1 (match capt ρ caps with
      | some cs => cal (ds ++ [.fn k cs]) μ1
      | none => .no) (toV X.K fa Q)) _ s H ha I ⟨φ, μ, ρ, A, R, h.bind.imp fun ds μ1 φ1 H1 e1 A1 h1 vs rs => ⟨φ1, μ1, ds, A1, R.ext e1, rs, h1⟩⟩ fun us s3 vs H3 I3 rv3 hK => ?_
  obtain ⟨φ1, μ1, ds, A1, R1, rs, h1⟩ := hK
  cases hcp : capt ρ caps with
  | none => rw [hcp] at h1; exact False.elim h1
  | some cs =>
    rw [hcp] at h1
    have h1 : Run X.K fa (W σ) φ1 H3 (cal (ds ++ [.fn k cs]) μ1) (toV X.K fa Q) := h1
    rcases hcal with hcal | ⟨m, hcal, hno, hfn, ⟨cc, P, hcode, TB, hm, hu⟩, callee⟩
    · rw [hcal] at h1; exact False.elim h1
    rw [hcal] at h1
    have h1 : Run X.K fa (W σ) φ1 H3 (within μ1 (run (noLam G) F m f (ds ++ [.fn k cs]) μ1)) (toV X.K fa Q) := h1
    refine Calls.spliced_cons (x := eval (.Lambda params body scope lpos) X.env) (rest := []) (lam_make3 I3 A1 TB hcode rfl hm hu hdef hfree fun fL c' pm ctv H4 s4 I4 x4 A4 hf hfnone hffr hco => ?_)
    refine Calls.spliced_nil ⟨I4.kIn, ?_⟩
    obtain ⟨cvs, r1, r2, r3⟩ := capt_rv (R1.ext x4) hcp
    have C := caps_of (scope := scope) (ps := ps) I4 hfn L hl hc r2 r3
    obtain ⟨fd, ps', Fo, hb⟩ := callee (hidF s4.heap H4 (frs X.stack)) ⟨fL, c', k, X.env.qual ++ "<lambda>", cvs⟩ (hid_env I4).mod.kin ⟨rfl, _, pm, ctv, hidF_get hf hfnone hffr, C⟩
    have rs4 := (rs.ext x4).clo (ci := ⟨fL, c', k, X.env.qual ++ "<lambda>", cvs⟩) hno
    have rl : RV X.K (fa.wclo ⟨fL, c', k, X.env.qual ++ "<lambda>", cvs⟩) (msk H4 φ1) φ1 (.fn k cs) (.ref fL) := by
      unfold RV
      rw [if_neg hLB]
      exact ⟨_, rfl, rfl, rfl, hco, RVs.clo hno _ _ r1⟩
    have h4 : Run X.K (fa.wclo ⟨fL, c', k, X.env.qual ++ "<lambda>", cvs⟩) (fun x H' => WE Wm σ (.ref (fa.cl x.cls)) none H') φ1 H4 (run (noLam G) F m f (ds ++ [.fn k cs]) μ1) (toV X.K (fa.wclo ⟨fL, c', k, X.env.qual ++ "<lambda>", cvs⟩) Q) := by
      have h2 := h1.ext x4
      cases hrun : run (noLam G) F m f (ds ++ [.fn k cs]) μ1 with
      | no => rw [hrun] at h2; exact False.elim h2
      | ok d μ' =>
        rw [hrun] at h2
        unfold within at h2
        dsimp only at h2
        by_cases q : d.flat = true ∧ μ' = μ1
        · rw [if_pos q] at h2
          obtain ⟨q1, rfl⟩ := q
          exact fun φ' H' x' A' v rv => h2 φ' H' x' (Abs.unclo hno A4 A') v (RV.flat _ _ q1 rv)
        · rw [if_neg q] at h2; exact False.elim h2
      | ex e μ' =>
        rw [hrun] at h2
        unfold within at h2
        dsimp only at h2
        by_cases q : e.val.flat = true ∧ μ' = μ1
        · rw [if_pos q] at h2
          obtain ⟨q1, rfl⟩ := q
          exact fun φ' H' x' A' => hWm σ e H' (h2 φ' H' x' (Abs.unclo hno A4 A'))
        · rw [if_neg q] at h2; exact False.elim h2
    have hsp : spN X.K (fa.wclo ⟨fL, c', k, X.env.qual ++ "<lambda>", cvs⟩) (noLam G) F m f (vs ++ [.ref fL]) H4 Q (WE Wm σ) := by
      refine ⟨φ1, μ1, ds ++ [.fn k cs], A4.clo hno, RVs.append rs4 (RVs.one rl), ?_⟩
      exact h4
    have rv4 : Vals (vs ++ [V.ref fL]) (us ++ [Value.ref fL]) := rv3.append (.cons rfl .nil)
    have hlen : (us ++ [Value.ref fL]).length = ps'.length := by rw [← rv4.length]; exact Fo.len _ _ _ _ hsp
    have b := hb s4 (us ++ [Value.ref fL]) I4.kIn (by rw [List.append_nil]; exact hlen)
    rw [List.append_nil] at b
    refine wpAny_call (codeAny_mono (Fo.run X.A X.stack s4 H4 ⟨us ++ [Value.ref fL], []⟩ (us ++ [Value.ref fL]) (vs ++ [.ref fL]) Q (WE Wm σ) hr (hid_env I4) b rv4 hsp) fun r s' hq => ?_)
    cases r with
    | error e => exact passAt tk σ pins H4 s4 e s' I4 hq
    | ok fl =>
      cases fl with
      | ret u => exact I4.after hq
      | next => exact False.elim hq
      | brk => exact False.elim hq
      | cont => exact False.elim hq
end
end Ev

set_option Elab.async false
set_option linter.all false
set_option maxRecDepth 100000
set_option maxHeartbeats 1000000
/-! Tables of the module; the look at a lambda. -/
namespace Ev
open PySem PySem.Spec PyProof.Rows L2
/-! ### a lambda's parameters, its names -/
def lamNB (scope : Scope) (ps ys : List Str) : Bool := decide (scope.kind = .function) && !scope.isCoroutine && !scope.isGenerator && (scope.names.all fun y => !decide (y.2 = .cell)) && (ps.all fun x => decide (scope.names.lookup x = some .local)) &&
  (ys.all fun y => decide (scope.names.lookup y = some .free)) && (scope.names.all fun z => !decide (z.2 = .free) || decide (z.1 ∈ ys)) && decide ((ps ++ ys).Nodup)
theorem lamN_by {scope : Scope} {ps ys : List Str} (h : lamNB scope ps ys = true) : LamN scope ps ys := by
  unfold lamNB at h
  simp only [Bool.and_eq_true, Bool.or_eq_true, Bool.not_eq_true', decide_eq_true_eq, decide_eq_false_iff_not, List.all_eq_true] at h
  obtain ⟨⟨⟨⟨⟨⟨⟨h1, h2⟩, h3⟩, h4⟩, h5⟩, h6⟩, h7⟩, h8⟩ := h
  refine ⟨h1, h2, h3, h4, h5, h6, fun z hz e => ?_, h8⟩
  rcases h7 z hz with q | q
  · exact absurd e q
  · exact q
/-- one or two plain parameters -/
def parB (p : Arguments) (ps : List Str) : Bool := match p with
  | ⟨[], [a], none, [], [], none, []⟩ => decide (ps = [a.arg])
  | ⟨[], [a, b], none, [], [], none, []⟩ => decide (ps = [a.arg, b.arg])
  | _ => false
theorem par_some {p : Arguments} {ps : List Str} (h : parB p ps = true) : (∃ a, p = ⟨[], [a], none, [], [], none, []⟩ ∧ ps = [a.arg]) ∨ ∃ a b, p = ⟨[], [a, b], none, [], [], none, []⟩ ∧ ps = [a.arg, b.arg] := by
  unfold parB at h
  split at h
  · exact .inl ⟨_, rfl, of_decide_eq_true h⟩
  · exact .inr ⟨_, _, rfl, of_decide_eq_true h⟩
  · cases h
theorem par_def {p : Arguments} {ps : List Str} {env : Env} (h : parB p ps = true) : defaultsOf p env = ([], []) := by
  rcases par_some h with ⟨a, rfl, _⟩ | ⟨a, b, rfl, _⟩ <;> rfl
theorem par_bind {p : Arguments} {ps : List Str} {K : PySem.W.Frag} {q : Str} {body : Expr} {scope : Scope} {cl : List (Str × Addr)} {pm cv ctv : Value} (h : parB p ps = true) (nd : ps.Nodup) : Binds K (PySem.W.kla_fn "<lambda>" q p body scope cl pm cv ctv) ps [] := by
  refine Binds.all fun us hl => ?_
  rcases par_some h with ⟨a, rfl, rfl⟩ | ⟨a, b, rfl, rfl⟩
  · match us, hl with
    | [u], _ =>
      simp [bindArgs, PySem.W.kla_fn, seqItems?, List.lookup]
      rfl
  · match us, hl with
    | [u, v], _ =>
      have n : (b.arg == a.arg) = false := beq_eq_false_iff_ne.mpr fun e => by rw [e] at nd; simp at nd
      simp [bindArgs, PySem.W.kla_fn, seqItems?, List.lookup, n]
      rfl
/-- the last argument: a lambda -/
def lastLam : List Expr → Option (List Expr × Arguments × Expr × Scope)
  | [] => none
  | [.Lambda p b s _] => some ([], p, b, s)
  | x :: r => (lastLam r).map fun q => (x :: q.1, q.2)
theorem lastLam_eq {p : Arguments} {b : Expr} {s : Scope} : ∀ {xs ys : List Expr}, lastLam xs = some (ys, p, b, s) → ∃ pos, xs = ys ++ [.Lambda p b s pos]
  | [], ys, h => by cases h
  | x :: r, ys, h => by
    unfold lastLam at h
    split at h
    · cases h
    · rename_i e
      cases h
      exact ⟨_, e⟩
    · rename_i x' r' _ e
      cases e
      cases hr : lastLam r with
      | none => rw [hr] at h; cases h
      | some q =>
        rw [hr] at h
        obtain ⟨zs, p', b', s'⟩ := q
        cases h
        obtain ⟨pos, e⟩ := lastLam_eq hr
        exact ⟨pos, by rw [e]; rfl⟩
/-! ### a table's value at a key, or another one -/
/-- the table at a tells what tab tells -/
structure TabF (X : Cx) (fa : Lay) (a : Addr) (tab : List (Txt × D)) : Prop where
  kd : ∃ es n, KDict X.K X.w a es n
  at_ : ∀ s : Txt, ∃ r, PySem.W.nsIn X.K a (sOf s) = some r ∧ match tab.lookup s with
    | some d => ∃ u v, r = some u ∧ RelV v u ∧ ∀ G φ, RV X.K fa G φ d v
    | none => r = none
section
variable {X : Cx} {fa : Lay} {W : EW} {ma mb : Rho → Mu → Res D} {a : Addr} {tab : List (Txt × D)} {y : Str} {p ap cp : Pos} {e f : Expr}
theorem e_tget (T : TabF X fa a tab) (hg : Gl X y) (hm : X.mg y = some (.ref a)) (hdb : (y == ("__debug__" : Str)) = false) (he : PE X e (tE X.K fa W ma)) (hf : PE X f (tE X.K fa W mb)) (m : M2 X (.Name y p) "get" ap e f cp) :
    PE X (.Call (.Attribute (.Name y p) "get" ap) [e, f] [] cp) (tE X.K fa W fun ρ μ => (ma ρ μ).bind fun x μ => (mb ρ μ).bind fun y μ => Res.of ((strOf x).map fun s => (tab.lookup s).getD y) μ) := by
  obtain ⟨es, n, D⟩ := T.kd
  refine ⟨fun pins s σ H Q I h => ?_⟩
  obtain ⟨φ, μ, ρ, A, R, h⟩ := h
  have mp : ∀ {s : Shared} {σ : L2.St} {H : Hp}, Inv X pins σ H s → s.heap.MapOf (strKind X.prog X.w) a _ := fun {s σ H} I => PySem.W.mapOf_K (prog := X.prog) (w := X.w) I.kIn D.at_ D.lit
  refine wpAny_Call_method m.base m.few m.line PySem.F.plainAttrs_dict PySem.F.slot_dict_get PySem.F.type_dict_get (thn ((pe_glob (v := .ref a) hg hm rfl hdb).run pins s σ H (fun v H1 => v = .ref a ∧ H1 = H) I ⟨rfl, rfl⟩) fun u s1 ⟨x, H1, I1, rx, q1⟩ => ?_)
  obtain ⟨rfl, rfl⟩ := q1
  obtain rfl : u = Value.ref a := rx
  refine ⟨(mp I1).typeIs, (mp I1).noDict, ?_⟩
  rw [m.trees]
  refine Calls.callWith_builtin rfl (Calls.evalArgs_plain (Calls.spliced_cons (thn (he.run pins s1 σ H1 (fun x H2 => ∃ φ1 μ1 d, Abs X.K fa φ1 μ1 H2 ∧ REnv X.K fa (msk H2 φ1) φ1 ρ σ ∧ RV X.K fa (msk H2 φ1) φ1 d x ∧
      Run X.K fa (W σ) φ1 H2 ((mb ρ μ1).bind fun y μ => Res.of ((strOf d).map fun s => (tab.lookup s).getD y) μ) (toV X.K fa Q)) I1 ⟨φ, μ, ρ, A, R, h.bind.imp fun d μ1 φ1 H2 e1 A1 h1 v rv => ⟨φ1, μ1, d, A1, R.ext e1, rv, h1⟩⟩)
    fun iv s2 ⟨x2, H2, I2, r2, φ1, μ1, d, A1, R1, rv1, h1⟩ => Calls.spliced_cons (thn (hf.run pins s2 σ H2 (fun z H3 => ∃ φ2 μ2 d2, Abs X.K fa φ2 μ2 H3 ∧ RV X.K fa (msk H3 φ2) φ2 d x2 ∧ RV X.K fa (msk H3 φ2) φ2 d2 z ∧
      Run X.K fa (W σ) φ2 H3 (Res.of ((strOf d).map fun s => (tab.lookup s).getD d2) μ2) (toV X.K fa Q)) I2 ⟨φ1, μ1, ρ, A1, R1, h1.bind.imp fun d2 μ2 φ2 H3 e2 A2 h2 v rv => ⟨φ2, μ2, d2, A2, rv1.ext e2, rv, h2⟩⟩)
    fun fv s3 ⟨z, H3, I3, r3, φ2, μ2, d2, A2, rv2, rv3, h2⟩ => Calls.spliced_nil ?_))))
  obtain ⟨d3, e3, q3⟩ := h2.of
  obtain ⟨t, et, rfl⟩ := ofmap e3
  cases d with
  | str t' =>
    cases et
    obtain ⟨rfl, _⟩ := rv_str rv2
    obtain ⟨tk, rfl⟩ := r2
    obtain ⟨r, hr, hlk⟩ := T.at_ t
    refine call_meetsIn PySem.F.slot_dict_get (mp I3).typeIs PySem.F.entry_dict_get (PySem.F.args_dict_get_3 _ _ _) (meets_dict_get_default (strKind X.prog X.w) a (PySem.strKind_is X.prog X.w (sOf t) tk) D.low fv) ⟨_, mp I3, ?_⟩
    rw [PySem.W.find_K D.at_ hr]
    cases hl : tab.lookup t with
    | none =>
      rw [hl] at hlk q3
      subst hlk
      exact ⟨z, H3, I3.tok _, r3, q3 φ2 H3 (Ext.refl _ _) A2 z rv3⟩
    | some d4 =>
      rw [hl] at hlk q3
      obtain ⟨u, v, rfl, ru, rv⟩ := hlk
      exact ⟨v, H3, I3.tok _, ru, q3 φ2 H3 (Ext.refl _ _) A2 v (rv _ _)⟩
  | _ => cases et
theorem e_tget1 (T : TabF X fa a tab) (hg : Gl X y) (hm : X.mg y = some (.ref a)) (hdb : (y == ("__debug__" : Str)) = false) (he : PE X e (tE X.K fa W ma)) (m : M1 X (.Name y p) "get" ap e cp) :
    PE X (.Call (.Attribute (.Name y p) "get" ap) [e] [] cp) (tE X.K fa W fun ρ μ => (ma ρ μ).bind fun x μ => Res.of ((strOf x).map fun s => (tab.lookup s).getD .non) μ) := by
  obtain ⟨es, n, D⟩ := T.kd
  refine ⟨fun pins s σ H Q I h => ?_⟩
  obtain ⟨φ, μ, ρ, A, R, h⟩ := h
  have mp : ∀ {s : Shared} {σ : L2.St} {H : Hp}, Inv X pins σ H s → s.heap.MapOf (strKind X.prog X.w) a _ := fun {s σ H} I => PySem.W.mapOf_K (prog := X.prog) (w := X.w) I.kIn D.at_ D.lit
  refine wpAny_Call_method m.base m.few m.line PySem.F.plainAttrs_dict PySem.F.slot_dict_get PySem.F.type_dict_get (thn ((pe_glob (v := .ref a) hg hm rfl hdb).run pins s σ H (fun v H1 => v = .ref a ∧ H1 = H) I ⟨rfl, rfl⟩) fun u s1 ⟨x, H1, I1, rx, q1⟩ => ?_)
  obtain ⟨rfl, rfl⟩ := q1
  obtain rfl : u = Value.ref a := rx
  refine ⟨(mp I1).typeIs, (mp I1).noDict, ?_⟩
  rw [m.trees]
  refine Calls.callWith_builtin rfl (Calls.evalArgs_plain (Calls.spliced_cons (thn (he.run pins s1 σ H1 (fun x H2 => ∃ φ1 μ1 d, Abs X.K fa φ1 μ1 H2 ∧ RV X.K fa (msk H2 φ1) φ1 d x ∧
      Run X.K fa (W σ) φ1 H2 (Res.of ((strOf d).map fun s => (tab.lookup s).getD .non) μ1) (toV X.K fa Q)) I1 ⟨φ, μ, ρ, A, R, h.bind.imp fun d μ1 φ1 H2 e1 A1 h1 v rv => ⟨φ1, μ1, d, A1, rv, h1⟩⟩)
    fun iv s2 ⟨x2, H2, I2, r2, φ1, μ1, d, A1, rv1, h1⟩ => Calls.spliced_nil ?_)))
  obtain ⟨d3, e3, q3⟩ := h1.of
  obtain ⟨t, et, rfl⟩ := ofmap e3
  cases d with
  | str t' =>
    cases et
    obtain ⟨rfl, _⟩ := rv_str rv1
    obtain ⟨tk, rfl⟩ := r2
    obtain ⟨r, hr, hlk⟩ := T.at_ t
    refine call_meetsIn PySem.F.slot_dict_get (mp I2).typeIs PySem.F.entry_dict_get (PySem.F.args_dict_get_2 _ _) (meets_dict_get (strKind X.prog X.w) a (PySem.strKind_is X.prog X.w (sOf t) tk) D.low) ⟨_, mp I2, ?_⟩
    rw [PySem.W.find_K D.at_ hr]
    cases hl : tab.lookup t with
    | none =>
      rw [hl] at hlk q3
      subst hlk
      exact ⟨.non, H2, I2.tok _, rfl, q3 φ1 H2 (Ext.refl _ _) A1 _ mk_non⟩
    | some d4 =>
      rw [hl] at hlk q3
      obtain ⟨u, v, rfl, ru, rv⟩ := hlk
      exact ⟨v, H2, I2.tok _, ru, q3 φ1 H2 (Ext.refl _ _) A1 v (rv _ _)⟩
  | _ => cases et
end
end Ev

set_option Elab.async false
set_option linter.all false
set_option maxRecDepth 100000
set_option maxHeartbeats 1000000
/-! The look at an expression: it is the evaluator's. -/
namespace Ev
open PySem PySem.Spec PyProof.Rows L2
/-- a lambda: its parameters, what it takes along, the look at it -/
structure LamT where
  ps : List Str
  ys : List Str
  ok : Arguments → Expr → Scope → Bool
/-- the names of the module -/
structure Tb where
  fn : List (Nat × Str)
  gl : List (Nat × Str)
  bf : List Str
  cl : List (Nat × Str × Nat)
  fl : List (Nat × Nat × Str)
  me : List (Nat × Str × Nat)
  ec : List (Nat × Str)
  em : List (Str × Nat × Bool)
  is : List (Str × Nat × Bool)
  ve : List (Nat × Bool)
  hc : List Nat
  hf : List (Str × Nat × Bool)
  dc : List (Nat × Str × List (Txt × D))
  lm : List (Nat × LamT)
/-- within an except suite: nothing is called -/
def Tb.cool (t : Tb) : Tb := { t with fn := [], cl := [], me := [], ec := [], lm := [] }
/-- no lambda is made -/
def Tb.noLm (t : Tb) : Tb := { t with lm := [] }
/-- where a look stands -/
structure SC where
  N : List Str
  sc : Scope
  bs : Option Scope
  tb : Tb
  hot : Option (Nat × Str × Nat)
def SC.blk (c : SC) (scope : Scope) : SC := ⟨c.N, relS scope c.sc, some scope, c.tb.noLm, none⟩
/-- no except suite that knows its exception -/
def SC.cold (c : SC) : Bool := c.hot.isNone
/-- within the suite of class k, whose exception lies in i, called n -/
def SC.suite (c : SC) (i : Nat) (n : Str) (k : Nat) : SC := ⟨c.N, c.sc, c.bs, c.tb.cool, some (i, n, k)⟩
def SC.mayB (c : SC) (i : Nat) : Bool := match c.hot with
  | none => true
  | some h => decide (h.1 ≠ i)
def SC.isFn (c : SC) (x : Str) : Bool := match c.bs with
  | none => true
  | some s => s.names.lookup x == some .cell
def notDbg (x : Str) : Bool := !(x == ("__debug__" : Str)) && !(x == ("__classdict__" : Str)) && !(x == ("__name__" : Str))
def visB (c : SC) (x : Str) : Bool := (match c.sc.names.lookup x with
  | some .local => true
  | some .cell => true
  | some .free => true
  | _ => false) && notDbg x
def glB (c : SC) (x : Str) : Bool := decide (c.sc.names.lookup x = some .globalImplicit) && notDbg x
def tgtB (c : SC) (i : Nat) (x : Str) : Bool := (decide (c.N[i]? = some x) && c.mayB i) && match c.sc.names.lookup x with
  | some .local => true
  | some .cell => c.isFn x
  | _ => false
def bltB (c : SC) (x y : Str) : Bool := decide (x = y) && glB c x && decide (x ∈ c.tb.bf)
def notSet : Expr → Bool
  | .Set .. => false
  | _ => true
def notSlice : Expr → Bool
  | .Slice .. => false
  | _ => true
def notComp : Expr → Bool
  | .ListComp .. => false
  | .SetComp .. => false
  | .DictComp .. => false
  | _ => true
def plainTest : Expr → Bool
  | .UnaryOp .Not _ _ => false
  | .BoolOp .. => false
  | .IfExp .. => false
  | .Compare .. => false
  | _ => true
def baseOk : Expr → Bool
  | .Name .. => true
  | .Subscript .. => true
  | .Constant .. => true
  | _ => false
mutual
def chkG (c : SC) : T → Expr → Bool
  | .nm i => fun x => match x with
    | .Name y _ => tgtB c i y
    | _ => false
  | .tp ts => fun x => match x with
    | .Tuple es _ _ => c.cold && chkGs c ts es
    | _ => false
def chkGs (c : SC) : List T → List Expr → Bool
  | [] => fun xs => xs.isEmpty
  | t :: ts => fun xs => match xs with
    | x :: xs => notStar x && chkG c t x && chkGs c ts xs
    | [] => false
end
def conB (d : D) (k : Const) : Bool := match k, d with
  | .none, .non => true
  | .bool b, .bl a => a == b
  | .int i, .int j => decide (i = j)
  | .str x, .str s => decide (x.cps.toList = s) && okT s
  | _, _ => false
def binB (o : BOp) (op : Operator) : Bool := match o, op with
  | .add, .Add => true
  | .sub, .Sub => true
  | .mul, .Mult => true
  | .fdiv, .FloorDiv => true
  | .mod, .Mod => true
  | .pow, .Pow => true
  | _, _ => false
def cmpB (o : COp) (op : CmpOp) : Bool := match o, op with
  | .eq, .Eq => true
  | .ne, .NotEq => true
  | .lt, .Lt => true
  | .le, .LtE => true
  | .gt, .Gt => true
  | .ge, .GtE => true
  | .isN, .Is => true
  | .notN, .IsNot => true
  | .in_, .In => true
  | .nin, .NotIn => true
  | _, _ => false
def meStr : Me → Str
  | .append => "append"
  | .extend => "extend"
  | .pop => "pop"
  | .popAt => "pop"
  | .index => "index"
  | .join => "join"
  | .insert => "insert"
  | .reverse => "reverse"
def biStr : Bi → Str
  | .len => "len"
  | .tuple => "tuple"
  | .list => "list"
  | .min2 => "min"
  | .max2 => "max"
  | .int => "int"
  | .str => "str"
  | .all => "all"
  | .any => "any"
  | .sum => "sum"
  | .abs => "abs"
  | .isin _ => "isinstance"
  | .lenset => "len"
  | .divmod => "divmod"
  | .tupRg => "tuple"
  | .lstRg => "list"
  | .maxL => "max"
  | .isTL => "isinstance"
  | .ord => "ord"
def tyStr (t : Ty) : Str := t.nm
def nonNil (xs : List Expr) : Option (List Expr) := match xs with
  | [] => none
  | x :: xs => some (x :: xs)
def rgArg (c : SC) (xs : List Expr) : Option (List Expr) := match xs with
  | [.Call (.Name y _) [a] [] _] => if bltB c y "range" then some [a] else none
  | _ => none
/-- the arguments that are looked at -/
def bixs (c : SC) (b : Bi) (xs : List Expr) : Option (List Expr) := match b with
  | .isin t => match xs with
    | [a, .Name y _] => if bltB c y (tyStr t) && !t.own then some [a] else none
    | _ => none
  | .lenset => match xs with
    | [.Call (.Name y _) [a] [] _] => if bltB c y "set" then some [a] else none
    | _ => none
  | .tupRg => rgArg c xs
  | .lstRg => rgArg c xs
  | .isTL => none
  | _ => nonNil xs
/-- what a walk's source looks at -/
def srcB (c : SC) (k : IK) (iter tg : Expr) : Option (List Expr) := match k with
  | .seq => some [iter]
  | .rng1 => match iter with
    | .Call (.Name x _) [a] [] _ => if bltB c x "range" then some [a] else none
    | _ => none
  | .rng2 => match iter with
    | .Call (.Name x _) [a, b] [] _ => if bltB c x "range" then some [a, b] else none
    | _ => none
  | .rng3 => match iter with
    | .Call (.Name x _) [a, b, d] [] _ => if bltB c x "range" then some [a, b, d] else none
    | _ => none
  | .rev => match iter with
    | .Call (.Name x _) [a] [] _ => if bltB c x "reversed" then some [a] else none
    | _ => none
  | .enum => match iter, tg with
    | .Call (.Name x _) [a] [] _, .Tuple .. => if bltB c x "enumerate" then some [a] else none
    | _, _ => none
  | .zip2 => match iter, tg with
    | .Call (.Name x _) [a, b] [] _, .Tuple .. => if bltB c x "zip" then some [a, b] else none
    | _, _ => none
def ownOf (c : SC) (own : List Nat) : List (Str × Nat) := own.map fun i => ((c.N[i]?).getD ⟨#[]⟩, i)
abbrev Lk : Type := (Expr → Bool) × (Expr → Bool)
def truL (f : Expr → Bool) : Lk := (f, fun x => plainTest x && f x)
def un1 (op : BoolOp) (y : Expr) (rest : List Expr) (pos : Pos) : Expr := match rest with
  | [] => y
  | _ => .BoolOp op (y :: rest) pos
def cVar (c : SC) (i : Nat) : Expr → Bool
  | .Name y _ => decide (c.N[i]? = some y) && visB c y
  | _ => false
def cCon (d : D) : Expr → Bool
  | .Constant k _ _ => conB d k
  | _ => false
def cGlo (c : SC) (k : Nat) : Expr → Bool
  | .Name y _ => decide (c.tb.gl.lookup k = some y) && glB c y
  | _ => false
def cBin (o : BOp) (f g : Expr → Bool) : Expr → Bool
  | .BinOp l op r _ => binB o op && (f l && g r)
  | _ => false
def cCat (f g : Expr → Bool) : Expr → Bool
  | .BinOp l .Add r _ => f l && g r
  | _ => false
def cNeg (f : Expr → Bool) : Expr → Bool
  | .UnaryOp .USub x _ => f x
  | _ => false
def cNot (f : Expr → Bool) : Expr → Bool
  | .UnaryOp .Not x _ => f x
  | _ => false
def cCmp (o : COp) (f g : Expr → Bool) : Expr → Bool
  | .Compare l [op] [r] _ => cmpB o op && notSet r && (f l && g r)
  | _ => false
def cCmp2 (o o' : COp) (f g h : Expr → Bool) : Expr → Bool
  | .Compare l [op, op'] [r, q] _ => cmpB o op && cmpB o' op' && notSet r && notSet q && (f l && g r && h q)
  | _ => false
def cAnd (f g : Expr → Bool) : Expr → Bool
  | .BoolOp .And (x :: y :: rest) pos => f x && g (un1 .And y rest pos)
  | _ => false
def cOr (f g : Expr → Bool) : Expr → Bool
  | .BoolOp .Or (x :: y :: rest) pos => f x && g (un1 .Or y rest pos)
  | _ => false
def cIte (t f g : Expr → Bool) : Expr → Bool
  | .IfExp q x y _ => t q && f x && g y
  | _ => false
def cTup (f : List Expr → Bool) : Expr → Bool
  | .Tuple xs _ _ => f xs
  | _ => false
def cLst (f : List Expr → Bool) : Expr → Bool
  | .List xs _ => f xs
  | _ => false
def cLrep (f : List Expr → Bool) (g : Expr → Bool) : Expr → Bool
  | .BinOp (.List xs _) .Mult y _ => f xs && g y
  | _ => false
def cIdx (f g : Expr → Bool) : Expr → Bool
  | .Subscript x y _ => notSlice y && (f x && g y)
  | _ => false
def cSlc (f : Expr → Bool) (g h : Option Expr → Bool) : Expr → Bool
  | .Subscript x (.Slice l r none _) _ => f x && (g l && h r)
  | _ => false
def cCall (c : SC) (k : Nat) (f : List Expr → Bool) : Expr → Bool
  | .Call (.Name y _) xs [] _ => decide (c.tb.fn.lookup k = some y) && glB c y && f xs
  | _ => false
/-- those that an except suite may call -/
def Bi.hotOk : Bi → Bool
  | .min2 | .max2 | .all | .any | .sum | .maxL | .lenset | .tupRg | .lstRg => false
  | _ => true
def cBi (c : SC) (b : Bi) (f : List Expr → Bool) : Expr → Bool
  | .Call (.Name y _) xs [] _ => bltB c y (biStr b) && (b.hotOk || c.cold) && (match bixs c b xs with
    | some ys => f ys
    | none => false)
  | _ => false
def cMe (m : Me) (f : Expr → Bool) (g : List Expr → Bool) : Expr → Bool
  | .Call (.Attribute o y ap) xs [] cp => decide (y = meStr m) && (ap.endLine == cp.line) && baseOk o && decide (xs.length < 20) && (f o && g xs)
  | _ => false
def cComp (c : SC) (own : List Nat) (t : T) (k : IK) (fsrc : List Expr → Bool) (fc : SC → List Expr → Bool) (fe : SC → Expr → Bool) : Expr → Bool
  | .ListComp x [⟨tg, iter, ifs, a⟩] scope _ => c.cold && decide (a = 0) && blkC c.N c.sc scope (ownOf c own) && (t.vars.all fun j => decide (j ∈ own)) && notSet iter && (match srcB c k iter tg with
    | some ys => fsrc ys
    | none => false) && (chkG (c.blk scope) t tg && fc (c.blk scope) ifs && fe (c.blk scope) x)
  | _ => false
def cNew (c : SC) (k fi : Nat) (f : List Expr → Bool) : Expr → Bool
  | .Call (.Name y _) xs [] _ => decide ((k, y, fi) ∈ c.tb.cl) && glB c y && !xs.isEmpty && f xs
  | _ => false
def cFld (c : SC) (k a : Nat) (f : Expr → Bool) : Expr → Bool
  | .Attribute o y _ => baseOk o && decide ((k, a, y) ∈ c.tb.fl) && f o
  | _ => false
def cMeth (c : SC) (k fi : Nat) (f : Expr → Bool) (g : List Expr → Bool) : Expr → Bool
  | .Call (.Attribute o y ap) xs [] cp => (ap.endLine == cp.line) && decide (xs.length < 20) && baseOk o && decide ((k, y, fi) ∈ c.tb.me) && (f o && g xs)
  | _ => false
def cDictP (c : SC) (f : Expr → Bool) : Expr → Bool
  | .Call (.Name y _) [x] [] _ => c.cold && bltB c y "dict" && notStar x && f x
  | _ => false
def cDict0 : Expr → Bool
  | .Dict [] [] _ => true
  | _ => false
def cZipL (c : SC) (f g : Expr → Bool) : Expr → Bool
  | .Call (.Name y _) [.Call (.Name z _) [a, b] [] _] [] _ => c.cold && bltB c y "list" && bltB c z "zip" && notStar a && notStar b && (f a && g b)
  | _ => false
def cFnv (c : SC) (k : Nat) : Expr → Bool
  | .Name y _ => decide (c.tb.fn.lookup k = some y) && glB c y && decide (k < LB)
  | _ => false
def cCallv (c : SC) (i : Nat) (f : List Expr → Bool) : Expr → Bool
  | .Call (.Name y _) xs [] _ => c.cold && decide (c.N[i]? = some y) && visB c y && !xs.isEmpty && f xs
  | _ => false
def isNon : E → Bool
  | .con .non => true
  | _ => false
def cTget (c : SC) (nm : Nat) (tab : List (Txt × D)) (f g : Expr → Bool) (n : Bool) : Expr → Bool
  | .Call (.Attribute (.Name y _) m ap) [a] [] cp => decide (m = "get") && (ap.endLine == cp.line) && decide ((nm, y, tab) ∈ c.tb.dc) && glB c y && notStar a && (f a && n)
  | .Call (.Attribute (.Name y _) m ap) [a, b] [] cp => decide (m = "get") && (ap.endLine == cp.line) && decide ((nm, y, tab) ∈ c.tb.dc) && glB c y && notStar a && notStar b && (f a && g b)
  | _ => false
/-- what is taken along lies in cells of these names -/
def capB (c : SC) : List Nat → List Str → Bool
  | [], [] => true
  | i :: is, y :: ys => decide (c.N[i]? = some y) && decide (c.sc.names.lookup y = some .cell) && capB c is ys
  | _, _ => false
def cCallL (c : SC) (k l : Nat) (caps : List Nat) (f : List Expr → Bool) : Expr → Bool
  | .Call (.Name y _) xs [] _ => decide (c.tb.fn.lookup k = some y) && glB c y && !decide (l < LB) && (match lastLam xs, c.tb.lm.lookup l with
    | some (zs, p, b, s), some t => !zs.isEmpty && t.ok p b s && capB c caps t.ys && f zs
    | _, _ => false)
  | _ => false
/-- is the exception one of this class? -/
def hotAt (c : SC) (k : Nat) : Expr → Option Bool
  | .Name u _ => if glB c u then (match c.tb.is.find? fun p => decide (p.1 = u ∧ p.2.1 = k) with
    | some p => some p.2.2
    | none => if u = "ValueError" ∧ u ∈ c.tb.bf then c.tb.ve.lookup k else none) else none
  | _ => none
def hotAll (c : SC) (k : Nat) : List Expr → Option (List Bool)
  | [] => some []
  | e :: es => (hotAt c k e).bind fun b => (hotAll c k es).map fun bs => b :: bs
/-- what is asked of the exception -/
def hotAsk (c : SC) (k : Nat) : Expr → Option Bool
  | .Tuple es _ _ => if es.length < 100 then (hotAll c k es).map fun bs => bs.any id else none
  | e => hotAt c k e
def cHot (c : SC) (b : Bool) : Expr → Bool
  | .Call (.Name y _) [.Name m _, z] [] _ => (match c.hot with
    | some (i, n, k) => bltB c y "isinstance" && decide (m = n) && decide (c.N[i]? = some n) && visB c n && decide (hotAsk c k z = some b)
    | none => false)
  | .Call (.Name y _) [.Name m _] [] _ => (match c.hot with
    | some (i, n, k) => decide ((y, k, b) ∈ c.tb.hf) && glB c y && decide (m = n) && decide (c.N[i]? = some n) && visB c n
    | none => false)
  | _ => false
def cConH (c : SC) (d : D) (x : Expr) : Bool := match d with
  | .bl b => cCon (.bl b) x || cHot c b x
  | d => cCon d x
mutual
def chkP : E → SC → Lk
  | .var i => fun c => truL (cVar c i)
  | .con d => fun c => truL (cConH c d)
  | .glo k => fun c => truL (cGlo c k)
  | .bin o a b => fun c => truL (cBin o (chkP a c).1 (chkP b c).1)
  | .neg a => fun c => truL (cNeg (chkP a c).1)
  | .cmp o a b => fun c => (cCmp o (chkP a c).1 (chkP b c).1, cCmp o (chkP a c).1 (chkP b c).1)
  | .cmp2 o o' a b d => fun c => (cCmp2 o o' (chkP a c).1 (chkP b c).1 (chkP d c).1, cCmp2 o o' (chkP a c).1 (chkP b c).1 (chkP d c).1)
  | .and_ a b => fun c => (cAnd (chkP a c).1 (chkP b c).1, cAnd (chkP a c).2 (chkP b c).2)
  | .or_ a b => fun c => (cOr (chkP a c).1 (chkP b c).1, cOr (chkP a c).2 (chkP b c).2)
  | .not_ a => fun c => (cNot (chkP a c).1, cNot (chkP a c).2)
  | .ite q a b => fun c => truL (cIte (chkP q c).2 (chkP a c).1 (chkP b c).1)
  | .tup es => fun c => truL (cTup (chkEs es c))
  | .lst _ es => fun c => truL (cLst (chkEs es c))
  | .cat a b => fun c => truL (cCat (chkP a c).1 (chkP b c).1)
  | .lrep es a => fun c => truL (cLrep (chkEs es c) (chkP a c).1)
  | .idx a i => fun c => truL (cIdx (chkP a c).1 (chkP i c).1)
  | .slc a lo hi => fun c => truL (cSlc (chkP a c).1 (chkO lo c) (chkO hi c))
  | .call f es => fun c => truL (cCall c f (chkEs es c))
  | .bi b es => fun c => truL (cBi c b (chkEs es c))
  | .me m o es => fun c => truL (cMe m (chkP o c).1 (chkEs es c))
  | .comp _ own elt t k src q => fun c => truL (cComp c own t k (chkEs src c) (chkC q) (fun c' => (chkP elt c').1))
  | .dict0 => fun _ => truL cDict0
  | .dictP e => fun c => truL (cDictP c (chkP e c).1)
  | .dictL _ _ => fun _ => truL fun _ => false
  | .mlst _ => fun _ => truL fun _ => false
  | .zipL a b => fun c => truL (cZipL c (chkP a c).1 (chkP b c).1)
  | .fnv k => fun c => truL (cFnv c k)
  | .tget nm tab k d => fun c => truL (cTget c nm tab (chkP k c).1 (chkP d c).1 (isNon d))
  | .callv i es => fun c => truL (cCallv c i (chkEs es c))
  | .callL f es k caps => fun c => truL (cCallL c f k caps (chkEs es c))
  | .new k fi es => fun c => truL (cNew c k fi (chkEs es c))
  | .fld k a o => fun c => truL (cFld c k a (chkP o c).1)
  | .meth k fi o es => fun c => truL (cMeth c k fi (chkP o c).1 (chkEs es c))
def chkEs : List E → SC → List Expr → Bool
  | [] => fun _ xs => xs.isEmpty
  | e :: es => fun c xs => match xs with
    | x :: xs => notStar x && (chkP e c).1 x && chkEs es c xs
    | [] => false
def chkO : Option E → SC → Option Expr → Bool
  | none => fun _ x => x.isNone
  | some e => fun c x => match x with
    | some x => (chkP e c).1 x
    | none => false
def chkC : Option E → SC → List Expr → Bool
  | none => fun _ xs => xs.isEmpty
  | some e => fun c xs => match xs with
    | [x] => (chkP e c).2 x
    | _ => false
end

/-! ### it is so -/
section
variable (G : Nat → Option D) (F : Nat → Option Fn) (n : Nat) (fa : Lay) (W : EW)
structure GoodX (c : SC) (X : Cx) : Prop where
  ww : fa.w = X.w
  hN : X.N = c.N
  sc : X.env.scope = c.sc
  fn : ∀ x, c.isFn x = true → X.fn x = true
  cold : c.hot = none → fa.keep = none ∧ X.calm = true ∧ X.A.handled = none ∧ L2H.RoomH (2 * n + 1) X.A
  hote : ∀ i n k, c.hot = some (i, n, k) → ∃ a, fa.keep = some (i, .ref a) ∧ HotE X (fa.cl k) a
  nd : c.N.Nodup
  room : L2H.RoomH (2 * n) X.A
  own : PassesOwn (model X.prog X.w) X.A X.env X.xe
  wis : Wis X fa W
  glo : ∀ (k : Nat) (x : Str), c.tb.gl.lookup k = some x → ∃ u v d, X.mg x = some u ∧ RelV v u ∧ G k = some d ∧ ∀ G' φ, RV X.K fa G' φ d v
  bf : ∀ x, x ∈ c.tb.bf → X.mg x = none
  cal : ∀ (f : Nat) (x : Str), c.tb.fn.lookup f = some x → c.hot = none ∧ ∃ fd ps, FnOk X.prog X.w X.K X.mg X.base (L2.CX X.prog X.w) (2 * n) (fa.fn f) fd ps (spN X.K fa G F n f) ∧ X.mg x = some (.ref (fa.fn f)) ∧ PySem.W.keepIn X.K (.ref (fa.fn f)) = true ∧ L2.Binds X.K fd ps []
  cls : ∀ (k : Nat) (x : Str) (i : Nat), (k, x, i) ∈ c.tb.cl → c.hot = none ∧ ∃ f fd ps, Mk X.K (fa.cl k) f ∧ FnOk X.prog X.w X.K X.mg X.base (L2.CX X.prog X.w) (2 * n) f fd ps (spN X.K fa G F n i) ∧ X.mg x = some (.ref (fa.cl k)) ∧ L2.Binds X.K fd ps []
  fld : ∀ (k a : Nat) (y : Str), (k, a, y) ∈ c.tb.fl → Cls X.K (fa.cl k) ∧ NoAttr X.K (fa.cl k) (fa.fld a) ∧ fa.okf a = true ∧ fa.fld a = y
  met : ∀ (k : Nat) (y : Str) (i : Nat), (k, y, i) ∈ c.tb.me → c.hot = none ∧ ∃ f fd ps, Cls X.K (fa.cl k) ∧ Meth X.K (fa.cl k) y f ∧ FnOk X.prog X.w X.K X.mg X.base (L2.CX X.prog X.w) (2 * n) f fd ps (spN X.K fa G F n i) ∧ L2.Binds X.K fd ps [] ∧ ∀ a, fa.okf a = true → fa.fld a ≠ y
  exc : ∀ (k : Nat) (y : Str), (k, y) ∈ c.tb.ec → c.hot = none ∧ ExcF X (fa.cl k) y
  exm : ∀ (y : Str) (k : Nat) (b : Bool), (y, k, b) ∈ c.tb.em → ∃ v, X.mg y = some v ∧ PySem.W.exmOne X.K (.ref (fa.cl k)) v = some b
  ist : ∀ (y : Str) (k : Nat) (b : Bool), (y, k, b) ∈ c.tb.is → ∃ C : Addr, X.mg y = some (.ref C) ∧ PySem.W.kitOne X.K (.ref (fa.cl k)) (.ref C) = some b
  isv : ∀ (k : Nat) (b : Bool), (k, b) ∈ c.tb.ve → PySem.W.kitOne X.K (.ref (fa.cl k)) (.type "ValueError") = some b
  hcl : ∀ k ∈ c.tb.hc, ExcC X.K (fa.cl k)
  hfn : ∀ (y : Str) (k : Nat) (b : Bool), (y, k, b) ∈ c.tb.hf → L2H.RoomH 1 X.A ∧ HotF X.prog X.w X.K X.mg X.base fa y k b
  isf : ∀ (f : Nat) (x : Str), c.tb.fn.lookup f = some x → fa.isf f = true
  clv : c.hot = none → ∀ (k : Nat) (a : Addr), LiveV fa k a → ∃ fd ps, FnOk X.prog X.w X.K X.mg X.base (L2.CX X.prog X.w) (2 * n) a fd ps (spV X.K fa G F n k a) ∧ L2.Binds X.K fd ps [] ∧ PySem.W.FnAt a X.base
  dct : ∀ (nm : Nat) (y : Str) (tab : List (Txt × D)), (nm, y, tab) ∈ c.tb.dc → ∃ a, X.mg y = some (.ref a) ∧ TabF X fa a tab
  lam : ∀ (k : Nat) (t : LamT), c.tb.lm.lookup k = some t → c.hot = none ∧ ∀ (f : Nat) (y : Str) (params : Arguments) (body : Expr) (scope : Scope), c.tb.fn.lookup f = some y → t.ok params body scope = true → LamN scope t.ps t.ys ∧ defaultsOf params X.env = ([], []) ∧
    ((∀ ds μ, run G F n (f + LB) ds μ = .no) ∨ ∃ m, (∀ ds μ, run G F n (f + LB) ds μ = within μ (run (noLam G) F m f ds μ)) ∧ MkL X fa G F m f k params body scope t.ys (2 * n))
end
theorem and1 {a b : Bool} (h : (a && b) = true) : a = true ∧ b = true := by rw [Bool.and_eq_true] at h; exact h
theorem notDbg_ok {x : Str} (h : notDbg x = true) : (x == ("__debug__" : Str)) = false ∧ (x == ("__classdict__" : Str)) = false ∧ x ≠ "__name__" := by
  obtain ⟨h1, h3⟩ := and1 h
  obtain ⟨h1, h2⟩ := and1 h1
  refine ⟨by simpa using h1, by simpa using h2, fun e => ?_⟩
  subst e
  simp at h3
section
variable {G : Nat → Option D} {F : Nat → Option Fn} {n : Nat} {fa : Lay} {W : EW} {Z : EZ} {c : SC} {X : Cx}
theorem GoodX.blk (g : GoodX G F n fa W c X) (hc : c.cold = true) (s : Shared) (H : Hp) (scope : Scope) (cl : List (Str × Addr)) (C : Addr) (fp : List Addr) : GoodX G F n fa W0 (c.blk scope) (X.blk s H scope (compEnvC scope cl C X.env) fp) := by
  have hn : c.hot = none := Option.isNone_iff_eq_none.mp hc
  refine ⟨g.ww, g.hN, ?_, fun x h => h, fun _ => g.cold hn, (fun _ _ _ e => by cases e), g.nd, g.room, PassesOwn.never, wis0, g.glo, g.bf, fun f x h => ⟨rfl, (g.cal f x h).2⟩, fun k x i h => ⟨rfl, (g.cls k x i h).2⟩, g.fld, fun k y i h => ⟨rfl, (g.met k y i h).2⟩, fun k y h => ?_, g.exm, g.ist, g.isv, g.hcl, g.hfn, g.isf, fun _ => g.clv hn, fun nm y tab h => let ⟨a, h1, h2, h3⟩ := g.dct nm y tab h; ⟨a, h1, h2, h3⟩, fun k t h => (by cases h)⟩
  rotate_left
  · obtain ⟨_, h1, h2, h3, h4, h5⟩ := g.exc k y h
    exact ⟨rfl, h1, h2, h3, h4, h5⟩
  show relS scope X.env.scope = relS scope c.sc
  rw [g.sc]
theorem cold_ok {c : SC} (h : c.cold = true) : c.hot = none := Option.isNone_iff_eq_none.mp h
theorem GoodX.roomC (g : GoodX G F n fa W c X) (h : c.hot = none) : Room (2 * n + 1) X.A := ⟨(g.cold h).2.2.1, (g.cold h).2.2.2.dp, (g.cold h).2.2.2.un⟩
theorem GoodX.calm (g : GoodX G F n fa W c X) (h : c.cold = true) : X.calm = true := (g.cold (cold_ok h)).2.1
theorem GoodX.kn (g : GoodX G F n fa W c X) (h : c.cold = true) : fa.keep = none := (g.cold (cold_ok h)).1
theorem GoodX.may (g : GoodX G F n fa W c X) {i : Nat} (h : c.mayB i = true) : fa.may i := fun v e => by
  unfold SC.mayB at h
  cases hh : c.hot with
  | none => rw [(g.cold hh).1] at e; cases e
  | some p =>
    obtain ⟨j, n, k⟩ := p
    rw [hh] at h
    obtain ⟨a, h1, _⟩ := g.hote j n k hh
    rw [h1] at e
    cases e
    exact of_decide_eq_true h rfl
theorem GoodX.vis (g : GoodX G F n fa W c X) {x : Str} (h : visB c x = true) : Vis X.env.scope x := by
  unfold visB at h
  obtain ⟨h, _⟩ := and1 h
  unfold Vis
  rw [g.sc]
  split at h
  · rename_i e; exact .inl e
  · rename_i e; exact .inr (.inl e)
  · rename_i e; exact .inr (.inr e)
  · cases h
theorem GoodX.gl (g : GoodX G F n fa W c X) {x : Str} (h : glB c x = true) : Gl X x := by
  obtain ⟨h, _⟩ := and1 h
  unfold Gl Env.kindOf
  rw [g.sc]
  exact of_decide_eq_true h
theorem glB_dbg {x : Str} (h : glB c x = true) : notDbg x = true := (and1 h).2
theorem GoodX.blt (g : GoodX G F n fa W c X) {x y : Str} (h : bltB c x y = true) : x = y ∧ Gl X x ∧ X.mg x = none ∧ notDbg x = true := by
  obtain ⟨h, h3⟩ := and1 h
  obtain ⟨h1, h2⟩ := and1 h
  exact ⟨of_decide_eq_true h1, g.gl h2, g.bf x (of_decide_eq_true h3), glB_dbg h2⟩
theorem GoodX.un (g : GoodX G F n fa W c X) : X.A.units + 65 < cLine := by have := g.room.un; omega
theorem asg_cons {e : Expr} {es : List Expr} {env : Env} (h : notStar e = true) : assignEach (e :: es) env = (false, assign e env) :: assignEach es env := by
  cases e <;> first | rfl | cases h
theorem star_all {pos : Pos} {env : Env} : ∀ {es : List Expr}, (∀ e ∈ es, notStar e = true) → (backTo pos (starEach es env)).all (fun x => !x.1) = true
  | [], _ => rfl
  | e :: es, h => by
    rw [star_cons (h e List.mem_cons_self)]
    show (true && (backTo pos (starEach es env)).all (fun x => !x.1)) = true
    rw [star_all fun q hq => h q (List.mem_cons_of_mem _ hq)]
    rfl
theorem noset_fold {e : Expr} {env : Env} (h : notSet e = true) : ∀ x, foldedSetIterable e env x = pure x := by
  intro x
  cases e <;> first | rfl | cases h
theorem noset_mark {e : Expr} {op : CmpOp} (h : notSet e = true) : behindInMarks op e = false := by
  cases e <;> first | rfl | cases h
theorem plain_ix {e : Expr} (h : notSlice e = true) : PlainIx e := by
  intro o i
  cases e <;> first | rfl | cases h
theorem base_ok {e : Expr} {a : Str} {env : Env} {w : Sem Value} (h : baseOk e = true) : attributeBase e a env w = w := by
  cases e <;> first | rfl | cases h
theorem plain_test {e : Expr} {env : Env} (h : plainTest e = true) : ∀ whole, isTrue e env whole = (do let v ← whole; standAt e.pos; holding [v] (truthy v)) := by
  intro whole
  cases e with
  | UnaryOp op x p => cases op <;> first | rfl | cases h
  | BoolOp => cases h
  | IfExp => cases h
  | Compare => cases h
  | _ => rfl
theorem op_binB {o : BOp} {op : Operator} (h : binB o op = true) : OpR X (binaryOp op) (rOp X.K fa fun μ x y => Res.of (binD o μ x y) μ) := by
  cases o <;> cases op <;> cases h
  · exact op_add'
  · exact op_sub'
  · exact op_mul'
  · exact op_fdiv'
  · exact op_mod'
  · exact op_pow'
theorem op_cmpB (g : GoodX G F n fa W c X) {o : COp} {op : CmpOp} (h : cmpB o op = true) : OpR X (compareOp op) (rOp X.K fa (cmpR o)) := by
  have u := g.un
  cases o <;> cases op <;> cases h
  · exact op_eqM (by omega)
  · exact op_neM (by omega)
  · exact op_ltM
  · exact op_leM
  · exact op_gtM
  · exact op_geM
  · exact op_isNM
  · exact op_notNM
  · exact op_inM g.ww u
  · exact op_ninM g.ww u
theorem pe_one {op : BoolOp} {e : Expr} {pos : Pos} {t : TE} (h : PE X e t) : PE X (.BoolOp op [e] pos) t := ⟨h.run⟩
theorem t_plain {e : Expr} {m : Rho → Mu → Res D} (h : PE X e (tE X.K fa W m)) (hp : plainTest e = true) : PT X e (tT X.K fa W (truP m).2) := t_truth h (plain_test hp)
end
end Ev

set_option Elab.async false
set_option linter.all false
set_option maxRecDepth 100000
set_option maxHeartbeats 1000000
/-! .. proved. -/
namespace Ev
open PySem PySem.Spec PyProof.Rows L2
theorem Res.assoc {α β γ : Type} (r : Res α) (f : α → Mu → Res β) (g : β → Mu → Res γ) : (r.bind f).bind g = r.bind fun a μ => (f a μ).bind g := by cases r <;> rfl
section
variable {G : Nat → Option D} {F : Nat → Option Fn} {n : Nat} {fa : Lay} {W : EW} {Z : EZ} {c : SC} {X : Cx}
/-! ### targets -/
mutual
theorem chkg_ok (g : GoodX G F n fa W c X) : ∀ (t : T) (x : Expr), chkG c t x = true → PG X x (tG X.K fa t)
  | .nm i, x, h => by
    cases x with
    | Name y pos =>
      unfold chkG at h
      obtain ⟨h1, h2⟩ := and1 (show tgtB c i y = true from h)
      obtain ⟨h1, hmay⟩ := and1 h1
      have hi : X.N[i]? = some y := by rw [g.hN]; exact of_decide_eq_true h1
      have nd : X.N.Nodup := by rw [g.hN]; exact g.nd
      cases hl : c.sc.names.lookup y with
      | none => rw [hl] at h2; cases h2
      | some k =>
        rw [hl] at h2
        cases k with
        | «local» => exact g_name (g.may hmay) nd hi (.inl (by rw [g.sc]; exact hl)) (.inr (by rw [g.sc]; exact hl))
        | cell => exact g_name (g.may hmay) nd hi (.inr (by rw [g.sc]; exact hl)) (.inl (g.fn y h2))
        | _ => cases h2
    | _ => unfold chkG at h; cases h
  | .tp ts, x, h => by
    cases x with
    | Tuple es k pos =>
      unfold chkG at h
      obtain ⟨hco, h⟩ := and1 h
      obtain ⟨h1, h2, h3, h4⟩ := chkgs_ok g ts es h
      exact g_tup (g.calm hco) h1 h2 h3 h4
    | _ => unfold chkG at h; cases h
theorem chkgs_ok (g : GoodX G F n fa W c X) : ∀ (ts : List T) (xs : List Expr), chkGs c ts xs = true → PGs X xs (tGs X.K fa ts) ∧ ts.length = xs.length ∧ (assignEach xs X.env).length = xs.length ∧ (assignEach xs X.env).findIdx? (·.1) = none
  | [], [], _ => ⟨g_nil, rfl, rfl, rfl⟩
  | [], x :: xs, h => by unfold chkGs at h; cases h
  | t :: ts, [], h => by unfold chkGs at h; cases h
  | t :: ts, x :: xs, h => by
    unfold chkGs at h
    obtain ⟨h1, h2⟩ := and1 h
    obtain ⟨h3, h4⟩ := and1 h1
    obtain ⟨q1, q2, q3, q4⟩ := chkgs_ok g ts xs h2
    have e := asg_cons (es := xs) (env := X.env) h3
    refine ⟨g_cons (chkg_ok g t x h4) q1 (by rw [e]; rfl), by rw [List.length_cons, List.length_cons, q2], by rw [e, List.length_cons, List.length_cons, q3], ?_⟩
    rw [e, List.findIdx?_cons]
    rw [q4]
    rfl
end
/-! ### built-ins -/
theorem bi_gen (g : GoodX G F n fa W c X) {b : Bi} {y : Str} {p pos : Pos} {x : Expr} {xs : List Expr} {ms : Rho → Mu → Res (List D)} (hy : bltB c y (biStr b) = true) (hs : ∀ z ∈ x :: xs, notStar z = true) (ha : PA X (x :: xs) (tA X.K fa W ms))
    (hc : (∃ id, biStr b = Str.ofString id ∧ CallR X (.builtin id) (rBi X.K fa (biR b)) ∧ bootBuiltins (Str.ofString id) = some (.builtin id)) ∨ ∃ id, biStr b = Str.ofString id ∧ CallR X (.type id) (rBi X.K fa (biR b)) ∧ bootBuiltins (Str.ofString id) = some (.type id)) :
    PE X (.Call (.Name y p) (x :: xs) [] pos) (tE X.K fa W fun ρ μ => (ms ρ μ).bind fun ds μ => Res.of (biD b μ ds) μ) := by
  obtain ⟨e, hg, hm, hd⟩ := g.blt hy
  obtain ⟨hd1, _, hd2⟩ := notDbg_ok hd
  have hs1 := star_cons (es := xs) (env := X.env) (hs x List.mem_cons_self)
  have hs2 := star_back (pos := pos) (env := X.env) (es := xs) fun z hz => hs z (List.mem_cons_of_mem _ hz)
  rcases hc with ⟨id, e2, hc, hb⟩ | ⟨id, e2, hc, hb⟩
  · exact e_biB hc hg hm (by rw [e, e2]; exact hb) ha hd2 hd1 hs1 hs2
  · exact e_biT hc hg hm (by rw [e, e2]; exact hb) ha hd2 hd1 hs1 hs2
theorem boot_ty : ∀ t : Ty, t.own = false → bootBuiltins (tyStr t) = some (.type t.nm)
  | .int, _ => boot_int
  | .bool, _ => boot_bool
  | .str, _ => boot_str
  | .tuple, _ => boot_tuple
  | .list, _ => boot_list
  | .dict, _ => boot_dict
theorem pall_one {call : Nat → List D → Mu → Res D} {es : List E} {x : Expr} (h : PAll G fa W X call es [x]) : ∃ e, es = [e] ∧ notStar x = true ∧ PE X x (tE X.K fa W (evE G call e)) := by
  cases es with
  | nil => unfold PAll at h; cases h
  | cons e es =>
    unfold PAll at h
    obtain ⟨y, r, er, h1, h2, h3⟩ := h
    cases er
    cases es with
    | cons _ _ => unfold PAll at h3; obtain ⟨_, _, q, _⟩ := h3; cases q
    | nil => exact ⟨e, rfl, h1, h2⟩
theorem rv_rng {K : PySem.W.Frag} {G' : Hp} {φ : Ph} (j : Int) : RVs K fa G' φ (rngL 0 j.toNat) (L2.rgV 0 j) := by
  refine RVs.of_get (by unfold rngL; rw [L2.rgV_length, List.length_map, List.length_range, Int.sub_zero]) fun i d v h1 h2 => ?_
  unfold rngL at h1
  unfold L2.rgV at h2
  rw [List.getElem?_map] at h1 h2
  obtain ⟨a, e1, rfl⟩ := ofmap h1
  obtain ⟨b, e2, rfl⟩ := ofmap h2
  have ha := (List.getElem?_eq_some_iff.mp e1)
  have hb := (List.getElem?_eq_some_iff.mp e2)
  obtain ⟨_, ha⟩ := ha
  obtain ⟨_, hb⟩ := hb
  rw [List.getElem_range] at ha hb
  subst ha; subst hb
  exact mk_int
theorem rg_some {f : List D → D} {a d : D} (h : rgD f a = some d) : ∃ j : Int, a = .int j ∧ RgOk 0 j ∧ d = f (rngL 0 j.toNat) := by
  cases a with
  | int j =>
    obtain ⟨c, e⟩ := ite_some (show (if -(2 ^ 62) ≤ j ∧ j ≤ 16777216 then some (f (rngL 0 j.toNat)) else none) = some d from h)
    cases e
    exact ⟨j, rfl, ⟨by omega, by omega, c.1, by omega, by omega⟩, rfl⟩
  | _ => cases h
theorem rgArg_some {xs ys : List Expr} (h : rgArg c xs = some ys) : ∃ y p a q, xs = [.Call (.Name y p) [a] [] q] ∧ ys = [a] ∧ bltB c y "range" = true := by
  unfold rgArg at h
  split at h
  · split at h
    · rename_i hb
      cases h
      exact ⟨_, _, _, _, rfl, rfl, hb⟩
    · cases h
  · cases h
theorem rg_run {f : List D → D} {o : List V → HO} {ma : Rho → Mu → Res D} (hf : ∀ {φ : Ph} {μ : Mu} {H : Hp} {l : List D} {vs : List V} {p : Addr}, Abs X.K fa φ μ H → RVs X.K fa (msk H φ) φ l vs → H p = none → Ext φ H φ (upd H p (o vs)) ∧ Abs X.K fa φ μ (upd H p (o vs)) ∧ RV X.K fa (msk (upd H p (o vs)) φ) φ (f l) (.ref p))
    (σ : L2.St) (H : Hp) (Q : VK) (h : tE X.K fa W (fun ρ μ => (ma ρ μ).bind fun v μ => Res.of (rgD f v) μ) σ H Q) : tE X.K fa W ma σ H fun x H1 => ∃ n, x = .int n ∧ RgOk 0 n ∧ ∀ q, H1 q = none → Q (.ref q) (upd H1 q (o (rgV 0 n))) := by
  obtain ⟨φ, μ, ρ, A, R, h⟩ := h
  refine ⟨φ, μ, ρ, A, R, h.bind.imp fun d μ1 φ1 H1 e1 A1 h1 v rv => ?_⟩
  obtain ⟨k, e, q⟩ := h1.of
  obtain ⟨j, rfl, ok, rfl⟩ := rg_some e
  cases rv_int rv
  refine ⟨j, rfl, ok, fun p hp => ?_⟩
  obtain ⟨x1, A2, r2⟩ := hf A1 (rv_rng j) hp
  exact q φ1 _ x1 A2 _ r2
theorem rg_runP {f : List D → D} {ma : Rho → Mu → Res D} (hf : ∀ {φ : Ph} {μ : Mu} {H : Hp} {l : List D} {vs : List V} {p : Addr} {o : Obj}, Abs X.K fa φ μ H → RVs X.K fa (msk H φ) φ l vs → o.dict = none → H p = none → Ext φ H φ (upd H p (.frz o (.tup vs))) ∧ Abs X.K fa φ μ (upd H p (.frz o (.tup vs))) ∧ RV X.K fa (msk (upd H p (.frz o (.tup vs))) φ) φ (f l) (.ref p))
    (σ : L2.St) (H : Hp) (Q : VK) (h : tE X.K fa W (fun ρ μ => (ma ρ μ).bind fun v μ => Res.of (rgD f v) μ) σ H Q) : tE X.K fa W ma σ H fun x H1 => ∃ n, x = .int n ∧ RgOk 0 n ∧ ∀ q o, o.dict = none → H1 q = none → Q (.ref q) (upd H1 q (.frz o (.tup (rgV 0 n)))) := by
  obtain ⟨φ, μ, ρ, A, R, h⟩ := h
  refine ⟨φ, μ, ρ, A, R, h.bind.imp fun d μ1 φ1 H1 e1 A1 h1 v rv => ?_⟩
  obtain ⟨k, e, q⟩ := h1.of
  obtain ⟨j, rfl, ok, rfl⟩ := rg_some e
  cases rv_int rv
  refine ⟨j, rfl, ok, fun p o ho hp => ?_⟩
  obtain ⟨x1, A2, r2⟩ := hf A1 (rv_rng j) ho hp
  exact q φ1 _ x1 A2 _ r2
theorem one_bind {call : Nat → List D → Mu → Res D} {e0 : E} {g : Mu → D → Option D} {b : Bi} (hb : ∀ μ ds, biD b μ ds = d1 ds (g μ)) : (fun (ρ : Rho) (μ : Mu) => (evE G call e0 ρ μ).bind fun v μ => Res.of (g μ v) μ) = fun ρ μ => (evEs G call [e0] ρ μ).bind fun ds μ => Res.of (biD b μ ds) μ := by
  funext ρ μ
  show _ = ((evE G call e0 ρ μ).bind fun x μ => (Res.ok [] μ).bind fun xs μ => .ok (x :: xs) μ).bind _
  rw [Res.assoc]
  congr 1
  funext x μ'
  show _ = Res.of (biD b μ' [x]) μ'
  rw [hb]
  rfl
theorem rg_ok (g : GoodX G F n fa W c X) (hco : c.cold = true) {call : Nat → List D → Mu → Res D} {b : Bi} {y : Str} {p pos : Pos} {xs ys : List Expr} {es : List E} (hy : bltB c y (biStr b) = true) (hb : b = .tupRg ∨ b = .lstRg) (hx : rgArg c xs = some ys) (ha : PAll G fa W X call es ys) :
    PE X (.Call (.Name y p) xs [] pos) (tE X.K fa W fun ρ μ => (evEs G call es ρ μ).bind fun ds μ => Res.of (biD b μ ds) μ) := by
  obtain ⟨e, hg, hm, hd⟩ := g.blt hy
  obtain ⟨y2, p2, a, q, rfl, rfl, hb2⟩ := rgArg_some hx
  obtain ⟨e2, hg2, hm2, _⟩ := g.blt hb2
  obtain ⟨e0, rfl, h1, h2⟩ := pall_one ha
  subst e2
  have hr := prg_1 (p := p2) (pos := q) hg2 hm2 h2 (star_cons h1)
  rcases hb with rfl | rfl
  · have e : y = "tuple" := e
    subst e
    have r := PE.imp (pe_tupRgP (p := p) (pos := pos) (g.calm hco) hg hm hr (star_cons rfl)) fun σ H Q h => rg_runP (f := .tup) (fun A r ho hp => new_tup A r ho hp) σ H Q h
    rw [one_bind (g := fun _ a => rgD .tup a) (b := .tupRg) fun _ _ => rfl] at r
    exact r
  · have e : y = "list" := e
    subst e
    have r := PE.imp (pe_listRg (p := p) (pos := pos) (g.calm hco) hg hm hr (star_cons rfl)) fun σ H Q h => rg_run (f := .lst) (o := .lst) (fun A r hp => new_lst A r hp) σ H Q h
    rw [one_bind (g := fun _ a => rgD .lst a) (b := .lstRg) fun _ _ => rfl] at r
    exact r
theorem ls_ok (g : GoodX G F n fa W c X) (hco : c.cold = true) {call : Nat → List D → Mu → Res D} {y : Str} {p pos : Pos} {xs ys : List Expr} {es : List E} (hy : bltB c y (biStr .lenset) = true) (hx : bixs c .lenset xs = some ys) (ha : PAll G fa W X call es ys) :
    PE X (.Call (.Name y p) xs [] pos) (tE X.K fa W fun ρ μ => (evEs G call es ρ μ).bind fun ds μ => Res.of (biD .lenset μ ds) μ) := by
  obtain ⟨e, hg, hm, hd⟩ := g.blt hy
  unfold bixs at hx
  dsimp only at hx
  split at hx
  · rename_i y2 p2 a q
    split at hx
    · rename_i hb2
      cases hx
      obtain ⟨e2, hg2, hm2, _⟩ := g.blt hb2
      obtain ⟨e0, rfl, h1, h2⟩ := pall_one ha
      subst e2
      have e : y = "len" := e
      subst e
      have r := PE.imp (pe_lenT (p := p) (pos := pos) (p2 := p2) (q := q) (g.calm hco) hg hm hg2 hm2 h2 (star_cons h1)) fun σ H Q (h : tE X.K fa W (fun ρ μ => (evE G call e0 ρ μ).bind fun v μ => Res.of ((seqOf μ v).bind fun l => (strsOf l).bind fun ss => if ss.length < 4000 then some (.int (unlike ss)) else none) μ) σ H Q) => by
        obtain ⟨φ, μ, ρ, A, R, h⟩ := h
        refine ⟨φ, μ, ρ, A, R, h.bind.imp fun d μ1 φ1 H1 e1 A1 h1 v rv => ?_⟩
        obtain ⟨k, e, q⟩ := h1.of
        obtain ⟨l, hl, e⟩ := ofbind e
        obtain ⟨ts, ht, e⟩ := ofbind e
        obtain ⟨hb, e⟩ := ite_some e
        cases e
        obtain ⟨p, vs, rfl, hs, rs⟩ := seq_at A1 rv hl
        obtain ⟨rfl, _⟩ := strs_rvs rs ht
        exact ⟨p, ts, rfl, hs, hb, q φ1 H1 (Ext.refl _ _) A1 _ mk_int⟩
      rw [one_bind (g := fun μ v => (seqOf μ v).bind fun l => (strsOf l).bind fun ss => if ss.length < 4000 then some (.int (unlike ss)) else none) (b := .lenset) fun _ _ => rfl] at r
      exact r
    · cases hx
  · cases hx
theorem bi_all_ok (g : GoodX G F n fa W c X) {call : Nat → List D → Mu → Res D} {b : Bi} {y : Str} {p pos : Pos} {xs ys : List Expr} {es : List E} (hy : bltB c y (biStr b) = true) (hh : (b.hotOk || c.cold) = true) (hx : bixs c b xs = some ys) (ha : PAll G fa W X call es ys) :
    PE X (.Call (.Name y p) xs [] pos) (tE X.K fa W fun ρ μ => (evEs G call es ρ μ).bind fun ds μ => Res.of (biD b μ ds) μ) := by
  have hgen : bixs c b xs = nonNil xs → ((∃ id, biStr b = Str.ofString id ∧ CallR X (.builtin id) (rBi X.K fa (biR b)) ∧ bootBuiltins (Str.ofString id) = some (.builtin id)) ∨ ∃ id, biStr b = Str.ofString id ∧ CallR X (.type id) (rBi X.K fa (biR b)) ∧ bootBuiltins (Str.ofString id) = some (.type id)) →
      PE X (.Call (.Name y p) xs [] pos) (tE X.K fa W fun ρ μ => (evEs G call es ρ μ).bind fun ds μ => Res.of (biD b μ ds) μ) := fun e hc => by
    rw [e] at hx
    cases xs with
    | nil => cases hx
    | cons x xs =>
      cases hx
      exact bi_gen g hy ha.star ha.pa hc
  have hco : b.hotOk = false → c.cold = true := fun e => by rw [e] at hh; exact hh
  clear hh
  cases b with
  | len => exact hgen rfl (.inl ⟨"len", rfl, bi_len, boot_len⟩)
  | tuple => exact hgen rfl (.inr ⟨"tuple", rfl, bi_tuple, boot_tuple⟩)
  | list => exact hgen rfl (.inr ⟨"list", rfl, bi_list, boot_list⟩)
  | min2 => exact hgen rfl (.inl ⟨"min", rfl, bi_min2 (g.calm (hco rfl)), boot_min⟩)
  | max2 => exact hgen rfl (.inl ⟨"max", rfl, bi_max2 (g.calm (hco rfl)), boot_max⟩)
  | int => exact hgen rfl (.inr ⟨"int", rfl, bi_int, boot_int⟩)
  | str => exact hgen rfl (.inr ⟨"str", rfl, bi_str, boot_str⟩)
  | all => exact hgen rfl (.inl ⟨"all", rfl, bi_all (g.calm (hco rfl)), boot_all⟩)
  | any => exact hgen rfl (.inl ⟨"any", rfl, bi_any (g.calm (hco rfl)), boot_any⟩)
  | sum => exact hgen rfl (.inl ⟨"sum", rfl, bi_sum (g.calm (hco rfl)), boot_sum⟩)
  | abs => exact hgen rfl (.inl ⟨"abs", rfl, bi_abs, boot_abs⟩)
  | divmod => exact hgen rfl (.inl ⟨"divmod", rfl, bi_divmod, boot_divmod⟩)
  | maxL => exact hgen rfl (.inl ⟨"max", rfl, bi_maxL (g.calm (hco rfl)), boot_max⟩)
  | ord => exact hgen rfl (.inl ⟨"ord", rfl, bi_ord, boot_ord⟩)
  | isTL => cases hx
  | lenset => exact ls_ok g (hco rfl) hy hx ha
  | tupRg => exact rg_ok g (hco rfl) hy (.inl rfl) hx ha
  | lstRg => exact rg_ok g (hco rfl) hy (.inr rfl) hx ha
  | isin t =>
    obtain ⟨e, hg, hm, hd⟩ := g.blt hy
    obtain ⟨hd1, _, hd2⟩ := notDbg_ok hd
    unfold bixs at hx
    dsimp only at hx
    split at hx
    · rename_i a z p2
      split at hx
      · rename_i hc
        cases hx
        obtain ⟨hc1, hc2⟩ := and1 hc
        obtain ⟨e2, hg2, hm2, hd'⟩ := g.blt hc1
        obtain ⟨hd3, _, hd4⟩ := notDbg_ok hd'
        have ht : t.own = false := by simpa using hc2
        cases es with
        | nil => unfold PAll at ha; cases ha
        | cons e0 es =>
          unfold PAll at ha
          obtain ⟨x, r, er, h1, h2, h3⟩ := ha
          cases er
          cases es with
          | cons _ _ => unfold PAll at h3; obtain ⟨_, _, q, _⟩ := h3; cases q
          | nil =>
            have q := pe_isin (t := t) (p := p) (p2 := p2) (pos := pos) ht hg hm (by rw [e]; exact boot_isinstance) hg2 hm2 (by rw [e2]; exact boot_ty t ht) h2 hd2 hd1 hd4 hd3 (star_cons h1)
            have ee : (fun (ρ : Rho) (μ : Mu) => (evE G call e0 ρ μ).bind fun v μ => Res.of ((kindIs μ t v).map D.bl) μ) = fun ρ μ => (evEs G call [e0] ρ μ).bind fun ds μ => Res.of (biD (.isin t) μ ds) μ := by
              funext ρ μ
              show _ = ((evE G call e0 ρ μ).bind fun x μ => (Res.ok [] μ).bind fun xs μ => .ok (x :: xs) μ).bind _
              rw [Res.assoc]
              rfl
            rw [ee] at q
            exact q
      · cases hx
    · cases hx
/-! ### what is walked -/
/-- pairs that a walk makes are taken apart -/
theorem wk_tp {c c' : SC} {k : IK} {iter tg : Expr} {ys : List Expr} {t : T} (hx : srcB c k iter tg = some ys) (hg : chkG c' t tg = true) : k.wk = true → ∃ ts, t = .tp ts := fun hk => by
  cases t with
  | tp ts => exact ⟨ts, rfl⟩
  | nm i =>
    have ht : ∃ y p, tg = .Name y p := by
      unfold chkG at hg
      split at hg
      · exact ⟨_, _, rfl⟩
      · cases hg
    obtain ⟨y, p, rfl⟩ := ht
    cases k with
    | enum => unfold srcB at hx; dsimp only at hx; split at hx <;> simp_all
    | zip2 => unfold srcB at hx; dsimp only at hx; split at hx <;> simp_all
    | _ => cases hk
theorem src_ok (g : GoodX G F n fa W c X) {call : Nat → List D → Mu → Res D} {k : IK} {iter tg : Expr} {ys : List Expr} {es : List E} (hx : srcB c k iter tg = some ys) (ha : PAll G fa W X call es ys) : PI X tg iter (iD X.K fa W k (evEs G call es)) := by
  cases k with
  | seq =>
    cases hx
    cases es with
    | nil => unfold PAll at ha; cases ha
    | cons e0 es =>
      unfold PAll at ha
      obtain ⟨x, r, er, h1, h2, h3⟩ := ha
      cases er
      cases es with
      | cons _ _ => unfold PAll at h3; obtain ⟨_, _, q, _⟩ := h3; cases q
      | nil =>
        have q := pi_seq (tg := tg) h2
        exact q
  | rng1 =>
    unfold srcB at hx
    dsimp only at hx
    split at hx
    · split at hx
      · rename_i hb
        cases hx
        obtain ⟨rfl, hg, hm, _⟩ := g.blt hb
        exact pi_rng1 hg hm ha.pa (star_cons (ha.star _ List.mem_cons_self))
      · cases hx
    · cases hx
  | rng2 =>
    unfold srcB at hx
    dsimp only at hx
    split at hx
    · split at hx
      · rename_i hb
        cases hx
        obtain ⟨rfl, hg, hm, _⟩ := g.blt hb
        have h1 := ha.star _ List.mem_cons_self
        have h2 := ha.star _ (List.mem_cons_of_mem _ List.mem_cons_self)
        exact pi_rng2 hg hm ha.pa (by rw [star_cons h1, star_cons h2]; rfl) (star_cons h2)
      · cases hx
    · cases hx
  | rng3 =>
    unfold srcB at hx
    dsimp only at hx
    split at hx
    · split at hx
      · rename_i hb
        cases hx
        obtain ⟨rfl, hg, hm, _⟩ := g.blt hb
        have h1 := ha.star _ List.mem_cons_self
        exact pi_rng3 hg hm ha.pa (star_cons h1) (star_back fun z hz => ha.star z (List.mem_cons_of_mem _ hz))
      · cases hx
    · cases hx
  | rev =>
    unfold srcB at hx
    dsimp only at hx
    split at hx
    · split at hx
      · rename_i hb
        cases hx
        obtain ⟨rfl, hg, hm, _⟩ := g.blt hb
        obtain ⟨e0, rfl, h1, h2⟩ := pall_one ha
        have e1 : (fun (ρ : Rho) (μ : Mu) => (evE G call e0 ρ μ).bind fun x μ => .ok [x] μ) = evEs G call [e0] := by
          funext ρ μ
          rfl
        rw [← e1]
        exact pi_revD hg hm h2 (star_cons h1)
      · cases hx
    · cases hx
  | enum =>
    unfold srcB at hx
    dsimp only at hx
    split at hx
    · split at hx
      · rename_i hb
        cases hx
        obtain ⟨rfl, hg, hm, _⟩ := g.blt hb
        exact pi_enumD hg hm ha.pa (star_cons (ha.star _ List.mem_cons_self))
      · cases hx
    · cases hx
  | zip2 =>
    unfold srcB at hx
    dsimp only at hx
    split at hx
    · split at hx
      · rename_i hb
        cases hx
        obtain ⟨rfl, hg, hm, _⟩ := g.blt hb
        have h1 := ha.star _ List.mem_cons_self
        have h2 := ha.star _ (List.mem_cons_of_mem _ List.mem_cons_self)
        exact pi_zipD hg hm ha.pa (star_cons h1) (star_back fun z hz => by
          rcases List.mem_cons.mp hz with rfl | hz
          · exact h2
          · cases hz)
      · cases hx
    · cases hx
end
end Ev

set_option Elab.async false
set_option linter.all false
set_option maxRecDepth 100000
set_option maxHeartbeats 1000000
/-! The look at an expression tells the truth. -/
namespace Ev
open PySem PySem.Spec PyProof.Rows L2
theorem some_get {α : Type} {o : Option α} {f : α → Bool} (h : (match o with | some y => f y | none => false) = true) : ∃ y, o = some y ∧ f y = true := by
  cases o with
  | none => cases h
  | some y => exact ⟨y, rfl, h⟩
theorem ownOf_snd (c : SC) (own : List Nat) : (ownOf c own).map (·.2) = own := by
  unfold ownOf
  rw [List.map_map]
  exact List.map_id own
section
variable (G : Nat → Option D) (F : Nat → Option Fn) (n : Nat) (fa : Lay) (W : EW)
abbrev EOk (X : Cx) (e : E) (x : Expr) : Prop := PE X x (tE X.K fa W (evE G (run G F n) e))
def TOk (X : Cx) (e : E) (x : Expr) : Prop := PT X x (tT X.K fa W (evT G (run G F n) e)) ∧ ∀ op vs pos, x = .BoolOp op vs pos → PW X x (tT X.K fa W (evT G (run G F n) e))
end
section
variable {G : Nat → Option D} {F : Nat → Option Fn} {n : Nat} {fa : Lay} {W : EW} {Z : EZ} {c : SC} {X : Cx}
theorem tru_ok {m : Rho → Mu → Res D} {f : Expr → Bool} {x : Expr} (h : f x = true → PE X x (tE X.K fa W m)) :
    ((truL f).1 x = true → PE X x (tE X.K fa W (truP m).1)) ∧ ((truL f).2 x = true → PT X x (tT X.K fa W (truP m).2) ∧ ∀ op vs pos, x = .BoolOp op vs pos → PW X x (tT X.K fa W (truP m).2)) := by
  refine ⟨h, fun q => ?_⟩
  obtain ⟨h1, h2⟩ := and1 q
  exact ⟨t_plain (h h2) h1, fun op vs pos e => by subst e; cases h1⟩
theorem un1_e {op : BoolOp} {y : Expr} {rest : List Expr} {pos : Pos} {t : TE} (h : PE X (un1 op y rest pos) t) : PE X (.BoolOp op (y :: rest) pos) t := by
  cases rest with
  | nil => exact pe_one h
  | cons _ _ => exact h
theorem un1_and {y : Expr} {rest : List Expr} {pos : Pos} {t : TT} (h : PT X (un1 .And y rest pos) t ∧ ∀ op vs p, un1 .And y rest pos = .BoolOp op vs p → PW X (un1 .And y rest pos) t) : PW X (.BoolOp .And (y :: rest) pos) t := by
  cases rest with
  | nil => exact pw_and1 h.1
  | cons _ _ => exact h.2 _ _ _ rfl
theorem un1_or {y : Expr} {rest : List Expr} {pos : Pos} {t : TT} (h : PT X (un1 .Or y rest pos) t ∧ ∀ op vs p, un1 .Or y rest pos = .BoolOp op vs p → PW X (un1 .Or y rest pos) t) : PW X (.BoolOp .Or (y :: rest) pos) t := by
  cases rest with
  | nil => exact pw_or1 h.1
  | cons _ _ => exact h.2 _ _ _ rfl
theorem con_ok {d : D} {k : Const} {j : Nat} {pos : Pos} (h : conB d k = true) : PE X (.Constant k j pos) (tE X.K fa W fun _ μ => .ok d μ) := by
  cases k with
  | none => cases d <;> first | exact e_tc pe_non (fun _ _ => mk_non) | cases h
  | bool b =>
    cases d with
    | bl a =>
      have : a = b := by simpa [conB] using h
      subst this
      exact e_tc pe_bl fun _ _ => mk_bl
    | _ => cases h
  | int i =>
    cases d with
    | int a =>
      have : i = a := of_decide_eq_true h
      subst this
      exact e_tc pe_int fun _ _ => mk_int
    | _ => cases h
  | str s =>
    cases d with
    | str a =>
      obtain ⟨h1, h2⟩ := and1 h
      have e : s = sOf a := by
        rw [← (of_decide_eq_true h1 : s.cps.toList = a)]
        unfold sOf
        cases s
        simp
      rw [e]
      exact e_tc pe_str fun _ _ => mk_str h2
    | _ => cases h
  | _ => cases d <;> cases h
theorem e_g {m m' : Rho → Mu → Res D} {x : Expr} (h : PE X x (tE X.K fa W m)) (e : m = m') : PE X x (tE X.K fa W m') := e ▸ h
theorem glo_ok (g : GoodX G F n fa W c X) {k : Nat} {y : Str} {pos : Pos} (h1 : c.tb.gl.lookup k = some y) (h2 : glB c y = true) : PE X (.Name y pos) (tE X.K fa W fun _ μ => Res.of (G k) μ) := by
  obtain ⟨u, v, d, hm, r, hG, hv⟩ := g.glo k y h1
  refine e_g (m := fun _ μ => .ok d μ) (e_tc (pe_glob (g.gl h2) hm r (notDbg_ok (glB_dbg h2)).1) hv) ?_
  funext ρ μ
  rw [hG]
  rfl
theorem call_ok (g : GoodX G F n fa W c X) {k : Nat} {y : Str} {p pos : Pos} {es : List E} {xs : List Expr} (h1 : c.tb.fn.lookup k = some y) (h2 : glB c y = true) (ha : PAll G fa W X (run G F n) es xs) :
    PE X (.Call (.Name y p) xs [] pos) (tE X.K fa W fun ρ μ => (evEs G (run G F n) es ρ μ).bind fun ds μ => run G F n k ds μ) := by
  obtain ⟨hno, fd, ps, Fo, hm, hk, hb⟩ := g.cal k y h1
  have hdb := (notDbg_ok (glB_dbg h2)).1
  cases xs with
  | nil =>
    cases es with
    | nil => exact e_call0 g.wis Fo ((g.roomC hno).mono (by omega)) (g.gl h2) hm hk hb hdb
    | cons _ _ => unfold PAll at ha; obtain ⟨_, _, q, _⟩ := ha; cases q
  | cons x xs =>
    exact e_call g.wis Fo ((g.roomC hno).mono (by omega)) (g.gl h2) hm hk hb ha.pa hdb (star_cons (ha.star x List.mem_cons_self)) (star_back fun z hz => ha.star z (List.mem_cons_of_mem _ hz))
theorem new_ok (g : GoodX G F n fa W c X) {k i : Nat} {y : Str} {p pos : Pos} {es : List E} {xs : List Expr} (h1 : (k, y, i) ∈ c.tb.cl) (h2 : glB c y = true) (h3 : xs.isEmpty = false) (ha : PAll G fa W X (run G F n) es xs) :
    PE X (.Call (.Name y p) xs [] pos) (tE X.K fa W fun ρ μ => (evEs G (run G F n) es ρ μ).bind fun ds μ => (run G F n i (.loc μ.length :: ds) (μ ++ [.obj k []])).bind fun r μ' => if r = .non then .ok (.loc μ.length) μ' else .no) := by
  obtain ⟨hno, f, fd, ps, M, Fo, hm, hb⟩ := g.cls k y i h1
  have hdb := (notDbg_ok (glB_dbg h2)).1
  cases xs with
  | nil => cases h3
  | cons x xs => exact e_new g.wis M Fo (g.roomC hno) (g.gl h2) hm hb ha.pa hdb (star_cons (ha.star x List.mem_cons_self)) (star_back fun z hz => ha.star z (List.mem_cons_of_mem _ hz))
theorem fld_ok (g : GoodX G F n fa W c X) {k a : Nat} {y : Str} {pos : Pos} {o : Expr} {eo : E} (h1 : (k, a, y) ∈ c.tb.fl) (hb : baseOk o = true) (ho : PE X o (tE X.K fa W (evE G (run G F n) eo))) :
    PE X (.Attribute o y pos) (tE X.K fa W fun ρ μ => (evE G (run G F n) eo ρ μ).bind fun x μ => Res.of (fldD μ k a x) μ) := by
  obtain ⟨q1, q2, q3, rfl⟩ := g.fld k a y h1
  exact e_fld q1 q2 q3 ho (base_ok hb)
theorem meth_ok (g : GoodX G F n fa W c X) {k i : Nat} {y : Str} {ap pos : Pos} {o : Expr} {eo : E} {es : List E} {xs : List Expr} (h1 : (k, y, i) ∈ c.tb.me) (hl : (ap.endLine == pos.line) = true) (hn : xs.length < 20) (hb : baseOk o = true) (ho : PE X o (tE X.K fa W (evE G (run G F n) eo))) (ha : PAll G fa W X (run G F n) es xs) :
    PE X (.Call (.Attribute o y ap) xs [] pos) (tE X.K fa W fun ρ μ => (evE G (run G F n) eo ρ μ).bind fun x μ => if (objAt μ k x).isSome then (evEs G (run G F n) es ρ μ).bind fun ds μ => run G F n i (x :: ds) μ else .no) := by
  obtain ⟨hno, f, fd, ps, hc, hm, Fo, hb', hy⟩ := g.met k y i h1
  have hr := (g.roomC hno).mono (show 2 * n ≤ 2 * n + 1 by omega)
  cases xs with
  | nil =>
    cases es with
    | nil => exact e_meth0 g.wis hc hm hy Fo hr hb' ho (meth_form (base_ok hb) hl rfl)
    | cons _ _ => unfold PAll at ha; obtain ⟨_, _, q, _⟩ := ha; cases q
  | cons x xs =>
    have s1 := star_cons (es := xs) (env := X.env) (ha.star x List.mem_cons_self)
    have s2 := star_back (pos := pos) (env := X.env) (es := xs) fun z hz => ha.star z (List.mem_cons_of_mem _ hz)
    refine e_meth g.wis hc hm hy Fo hr hb' ho ha.pa s1 s2 (meth_form (base_ok hb) hl ?_)
    unfold methodCallForm
    rw [star_all (pos := pos) (env := X.env) ha.star]
    show (true && true && decide ((x :: xs).length + 0 + 0 < 30)) = true
    have : (x :: xs).length + 0 + 0 < 30 := by omega
    rw [decide_eq_true this]
    rfl
theorem me_slot : ∀ m : Me, ∃ id, PlainAttrs m.ty ∧ Slot m.ty (meStr m) id ∧ typeOf (.builtin id) = pure (.type "method_descriptor") ∧ ∀ (X : Cx) (fa : Lay), MtR X id (rMe X.K fa (meR m))
  | .append => ⟨_, PySem.F.plainAttrs_list, PySem.F.slot_list_append, PySem.F.type_list_append, fun _ _ => me_append⟩
  | .extend => ⟨_, PySem.F.plainAttrs_list, PySem.F.slot_list_extend, PySem.F.type_list_extend, fun _ _ => me_extend⟩
  | .pop => ⟨_, PySem.F.plainAttrs_list, PySem.F.slot_list_pop, PySem.F.type_list_pop, fun _ _ => me_pop⟩
  | .popAt => ⟨_, PySem.F.plainAttrs_list, PySem.F.slot_list_pop, PySem.F.type_list_pop, fun _ _ => me_popAt⟩
  | .index => ⟨_, PySem.F.plainAttrs_str, PySem.F.slot_str_index, PySem.F.type_str_index, fun _ _ => me_index⟩
  | .join => ⟨_, PySem.F.plainAttrs_str, PySem.F.slot_str_join, PySem.F.type_str_join, fun _ _ => me_join⟩
  | .insert => ⟨_, PySem.F.plainAttrs_list, PySem.F.slot_list_insert, PySem.F.type_list_insert, fun _ _ => me_insert⟩
  | .reverse => ⟨_, PySem.F.plainAttrs_list, PySem.F.slot_list_reverse, PySem.F.type_list_reverse, fun _ _ => me_reverse⟩
theorem me_ok (g : GoodX G F n fa W c X) {m : Me} {o : Expr} {eo : E} {ap cp : Pos} {xs : List Expr} {es : List E} (hl : (ap.endLine == cp.line) = true) (hb : baseOk o = true) (hn : xs.length < 20) (ho : PE X o (tE X.K fa W (evE G (run G F n) eo))) (ha : PAll G fa W X (run G F n) es xs) :
    PE X (.Call (.Attribute o (meStr m) ap) xs [] cp) (tE X.K fa W fun ρ μ => (evE G (run G F n) eo ρ μ).bind fun x μ => if meTy m μ x then (evEs G (run G F n) es ρ μ).bind fun ds μ => meD m μ x ds else .no) := by
  obtain ⟨id, pa, slot, hty, hm⟩ := me_slot m
  cases xs with
  | nil =>
    cases es with
    | nil => exact e_me0 pa slot hty (hm X fa) ho (base_ok hb) hl
    | cons _ _ => unfold PAll at ha; obtain ⟨_, _, q, _⟩ := ha; cases q
  | cons x xs =>
    refine e_me pa slot hty (hm X fa) ho ha.pa (base_ok hb) ?_ hl (star_cons (ha.star x List.mem_cons_self)) (star_back fun z hz => ha.star z (List.mem_cons_of_mem _ hz))
    rw [star_all (pos := cp) (env := X.env) ha.star]
    show (true && true && decide ((x :: xs).length + 0 + 0 < 30)) = true
    have : (x :: xs).length + 0 + 0 < 30 := by omega
    rw [decide_eq_true this]
    rfl
theorem lookP {α : Type} : ∀ {l : List (Nat × α)} {k : Nat} {x : α}, l.lookup k = some x → (k, x) ∈ l
  | [], _, _, h => by cases h
  | (j, y) :: r, k, x, h => by
    rw [List.lookup_cons] at h
    cases hk : k == j with
    | true =>
      rw [hk] at h
      rw [eq_of_beq hk, Option.some.inj h]
      exact List.mem_cons_self
    | false =>
      rw [hk] at h
      exact List.mem_cons_of_mem _ (lookP h)
theorem hot_at (g : GoodX G F n fa W c X) {k : Nat} {e : Expr} {b : Bool} (h : hotAt c k e = some b) : ClN X (fa.cl k) e b ∧ notStar e = true := by
  cases e with
  | Name u pos =>
    unfold hotAt at h
    dsimp only at h
    by_cases hg : glB c u = true
    · rw [if_pos hg] at h
      have hdb := notDbg_ok (glB_dbg hg)
      split at h
      · rename_i p hp
        cases h
        have hm := List.mem_of_find?_eq_some hp
        have hq0 := List.find?_some hp
        have hq : p.1 = u ∧ p.2.1 = k := by simpa using hq0
        obtain ⟨e1, e2⟩ := hq
        obtain ⟨C, h1, h2⟩ := g.ist p.1 p.2.1 p.2.2 hm
        rw [e1] at h1
        rw [e2] at h2
        exact ⟨⟨_, _, .own C, pe_glob (g.gl hg) h1 rfl hdb.1, h2⟩, rfl⟩
      · by_cases hv : u = "ValueError" ∧ u ∈ c.tb.bf
        · rw [if_pos hv] at h
          obtain ⟨e, hb⟩ := hv
          refine ⟨⟨_, _, .ty "ValueError", pe_bltn (g.gl hg) (g.bf u hb) (by rw [e]; decide +kernel) rfl hdb.2.2 hdb.1, g.isv k b (lookP h)⟩, rfl⟩
        · rw [if_neg hv] at h; cases h
    · rw [if_neg hg] at h; cases h
  | _ => cases h
theorem hot_all (g : GoodX G F n fa W c X) {k : Nat} : ∀ {es : List Expr} {bs : List Bool}, hotAll c k es = some bs → Paired (fun e b => ClN X (fa.cl k) e b) es bs ∧ ∀ e ∈ es, notStar e = true
  | [], bs, h => by
    cases h
    exact ⟨.nil, fun _ h => by cases h⟩
  | e :: es, bs, h => by
    unfold hotAll at h
    obtain ⟨b, h1, h⟩ := ofbind h
    obtain ⟨bs', h2, rfl⟩ := ofmap h
    obtain ⟨q1, q2⟩ := hot_at g h1
    obtain ⟨q3, q4⟩ := hot_all g h2
    exact ⟨.cons q1 q3, fun x hx => (List.mem_cons.mp hx).elim (fun e => e ▸ q2) (q4 x)⟩
theorem hot_con (g : GoodX G F n fa W c X) {b : Bool} {x : Expr} (h : cHot c b x = true) : PE X x (tE X.K fa W fun _ μ => .ok (.bl b) μ) := by
  unfold cHot at h
  split at h
  · split at h
    · rename_i i m k hh
      obtain ⟨h, h1⟩ := and1 h
      obtain ⟨h, h2⟩ := and1 h
      obtain ⟨h, h3⟩ := and1 h
      obtain ⟨h, h4⟩ := and1 h
      obtain ⟨a, ha, he⟩ := g.hote _ _ _ hh
      obtain ⟨e1, hg, hm, hd⟩ := g.blt h
      subst e1
      have e2 := of_decide_eq_true h4
      subst e2
      have hN := of_decide_eq_true h3
      rw [← g.hN] at hN
      obtain ⟨d1, d2, _⟩ := notDbg_ok (and1 h2).2
      have h1 := of_decide_eq_true h1
      unfold hotAsk at h1
      split at h1
      · split at h1
        · rename_i hl
          obtain ⟨bs, h5, rfl⟩ := ofmap h1
          obtain ⟨q1, q2⟩ := hot_all g h5
          exact e_hotT he ha hN (g.vis h2) d1 d2 hg hm q1 q2 hl
        · cases h1
      · obtain ⟨q1, q2⟩ := hot_at g h1
        exact e_hot1 he ha hN (g.vis h2) d1 d2 hg hm q1 q2
    · cases h
  · split at h
    · rename_i i m k hh
      obtain ⟨h, h1⟩ := and1 h
      obtain ⟨h, h2⟩ := and1 h
      obtain ⟨h, h3⟩ := and1 h
      obtain ⟨h4, h5⟩ := and1 h
      obtain ⟨a, ha, he⟩ := g.hote _ _ _ hh
      have e2 := of_decide_eq_true h3
      subst e2
      have hN := of_decide_eq_true h2
      rw [← g.hN] at hN
      obtain ⟨d1, d2, _⟩ := notDbg_ok (and1 h1).2
      exact e_hotF (g.hfn _ _ _ (of_decide_eq_true h4)).2 he ha (g.hfn _ _ _ (of_decide_eq_true h4)).1 hN (g.vis h1) d1 d2 (g.gl h5) (notDbg_ok (glB_dbg h5)).1
    · cases h
  · cases h
theorem fnv_ok (g : GoodX G F n fa W c X) {k : Nat} {x : Expr} (h : cFnv c k x = true) : PE X x (tE X.K fa W fun _ μ => .ok (.fn k []) μ) := by
  unfold cFnv at h
  split at h
  · obtain ⟨h1, h2⟩ := and1 h
    obtain ⟨h1, h3⟩ := and1 h1
    have h1 := of_decide_eq_true h1
    obtain ⟨hno, fd, ps, _, hm, _, _⟩ := g.cal _ _ h1
    refine e_tc (pe_glob (v := .ref (fa.fn k)) (g.gl h3) hm rfl (notDbg_ok (glB_dbg h3)).1) fun _ _ => ?_
    unfold RV
    rw [if_pos (of_decide_eq_true h2)]
    exact ⟨rfl, g.isf _ _ h1, rfl⟩
  · cases h
theorem tget_ok (g : GoodX G F n fa W c X) {nm : Nat} {tab : List (Txt × D)} {k d : E} {y m : Str} {p ap cp : Pos} {a b : Expr} (hm : m = "get") (hl : (ap.endLine == cp.line) = true) (ht : (nm, y, tab) ∈ c.tb.dc) (hg : glB c y = true) (ha : notStar a = true) (hb : notStar b = true)
    (h1 : PE X a (tE X.K fa W (evE G (run G F n) k))) (h2 : PE X b (tE X.K fa W (evE G (run G F n) d))) :
    PE X (.Call (.Attribute (.Name y p) m ap) [a, b] [] cp) (tE X.K fa W (evE G (run G F n) (.tget nm tab k d))) := by
  subst hm
  obtain ⟨a', hmg, T⟩ := g.dct nm y tab ht
  have s1 := star_cons (es := [b]) (env := X.env) ha
  have s2 := star_cons (es := []) (env := X.env) hb
  refine e_tget T (g.gl hg) hmg (notDbg_ok (glB_dbg hg)).1 h1 h2 ⟨rfl, ?_, hl, ?_⟩
  · rw [s1, s2]
    rfl
  · rw [s1, s2]
    rfl
theorem tget1_ok (g : GoodX G F n fa W c X) {nm : Nat} {tab : List (Txt × D)} {k d : E} {y m : Str} {p ap cp : Pos} {a : Expr} (hm : m = "get") (hl : (ap.endLine == cp.line) = true) (ht : (nm, y, tab) ∈ c.tb.dc) (hg : glB c y = true) (ha : notStar a = true)
    (h1 : PE X a (tE X.K fa W (evE G (run G F n) k))) (hd : isNon d = true) : PE X (.Call (.Attribute (.Name y p) m ap) [a] [] cp) (tE X.K fa W (evE G (run G F n) (.tget nm tab k d))) := by
  subst hm
  obtain ⟨a', hmg, T⟩ := g.dct nm y tab ht
  have s1 := star_cons (es := []) (env := X.env) ha
  have ed : d = .con .non := by
    unfold isNon at hd
    split at hd
    · rfl
    · cases hd
  subst ed
  refine e_g (e_tget1 T (g.gl hg) hmg (notDbg_ok (glB_dbg hg)).1 h1 ⟨rfl, ?_, hl, ?_⟩) rfl
  · rw [s1]
    rfl
  · rw [s1]
    rfl
theorem callv_ok (g : GoodX G F n fa W c X) {i : Nat} {es : List E} {y : Str} {p pos : Pos} {xs : List Expr} (hco : c.cold = true) (hN : c.N[i]? = some y) (hv : visB c y = true) (hx : xs ≠ []) (ha : PAll G fa W X (run G F n) es xs) :
    PE X (.Call (.Name y p) xs [] pos) (tE X.K fa W (evE G (run G F n) (.callv i es))) := by
  obtain ⟨d1, d2, _⟩ := notDbg_ok (and1 hv).2
  cases xs with
  | nil => exact absurd rfl hx
  | cons x xs =>
    refine e_g (e_callv g.wis (by rw [g.hN]; exact hN) (g.vis hv) ((g.roomC (cold_ok hco)).mono (show 2 * n ≤ 2 * n + 1 by omega)) d1 d2 (g.clv (cold_ok hco)) ha.pa (star_cons (ha.star x List.mem_cons_self)) (star_back fun z hz => ha.star z (List.mem_cons_of_mem _ hz))) ?_
    funext ρ μ
    show _ = (match ρ[i]? with
      | some (some (.fn k l)) => (evEs G (run G F n) es ρ μ).bind fun ds μ => run G F n k (ds ++ l) μ
      | _ => Res.no)
    rfl
theorem cap_ok (g : GoodX G F n fa W c X) : ∀ {caps : List Nat} {ys : List Str}, capB c caps ys = true → caps.length = ys.length ∧ ∀ (j : Nat) (y : Str), ys[j]? = some y → ∃ i, caps[j]? = some i ∧ X.N[i]? = some y ∧ X.env.scope.names.lookup y = some .cell
  | [], [], _ => ⟨rfl, fun j y h => by simp at h⟩
  | [], _ :: _, h => by cases h
  | _ :: _, [], h => by cases h
  | i :: is, y :: ys, h => by
    unfold capB at h
    obtain ⟨h1, h2⟩ := and1 h
    obtain ⟨h1, h3⟩ := and1 h1
    obtain ⟨q1, q2⟩ := cap_ok g h2
    refine ⟨by rw [List.length_cons, List.length_cons, q1], fun j z hz => ?_⟩
    cases j with
    | zero =>
      simp only [List.getElem?_cons_zero, Option.some.injEq] at hz
      subst hz
      exact ⟨i, rfl, by rw [g.hN]; exact of_decide_eq_true h1, by rw [g.sc]; exact of_decide_eq_true h3⟩
    | succ j => 
      obtain ⟨i', z1, z2⟩ := q2 j z (by simpa using hz)
      exact ⟨i', by simpa using z1, z2⟩
theorem callL_ok (g : GoodX G F n fa W c X) {f k : Nat} {es : List E} {caps : List Nat} {y : Str} {p pos : Pos} {xs zs : List Expr} {params : Arguments} {body : Expr} {scope : Scope} {t : LamT} (h1 : c.tb.fn.lookup f = some y) (h2 : glB c y = true) (hLB : ¬ k < LB)
    (hx : lastLam xs = some (zs, params, body, scope)) (ht : c.tb.lm.lookup k = some t) (hz : zs ≠ []) (hok : t.ok params body scope = true) (hcap : capB c caps t.ys = true) (ha : PAll G fa W X (run G F n) es zs) :
    PE X (.Call (.Name y p) xs [] pos) (tE X.K fa W (evE G (run G F n) (.callL f es k caps))) := by
  obtain ⟨lpos, rfl⟩ := lastLam_eq hx
  obtain ⟨hno, fd, ps, _, hm, hk, _⟩ := g.cal f y h1
  obtain ⟨hcold, hl⟩ := g.lam k t ht
  obtain ⟨L, hdef, hcal⟩ := hl f y params body scope h1 hok
  obtain ⟨c1, c2⟩ := cap_ok g hcap
  cases zs with
  | nil => exact absurd rfl hz
  | cons z zs =>
    refine e_g (e_callL (cal := run G F n (f + LB)) g.wis hLB hdef L c1 c2 hcal ((g.roomC hcold).mono (show 2 * n ≤ 2 * n + 1 by omega)) (g.gl h2) hm hk (notDbg_ok (glB_dbg h2)).1 ha) ?_
    funext ρ μ
    show _ = (evEs G (run G F n) es ρ μ).bind fun ds μ => match capt ρ caps with
      | some cs => run G F n (f + LB) (ds ++ [.fn k cs]) μ
      | none => .no
    rfl
mutual
theorem chk_ok : ∀ (e : E) (W : EW) (c : SC) (X : Cx) (g : GoodX G F n fa W c X) (x : Expr), ((chkP e c).1 x = true → EOk G F n fa W X e x) ∧ ((chkP e c).2 x = true → TOk G F n fa W X e x)
  | .var i, W, c, X, g, x => tru_ok fun h => by
    cases x with
    | Name y pos =>
      obtain ⟨h1, h2⟩ := and1 h
      obtain ⟨d1, d2, _⟩ := notDbg_ok (and1 h2).2
      exact e_var (by rw [g.hN]; exact of_decide_eq_true h1) (g.vis h2) d1 d2
    | _ => cases h
  | .con d, W, c, X, g, x => tru_ok fun h => by
    unfold cConH at h
    cases d with
    | bl b =>
      rcases Bool.or_eq_true_iff.mp h with h | h
      · cases x with
        | Constant k j pos => exact con_ok h
        | _ => cases h
      · exact hot_con g h
    | _ =>
      cases x with
      | Constant k j pos => exact con_ok h
      | _ => cases h
  | .glo k, W, c, X, g, x => tru_ok fun h => by
    cases x with
    | Name y pos =>
      obtain ⟨h1, h2⟩ := and1 h
      exact glo_ok g (of_decide_eq_true h1) h2
    | _ => cases h
  | .bin o a b, W, c, X, g, x => tru_ok fun h => by
    cases x with
    | BinOp l op r pos =>
      obtain ⟨h1, h2⟩ := and1 h
      obtain ⟨h2, h3⟩ := and1 h2
      exact e_bin (op_binB h1) ((chk_ok a _ c X g l).1 h2) ((chk_ok b _ c X g r).1 h3)
    | _ => cases h
  | .neg a, W, c, X, g, x => tru_ok fun h => by
    cases x with
    | UnaryOp op y pos =>
      cases op with
      | USub => exact e_neg ((chk_ok a _ c X g y).1 h)
      | _ => cases h
    | _ => cases h
  | .cmp o a b, W, c, X, g, x => by
    have key : cCmp o (chkP a c).1 (chkP b c).1 x = true → ∃ l op r pos, x = .Compare l [op] [r] pos ∧ cmpB o op = true ∧ notSet r = true ∧ (chkP a c).1 l = true ∧ (chkP b c).1 r = true := fun h => by
      unfold cCmp at h
      split at h
      · obtain ⟨h1, h2⟩ := and1 h
        obtain ⟨h1, h3⟩ := and1 h1
        obtain ⟨h4, h5⟩ := and1 h2
        exact ⟨_, _, _, _, rfl, h1, h3, h4, h5⟩
      · cases h
    refine ⟨fun h => ?_, fun h => ?_⟩
    · obtain ⟨l, op, r, pos, rfl, h1, h2, h3, h4⟩ := key h
      exact e_cmp (op_cmpB g h1) ((chk_ok a _ c X g l).1 h3) ((chk_ok b _ c X g r).1 h4) (noset_mark h2)
    · obtain ⟨l, op, r, pos, rfl, h1, h2, h3, h4⟩ := key h
      exact ⟨t_cmp (op_cmpB g h1) ((chk_ok a _ c X g l).1 h3) ((chk_ok b _ c X g r).1 h4) (noset_mark h2), fun op vs pos e => by cases e⟩
  | .cmp2 o o' a b d, W, c, X, g, x => by
    have key : cCmp2 o o' (chkP a c).1 (chkP b c).1 (chkP d c).1 x = true → ∃ l op op' r q pos, x = .Compare l [op, op'] [r, q] pos ∧ cmpB o op = true ∧ cmpB o' op' = true ∧ lastMarks [op, op'] [r, q] = false ∧ (chkP a c).1 l = true ∧ (chkP b c).1 r = true ∧ (chkP d c).1 q = true := fun h => by
      unfold cCmp2 at h
      split at h
      · obtain ⟨h1, h2⟩ := and1 h
        obtain ⟨h1, h3⟩ := and1 h1
        obtain ⟨h1, h4⟩ := and1 h1
        obtain ⟨h1, h5⟩ := and1 h1
        obtain ⟨h2, h6⟩ := and1 h2
        obtain ⟨h2, h7⟩ := and1 h2
        exact ⟨_, _, _, _, _, _, rfl, h1, h5, noset_mark h3, h2, h7, h6⟩
      · cases h
    refine ⟨fun h => ?_, fun h => ?_⟩
    · obtain ⟨l, op, op', r, q, pos, rfl, h1, h2, h3, h4, h5, h6⟩ := key h
      exact e_cmp2 (op_cmpB g h1) (op_cmpB g h2) ((chk_ok a _ c X g l).1 h4) ((chk_ok b _ c X g r).1 h5) ((chk_ok d _ c X g q).1 h6) h3
    · obtain ⟨l, op, op', r, q, pos, rfl, h1, h2, h3, h4, h5, h6⟩ := key h
      exact ⟨t_cmp2 (op_cmpB g h1) (op_cmpB g h2) ((chk_ok a _ c X g l).1 h4) ((chk_ok b _ c X g r).1 h5) ((chk_ok d _ c X g q).1 h6) h3, fun op vs pos e => by cases e⟩
  | .and_ a b, W, c, X, g, x => by
    refine ⟨fun h => ?_, fun h => ?_⟩
    · have h : cAnd (chkP a c).1 (chkP b c).1 x = true := h
      unfold cAnd at h
      split at h
      · obtain ⟨h1, h2⟩ := and1 h
        exact e_and ((chk_ok a _ c X g _).1 h1) (un1_e ((chk_ok b _ c X g _).1 h2))
      · cases h
    · have h : cAnd (chkP a c).2 (chkP b c).2 x = true := h
      unfold cAnd at h
      split at h
      · obtain ⟨h1, h2⟩ := and1 h
        have q := t_and ((chk_ok a _ c X g _).2 h1).1 (un1_and ((chk_ok b _ c X g _).2 h2))
        exact ⟨q.pt, fun _ _ _ _ => q⟩
      · cases h
  | .or_ a b, W, c, X, g, x => by
    refine ⟨fun h => ?_, fun h => ?_⟩
    · have h : cOr (chkP a c).1 (chkP b c).1 x = true := h
      unfold cOr at h
      split at h
      · obtain ⟨h1, h2⟩ := and1 h
        exact e_or ((chk_ok a _ c X g _).1 h1) (un1_e ((chk_ok b _ c X g _).1 h2))
      · cases h
    · have h : cOr (chkP a c).2 (chkP b c).2 x = true := h
      unfold cOr at h
      split at h
      · obtain ⟨h1, h2⟩ := and1 h
        have q := t_or ((chk_ok a _ c X g _).2 h1).1 (un1_or ((chk_ok b _ c X g _).2 h2))
        exact ⟨q.pt, fun _ _ _ _ => q⟩
      · cases h
  | .not_ a, W, c, X, g, x => by
    refine ⟨fun h => ?_, fun h => ?_⟩
    · cases x with
      | UnaryOp op y pos =>
        cases op with
        | Not => exact e_not ((chk_ok a _ c X g y).1 h)
        | _ => cases h
      | _ => cases h
    · cases x with
      | UnaryOp op y pos =>
        cases op with
        | Not => exact ⟨t_not ((chk_ok a _ c X g y).2 h).1, fun op vs pos e => by cases e⟩
        | _ => cases h
      | _ => cases h
  | .ite q a b, W, c, X, g, x => tru_ok fun h => by
    cases x with
    | IfExp t y z pos =>
      obtain ⟨h1, h2⟩ := and1 h
      obtain ⟨h1, h3⟩ := and1 h1
      exact e_ite ((chk_ok q _ c X g t).2 h1).1 ((chk_ok a _ c X g y).1 h3) ((chk_ok b _ c X g z).1 h2)
    | _ => cases h
  | .tup es, W, c, X, g, x => tru_ok fun h => by
    cases x with
    | Tuple xs k pos => exact e_tup (chks_ok es _ c X g xs h).pa
    | _ => cases h
  | .lst m es, W, c, X, g, x => tru_ok fun h => by
    cases x with
    | List xs pos => exact e_lst m (chks_ok es _ c X g xs h).pa
    | _ => cases h
  | .cat a b, W, c, X, g, x => tru_ok fun h => by
    cases x with
    | BinOp l op r pos =>
      cases op with
      | Add =>
        obtain ⟨h2, h3⟩ := and1 h
        exact e_cat ((chk_ok a _ c X g l).1 h2) ((chk_ok b _ c X g r).1 h3)
      | _ => cases h
    | _ => cases h
  | .lrep es a, W, c, X, g, x => tru_ok fun h => by
    unfold cLrep at h
    split at h
    · obtain ⟨h1, h2⟩ := and1 h
      exact e_lrep (chks_ok es _ c X g _ h1).pa ((chk_ok a _ c X g _).1 h2)
    · cases h
  | .idx a i, W, c, X, g, x => tru_ok fun h => by
    cases x with
    | Subscript l r pos =>
      obtain ⟨h1, h2⟩ := and1 h
      obtain ⟨h2, h3⟩ := and1 h2
      exact e_ix g.ww (by have := g.un; omega) ((chk_ok a _ c X g l).1 h2) ((chk_ok i _ c X g r).1 h3) (plain_ix h1)
    | _ => cases h
  | .slc a lo hi, W, c, X, g, x => tru_ok fun h => by
    unfold cSlc at h
    split at h
    · obtain ⟨h1, h2⟩ := and1 h
      obtain ⟨h2, h3⟩ := and1 h2
      exact e_slc ((chk_ok a _ c X g _).1 h1) (chko_ok lo _ c X g _ h2) (chko_ok hi _ c X g _ h3)
    · cases h
  | .call f es, W, c, X, g, x => tru_ok fun h => by
    unfold cCall at h
    split at h
    · obtain ⟨h1, h2⟩ := and1 h
      obtain ⟨h1, h3⟩ := and1 h1
      exact call_ok g (of_decide_eq_true h1) h3 (chks_ok es _ c X g _ h2)
    · cases h
  | .bi b es, W, c, X, g, x => tru_ok fun h => by
    unfold cBi at h
    split at h
    · obtain ⟨h1, h2⟩ := and1 h
      obtain ⟨h1, hh⟩ := and1 h1
      split at h2
      · rename_i e
        exact bi_all_ok g h1 hh e (chks_ok es _ c X g _ h2)
      · cases h2
    · cases h
  | .me m o es, W, c, X, g, x => tru_ok fun h => by
    unfold cMe at h
    split at h
    · obtain ⟨h1, h2⟩ := and1 h
      obtain ⟨h1, h3⟩ := and1 h1
      obtain ⟨h1, h4⟩ := and1 h1
      obtain ⟨h1, h5⟩ := and1 h1
      obtain ⟨h6, h7⟩ := and1 h2
      rw [of_decide_eq_true h1]
      exact me_ok g h5 h4 (of_decide_eq_true h3) ((chk_ok o _ c X g _).1 h6) (chks_ok es _ c X g _ h7)
    · cases h
  | .comp m own elt t k src q, W, c, X, g, x => tru_ok fun h => by
    unfold cComp at h
    split at h
    · rename_i y tg iter ifs a scope pos
      obtain ⟨h1, h2⟩ := and1 h
      obtain ⟨h1, h3⟩ := and1 h1
      obtain ⟨h1, h4⟩ := and1 h1
      obtain ⟨h1, h5⟩ := and1 h1
      obtain ⟨h1, h6⟩ := and1 h1
      obtain ⟨hco, h1⟩ := and1 h1
      obtain ⟨h2, h7⟩ := and1 h2
      obtain ⟨h2, h8⟩ := and1 h2
      obtain ⟨ys, e, h9⟩ : ∃ ys, srcB c k iter tg = some ys ∧ chkEs src c ys = true := by
        split at h3
        · rename_i ys e; exact ⟨ys, e, h3⟩
        · cases h3
      have ea : a = 0 := of_decide_eq_true h1
      subst ea
      have ok : BlkOk X.N X.env.scope scope (ownOf c own) := by rw [g.hN, g.sc]; exact blkOk_by h6
      have hv : ∀ j ∈ t.vars, j ∈ (ownOf c own).map (·.2) := fun j hj => by
        rw [ownOf_snd]
        exact of_decide_eq_true (List.all_eq_true.mp h5 j hj)
      have r := e_comp (m := m) (k := k) (pos := pos) (g.kn hco) (wk_tp e h2) (g.calm hco) (by rw [g.hN]; exact g.nd) (src_ok g e (chks_ok src _ c X g ys h9)) ok hv
        (fun s H C cl fp => chkg_ok (g.blk hco s H scope cl C fp) t tg h2) (fun s H C cl fp => chkc_ok q _ (c.blk scope) _ (g.blk hco s H scope cl C fp) ifs h8)
        (fun s H C cl fp => (chk_ok elt _ (c.blk scope) _ (g.blk hco s H scope cl C fp) y).1 h7) (noset_fold h4)
      rw [ownOf_snd] at r
      exact r
    · cases h
  | .dict0, W, c, X, g, x => tru_ok fun h => by
    unfold cDict0 at h
    split at h
    · exact e_dict0
    · cases h
  | .dictP e, W, c, X, g, x => tru_ok fun h => by
    unfold cDictP at h
    split at h
    · obtain ⟨h1, h2⟩ := and1 h
      obtain ⟨h1, h3⟩ := and1 h1
      obtain ⟨hco, h1⟩ := and1 h1
      obtain ⟨rfl, hg, hm, _⟩ := g.blt h1
      exact e_dictP (g.calm hco) (by have := g.un; omega) g.ww hg hm ((chk_ok e _ c X g _).1 h2) (star_cons h3)
    · cases h
  | .dictL _ _, W, c, X, g, x => tru_ok fun h => (by cases h)
  | .mlst _, W, c, X, g, x => tru_ok fun h => (by cases h)
  | .zipL a b, W, c, X, g, x => tru_ok fun h => by
    unfold cZipL at h
    split at h
    · obtain ⟨h1, h2⟩ := and1 h
      obtain ⟨h1, h3⟩ := and1 h1
      obtain ⟨h1, h4⟩ := and1 h1
      obtain ⟨h1, h5⟩ := and1 h1
      obtain ⟨hcold, h6⟩ := and1 h1
      have hcalm := g.calm hcold
      obtain ⟨hx1, hx2⟩ := and1 h2
      have k1 := h4
      have k2 := h3
      obtain ⟨rfl, g1, m1, _⟩ := g.blt h6
      obtain ⟨rfl, g2, m2, _⟩ := g.blt h5
      have hp : PAll G fa W X (run G F n) [a, b] [_, _] := ⟨_, _, rfl, k1, (chk_ok a _ c X g _).1 hx1, _, _, rfl, k2, (chk_ok b _ c X g _).1 hx2, rfl⟩
      refine e_g (e_zipL hcalm g1 m1 g2 m2 hp.pa (star_cons k1) (star_back fun z hz => by rw [List.mem_singleton.mp hz]; exact k2)) ?_
      funext ρ μ
      show ((evE G (run G F n) a ρ μ).bind fun x μ => ((evE G (run G F n) b ρ μ).bind fun y μ => (Res.ok [] μ).bind fun xs μ => Res.ok (y :: xs) μ).bind fun xs μ => .ok (x :: xs) μ).bind _ = (evE G (run G F n) a ρ μ).bind fun x μ => (evE G (run G F n) b ρ μ).bind fun y μ => Res.of (zipLD μ [x, y]) μ
      rw [Res.assoc]
      congr 1
      funext x μ1
      rw [Res.assoc, Res.assoc]
      rfl
    · cases h
  | .fnv k, W, c, X, g, x => tru_ok fun h => fnv_ok g h
  | .tget nm tab k d, W, c, X, g, x => tru_ok fun h => by
    unfold cTget at h
    split at h
    · obtain ⟨h1, h2⟩ := and1 h
      obtain ⟨h1, h4⟩ := and1 h1
      obtain ⟨h1, h5⟩ := and1 h1
      obtain ⟨h1, h6⟩ := and1 h1
      obtain ⟨h1, h7⟩ := and1 h1
      obtain ⟨h2, h8⟩ := and1 h2
      exact tget1_ok g (of_decide_eq_true h1) h7 (of_decide_eq_true h6) h5 h4 ((chk_ok k _ c X g _).1 h2) h8
    · obtain ⟨h1, h2⟩ := and1 h
      obtain ⟨h1, h3⟩ := and1 h1
      obtain ⟨h1, h4⟩ := and1 h1
      obtain ⟨h1, h5⟩ := and1 h1
      obtain ⟨h1, h6⟩ := and1 h1
      obtain ⟨h1, h7⟩ := and1 h1
      obtain ⟨h2, h8⟩ := and1 h2
      exact tget_ok g (of_decide_eq_true h1) h7 (of_decide_eq_true h6) h5 h4 h3 ((chk_ok k _ c X g _).1 h2) ((chk_ok d _ c X g _).1 h8)
    · cases h
  | .callv i es, W, c, X, g, x => tru_ok fun h => by
    unfold cCallv at h
    split at h
    · obtain ⟨h1, h2⟩ := and1 h
      obtain ⟨h1, h3⟩ := and1 h1
      obtain ⟨h1, h4⟩ := and1 h1
      obtain ⟨h1, h5⟩ := and1 h1
      exact callv_ok g h1 (of_decide_eq_true h5) h4 (by simpa using h3) (chks_ok es _ c X g _ h2)
    · cases h
  | .callL f es k caps, W, c, X, g, x => tru_ok fun h => by
    unfold cCallL at h
    split at h
    · obtain ⟨h1, h2⟩ := and1 h
      obtain ⟨h1, h3⟩ := and1 h1
      obtain ⟨h1, h4⟩ := and1 h1
      split at h2
      · rename_i zs p b s t e1 e2
        obtain ⟨h2, h5⟩ := and1 h2
        obtain ⟨h2, h6⟩ := and1 h2
        obtain ⟨h2, h7⟩ := and1 h2
        exact callL_ok g (of_decide_eq_true h1) h4 (by simpa using h3) e1 e2 (by simpa using h2) h7 h6 (chks_ok es _ c X g _ h5)
      · cases h2
    · cases h
  | .new k fi es, W, c, X, g, x => tru_ok fun h => by
    unfold cNew at h
    split at h
    · obtain ⟨h1, h2⟩ := and1 h
      obtain ⟨h1, h3⟩ := and1 h1
      obtain ⟨h1, h4⟩ := and1 h1
      exact new_ok g (of_decide_eq_true h1) h4 (by simpa using h3) (chks_ok es _ c X g _ h2)
    · cases h
  | .fld k a o, W, c, X, g, x => tru_ok fun h => by
    unfold cFld at h
    split at h
    · obtain ⟨h1, h2⟩ := and1 h
      obtain ⟨h1, h3⟩ := and1 h1
      exact fld_ok g (of_decide_eq_true h3) h1 ((chk_ok o _ c X g _).1 h2)
    · cases h
  | .meth k fi o es, W, c, X, g, x => tru_ok fun h => by
    unfold cMeth at h
    split at h
    · obtain ⟨h1, h2⟩ := and1 h
      obtain ⟨h1, h3⟩ := and1 h1
      obtain ⟨h1, h5⟩ := and1 h1
      obtain ⟨h1, h6⟩ := and1 h1
      obtain ⟨h2, h4⟩ := and1 h2
      exact meth_ok g (of_decide_eq_true h3) h1 (of_decide_eq_true h6) h5 ((chk_ok o _ c X g _).1 h2) (chks_ok es _ c X g _ h4)
    · cases h
theorem chks_ok : ∀ (es : List E) (W : EW) (c : SC) (X : Cx) (g : GoodX G F n fa W c X) (xs : List Expr), chkEs es c xs = true → PAll G fa W X (run G F n) es xs
  | [], W, c, X, g, xs, h => by
    cases xs with
    | nil => unfold PAll; rfl
    | cons _ _ => unfold chkEs at h; cases h
  | e :: es, W, c, X, g, xs, h => by
    cases xs with
    | nil => unfold chkEs at h; cases h
    | cons x xs =>
      unfold chkEs at h
      obtain ⟨h1, h2⟩ := and1 h
      obtain ⟨h1, h3⟩ := and1 h1
      unfold PAll
      exact ⟨x, xs, rfl, h1, (chk_ok e _ c X g x).1 h3, chks_ok es _ c X g xs h2⟩
theorem chko_ok : ∀ (o : Option E) (W : EW) (c : SC) (X : Cx) (g : GoodX G F n fa W c X) (x : Option Expr), chkO o c x = true → PO X x (tI X.K fa W (evO G (run G F n) o))
  | none, W, c, X, g, x, h => by
    cases x with
    | none => exact o_none
    | some _ => unfold chkO at h; cases h
  | some e, W, c, X, g, x, h => by
    cases x with
    | none => unfold chkO at h; cases h
    | some x => unfold chkO at h; exact o_some ((chk_ok e _ c X g x).1 h)
theorem chkc_ok : ∀ (q : Option E) (W : EW) (c : SC) (X : Cx) (g : GoodX G F n fa W c X) (xs : List Expr), chkC q c xs = true → PTs X xs (tT X.K fa W (evC G (run G F n) q))
  | none, W, c, X, g, xs, h => by
    cases xs with
    | nil =>
      refine ⟨fun pins s σ H Q I h => pts_nil.run pins s σ H Q I ?_⟩
      obtain ⟨φ, μ, ρ, A, R, h⟩ := h
      exact h.here A
    | cons _ _ => unfold chkC at h; cases h
  | some e, W, c, X, g, xs, h => by
    match xs, h with
    | [x], h =>
      unfold chkC at h
      exact pts_one ((chk_ok e _ c X g x).2 h).1
    | [], h => unfold chkC at h; cases h
    | _ :: _ :: _, h => unfold chkC at h; cases h
end
end
end Ev

set_option Elab.async false
set_option linter.all false
set_option maxRecDepth 100000
set_option maxHeartbeats 1000000
/-! The look at statements and defs. -/
namespace Ev
open PySem PySem.Spec PyProof.Rows L2
/-- no stores are exchanged -/
def noSwap : Expr → Expr → Bool
  | .Tuple .., .Tuple .. => false
  | .List .., .Tuple .. => false
  | _, _ => true
def isSub : Expr → Bool
  | .Subscript .. => true
  | _ => false
/-- a name takes a list's comprehension: at once, or not -/
def swB (c : SC) (y : Str) (py : Pos) (scope : Scope) (pos : Pos) : Bool := decide (c.sc.names.lookup y = some .local) && (py.line == pos.line) && !(scope.names.any fun (n, k) => n == y && (k == .local || k == .cell))
/-- may the value be stored in the common way -/
def plainAsg (c : SC) (tg x : Expr) : Bool := match x with
  | .ListComp _ _ scope pos => (match tg with
    | .Name y py => !(swB c y py scope pos)
    | _ => true)
  | x => notComp x
/-- .. or as a comprehension of one clause -/
def compAsg (c : SC) (tg x : Expr) (t : T) (e : E) : Bool := match x, tg, t, e with
  | .ListComp _ _ scope pos, .Name y py, .nm _, .comp .. => swB c y py scope pos
  | _, _, _, _ => false
mutual
def chkS : S → SC → Stmt → Bool
  | .expr e => fun c st => match st with
    | .Expr x _ => notComp x && (chkP e c).1 x
    | _ => false
  | .ret e => fun c st => match st with
    | .Return (some x) _ => (chkP e c).1 x
    | _ => false
  | .retN => fun _ st => match st with
    | .Return none _ => true
    | _ => false
  | .asg t e => fun c st => match st with
    | .Assign [tg] x _ => (plainAsg c tg x || compAsg c tg x t e) && noSwap tg x && notStar tg && (chkG c t tg && (chkP e c).1 x)
    | _ => false
  | .setIdx o i e => fun c st => match st with
    | .Assign [.Subscript xo xi _] x _ => notComp x && notSlice xi && ((chkP o c).1 xo && (chkP i c).1 xi && (chkP e c).1 x)
    | _ => false
  | .if_ q a b => fun c st => match st with
    | .If x A B _ => (chkP q c).2 x && (chkSs a c A && chkSs b c B)
    | _ => false
  | .while_ _ q b => fun c st => match st with
    | .While x B [] _ => (chkP q c).2 x && chkSs b c B
    | _ => false
  | .for_ _ t k src b => fun c st => match st with
    | .For tg iter B [] _ => c.cold && notSet iter && (match srcB c k iter tg with
      | some ys => chkEs src c ys
      | none => false) && (chkG c t tg && chkSs b c B)
    | _ => false
  | .pass => fun _ st => match st with
    | .Pass _ => true
    | _ => false
  | .brk => fun _ st => match st with
    | .Break _ => true
    | _ => false
  | .cont => fun _ st => match st with
    | .Continue _ => true
    | _ => false
  | .setSlc _ _ _ _ => fun _ _ => false
  | .setFld k a o e => fun c st => match st with
    | .Assign [.Attribute xo y _] x _ => notComp x && decide ((k, a, y) ∈ c.tb.fl) && ((chkP o c).1 xo && (chkP e c).1 x)
    | _ => false
  | .augFld k a o e => fun c st => match st with
    | .AugAssign (.Attribute xo y _) .Add x _ => baseOk xo && decide ((k, a, y) ∈ c.tb.fl) && ((chkP o c).1 xo && (chkP e c).1 x)
    | _ => false
  | .raise_ k => fun c st => match st with
    | .Raise (some (.Call (.Name y _) [.Constant (.str _) _ _] [] _)) none _ => decide ((k, y) ∈ c.tb.ec) && glB c y
    | _ => false
  | .try_ b yes no h => fun c st => match st with
    | .Try B [.ExceptHandler (some (.Name y _)) none (h0 :: hs) _] [] [] _ => c.cold && glB c y && (yes.all fun k => decide ((y, k, true) ∈ c.tb.em)) && (no.all fun k => decide ((y, k, false) ∈ c.tb.em)) && decide (yes ≠ [] ∨ no ≠ []) && hotS h && (chkSs b c B && chkSs h c (h0 :: hs))
    | _ => false
  | .tryA b i k no h => fun c st => match st with
    | .Try B [.ExceptHandler (some (.Name y _)) (some n) (h0 :: hs) _] [] [] _ => c.cold && glB c y && decide ((y, k, true) ∈ c.tb.em) && (no.all fun k => decide ((y, k, false) ∈ c.tb.em)) && decide (k ∈ c.tb.hc) && decide (c.N[i]? = some n) && decide (c.sc.names.lookup n = some .local) && (chkSs b c B && chkSs h (c.suite i n k) (h0 :: hs))
    | _ => false
def chkSs : List S → SC → List Stmt → Bool
  | [] => fun _ xs => xs.isEmpty
  | s :: ss => fun c xs => match xs with
    | x :: xs => chkS s c x && chkSs ss c xs
    | [] => false
end
section
variable {G : Nat → Option D} {F : Nat → Option Fn} {n : Nat} {fa : Lay} {W : EW} {Z : EZ} {c : SC} {X : Cx}
theorem notcomp_sw {x : Expr} {t : Option Expr} {l : Nat} {env : Env} (h : notComp x = true) : swapsWith x t l env = pure false := by
  cases x <;> first | rfl | cases h
theorem noswap_ok {tg x : Expr} {env : Env} (h : noSwap tg x = true) : swappedStores [tg] x env = pure none := by
  cases tg <;> cases x <;> first | rfl | cases h
theorem plain_asg (g : GoodX G F n fa W c X) {tg x : Expr} {l : Nat} (h : plainAsg c tg x = true) : swapsWithSole [tg] x l X.env = pure false := by
  have key : notComp x = true → swapsWithSole [tg] x l X.env = pure false := fun h => notcomp_sw h
  cases x with
  | ListComp elt gs scope pos =>
    cases tg with
    | Name y py =>
      have h : (!(swB c y py scope pos)) = true := h
      have h : swB c y py scope pos = false := by simpa using h
      show swapsWith (.ListComp elt gs scope pos) (some (.Name y py)) l X.env = pure false
      unfold swapsWith
      show pure _ = pure false
      congr 1
      unfold swB at h
      show (X.env.blockKind == .function && X.env.kindOf y == some .local && py.line == pos.line && !(scope.names.any fun (n, k) => n == y && (k == .local || k == .cell))) = false
      by_cases hk : X.env.kindOf y = some .local
      · have e : decide (c.sc.names.lookup y = some NameKind.local) = true := by
          rw [← g.sc]; exact decide_eq_true hk
        rw [e, Bool.true_and] at h
        rw [Bool.and_assoc, h, Bool.and_false]
      · have : (X.env.kindOf y == some .local) = false := by simpa using hk
        rw [this, Bool.and_false]
        rfl
    | _ => rfl
  | SetComp => exact key h
  | DictComp => exact key h
  | _ => exact key h
/-- a comprehension's parts -/
theorem comp_inv (g : GoodX G F n fa W c X) {m : Bool} {own : List Nat} {elt : E} {t : T} {k : IK} {src : List E} {q : Option E} {x : Expr} (h : (chkP (.comp m own elt t k src q) c).1 x = true) :
    ∃ y tg iter ifs scope pos, x = .ListComp y [⟨tg, iter, ifs, 0⟩] scope pos ∧ PI X tg iter (iD X.K fa W k (evEs G (run G F n) src)) ∧ BlkOk X.N X.env.scope scope (ownOf c own) ∧ (∀ j ∈ t.vars, j ∈ (ownOf c own).map (·.2)) ∧
      (∀ (s : Shared) (H : Hp) (C : Addr) (cl : List (Str × Addr)) (fp : List Addr), PG (X.blk s H scope (compEnvC scope cl C X.env) fp) tg (tG X.K fa t)) ∧
      (∀ (s : Shared) (H : Hp) (C : Addr) (cl : List (Str × Addr)) (fp : List Addr), PTs (X.blk s H scope (compEnvC scope cl C X.env) fp) ifs (tT X.K fa W0 (evC G (run G F n) q))) ∧
      (∀ (s : Shared) (H : Hp) (C : Addr) (cl : List (Str × Addr)) (fp : List Addr), PE (X.blk s H scope (compEnvC scope cl C X.env) fp) y (tE X.K fa W0 (evE G (run G F n) elt))) ∧ (∀ x, foldedSetIterable iter X.env x = pure x) ∧ c.cold = true ∧ (k.wk = true → ∃ ts, t = .tp ts) := by
  replace h : cComp c own t k (chkEs src c) (chkC q) (fun c' => (chkP elt c').1) x = true := h
  unfold cComp at h
  split at h
  · rename_i y tg iter ifs a scope pos
    obtain ⟨h1, h2⟩ := and1 h
    obtain ⟨h1, h3⟩ := and1 h1
    obtain ⟨h1, h4⟩ := and1 h1
    obtain ⟨h1, h5⟩ := and1 h1
    obtain ⟨h1, h6⟩ := and1 h1
    obtain ⟨hco, h1⟩ := and1 h1
    obtain ⟨h2, h7⟩ := and1 h2
    obtain ⟨h2, h8⟩ := and1 h2
    obtain ⟨ys, e, h9⟩ : ∃ ys, srcB c k iter tg = some ys ∧ chkEs src c ys = true := by
      split at h3
      · rename_i ys e; exact ⟨ys, e, h3⟩
      · cases h3
    have ea : a = 0 := of_decide_eq_true h1
    subst ea
    exact ⟨y, tg, iter, ifs, scope, pos, rfl, src_ok g e (chks_ok src _ c X g ys h9), by rw [g.hN, g.sc]; exact blkOk_by h6, fun j hj => by
        rw [ownOf_snd]
        exact of_decide_eq_true (List.all_eq_true.mp h5 j hj),
      fun s H C cl fp => chkg_ok (g.blk hco s H scope cl C fp) t tg h2, fun s H C cl fp => chkc_ok q _ (c.blk scope) _ (g.blk hco s H scope cl C fp) ifs h8,
      fun s H C cl fp => (chk_ok elt _ (c.blk scope) _ (g.blk hco s H scope cl C fp) y).1 h7, noset_fold h4, hco, wk_tp e h2⟩
  · cases h
theorem comp_asg (g : GoodX G F n fa W c X) (hk : c.sc.kind = .function) {t : T} {e : E} {tg x : Expr} {spos : Pos} (h : compAsg c tg x t e = true) (hg : chkG c t tg = true) (he : (chkP e c).1 x = true) : PS X (.Assign [tg] x spos) (tS X.K fa W (evAsg t (evE G (run G F n) e))) := by
  unfold compAsg at h
  split at h
  · rename_i elt0 gs scope pos y py i m own elt t' k src q
    obtain ⟨y', tg', iter, ifs, scope', pos', ex, hi, ok, hv, h1, h2, h3, h4, hco, hwk⟩ := comp_inv g he
    cases ex
    unfold swB at h
    obtain ⟨ha, hc⟩ := and1 h
    obtain ⟨ha, hb⟩ := and1 ha
    have hl : X.env.scope.names.lookup y = some .local := by rw [g.sc]; exact of_decide_eq_true ha
    unfold chkG at hg
    obtain ⟨hN, _⟩ := and1 (show tgtB c i y = true from hg)
    obtain ⟨hN, _⟩ := and1 hN
    have r := s_setLc (m := m) (k := k) (pos := pos) (spos := spos) (py := py) (g.kn hco) hwk (g.calm hco) (by rw [g.hN]; exact g.nd) (by rw [g.hN]; exact of_decide_eq_true hN) hl (sw_true (by rw [g.sc]; exact hk) hl hb (by simpa using hc)) hi ok hv h1 h2 h3 h4
    rw [ownOf_snd] at r
    exact r
  · cases h
structure GoodS (X : Cx) : Prop where
  stk : X.stack = X.env :: X.outer
  frm : X.env.frame = some X.env.locals
theorem GoodX.tr {W' : EW} (g : GoodX G F n fa W c X) (hco : c.cold = true) (pn : List (Addr × Obj)) (xe : Value → Shared → Prop) (ho : PassesOwn (model X.prog X.w) X.A X.env xe) (hw : Wis (X.tr pn xe) fa W') : GoodX G F n fa W' c (X.tr pn xe) :=
  ⟨g.ww, g.hN, g.sc, g.fn, g.cold, (fun i n k e => by rw [cold_ok hco] at e; cases e), g.nd, g.room, ho, hw, g.glo, g.bf, g.cal, g.cls, g.fld, g.met, fun k y h => (let ⟨h0, h1, h2, h3, h4, h5⟩ := g.exc k y h; ⟨h0, h1, h2, h3, h4, h5⟩), g.exm, g.ist, g.isv, g.hcl, g.hfn, g.isf, g.clv, fun nm y tab h => (let ⟨a, h1, h2, h3⟩ := g.dct nm y tab h; ⟨a, h1, h2, h3⟩), fun k t h => (let ⟨h1, h2⟩ := g.lam k t h; ⟨h1, fun f y p b s q1 q2 => let ⟨a1, a2, a3⟩ := h2 f y p b s q1 q2; ⟨a1, a2, a3.imp id fun ⟨m, z1, z2⟩ => ⟨m, z1, z2.hno, z2.hfn, z2.tab, z2.callee⟩⟩⟩)⟩
theorem HotF.hot {P : Program} {w : World} {K : PySem.W.Frag} {mg : Str → Option Value} {base : Heap} {y : Str} {k : Nat} {b : Bool} {kk : Option (Nat × V)} (h : HotF P w K mg base fa y k b) : HotF P w K mg base (fa.hot kk) y k b := by
  obtain ⟨f, fd, q, h1, h2, h3, h4⟩ := h
  exact ⟨f, fd, q, h1, h2, h3, fun A outer s H args a oe φ μ Q r1 r2 r3 r4 r5 r6 r7 r8 r9 => h4 A outer s H args a oe φ μ Q r1 r2 r3 r4 r5 r6 r7 (Abs.hot.mp r8) fun φ' H' e A' => r9 φ' H' e (Abs.hot.mpr A')⟩
/-- within an except suite -/
theorem GoodX.suite (g : GoodX G F n fa W c X) {i k : Nat} {y : Str} {a : Addr} {oe : Obj} {pn : List (Addr × Obj)} (hk : k ∈ c.tb.hc) (hz : Zc (.ref (fa.cl k)) none oe) (hf : ∃ vs, oe.data = .fields vs) : GoodX G F n (fa.hot (some (i, .ref a))) W0 (c.suite i y k) (X.suite a ((a, oe) :: pn)) :=
  ⟨g.ww, g.hN, g.sc, g.fn, (fun e => by cases e), (fun i n k e => by
      cases e
      exact ⟨a, rfl, g.hcl _ hk, oe, List.mem_cons_self, hz, hf⟩), g.nd, ⟨g.room.dp, g.room.un⟩, PassesOwn.never, wis0, fun k x h => (let ⟨u, v, d, h1, h2, h3, h4⟩ := g.glo k x h; ⟨u, v, d, h1, h2, h3, fun G' φ => by rw [RV.hot]; exact h4 G' φ⟩), g.bf,
    (fun f x h => by cases h), (fun k x i h => by cases h), g.fld, (fun k x i h => by cases h), (fun k y h => by cases h), g.exm, g.ist, g.isv, g.hcl, fun y k b h => ⟨⟨(g.hfn y k b h).1.dp, (g.hfn y k b h).1.un⟩, (g.hfn y k b h).2.hot⟩, (fun f x h => by cases h), (fun e => by cases e), fun nm y tab h => (let ⟨a, h1, h2, h3⟩ := g.dct nm y tab h; ⟨a, h1, h2, fun s => let ⟨r, e, q⟩ := h3 s; ⟨r, e, by
      revert q
      cases tab.lookup s with
      | none => exact id
      | some d => exact fun ⟨u, v, z1, z2, z3⟩ => ⟨u, v, z1, z2, fun G φ => by rw [RV.hot]; exact z3 G φ⟩⟩⟩), fun k t h => (by cases h)⟩
theorem con_cold {c : SC} (hco : c.cold = true) {d : D} {x : Expr} (h : (chkP (.con d) c).1 x = true) : cCon d x = true := by
  replace h : cConH c d x = true := h
  unfold cConH at h
  cases d with
  | bl b =>
    rcases Bool.or_eq_true_iff.mp h with h | h
    · exact h
    · unfold cHot at h
      rw [cold_ok hco] at h
      split at h <;> cases h
  | _ => exact h
theorem hot_ok (g : GoodX G F n fa W c X) (hco : c.cold = true) {a : Addr} {oe : Obj} {pn : List (Addr × Obj)} {call : Nat → List D → Mu → Res D} : ∀ (ss : List S) (xs : List Stmt), hotS ss = true → chkSs ss c xs = true → PSs (X.suite a ((a, oe) :: pn)) xs (tS X.K fa W0 (exSs G call ss))
  | [], xs, _, h => by
    cases xs with
    | nil => exact ss_nil
    | cons _ _ => unfold chkSs at h; cases h
  | s :: ss, xs, hh, h => by
    cases xs with
    | nil => unfold chkSs at h; cases h
    | cons x xs =>
      unfold chkSs at h
      obtain ⟨h1, h2⟩ := and1 h
      have con : ∀ {d : D} {x : Expr}, (chkP (.con d) c).1 x = true → PE (X.suite a ((a, oe) :: pn)) x (tE X.K fa W0 (evE G call (.con d))) ∧ notComp x = true := fun {d x} h => by
        replace h := con_cold hco h
        cases x with
        | Constant k j pos => exact ⟨con_ok h, rfl⟩
        | _ => cases h
      unfold hotS at hh
      split at hh
      · rename_i e; cases e
      · rename_i d r e
        cases e
        unfold chkS at h1
        split at h1
        · exact ss_cons (s_ret (con h1).1) (hot_ok (call := call) g hco _ xs hh h2)
        · cases h1
      · rename_i i d r e
        cases e
        unfold chkS at h1
        split at h1
        · rename_i tg x pos
          obtain ⟨h3, h4⟩ := and1 h1
          obtain ⟨h3, h5⟩ := and1 h3
          obtain ⟨h3, h6⟩ := and1 h3
          obtain ⟨h4, h7⟩ := and1 h4
          obtain ⟨p1, p2⟩ := con h7
          have hg : PG (X.suite a ((a, oe) :: pn)) tg (tG X.K fa (.nm i)) := by
            cases tg with
            | Name y pos =>
              unfold chkG at h4
              obtain ⟨q1, q2⟩ := and1 (show tgtB c i y = true from h4)
              obtain ⟨q1, hmay⟩ := and1 q1
              have hi : X.N[i]? = some y := by rw [g.hN]; exact of_decide_eq_true q1
              have nd : X.N.Nodup := by rw [g.hN]; exact g.nd
              cases hl : c.sc.names.lookup y with
              | none => rw [hl] at q2; cases q2
              | some k =>
                rw [hl] at q2
                cases k with
                | «local» => exact g_name (g.may hmay) nd hi (.inl (by show X.env.scope.names.lookup y = _; rw [g.sc]; exact hl)) (.inr (by show X.env.scope.names.lookup y = _; rw [g.sc]; exact hl))
                | cell => exact g_name (g.may hmay) nd hi (.inr (by show X.env.scope.names.lookup y = _; rw [g.sc]; exact hl)) (.inl (g.fn y q2))
                | _ => cases q2
            | _ => unfold chkG at h4; cases h4
          exact ss_cons (s_asg p1 hg (notcomp_sw p2) (noswap_ok h6) (by rw [asg_cons h5]; rfl)) (hot_ok (call := call) g hco _ xs hh h2)
        · cases h1
      · rename_i r e
        cases e
        unfold chkS at h1
        split at h1
        · exact ss_cons s_pass (hot_ok (call := call) g hco _ xs hh h2)
        · cases h1
      · cases hh
mutual
theorem chkst_ok : ∀ (s : S) (fa : Lay) (c : SC) (hk : c.sc.kind = .function) (W : EW) (X : Cx) (g : GoodX G F n fa W c X) (q : GoodS X) (st : Stmt), chkS s c st = true → PS X st (tS X.K fa W (exS G (run G F n) s))
  | .expr e, fa, c, hk, W, X, g, gs, st, h => by
    cases st with
    | Expr x pos =>
      unfold chkS at h
      obtain ⟨h1, h2⟩ := and1 h
      exact s_expr ((chk_ok e _ c X g x).1 h2) (notcomp_sw h1)
    | _ => unfold chkS at h; cases h
  | .ret e, fa, c, hk, W, X, g, gs, st, h => by
    unfold chkS at h
    split at h
    · exact s_ret ((chk_ok e _ c X g _).1 h)
    · cases h
  | .retN, fa, c, hk, W, X, g, gs, st, h => by
    unfold chkS at h
    split at h
    · exact s_retN
    · cases h
  | .asg t e, fa, c, hk, W, X, g, gs, st, h => by
    unfold chkS at h
    split at h
    · rename_i tg x pos
      obtain ⟨h1, h2⟩ := and1 h
      obtain ⟨h1, h3⟩ := and1 h1
      obtain ⟨h1, h4⟩ := and1 h1
      obtain ⟨h2, h5⟩ := and1 h2
      rcases Bool.or_eq_true _ _ ▸ h1 with h1 | h1
      · exact s_asg ((chk_ok e _ c X g x).1 h5) (chkg_ok g t tg h2) (plain_asg g h1) (noswap_ok h4) (by rw [asg_cons h3]; rfl)
      · exact comp_asg g hk h1 h2 h5
    · cases h
  | .setSlc _ _ _ _, fa, c, hk, W, X, g, gs, st, h => by
    unfold chkS at h
    cases h
  | .setIdx o i e, fa, c, hk, W, X, g, gs, st, h => by
    unfold chkS at h
    split at h
    · rename_i xo xi tp x pos
      obtain ⟨h1, h2⟩ := and1 h
      obtain ⟨h1, h3⟩ := and1 h1
      obtain ⟨h2, h4⟩ := and1 h2
      obtain ⟨h2, h5⟩ := and1 h2
      refine s_setIdx g.ww (by have := g.un; omega) ((chk_ok e _ c X g x).1 h4) ((chk_ok o _ c X g xo).1 h2) ((chk_ok i _ c X g xi).1 h5) (fun v => ?_) (show swapsWith x (some (.Subscript xo xi tp)) pos.line X.env = pure false from notcomp_sw h1) rfl rfl
      cases xi <;> first | rfl | cases h3
    · cases h
  | .if_ q a b, fa, c, hk, W, X, g, gs, st, h => by
    cases st with
    | If x A B pos =>
      unfold chkS at h
      obtain ⟨h1, h2⟩ := and1 h
      obtain ⟨h2, h3⟩ := and1 h2
      exact s_if ((chk_ok q _ c X g x).2 h1).1 (chksts_ok a fa c hk _ X g gs A h2) (chksts_ok b fa c hk _ X g gs B h3)
    | _ => unfold chkS at h; cases h
  | .while_ kill q b, fa, c, hk, W, X, g, gs, st, h => by
    unfold chkS at h
    split at h
    · obtain ⟨h1, h2⟩ := and1 h
      exact s_while g.own ((chk_ok q _ c X g _).2 h1).1 (chksts_ok b fa c hk _ X g gs _ h2)
    · cases h
  | .for_ kill t k src b, fa, c, hk, W, X, g, gs, st, h => by
    unfold chkS at h
    split at h
    · rename_i tg iter B pos
      obtain ⟨h1, h2⟩ := and1 h
      obtain ⟨h1, h3⟩ := and1 h1
      obtain ⟨hco, h1⟩ := and1 h1
      obtain ⟨h2, h4⟩ := and1 h2
      obtain ⟨ys, e, h9⟩ : ∃ ys, srcB c k iter tg = some ys ∧ chkEs src c ys = true := by
        split at h3
        · rename_i ys e; exact ⟨ys, e, h3⟩
        · cases h3
      exact s_for g.own (g.calm hco) (src_ok g e (chks_ok src _ c X g ys h9)) (chkg_ok g t tg h2) (chksts_ok b fa c hk _ X g gs B h4) (noset_fold h1) (wk_tp e h2)
    · cases h
  | .pass, fa, c, hk, W, X, g, gs, st, h => by
    cases st with
    | Pass pos => exact s_pass
    | _ => unfold chkS at h; cases h
  | .brk, fa, c, hk, W, X, g, gs, st, h => by
    cases st with
    | Break pos => exact s_brk
    | _ => unfold chkS at h; cases h
  | .cont, fa, c, hk, W, X, g, gs, st, h => by
    cases st with
    | Continue pos => exact s_cont
    | _ => unfold chkS at h; cases h
  | .setFld k a o e, fa, c, hk, W, X, g, gs, st, h => by
    unfold chkS at h
    split at h
    · obtain ⟨h1, h2⟩ := and1 h
      obtain ⟨h5, h3⟩ := and1 h1
      obtain ⟨h6, h4⟩ := and1 h2
      obtain ⟨q1, q2, q3, q4⟩ := g.fld k a _ (of_decide_eq_true h3)
      subst q4
      exact s_setFld q1 q2 q3 ((chk_ok o _ c X g _).1 h6) ((chk_ok e _ c X g _).1 h4) (notcomp_sw h5)
    · cases h
  | .augFld k a o e, fa, c, hk, W, X, g, gs, st, h => by
    unfold chkS at h
    split at h
    · obtain ⟨h1, h2⟩ := and1 h
      obtain ⟨h5, h3⟩ := and1 h1
      obtain ⟨h6, h4⟩ := and1 h2
      obtain ⟨q1, q2, q3, q4⟩ := g.fld k a _ (of_decide_eq_true h3)
      subst q4
      exact s_augFld q1 q2 q3 ((chk_ok o _ c X g _).1 h6) ((chk_ok e _ c X g _).1 h4) (base_ok h5)
    · cases h
  | .raise_ k, fa, c, hk, W, X, g, gs, st, h => by
    unfold chkS at h
    split at h
    · obtain ⟨h1, h2⟩ := and1 h
      obtain ⟨hno, hx⟩ := g.exc k _ (of_decide_eq_true h1)
      exact s_raise g.wis (g.cold hno).2.1 hx (g.gl h2) (notDbg_ok (glB_dbg h2)).1
    · cases h
  | .try_ b yes no hh, fa, c, hk, W, X, g, gs, st, h => by
    unfold chkS at h
    split at h
    · rename_i B y p1 h0 hs p2 p3
      obtain ⟨h1, h2⟩ := and1 h
      obtain ⟨h1, h3⟩ := and1 h1
      obtain ⟨h1, h4⟩ := and1 h1
      obtain ⟨h1, h5⟩ := and1 h1
      obtain ⟨h1, h6⟩ := and1 h1
      obtain ⟨hco, h1⟩ := and1 h1
      obtain ⟨h2, h7⟩ := and1 h2
      obtain ⟨v, hv⟩ : ∃ v, X.mg y = some v := by
        rcases of_decide_eq_true h4 with q | q
        · obtain ⟨k, r, e⟩ := List.exists_cons_of_ne_nil q
          obtain ⟨v, hv, _⟩ := g.exm y k true (of_decide_eq_true (List.all_eq_true.mp h6 k (by rw [e]; exact List.mem_cons_self)))
          exact ⟨v, hv⟩
        · obtain ⟨k, r, e⟩ := List.exists_cons_of_ne_nil q
          obtain ⟨v, hv, _⟩ := g.exm y k false (of_decide_eq_true (List.all_eq_true.mp h5 k (by rw [e]; exact List.mem_cons_self)))
          exact ⟨v, hv⟩
      have key : ∀ (b : Bool) (k : Nat), (y, k, b) ∈ c.tb.em → PySem.W.exmOne X.K (.ref (fa.cl k)) v = some b := fun b k hk => by
        obtain ⟨v', hv', e⟩ := g.exm y k b hk
        rw [hv] at hv'
        cases hv'
        exact e
      exact s_try gs.stk gs.frm ⟨g.gl h1, (notDbg_ok (glB_dbg h1)).1, .inl hv⟩ g.wis (fun k hk => key true k (of_decide_eq_true (List.all_eq_true.mp h6 k hk))) (fun k hk => key false k (of_decide_eq_true (List.all_eq_true.mp h5 k hk)))
        (fun W' pn xe hw ho => chksts_ok b fa c hk W' (X.tr pn xe) (g.tr hco pn xe ho hw) ⟨gs.stk, gs.frm⟩ _ h2) (fun a oe pn => hot_ok g hco hh _ h3 h7) (hot_ex hh h3)
    · cases h
  | .tryA b i k no hh, fa, c, hk, W, X, g, gs, st, h => by
    unfold chkS at h
    split at h
    · rename_i B y p1 n h0 hs p2 p3
      obtain ⟨h1, h2⟩ := and1 h
      obtain ⟨h1, h3⟩ := and1 h1
      obtain ⟨h1, h4⟩ := and1 h1
      obtain ⟨h1, h5⟩ := and1 h1
      obtain ⟨h1, h6⟩ := and1 h1
      obtain ⟨h1, h7⟩ := and1 h1
      obtain ⟨hco, h1⟩ := and1 h1
      obtain ⟨h2, h8⟩ := and1 h2
      obtain ⟨v, hv, he⟩ := g.exm y k true (of_decide_eq_true h7)
      have key : ∀ k', (y, k', false) ∈ c.tb.em → PySem.W.exmOne X.K (.ref (fa.cl k')) v = some false := fun k' hk' => by
        obtain ⟨v', hv', e⟩ := g.exm y k' false hk'
        rw [hv] at hv'
        cases hv'
        exact e
      have hi := of_decide_eq_true h4
      rw [← g.hN] at hi
      exact s_tryA gs.stk gs.frm (by rw [g.hN]; exact g.nd) hi (by unfold Env.kindOf; rw [g.sc]; exact of_decide_eq_true h3) ⟨g.gl h1, (notDbg_ok (glB_dbg h1)).1, .inl hv⟩ g.wis (g.kn hco) he (fun k' hk' => key k' (of_decide_eq_true (List.all_eq_true.mp h6 k' hk')))
        (fun W' pn xe hw ho => chksts_ok b fa c hk W' (X.tr pn xe) (g.tr hco pn xe ho hw) ⟨gs.stk, gs.frm⟩ _ h2) (fun a oe pn hz hf => chksts_ok hh (fa.hot (some (i, .ref a))) (c.suite i n k) hk W0 _ (g.suite (of_decide_eq_true h5) hz hf) ⟨gs.stk, gs.frm⟩ _ h8)
    · cases h
theorem chksts_ok : ∀ (ss : List S) (fa : Lay) (c : SC) (hk : c.sc.kind = .function) (W : EW) (X : Cx) (g : GoodX G F n fa W c X) (q : GoodS X) (xs : List Stmt), chkSs ss c xs = true → PSs X xs (tS X.K fa W (exSs G (run G F n) ss))
  | [], fa, c, hk, W, X, g, gs, xs, h => by
    cases xs with
    | nil => exact ss_nil
    | cons _ _ => unfold chkSs at h; cases h
  | s :: ss, fa, c, hk, W, X, g, gs, xs, h => by
    cases xs with
    | nil => unfold chkSs at h; cases h
    | cons x xs =>
      unfold chkSs at h
      obtain ⟨h1, h2⟩ := and1 h
      exact ss_cons (chkst_ok s fa c hk _ X g gs x h1) (chksts_ok ss fa c hk _ X g gs xs h2)
end
end
/-! ### the defs of a module -/
def LI.fn (l : LI) : Fn := lamFn l.ps l.ys l.e
def lamT (tb : Tb) (l : LI) : LamT := ⟨l.ps, l.ys, fun p b s => parB p l.ps && lamNB s l.ps l.ys && (chkP l.e ⟨l.ps ++ l.ys, s, some s, tb.noLm, none⟩).1 b⟩
def Tb.of (tb : Tb) (mks : List Nat) (i : Nat) : Tb := if i ∈ mks then tb else tb.noLm
def chkD (tb : Tb) (mks : List Nat) (d : DI) : Bool := C8.scC d.N d.ps (defScope d.st) && decide (d.ps.length = d.fn.np) && decide (d.N.length = d.fn.nn) && chkSs d.fn.body ⟨d.N, defScope d.st, none, tb.of mks d.id, none⟩ (defBody d.st)
/-- the defs by their numbers -/
def fnOfD (ds : List DI) (k : Nat) : Option Fn := (dOf ds k).map DI.fn
/-- .. and the lambdas -/
def fnOfL (ds : List DI) (ls : List LI) (k : Nat) : Option Fn := if k < LB then fnOfD ds k else (ls.find? fun l => k == l.k).map LI.fn
theorem dOf_mem {ds : List DI} {k : Nat} {d : DI} (h : dOf ds k = some d) : d ∈ ds := List.mem_of_find?_eq_some h
/-- each number once -/
def idsOk (ds : List DI) : Bool := ds.all fun d => decide ((dOf ds d.id).map (fun e => (e.nm, e.cls)) = some (d.nm, d.cls))
theorem lookup_dOf {ds : List DI} {k : Nat} {x : Str} (hu : idsOk ds = true) (h : ((topD ds).map fun d => (d.id, d.nm)).lookup k = some x) : ∃ d, dOf ds k = some d ∧ d.nm = x ∧ d.cls = none := by
  have key : ∀ l : List DI, (l.map fun d => (d.id, d.nm)).lookup k = some x → ∃ d ∈ l, d.id = k ∧ d.nm = x := fun l => by
    induction l with
    | nil => intro h; cases h
    | cons d r ih =>
      intro h
      rw [List.map_cons, List.lookup_cons] at h
      cases hk : k == d.id with
      | true =>
        rw [hk] at h
        exact ⟨d, List.mem_cons_self, (eq_of_beq hk).symm, Option.some.inj h⟩
      | false =>
        rw [hk] at h
        obtain ⟨e, he, q⟩ := ih h
        exact ⟨e, List.mem_cons_of_mem _ he, q⟩
  obtain ⟨d, hd, h1, h2⟩ := key _ h
  obtain ⟨hd, hc⟩ := List.mem_filter.mp hd
  have hu := of_decide_eq_true (List.all_eq_true.mp hu d hd)
  rw [h1] at hu
  cases e : dOf ds k with
  | none => rw [e] at hu; cases hu
  | some d' =>
    rw [e] at hu
    have hu := Option.some.inj hu
    refine ⟨d', rfl, ?_, ?_⟩
    · rw [← h2]; exact congrArg Prod.fst hu
    · have : d'.cls = d.cls := congrArg Prod.snd hu
      rw [this]
      exact Option.isNone_iff_eq_none.mp hc
section
variable {P : Program} {w : World} {K : PySem.W.Frag} {mg : Str → Option Value} {base : Heap} {fa : Lay} {G : Nat → Option D}
/-- what is known of the classes -/
structure ClsF (K : PySem.W.Frag) (mg : Str → Option Value) (fa : Lay) (ds : List DI) (tb : Tb) : Prop where
  cl : ∀ (k : Nat) (x : Str) (i : Nat), (k, x, i) ∈ tb.cl → ∃ d, dOf ds i = some d ∧ Mk K (fa.cl k) (fa.fn i) ∧ mg x = some (.ref (fa.cl k))
  fl : ∀ (k a : Nat) (y : Str), (k, a, y) ∈ tb.fl → Cls K (fa.cl k) ∧ NoAttr K (fa.cl k) (fa.fld a) ∧ fa.okf a = true ∧ fa.fld a = y
  me : ∀ (k : Nat) (y : Str) (i : Nat), (k, y, i) ∈ tb.me → ∃ d, dOf ds i = some d ∧ Cls K (fa.cl k) ∧ Meth K (fa.cl k) y (fa.fn i) ∧ ∀ a, fa.okf a = true → fa.fld a ≠ y
  ec : ∀ (k : Nat) (y : Str), (k, y) ∈ tb.ec → PySem.W.excIn K (fa.cl k) He.veBase "ValueError.__new__" = true ∧ mg y = some (.ref (fa.cl k)) ∧ PySem.W.keepIn K (.ref (fa.cl k)) = true ∧ PySem.W.subIn K (.ref (fa.cl k)) (.type "BaseException") = some true ∧ PySem.W.typeIn K (.ref (fa.cl k)) = some (.type "type")
  em : ∀ (y : Str) (k : Nat) (b : Bool), (y, k, b) ∈ tb.em → ∃ v, mg y = some v ∧ PySem.W.exmOne K (.ref (fa.cl k)) v = some b
  is : ∀ (y : Str) (k : Nat) (b : Bool), (y, k, b) ∈ tb.is → ∃ C : Addr, mg y = some (.ref C) ∧ PySem.W.kitOne K (.ref (fa.cl k)) (.ref C) = some b
  ve : ∀ (k : Nat) (b : Bool), (k, b) ∈ tb.ve → PySem.W.kitOne K (.ref (fa.cl k)) (.type "ValueError") = some b
  hc : ∀ k ∈ tb.hc, ExcC K (fa.cl k)
end
end Ev

set_option Elab.async false
set_option linter.all false
set_option maxRecDepth 100000
set_option maxHeartbeats 1000000
/-! Defs that an except suite asks of its exception. -/
namespace Ev
open PySem PySem.Spec PyProof.Rows L2
/-- an answer that hangs on nothing -/
def hvE : E → Option Bool
  | .con (.bl b) => some b
  | .and_ a b => (hvE a).bind fun x => (hvE b).map fun y => x && y
  | .or_ a b => (hvE a).bind fun x => (hvE b).map fun y => x || y
  | .not_ a => (hvE a).map not
  | _ => none
mutual
def hvS : S → Option (Option Bool)
  | .ret e => (hvE e).map some
  | .if_ c a b => (hvE c).bind fun k => if k then hvSs a else hvSs b
  | .pass => some none
  | _ => none
def hvSs : List S → Option (Option Bool)
  | [] => some none
  | s :: ss => (hvS s).bind fun r => match r with
    | some b => some (some b)
    | none => hvSs ss
end
section
variable {G : Nat → Option D} {call : Nat → List D → Mu → Res D}
theorem hvE_ok : ∀ (e : E) (b : Bool), hvE e = some b → ∀ ρ μ, evE G call e ρ μ = .ok (.bl b) μ ∧ evT G call e ρ μ = .ok b μ
  | .con d, b, h, ρ, μ => by
    cases d <;> cases h
    exact ⟨rfl, rfl⟩
  | .and_ x y, b, h, ρ, μ => by
    unfold hvE at h
    obtain ⟨p, hp, h⟩ := ofbind h
    obtain ⟨q, hq, rfl⟩ := ofmap h
    obtain ⟨a1, a2⟩ := hvE_ok x p hp ρ μ
    obtain ⟨b1, b2⟩ := hvE_ok y q hq ρ μ
    constructor
    · show (evE G call x ρ μ).bind _ = _
      rw [a1]
      cases p
      · rfl
      · exact b1
    · show (evT G call x ρ μ).bind _ = _
      rw [a2]
      cases p
      · rfl
      · exact b2
  | .or_ x y, b, h, ρ, μ => by
    unfold hvE at h
    obtain ⟨p, hp, h⟩ := ofbind h
    obtain ⟨q, hq, rfl⟩ := ofmap h
    obtain ⟨a1, a2⟩ := hvE_ok x p hp ρ μ
    obtain ⟨b1, b2⟩ := hvE_ok y q hq ρ μ
    constructor
    · show (evE G call x ρ μ).bind _ = _
      rw [a1]
      cases p
      · exact b1
      · rfl
    · show (evT G call x ρ μ).bind _ = _
      rw [a2]
      cases p
      · exact b2
      · rfl
  | .not_ x, b, h, ρ, μ => by
    unfold hvE at h
    obtain ⟨p, hp, rfl⟩ := ofmap h
    obtain ⟨a1, a2⟩ := hvE_ok x p hp ρ μ
    constructor
    · show (evE G call x ρ μ).bind _ = _
      rw [a1]
      rfl
    · show (evT G call x ρ μ).bind _ = _
      rw [a2]
      rfl
  | .var _, _, h, _, _ => by cases h
  | .glo _, _, h, _, _ => by cases h
  | .bin .., _, h, _, _ => by cases h
  | .neg .., _, h, _, _ => by cases h
  | .cmp .., _, h, _, _ => by cases h
  | .cmp2 .., _, h, _, _ => by cases h
  | .ite .., _, h, _, _ => by cases h
  | .tup .., _, h, _, _ => by cases h
  | .lst .., _, h, _, _ => by cases h
  | .cat .., _, h, _, _ => by cases h
  | .lrep .., _, h, _, _ => by cases h
  | .idx .., _, h, _, _ => by cases h
  | .slc .., _, h, _, _ => by cases h
  | .call .., _, h, _, _ => by cases h
  | .bi .., _, h, _, _ => by cases h
  | .me .., _, h, _, _ => by cases h
  | .comp .., _, h, _, _ => by cases h
  | .dict0, _, h, _, _ => by cases h
  | .dictP .., _, h, _, _ => by cases h
  | .dictL .., _, h, _, _ => by cases h
  | .mlst .., _, h, _, _ => by cases h
  | .zipL .., _, h, _, _ => by cases h
  | .fnv .., _, h, _, _ => by cases h
  | .tget .., _, h, _, _ => by cases h
  | .callv .., _, h, _, _ => by cases h
  | .callL .., _, h, _, _ => by cases h
  | .new .., _, h, _, _ => by cases h
  | .fld .., _, h, _, _ => by cases h
  | .meth .., _, h, _, _ => by cases h
def hvO : Option Bool → Rho → Mu → Out
  | some b, _, μ => .rt (.bl b) μ
  | none, ρ, μ => .nx ρ μ
mutual
theorem hvS_ok : ∀ (s : S) (r : Option Bool), hvS s = some r → ∀ ρ μ, exS G call s ρ μ = hvO r ρ μ
  | .ret e, r, h, ρ, μ => by
    unfold hvS at h
    obtain ⟨p, hp, rfl⟩ := ofmap h
    show (evE G call e ρ μ).out ρ _ = _
    rw [(hvE_ok e p hp ρ μ).1]
    rfl
  | .if_ c a b, r, h, ρ, μ => by
    unfold hvS at h
    obtain ⟨p, hp, h⟩ := ofbind h
    show (evT G call c ρ μ).out ρ _ = _
    rw [(hvE_ok c p hp ρ μ).2]
    cases p
    · exact hvSs_ok b r h ρ μ
    · exact hvSs_ok a r h ρ μ
  | .pass, r, h, ρ, μ => by
    cases h
    rfl
  | .expr .., _, h, _, _ => by cases h
  | .retN, _, h, _, _ => by cases h
  | .asg .., _, h, _, _ => by cases h
  | .setIdx .., _, h, _, _ => by cases h
  | .setSlc .., _, h, _, _ => by cases h
  | .setFld .., _, h, _, _ => by cases h
  | .augFld .., _, h, _, _ => by cases h
  | .raise_ .., _, h, _, _ => by cases h
  | .try_ .., _, h, _, _ => by cases h
  | .tryA .., _, h, _, _ => by cases h
  | .while_ .., _, h, _, _ => by cases h
  | .for_ .., _, h, _, _ => by cases h
  | .brk, _, h, _, _ => by cases h
  | .cont, _, h, _, _ => by cases h
theorem hvSs_ok : ∀ (ss : List S) (r : Option Bool), hvSs ss = some r → ∀ ρ μ, exSs G call ss ρ μ = hvO r ρ μ
  | [], r, h, ρ, μ => by
    cases h
    rfl
  | s :: ss, r, h, ρ, μ => by
    unfold hvSs at h
    obtain ⟨p, hp, h⟩ := ofbind h
    show (match exS G call s ρ μ with | .nx ρ' μ' => exSs G call ss ρ' μ' | o => o) = _
    rw [hvS_ok s p hp ρ μ]
    cases p with
    | some b =>
      cases h
      rfl
    | none => exact hvSs_ok ss r h ρ μ
end
end
def HD.q (h : HD) : Str := h.d.ps.headD ⟨#[]⟩
def chkH (tb : Tb) (h : HD) : Bool := C8.scC h.d.N h.d.ps (defScope h.d.st) && decide (h.d.ps.length = 1) && decide (hvSs h.d.fn.body = some (some h.b)) && decide (h.d.cls = none) &&
  chkSs h.d.fn.body ⟨h.d.N, defScope h.d.st, none, { tb.cool with hf := [], dc := [] }, some (0, h.q, h.k)⟩ (defBody h.d.st)
section
variable {P : Program} {w : World} {K : PySem.W.Frag} {mg : Str → Option Value} {base : Heap} {fa : Lay} {G : Nat → Option D}
theorem hotFs {tb : Tb} {ds : List DI} {hs : List HD} (hkn : fa.keep = none) (hc : (hs.all fun h => chkH tb h) = true) (hcf : ClsF K mg fa ds tb) (hw : fa.w = w) (hf : tb.hf = hs.map fun h => (h.d.nm, h.k, h.b))
    (hd : ∀ h ∈ hs, ∃ f fd, FunD K h.d.nm h.d.qual (defArgs h.d.st) (defBody h.d.st) (defScope h.d.st) [] [] f fd ∧ mg h.d.nm = some (.ref f) ∧ L2.Binds K fd h.d.ps [])
    (hg : ∀ (k : Nat) (x : Str), tb.gl.lookup k = some x → ∃ u v d, mg x = some u ∧ RelV v u ∧ G k = some d ∧ ∀ G' φ, RV K fa G' φ d v) (hb : ∀ x, x ∈ tb.bf → mg x = none) :
    ∀ (y : Str) (k : Nat) (b : Bool), (y, k, b) ∈ tb.hf → HotF P w K mg base fa y k b := fun y k b hm => by
  rw [hf] at hm
  obtain ⟨h, hm', e⟩ := List.mem_map.mp hm
  cases e
  have hx := List.all_eq_true.mp hc h hm'
  unfold chkH at hx
  obtain ⟨hx, hbody⟩ := and1 hx
  obtain ⟨hx, h1⟩ := and1 hx
  obtain ⟨hx, h2⟩ := and1 hx
  obtain ⟨hx, h3⟩ := and1 hx
  have S := C8.fnScope_by hx
  obtain ⟨f, fd, Fu, hmg, hbn⟩ := hd h hm'
  have hps : h.d.ps = [h.q] := by
    have := of_decide_eq_true h3
    unfold HD.q
    match h.d.ps, this with
    | [x], _ => rfl
  rw [hps] at S hbn
  refine hotF_of (G := G) (call := run G (fun _ => none) 0) Fu S hmg hbn (fun cdv A outer s H a oe hr hz hf hC => ?_) fun ρ μ => hvSs_ok _ _ (of_decide_eq_true h2) ρ μ
  exact chksts_ok (F := fun _ => none) (n := 0) h.d.fn.body (fa.hot (some (0, .ref a))) ⟨h.d.N, defScope h.d.st, none, { tb.cool with hf := [], dc := [] }, some (0, h.q, h.k)⟩ S.kind W0 (L2H.cxH (L2.CX P w) P w K mg base h.d.N h.d.qual (defScope h.d.st) f cdv A outer s H (fun _ _ _ => False) (a, oe))
    ⟨hw, rfl, rfl, fun _ _ => rfl, (fun e => by cases e), (fun i n k e => by
      cases e
      exact ⟨a, rfl, hC, oe, List.mem_cons_self, hz, hf⟩), S.nd, hr, passes_of rfl, wis0, fun k x h => (let ⟨u, v, d, h1, h2, h3, h4⟩ := hg k x h; ⟨u, v, d, h1, h2, h3, fun G' φ => by rw [RV.hot]; exact h4 G' φ⟩), hb,
      (fun f x h => by cases h), (fun k x i h => by cases h), hcf.fl, (fun k x i h => by cases h), (fun k y h => by cases h), hcf.em, hcf.is, hcf.ve, hcf.hc, (fun y k b h => by cases h), (fun f x h => by cases h), (fun e => by cases e), (fun nm y tab h => by cases h), (fun k t h => by cases h)⟩ ⟨rfl, rfl⟩ _ hbody
end
end Ev

set_option Elab.async false
set_option linter.all false
set_option maxRecDepth 100000
set_option maxHeartbeats 1000000
/-! Every def keeps its promise, with lambdas and without. -/
namespace Ev
open PySem PySem.Spec PyProof.Rows L2
section
variable {P : Program} {w : World} {K : PySem.W.Frag} {mg : Str → Option Value} {base : Heap} {fa : Lay} {G : Nat → Option D} {F : Nat → Option Fn}
/-- a def by its body's look, its code object told -/
theorem fn_evC {n i lv : Nat} {x qual : Str} {st : Stmt} {f : Addr} {fd : FuncData} {N ps : List Str} {e : Fn} (hkn : fa.keep = none) (Fu : FunD K x qual (defArgs st) (defBody st) (defScope st) [] [] f fd) (S : FnScope N ps (defScope st)) (he : F i = some e) (hp : ps.length = e.np) (hN : N.length = e.nn)
    (hbody : ∀ (A : Around) (outer : List Env) (s : Shared) (H : Hp) (E : XK), Room lv (A.deeper (envOfC qual (defScope st) s.heap.objs.size f fd.code)) →
      PSs (cxOf (L2.CX P w) P w K mg base N qual (defScope st) f fd.code A outer s H E) (defBody st) (tS K fa (fun _ x H' => E (.ref (fa.cl x.cls)) none H') (exSs G (run G F n) e.body))) : FnOk P w K mg base (L2.CX P w) (lv + 1) f fd ps (spN K fa G F (n + 1) i) := by
  have len : ∀ vs H Q E, spN K fa G F (n + 1) i vs H Q E → vs.length = ps.length := fun vs H Q E h => by
    obtain ⟨φ, μ, ds, A, r, q⟩ := h
    cases hr : run G F (n + 1) i ds μ with
    | ok d μ' => rw [r.length, run_len he hr, hp]
    | ex _ _ => rw [r.length, run_lenX he hr, hp]
    | no => rw [hr] at q; exact False.elim q
  obtain ⟨oc, od, dV, kV, doc, pm, an, cdv, ct, osl, rfl, lk, hcd, _, _⟩ := Fu.ex
  refine fn_of lk hcd S len fun A outer s H vs Q E hr h => ⟨_, hbody A outer s H E hr, ?_⟩
  have hl := len vs H Q E h
  obtain ⟨φ, μ, ds, Ab, r, q⟩ := h
  refine ⟨φ, μ, _, Ab, start_env (N := N) hkn r, ?_⟩
  unfold run at q
  rw [he] at q
  dsimp only at q
  rw [if_pos (by rw [← hp, ← hl, r.length]), ← hN] at q
  exact ends_run Ab q
theorem fnv_zero {f : Addr} {fd : FuncData} {ps : List Str} {i : Nat} : FnOk P w K mg base (L2.CX P w) 0 f fd ps (spV K fa G F 0 i f) :=
  ⟨fun vs H Q E h => let ⟨φ, μ, ds, l, A, r, r2, q⟩ := h; False.elim q, fun A outer s H args us vs Q E hr he hb hv h => let ⟨φ, μ, ds, l, A, r, r2, q⟩ := h; False.elim q⟩
/-- what is promised -/
structure Pr (P : Program) (w : World) (K : PySem.W.Frag) (mg : Str → Option Value) (ds : List DI) (F : Nat → Option Fn) (base : Heap) (fa : Lay) (G : Nat → Option D) (n : Nat) : Prop where
  df : ∀ (i : Nat) (d : DI), dOf ds i = some d → ∃ fd, FunD K d.nm d.qual (defArgs d.st) (defBody d.st) (defScope d.st) [] [] (fa.fn i) fd ∧ FnOk P w K mg base (L2.CX P w) (2 * n) (fa.fn i) fd d.ps (spN K fa G F n i) ∧ (d.cls = none → mg d.nm = some (.ref (fa.fn i))) ∧ L2.Binds K fd d.ps []
  cl : ∀ ci, fa.clo = some ci → ¬ ci.k < LB → ∃ fd ps, FnOk P w K mg base (L2.CX P w) (2 * n) ci.a fd ps (spV K fa G F n ci.k ci.a) ∧ L2.Binds K fd ps [] ∧ PySem.W.FnAt ci.a base
/-- the ground: no lambda lives, or one does -/
def Gnd (K : PySem.W.Frag) (mg : Str → Option Value) (ls : List LI) (tb : Tb) (mt : List (Addr × Addr)) (fa : Lay) (G0 : Nat → Option D) (base : Heap) (fa' : Lay) (G : Nat → Option D) : Prop := K.In base ∧ ((fa' = fa ∧ G = G0 ∧ ∀ p ∈ mt, LamX.TabB base mg p.1 p.2) ∨
  ∃ ci li params body scope, fa' = fa.wclo ci ∧ G = noLam G0 ∧ li ∈ ls ∧ (lamT tb li).ok params body scope = true ∧ CloAt li.k params body scope li.ys base ci)
/-- what is known of the tables -/
def TabsF (w : World) (K : PySem.W.Frag) (mg : Str → Option Value) (fa : Lay) (tb : Tb) : Prop := ∀ (nm : Nat) (y : Str) (tab : List (Txt × D)), (nm, y, tab) ∈ tb.dc → ∃ a, mg y = some (.ref a) ∧ (∃ es n, KDict K w a es n) ∧ ∀ s : Txt, ∃ r, PySem.W.nsIn K a (sOf s) = some r ∧ match tab.lookup s with
  | some d => ∃ u v, r = some u ∧ RelV v u ∧ ∀ G φ, RV K fa G φ d v
  | none => r = none
theorem TabsF.clo {tb : Tb} {ci : CloI} (hn : fa.clo = none) (h : TabsF w K mg fa tb) : TabsF w K mg (fa.wclo ci) tb := fun nm y tab hm => by
  obtain ⟨a, h1, h2, h3⟩ := h nm y tab hm
  refine ⟨a, h1, h2, fun s => ?_⟩
  obtain ⟨r, e, q⟩ := h3 s
  refine ⟨r, e, ?_⟩
  revert q
  cases tab.lookup s with
  | none => exact id
  | some d => exact fun ⟨u, v, z1, z2, z3⟩ => ⟨u, v, z1, z2, fun G φ => RV.clo hn d v (z3 G φ)⟩
/-- every def keeps its promise, whatever the depth of calls -/
theorem promise {tb : Tb} {ds : List DI} {ls : List LI} {mks : List Nat} {mt : List (Addr × Addr)} (hkn : fa.keep = none) (hn0 : fa.clo = none) (hlm : tb.lm = ls.map fun l => (l.k, lamT tb l)) (hF : ∀ (i : Nat) (d : DI), dOf ds i = some d → F i = some d.fn) (hFL : ∀ (i : Nat) (d : DI), dOf ds i = some d → F (i + LB) = none)
    (hl : ∀ l ∈ ls, F l.k = some l.fn ∧ ¬ l.k < LB) (hisf : ∀ k, fa.isf k = true → ∃ d, dOf ds k = some d) (hfi : ∀ (i : Nat) (d : DI), dOf ds i = some d → fa.isf i = true)
    (hmk : ∀ (i : Nat) (d : DI), dOf ds i = some d → d.id ∈ mks → ∀ fd, FunD K d.nm d.qual (defArgs d.st) (defBody d.st) (defScope d.st) [] [] (fa.fn i) fd → ∃ cc P, fd.code = .ref cc ∧ (cc, P) ∈ mt ∧ (P, d.qual ++ ".<locals>." ++ "<lambda>") ∈ fa.tabs ∧ ∀ p ∈ fa.tabs, p.1 = P → p.2 = d.qual ++ ".<locals>." ++ "<lambda>")
    (hc : (ds.all fun d => chkD tb mks d) = true) (hu : idsOk ds = true) (hfn : tb.fn = (topD ds).map fun d => (d.id, d.nm)) (hcf : ∀ fa', (fa' = fa ∨ ∃ ci, fa' = fa.wclo ci) → ClsF K mg fa' ds tb)
    (hhf : ∀ base fa', (fa' = fa ∨ ∃ ci, fa' = fa.wclo ci) → ∀ (y : Str) (k : Nat) (b : Bool), (y, k, b) ∈ tb.hf → HotF P w K mg base fa' y k b) (hw : fa.w = w)
    (hd : ∀ (i : Nat) (d : DI), dOf ds i = some d → ∃ fd, FunD K d.nm d.qual (defArgs d.st) (defBody d.st) (defScope d.st) [] [] (fa.fn i) fd ∧ (d.cls = none → mg d.nm = some (.ref (fa.fn i))) ∧ L2.Binds K fd d.ps [])
    (hg : ∀ (k : Nat) (x : Str), tb.gl.lookup k = some x → k ≠ LK ∧ ∃ u v d, mg x = some u ∧ RelV v u ∧ G k = some d ∧ ∀ G' φ, RV K fa G' φ d v) (hb : ∀ x, x ∈ tb.bf → mg x = none) (hdc : TabsF w K mg fa tb) :
    ∀ (n : Nat) (base : Heap) (fa' : Lay) (G' : Nat → Option D), Gnd K mg ls tb mt fa G base fa' G' → Pr P w K mg ds F base fa' G' n := by
  intro n
  induction n using Nat.strongRecOn with
  | ind n ih =>
    intro base fa' G' gr
    have gr' := gr
    obtain ⟨hK, gr⟩ := gr
    have fav : fa' = fa ∨ ∃ ci, fa' = fa.wclo ci := by
      rcases gr with ⟨e, _, _⟩ | ⟨ci, _, _, _, _, e, _⟩
      · exact .inl e
      · exact .inr ⟨ci, e⟩
    have hkn' : fa'.keep = none := by rcases fav with rfl | ⟨ci, rfl⟩ <;> exact hkn
    have efn : fa'.fn = fa.fn := by rcases fav with rfl | ⟨ci, rfl⟩ <;> rfl
    have eis : fa'.isf = fa.isf := by rcases fav with rfl | ⟨ci, rfl⟩ <;> rfl
    have hw' : fa'.w = w := by rcases fav with rfl | ⟨ci, rfl⟩ <;> exact hw
    have hdc' : TabsF w K mg fa' tb := by
      rcases fav with rfl | ⟨ci, rfl⟩
      · exact hdc
      · exact hdc.clo hn0
    have hg' : ∀ (k : Nat) (x : Str), tb.gl.lookup k = some x → ∃ u v d, mg x = some u ∧ RelV v u ∧ G' k = some d ∧ ∀ G' φ, RV K fa' G' φ d v := fun k x h => by
      obtain ⟨h0, u, v, d, h1, h2, h3, h4⟩ := hg k x h
      refine ⟨u, v, d, h1, h2, ?_, fun G2 φ => ?_⟩
      · rcases gr with ⟨_, e, _⟩ | ⟨_, _, _, _, _, _, e, _⟩
        · rw [e]; exact h3
        · rw [e]; unfold noLam; rw [if_neg h0]; exact h3
      · rcases fav with rfl | ⟨ci, rfl⟩
        · exact h4 G2 φ
        · exact RV.clo hn0 _ _ (h4 G2 φ)
    have hcf' := hcf fa' fav
    cases n with
    | zero =>
      refine ⟨fun i d h => ?_, fun ci hci hk => ?_⟩
      · obtain ⟨fd, h1, h2, h3⟩ := hd i d h
        rw [efn]
        exact ⟨fd, h1, fn_zero, h2, h3⟩
      · rcases gr with ⟨e, _, _⟩ | ⟨ci', li, params, body, scope, e, _, hm, hok, hk', cl, pm, ctv, ho, hcap⟩
        · rw [e, hn0] at hci; cases hci
        · rw [e] at hci
          cases hci
          obtain ⟨hok, _⟩ := and1 hok
          obtain ⟨hp, hN⟩ := and1 hok
          exact ⟨PySem.W.kla_fn "<lambda>" ci.q params body scope cl pm (.ref ci.c) ctv, li.ps, fnv_zero, par_bind hp (List.nodup_append.mp (lamN_by hN).nd).1, ⟨_, _, _, _, ho⟩⟩
    | succ n =>
      have again := ih n (Nat.lt_succ_self n) base fa' G' gr'
      have cal : ∀ (f : Nat) (x : Str), tb.fn.lookup f = some x → ∃ fd ps, FnOk P w K mg base (L2.CX P w) (2 * n) (fa'.fn f) fd ps (spN K fa' G' F n f) ∧ mg x = some (.ref (fa'.fn f)) ∧ PySem.W.keepIn K (.ref (fa'.fn f)) = true ∧ L2.Binds K fd ps [] := fun f x hfx => by
        rw [hfn] at hfx
        obtain ⟨d', hd', rfl, hcl⟩ := lookup_dOf hu hfx
        obtain ⟨fd', q1, q2, q3, q4⟩ := again.df f d' hd'
        exact ⟨fd', d'.ps, q2, q3 hcl, q1.kp, q4⟩
      have isf : ∀ (f : Nat) (x : Str), tb.fn.lookup f = some x → fa'.isf f = true := fun f x hfx => by
        rw [hfn] at hfx
        obtain ⟨d', hd', _⟩ := lookup_dOf hu hfx
        rw [eis]
        exact hfi f d' hd'
      have cls : ∀ (k : Nat) (x : Str) (i : Nat), (k, x, i) ∈ tb.cl → ∃ f fd ps, Mk K (fa'.cl k) f ∧ FnOk P w K mg base (L2.CX P w) (2 * n) f fd ps (spN K fa' G' F n i) ∧ mg x = some (.ref (fa'.cl k)) ∧ L2.Binds K fd ps [] := fun k x i' hk => by
        obtain ⟨d', hd', hm, hx⟩ := hcf'.cl k x i' hk
        obtain ⟨fd', q1, q2, q3, q4⟩ := again.df i' d' hd'
        exact ⟨_, fd', d'.ps, hm, q2, hx, q4⟩
      have met : ∀ (k : Nat) (y : Str) (i : Nat), (k, y, i) ∈ tb.me → ∃ f fd ps, Cls K (fa'.cl k) ∧ Meth K (fa'.cl k) y f ∧ FnOk P w K mg base (L2.CX P w) (2 * n) f fd ps (spN K fa' G' F n i) ∧ L2.Binds K fd ps [] ∧ ∀ a, fa'.okf a = true → fa'.fld a ≠ y := fun k y i' hk => by
        obtain ⟨d', hd', hc, hm, hy⟩ := hcf'.me k y i' hk
        obtain ⟨fd', q1, q2, q3, q4⟩ := again.df i' d' hd'
        exact ⟨_, fd', d'.ps, hc, hm, q2, q4, hy⟩
      have clv : ∀ (k : Nat) (a : Addr), LiveV fa' k a → ∃ fd ps, FnOk P w K mg base (L2.CX P w) (2 * n) a fd ps (spV K fa' G' F n k a) ∧ L2.Binds K fd ps [] ∧ PySem.W.FnAt a base := fun k a hlv => by
        rcases hlv with ⟨hk, hs, rfl⟩ | ⟨hk, ci, hci, rfl, rfl⟩
        · rw [eis] at hs
          obtain ⟨d', hd'⟩ := hisf k hs
          obtain ⟨fd', q1, q2, q3, q4⟩ := again.df k d' hd'
          obtain ⟨oc, od, dV, kV, doc, pm, an, cdv, ct, osl, e1, lk, _⟩ := q1.ex
          refine ⟨fd', d'.ps, q2.imp fun vs H Q E h => ?_, q4, ⟨_, _, _, _, hK _ _ lk⟩⟩
          obtain ⟨φ, μ, ds', l, A, r, rl, q⟩ := h
          unfold RV at rl
          rw [if_pos hk] at rl
          obtain ⟨rfl, _⟩ := rl
          rw [List.append_nil] at q
          exact ⟨φ, μ, ds', A, r, q⟩
        · exact again.cl ci hci hk
      have dct : ∀ (nm : Nat) (y : Str) (tab : List (Txt × D)), (nm, y, tab) ∈ tb.dc → ∃ a, mg y = some (.ref a) ∧ (∃ es n, KDict K w a es n) ∧ ∀ s : Txt, ∃ r, PySem.W.nsIn K a (sOf s) = some r ∧ match tab.lookup s with
        | some d => ∃ u v, r = some u ∧ RelV v u ∧ ∀ G φ, RV K fa' G φ d v
        | none => r = none := hdc'
      have exc : ∀ (k : Nat) (y : Str), (k, y) ∈ tb.ec → PySem.W.excIn K (fa'.cl k) He.veBase "ValueError.__new__" = true ∧ mg y = some (.ref (fa'.cl k)) ∧ PySem.W.keepIn K (.ref (fa'.cl k)) = true ∧ PySem.W.subIn K (.ref (fa'.cl k)) (.type "BaseException") = some true ∧ PySem.W.typeIn K (.ref (fa'.cl k)) = some (.type "type") := hcf'.ec
      have hhf' := hhf base fa' fav
      refine ⟨fun i d h => ?_, fun ci hci hk => ?_⟩
      · obtain ⟨fd, h1, h2, h3⟩ := hd i d h
        have hx := List.all_eq_true.mp hc d (dOf_mem h)
        have he : F i = some d.fn := hF i d h
        unfold chkD at hx
        obtain ⟨hx, hbody⟩ := and1 hx
        obtain ⟨hx, hN⟩ := and1 hx
        obtain ⟨hx, hp⟩ := and1 hx
        have S := C8.fnScope_by hx
        have h1' : FunD K d.nm d.qual (defArgs d.st) (defBody d.st) (defScope d.st) [] [] (fa'.fn i) fd := by rw [efn]; exact h1
        refine ⟨fd, h1', fn_evC (lv := 2 * n + 1) hkn' h1' S he (of_decide_eq_true hp) (of_decide_eq_true hN) fun A outer s H E hr => ?_, by rw [efn]; exact h2, h3⟩
        have hlam : ∀ (k : Nat) (t : LamT), (tb.of mks d.id).lm.lookup k = some t → ∀ (f : Nat) (y : Str) (params : Arguments) (body : Expr) (scope : Scope), (tb.of mks d.id).fn.lookup f = some y → t.ok params body scope = true → LamN scope t.ps t.ys ∧ defaultsOf params (envOfC d.qual (defScope d.st) s.heap.objs.size (fa'.fn i) fd.code) = ([], []) ∧
            ((∀ ds μ, run G' F n (f + LB) ds μ = .no) ∨ ∃ m, (∀ ds μ, run G' F n (f + LB) ds μ = within μ (run (noLam G') F m f ds μ)) ∧
              MkL (cxOf (L2.CX P w) P w K mg base d.N d.qual (defScope d.st) (fa'.fn i) fd.code A outer s H E) fa' G' F m f k params body scope t.ys (2 * n)) := fun k t hk f y params body scope hf hok => by
          by_cases hmks : d.id ∈ mks
          · have etb : tb.of mks d.id = tb := if_pos hmks
            rw [etb] at hk hf
            rw [hlm] at hk
            obtain ⟨l, hlm', rfl, rfl⟩ : ∃ l ∈ ls, l.k = k ∧ t = lamT tb l := by
              clear hlm hl ih gr gr'
              induction ls with
              | nil => cases hk
              | cons l r ihl =>
                rw [List.map_cons, List.lookup_cons] at hk
                cases hkk : k == l.k with
                | true =>
                  rw [hkk] at hk
                  exact ⟨l, List.mem_cons_self, (eq_of_beq hkk).symm, (Option.some.inj hk).symm⟩
                | false =>
                  rw [hkk] at hk
                  obtain ⟨l', z1, z2⟩ := ihl hk
                  exact ⟨l', List.mem_cons_of_mem _ z1, z2⟩
            have hok' := hok
            obtain ⟨hok, hbd⟩ := and1 hok
            obtain ⟨hpar, hnm⟩ := and1 hok
            refine ⟨lamN_by hnm, par_def hpar, ?_⟩
            rw [hfn] at hf
            obtain ⟨df, hdf, _, _⟩ := lookup_dOf hu hf
            have hno : F (f + LB) = none := hFL f df hdf
            cases n with
            | zero => exact .inl fun _ _ => rfl
            | succ m =>
              rcases gr with ⟨e1, e2, hT⟩ | ⟨ci, _, _, _, _, _, e2, _⟩
              · by_cases hLK : (G' LK).isSome = true
                · refine .inr ⟨m, fun ds μ => ?_, ⟨by rw [e1]; exact hn0, fun _ => rfl, ?_, fun base2 ci hK2 hcl => ?_⟩⟩
                  · conv => lhs; unfold run
                    rw [hno]
                    dsimp only
                    rw [if_pos ⟨Nat.le_add_left _ _, hLK⟩, Nat.add_sub_cancel]
                  · obtain ⟨cc, P', z1, z2, z3, z4⟩ := hmk i d h hmks fd h1
                    refine ⟨cc, P', z1, hT _ z2, ?_, ?_⟩
                    · rw [e1]; exact z3
                    · rw [e1]; exact z4
                  · have pr := ih m (by omega) base2 (fa.wclo ci) (noLam G) ⟨hK2, .inr ⟨ci, l, params, body, scope, rfl, rfl, hlm', hok', hcl⟩⟩
                    obtain ⟨fd2, _, q2, _, q4⟩ := pr.df f df hdf
                    rw [e1, e2]
                    exact ⟨fd2, df.ps, q2.mono (by omega), q4⟩
                · refine .inl fun ds μ => ?_
                  unfold run
                  rw [hno]
                  dsimp only
                  rw [if_neg fun z => hLK z.2]
              · refine .inl fun ds μ => ?_
                unfold run
                rw [hno]
                dsimp only
                rw [if_neg fun z => ?_]
                have z := z.2
                rw [e2] at z
                unfold noLam at z
                rw [if_pos rfl] at z
                cases z
          · have etb : tb.of mks d.id = tb.noLm := if_neg hmks
            rw [etb] at hk
            cases hk
        have tbe : (tb.of mks d.id) = tb ∨ (tb.of mks d.id) = tb.noLm := by
          unfold Tb.of
          split
          · exact .inl rfl
          · exact .inr rfl
        have good : ∀ tb', (tb' = tb ∨ tb' = tb.noLm) → (∀ (k : Nat) (t : LamT), tb'.lm.lookup k = some t → ∀ (f : Nat) (y : Str) (params : Arguments) (body : Expr) (scope : Scope), tb'.fn.lookup f = some y → t.ok params body scope = true → LamN scope t.ps t.ys ∧ defaultsOf params (envOfC d.qual (defScope d.st) s.heap.objs.size (fa'.fn i) fd.code) = ([], []) ∧
            ((∀ ds μ, run G' F n (f + LB) ds μ = .no) ∨ ∃ m, (∀ ds μ, run G' F n (f + LB) ds μ = within μ (run (noLam G') F m f ds μ)) ∧
              MkL (cxOf (L2.CX P w) P w K mg base d.N d.qual (defScope d.st) (fa'.fn i) fd.code A outer s H E) fa' G' F m f k params body scope t.ys (2 * n))) →
            GoodX G' F n fa' (fun _ x H' => E (.ref (fa'.cl x.cls)) none H') ⟨d.N, defScope d.st, none, tb', none⟩ (cxOf (L2.CX P w) P w K mg base d.N d.qual (defScope d.st) (fa'.fn i) fd.code A outer s H E) := fun tb' ht hl' => by
          have key : tb'.fn = tb.fn ∧ tb'.gl = tb.gl ∧ tb'.bf = tb.bf ∧ tb'.cl = tb.cl ∧ tb'.fl = tb.fl ∧ tb'.me = tb.me ∧ tb'.ec = tb.ec ∧ tb'.em = tb.em ∧ tb'.is = tb.is ∧ tb'.ve = tb.ve ∧ tb'.hc = tb.hc ∧ tb'.hf = tb.hf ∧ tb'.dc = tb.dc := by
            rcases ht with rfl | rfl <;> exact ⟨rfl, rfl, rfl, rfl, rfl, rfl, rfl, rfl, rfl, rfl, rfl, rfl, rfl⟩
          obtain ⟨k1, k2, k3, k4, k5, k6, k7, k8, k9, k10, k11, k12, k13⟩ := key
          exact ⟨hw', rfl, rfl, fun _ _ => rfl, fun _ => ⟨hkn', rfl, hr.hd, L2H.roomH_of hr⟩, (fun _ _ _ e => by cases e), S.nd, (L2H.roomH_of hr).mono (by omega), passes_of rfl, ⟨_, L2.takes_of rfl rfl rfl rfl, fun _ _ _ h => h⟩, fun k x q => hg' k x (k2 ▸ q), fun x q => hb x (k3 ▸ q), fun f x q => ⟨rfl, cal f x (k1 ▸ q)⟩, fun k x i' q => ⟨rfl, cls k x i' (k4 ▸ q)⟩, fun k a y q => hcf'.fl k a y (k5 ▸ q), fun k y i' q => ⟨rfl, met k y i' (k6 ▸ q)⟩,
            fun k y q => ⟨rfl, (let ⟨e1, e2, e3, e4, e5⟩ := exc k y (k7 ▸ q); ⟨e1, e2, e3, e4, e5⟩)⟩, fun y k b q => hcf'.em y k b (k8 ▸ q), fun y k b q => hcf'.is y k b (k9 ▸ q), fun k b q => hcf'.ve k b (k10 ▸ q), fun k q => hcf'.hc k (k11 ▸ q), fun y k b q => ⟨(L2H.roomH_of hr).mono (by omega), hhf' y k b (k12 ▸ q)⟩,
            fun f x q => isf f x (k1 ▸ q), fun _ => clv, fun nm y tab q => (let ⟨a, z1, z2, z3⟩ := dct nm y tab (k13 ▸ q); ⟨a, z1, z2, z3⟩), fun k t q => ⟨rfl, fun f y p b sc q1 q2 => hl' k t q f y p b sc q1 q2⟩⟩
        exact chksts_ok d.fn.body fa' ⟨d.N, defScope d.st, none, tb.of mks d.id, none⟩ S.kind _ _ (good _ tbe hlam) ⟨rfl, rfl⟩ _ hbody
      · rcases gr with ⟨e, _, _⟩ | ⟨ci', li, params, body, scope, e, _, hm, hok, hk', cl, pm, ctv, ho, hcap⟩
        · rw [e, hn0] at hci; cases hci
        · have hci' := hci
          rw [e] at hci
          cases hci
          obtain ⟨hok, hbd⟩ := and1 hok
          obtain ⟨hp, hN⟩ := and1 hok
          have L := lamN_by hN
          have hFk := (hl li hm).1
          rw [← hk'] at hFk
          refine ⟨_, li.ps, lam_ev (lv := 2 * n + 1) hci' hk hFk hkn' ho L hcap fun A outer s H E hr => ?_, par_bind hp (List.nodup_append.mp L.nd).1, ⟨_, _, _, _, ho⟩⟩
          have good : GoodX G' F n fa' (fun _ x H' => E (.ref (fa'.cl x.cls)) none H') ⟨li.ps ++ li.ys, scope, some scope, tb.noLm, none⟩ (lcx P w K mg base (li.ps ++ li.ys) ci.q scope ci.a ci.c cl A outer s H E) := by
            refine ⟨hw', rfl, rfl, fun x q => ?_, fun _ => ⟨hkn', rfl, hr.hd, L2H.roomH_of hr⟩, (fun _ _ _ e => by cases e), L.nd, (L2H.roomH_of hr).mono (by omega), passes_of rfl, ⟨_, L2.takes_of rfl rfl rfl rfl, fun _ _ _ h => h⟩, hg', hb, fun f x q => ⟨rfl, cal f x q⟩, fun k x i' q => ⟨rfl, cls k x i' q⟩, hcf'.fl, fun k y i' q => ⟨rfl, met k y i' q⟩,
            fun k y q => ⟨rfl, (let ⟨e1, e2, e3, e4, e5⟩ := exc k y q; ⟨e1, e2, e3, e4, e5⟩)⟩, hcf'.em, hcf'.is, hcf'.ve, hcf'.hc, fun y k b q => ⟨(L2H.roomH_of hr).mono (by omega), hhf' y k b q⟩,
            isf, fun _ => clv, fun nm y tab q => (let ⟨a, z1, z2, z3⟩ := dct nm y tab q; ⟨a, z1, z2, z3⟩), fun k t q => (by cases q)⟩
            have q : (scope.names.lookup x == some NameKind.cell) = true := q
            exact absurd rfl (L.nocell _ (PySem.mem_of_lookup (eq_of_beq q)))
          exact (chk_ok li.e _ _ _ good body).1 hbd
end
end Ev

set_option Elab.async false
set_option linter.all false
set_option maxRecDepth 100000
set_option maxHeartbeats 1000000
/-! From the evaluator's answer to the row's. -/
namespace Ev
open PySem PySem.Spec PyProof.Rows L2
/-- every parameter is given -/
def BindE (d : DI) : Prop := ∀ (kV doc pm : Value) (an : Option Addr) (cdv ct : Value) (us : List Value), us.length = d.ps.length → bindArgs (PySem.W.fnOf d.nm d.qual (defArgs d.st) (defBody d.st) (defScope d.st) .none kV doc pm an cdv ct) ⟨us, []⟩ = pure (d.ps.zip us)
def BindAll : List DI → Prop
  | [] => True
  | d :: ds => BindE d ∧ BindAll ds
theorem BindAll.get : ∀ {ds : List DI} {d : DI}, BindAll ds → d ∈ ds → BindE d
  | _ :: _, _, h, e => by
    rcases List.mem_cons.mp e with rfl | e
    · exact h.1
    · exact BindAll.get h.2 e
def Cn.ok : Cn → Bool
  | .str _ _ s => okT s
  | .tup _ _ l => l.all okT && decide (l.length < 1000)
  | _ => true
def cOf (cs : List Cn) (k : Nat) : Option D := (cs.find? fun c => k == c.id).map Cn.d
theorem lookup_cOf : ∀ {cs : List Cn} {k : Nat} {x : Str}, (cs.map fun c => (c.id, c.nm)).lookup k = some x → ∃ c, c ∈ cs ∧ c.nm = x ∧ cOf cs k = some c.d
  | [], _, _, h => by cases h
  | c :: cs, k, x, h => by
    rw [List.map_cons, List.lookup_cons] at h
    unfold cOf
    rw [List.find?_cons]
    cases hk : k == c.id with
    | true =>
      rw [hk] at h
      exact ⟨c, List.mem_cons_self, Option.some.inj h, rfl⟩
    | false =>
      rw [hk] at h
      obtain ⟨c', h1, h2, h3⟩ := lookup_cOf h
      exact ⟨c', List.mem_cons_of_mem _ h1, h2, h3⟩
theorem txs_ok : ∀ {l : List Txt} {us : List Value}, txsB l us = true → Vals (l.map fun s => V.str (sOf s)) us
  | [], [], _ => .nil
  | [], _ :: _, h => by cases h
  | _ :: _, [], h => by cases h
  | s :: r, u :: us, h => by
    cases u with
    | str y t =>
      obtain ⟨h1, h2⟩ := and1 (show (decide (y.cps.toList = s) && txsB r us) = true from h)
      have hx : y.cps.toList = s := of_decide_eq_true h1
      have ey : y = sOf s := by
        rw [← hx]
        cases y
        simp [sOf]
      exact .cons ⟨t, by rw [ey]⟩ (txs_ok h2)
    | _ => cases h
theorem txs_rv {K : PySem.W.Frag} {fa : Lay} {G : Hp} {φ : Ph} : ∀ {l : List Txt}, l.all okT = true → RVs K fa G φ (l.map .str) (l.map fun s => V.str (sOf s))
  | [], _ => RVs.nil
  | s :: r, h => by
    rw [List.all_cons] at h
    obtain ⟨h1, h2⟩ := and1 h
    exact RVs.cons (mk_str h1) (txs_rv h2)
/-- it all hangs together -/
def KT.ok (t : KT) (ds : List DI) : Bool :=
  (t.fld.all fun p => t.fld.all fun q => decide (p.2 = q.2 → p.1 = q.1)) && (t.cl.all fun p => decide (t.cls.lookup p.1 = some p.2.1) && decide ((dOf ds p.2.2).map (fun d => (d.nm, d.cls)) = some (("__init__" : Str), some p.2.1))) &&
  (t.fl.all fun p => decide (t.fld.lookup p.2.1 = some p.2.2)) && (t.me.all fun p => decide ((dOf ds p.2.2).map (fun d => (d.nm, d.cls)) = some (p.2.1, some (t.cn p.1))) && t.fld.all fun q => decide (q.2 ≠ p.2.1)) &&
  (t.ec.all fun p => decide (t.cls.lookup p.1 = some p.2))
theorem ent_ok {K : PySem.W.Frag} {ds : List DI} {fa : Lay} (hfn : fa.fn = faD K ds) (his : fa.isf = fun k => (dOf ds k).isSome) (s : Txt) : ∀ {tab : List (Txt × D)} {es : List DictEntry}, entB K ds tab es = true → (es.any (·.refKey)) = false ∧ (match tab.lookup s with
    | some d => ∃ e v, es.find? (·.key.isStr (sOf s)) = some e ∧ RelV v e.val ∧ ∀ G φ, RV K fa G φ d v
    | none => es.find? (·.key.isStr (sOf s)) = none)
  | [], [], _ => ⟨rfl, rfl⟩
  | [], _ :: _, h => by cases h
  | _ :: _, [], h => by cases h
  | p :: r, e :: es, h => by
    obtain ⟨k, d⟩ := p
    unfold entB at h
    obtain ⟨h, h3⟩ := and1 h
    obtain ⟨h1, h2⟩ := and1 h
    obtain ⟨q1, q2⟩ := ent_ok hfn his s h3
    obtain ⟨eh, ek, ev⟩ := e
    cases ek with
    | str x t =>
      have hx : x.cps.toList = k := of_decide_eq_true h1
      have ex : x = sOf k := by
        rw [← hx]
        cases x
        simp [sOf]
      subst ex
      refine ⟨?_, ?_⟩
      · rw [List.any_cons, q1]; rfl
      · rw [List.lookup_cons, List.find?_cons]
        cases hk : s == k with
        | true =>
          have := eq_of_beq hk
          subst this
          have : (Value.str (sOf s) t).isStr (sOf s) = true := by simp [Value.isStr]
          rw [this]
          dsimp only
          refine ⟨⟨eh, .str (sOf s) t, ev⟩, ?_⟩
          cases d with
          | int i =>
            cases ev with
            | int j t2 =>
              have : i = j := of_decide_eq_true h2
              subst this
              exact ⟨.int i, rfl, ⟨_, rfl⟩, fun _ _ => mk_int⟩
            | _ => cases h2
          | fn n l =>
            cases l with
            | nil =>
              cases ev with
              | ref a =>
                obtain ⟨h2, h4⟩ := and1 h2
                obtain ⟨h2, h5⟩ := and1 h2
                refine ⟨.ref a, rfl, rfl, fun _ _ => ?_⟩
                unfold RV
                rw [if_pos (of_decide_eq_true h2)]
                exact ⟨rfl, by rw [his]; exact h5, by rw [hfn, ← (of_decide_eq_true h4 : a = faD K ds n)]⟩
              | _ => cases h2
            | cons _ _ => cases ev <;> cases h2
          | _ => cases ev <;> cases h2
        | false =>
          have : (Value.str (sOf k) t).isStr (sOf s) = false := by
            have hne : ¬ sOf k = sOf s := fun e => by
              rw [sOf_inj] at e
              subst e
              simp at hk
            simp [Value.isStr, hne]
          rw [this]
          exact q2
    | _ => cases h1
theorem look_mem {α : Type} : ∀ {l : List (Nat × α)} {k : Nat} {x : α}, l.lookup k = some x → (k, x) ∈ l
  | [], _, _, h => by cases h
  | (j, y) :: r, k, x, h => by
    rw [List.lookup_cons] at h
    cases hk : k == j with
    | true =>
      rw [hk] at h
      rw [eq_of_beq hk, Option.some.inj h]
      exact List.mem_cons_self
    | false =>
      rw [hk] at h
      exact List.mem_cons_of_mem _ (look_mem h)
def lay (w : World) (K : PySem.W.Frag) (ds : List DI) (t : KT) (x : XT) (h : t.ok ds = true) : Lay where
  w := w
  clo := none
  tabs := x.mks.map fun i => ((He.cT K (atOf ds i)).2, qOf ds i ++ ".<locals>." ++ "<lambda>")
  keep := none
  isf := fun k => (dOf ds k).isSome
  fn := faD K ds
  cl := fun k => He.ga K (t.cn k)
  fld := t.fn
  okf := fun a => (t.fld.lookup a).isSome
  inj := fun a b ha hb e => by
    unfold KT.ok at h
    obtain ⟨h, _⟩ := and1 h
    obtain ⟨h, _⟩ := and1 h
    obtain ⟨h, _⟩ := and1 h
    obtain ⟨h, _⟩ := and1 h
    obtain ⟨x, hx⟩ := Option.isSome_iff_exists.mp ha
    obtain ⟨y, hy⟩ := Option.isSome_iff_exists.mp hb
    unfold KT.fn at e
    rw [hx, hy] at e
    exact of_decide_eq_true (List.all_eq_true.mp (List.all_eq_true.mp h _ (look_mem hx)) _ (look_mem hy)) e
def tb0 (ds : List DI) (hs : List HD) (cs : List Cn) (bf : List Str) (t : KT) (x : XT) : Tb := ⟨(topD ds).map fun d => (d.id, d.nm), cs.map fun c => (c.id, c.nm), bf, t.cl, t.fl, t.me, t.ec, t.em, t.is, t.ve, t.hc, hs.map fun h => (h.d.nm, h.k, h.b), x.dc, []⟩
def tbOf (ds : List DI) (hs : List HD) (cs : List Cn) (bf : List Str) (t : KT) (x : XT) : Tb := { tb0 ds hs cs bf t x with lm := x.ls.map fun l => (l.k, lamT (tb0 ds hs cs bf t x) l) }
def chkAll (ds : List DI) (hs : List HD) (cs : List Cn) (bf : List Str) (t : KT) (x : XT) : Bool := (ds.all fun d => chkD (tbOf ds hs cs bf t x) x.mks d) && (hs.all fun h => chkH (tbOf ds hs cs bf t x) h) && idsOk ds &&
  (cs.all fun c => decide (c.id ≠ LK)) && (ds.all fun d => decide (d.id < LB) && x.ls.all fun l => decide (d.id + LB ≠ l.k)) && (x.ls.all fun l => decide (¬ l.k < LB)) && decide ((x.ls.map LI.k).Nodup)
/-- the constants, and whether a lambda may be made -/
def gOf (cs : List Cn) (x : XT) (k : Nat) : Option D := if k = LK then (if x.ls.isEmpty then none else some .non) else cOf cs k
section
variable {P : Program} {w : World} {K : PySem.W.Frag} {h : Heap} {mg : Str → Option Value} {ds : List DI} {hs : List HD} {cs : List Cn} {bf : List Str} {t : KT} {xt : XT}
theorem fact_of {f : He.Fa} (c : He.SaysD (faOf ds hs cs bf t xt) (ddOf ds hs) K) (hf : f ∈ faOf ds hs cs bf t xt) : f.ok K = true := by
  obtain ⟨i, hi⟩ := List.mem_iff_getElem?.mp hf
  exact c.fact i hi
theorem factK {f : He.Fa} (c : He.SaysD (faOf ds hs cs bf t xt) (ddOf ds hs) K) (hf : f ∈ t.facts) : f.ok K = true :=
  fact_of c (List.mem_append_right _ (List.mem_append_right _ (List.mem_append_right _ (List.mem_append_right _ (List.mem_append_left _ hf)))))
theorem find_nd : ∀ {ls : List LI} {l : LI}, (ls.map LI.k).Nodup → l ∈ ls → ls.find? (fun m => l.k == m.k) = some l
  | [], _, _, h => by cases h
  | m :: r, l, nd, h => by
    rw [List.map_cons, List.nodup_cons] at nd
    rw [List.find?_cons]
    rcases List.mem_cons.mp h with e | h'
    · subst e
      rw [show (l.k == l.k) = true from beq_self_eq_true _]
    · have : (l.k == m.k) = false := beq_eq_false_iff_ne.mpr fun e => nd.1 (by rw [← e]; exact List.mem_map.mpr ⟨l, h', rfl⟩)
      rw [this]
      exact find_nd nd.2 h'
theorem dOf_id {i : Nat} {d : DI} (h : dOf ds i = some d) : d.id = i := by
  have := List.find?_some h
  simpa using (eq_of_beq this).symm
theorem dOf_at {i : Nat} {x y : Str} (h : (dOf ds i).map (fun d => (d.nm, d.cls)) = some (y, some x)) : ∃ d, dOf ds i = some d ∧ faD K ds i = He.ma K (He.ga K x) y := by
  cases e : dOf ds i with
  | none => rw [e] at h; cases h
  | some d =>
    rw [e] at h
    have h := Option.some.inj h
    have h1 : d.nm = y := congrArg Prod.fst h
    have h2 : d.cls = some x := congrArg Prod.snd h
    refine ⟨d, rfl, ?_⟩
    unfold faD
    rw [e]
    show He.fAd K d.at_ = _
    unfold DI.at_
    rw [h2, h1]
    rfl
/-- the classes' facts -/
theorem cls_facts (hk : t.ok ds = true) (hex : t.exB K = true) (X : K.In h) (Gn : h.Ns mainGlobals mg) (c : He.SaysD (faOf ds hs cs bf t xt) (ddOf ds hs) K) : ClsF K mg (lay w K ds t xt hk) ds (tbOf ds hs cs bf t xt) := by
  have hk' := hk
  unfold KT.ok at hk'
  obtain ⟨h1, h5⟩ := and1 hk'
  obtain ⟨h1, h4⟩ := and1 h1
  obtain ⟨h1, h3⟩ := and1 h1
  obtain ⟨h1, h2⟩ := and1 h1
  have hex' := hex
  unfold KT.exB at hex'
  obtain ⟨x1, x2⟩ := and1 hex'
  obtain ⟨x2, x3⟩ := and1 x2
  refine ⟨fun k x i hm => ?_, fun k a y hm => ?_, fun k y i hm => ?_, fun k y hm => ?_, fun y k b hm => ?_, fun y k b hm => ?_, fun k b hm => of_decide_eq_true (List.all_eq_true.mp x3 (k, b) hm), fun k hm => excCB_ok (List.all_eq_true.mp x1 k hm)⟩
  · obtain ⟨e1, e2⟩ := and1 (List.all_eq_true.mp h2 _ (show (k, x, i) ∈ t.cl from hm))
    obtain ⟨d, hd, e3⟩ := dOf_at (K := K) (of_decide_eq_true e2)
    have e1 : t.cls.lookup k = some x := of_decide_eq_true e1
    have ec : (lay w K ds t xt hk).cl k = He.ga K x := by
      show He.ga K (t.cn k) = _
      unfold KT.cn
      rw [e1]
      rfl
    rw [ec]
    have f1 := factK (f := .mkr x) c (by unfold KT.facts; simp only [List.mem_append, List.mem_map]; exact .inr (.inl ⟨_, hm, rfl⟩))
    have f2 := factK (f := .glo x) c (by unfold KT.facts; simp only [List.mem_append, List.mem_map]; exact .inl ⟨_, hm, rfl⟩)
    refine ⟨d, hd, ?_, He.glo_ok X Gn f2⟩
    show Mk K (He.ga K x) (faD K ds i)
    rw [e3]
    exact He.mkr_ok f1
  · have e1 : t.fld.lookup a = some y := of_decide_eq_true (List.all_eq_true.mp h3 _ (show (k, a, y) ∈ t.fl from hm))
    have ef : (lay w K ds t xt hk).fld a = y := by
      show t.fn a = _
      unfold KT.fn
      rw [e1]
      rfl
    have f1 := factK (f := .cls (t.cn k)) c (by unfold KT.facts; simp only [List.mem_append, List.mem_map]; exact .inr (.inr (.inl ⟨_, hm, rfl⟩)))
    have f2 := factK (f := .noat (t.cn k) y) c (by unfold KT.facts; simp only [List.mem_append, List.mem_map]; exact .inr (.inr (.inr (.inl ⟨_, hm, rfl⟩))))
    exact ⟨He.cls_ok f1, by rw [ef]; exact He.noat_ok f2, by show (t.fld.lookup a).isSome = true; rw [e1]; rfl, ef⟩
  · obtain ⟨e1, e2⟩ := and1 (List.all_eq_true.mp h4 _ (show (k, y, i) ∈ t.me from hm))
    obtain ⟨d, hd, e3⟩ := dOf_at (K := K) (of_decide_eq_true e1)
    have f1 := factK (f := .cls (t.cn k)) c (by unfold KT.facts; simp only [List.mem_append, List.mem_map]; exact .inr (.inr (.inr (.inr (.inl ⟨_, hm, rfl⟩)))))
    have f2 := factK (f := .meth (t.cn k) y) c (by unfold KT.facts; simp only [List.mem_append, List.mem_map]; exact .inr (.inr (.inr (.inr (.inr (.inl ⟨_, hm, rfl⟩))))))
    refine ⟨d, hd, He.cls_ok f1, ?_, fun a ha e => ?_⟩
    · show Meth K (He.ga K (t.cn k)) y (faD K ds i)
      rw [e3]
      exact He.meth_ok f2
    · obtain ⟨z, hz⟩ := Option.isSome_iff_exists.mp (show (t.fld.lookup a).isSome = true from ha)
      have e : t.fn a = y := e
      unfold KT.fn at e
      rw [hz] at e
      exact of_decide_eq_true (List.all_eq_true.mp e2 _ (look_mem hz)) e
  · have e1 : t.cls.lookup k = some y := of_decide_eq_true (List.all_eq_true.mp h5 _ (show (k, y) ∈ t.ec from hm))
    have ec : (lay w K ds t xt hk).cl k = He.ga K y := by
      show He.ga K (t.cn k) = _
      unfold KT.cn
      rw [e1]
      rfl
    rw [ec]
    have f1 := factK (f := .glo y) c (by unfold KT.facts; simp only [List.mem_append, List.mem_map]; exact .inr (.inr (.inr (.inr (.inr (.inr (.inl ⟨_, hm, rfl⟩)))))))
    have f2 := factK (f := .exc y) c (by unfold KT.facts; simp only [List.mem_append, List.mem_map]; exact .inr (.inr (.inr (.inr (.inr (.inr (.inr (.inl ⟨_, hm, rfl⟩))))))))
    obtain ⟨q1, q2, q3, q4⟩ := He.exc_ok f2
    exact ⟨q1, He.glo_ok X Gn f1, q2, q3, q4⟩
  · have f1 := factK (f := .glo y) c (by unfold KT.facts; simp only [List.mem_append, List.mem_map]; exact .inr (.inr (.inr (.inr (.inr (.inr (.inr (.inr (.inl ⟨_, hm, rfl⟩)))))))))
    have f2 := factK (f := .exm (t.cn k) y b) c (by unfold KT.facts; simp only [List.mem_append, List.mem_map]; exact .inr (.inr (.inr (.inr (.inr (.inr (.inr (.inr (.inr (.inl ⟨_, hm, rfl⟩))))))))))
    exact ⟨_, He.glo_ok X Gn f1, He.exm_ok f2⟩
  · have f1 := factK (f := .glo y) c (by unfold KT.facts; simp only [List.mem_append, List.mem_map]; exact .inr (.inr (.inr (.inr (.inr (.inr (.inr (.inr (.inr (.inr ⟨_, hm, rfl⟩))))))))))
    exact ⟨_, He.glo_ok X Gn f1, of_decide_eq_true (List.all_eq_true.mp x2 (y, k, b) hm)⟩
/-- a promise that lets nothing out -/
theorem calm_fn {P : Program} {w : World} {K : PySem.W.Frag} {mg : Str → Option Value} {base : Heap} {k : Nat} {f : Addr} {fd : FuncData} {ps : List Str} {sp : Sp} (F : FnOk P w K mg base (L2.CX P w) k f fd ps sp) :
    FnOk P w K mg base L2.CX0 k f fd ps (fun vs H Q _ => sp vs H Q fun _ _ _ => False) :=
  ⟨fun vs H Q _ h => F.len vs H Q _ h, fun A outer s H args us vs Q E hr he hb hv h => codeAny_mono (F.run A outer s H args us vs Q (fun _ _ _ => False) hr he hb hv h) fun r s' q => by
    cases r with
    | ok fl => cases fl <;> exact q
    | error e =>
      obtain ⟨_, _, _, _, _, _, _, _, _, _, _, _, z⟩ := q
      exact z.elim⟩
/-- the law's promise -/
theorem ev_law {li k : Nat} {f : Addr} {dl : DI} {z : Str} (hc : chkAll ds hs cs bf t xt = true) (hk : t.ok ds = true) (hcs : cs.all Cn.ok = true) (hB : BindAll ds) (hB2 : BindAll (hs.map HD.d)) (X : K.In h) (Gn : h.Ns mainGlobals mg) (sx : He.SaysX (faOf ds hs cs bf t xt) (ddOf ds hs) xt.ts (xt.tf ds) (exA cs t xt ds) w h K)
    (hl : dOf ds li = some dl) (hlc : dl.cls = none) (hps : dl.ps = [z]) (hfa : mg dl.nm = some (.ref f)) :
    ∃ fd : FuncData, (∀ (s : Shared) (v : Value), BindsTo s fd ⟨[v], []⟩ [(z, v)]) ∧ ∀ base : Heap, K.In base → base.Ns mainGlobals mg → (∀ p ∈ (xt.tf ds).map (He.cT K), LamX.TabB base mg p.1 p.2) → FnOk P w K mg base L2.CX0 (2 * k) f fd [z] (fun vs H Q _ => spN K (lay w K ds t xt hk) (gOf cs xt) (fnOfL ds xt.ls) k li vs H Q fun _ _ _ => False) := by
  have c := sx.t.d
  obtain ⟨hex, hcx⟩ := and1 (show (t.exB K && xt.exB ds K && cs.all (Cn.exB K)) = true from sx.more)
  obtain ⟨hex, hxx⟩ := and1 hex
  obtain ⟨hxd, hxm⟩ := and1 (show ((xt.dc.all fun q => dctB K ds (He.ga K q.2.1) q.2.2) && xt.mks.all fun i => xt.mks.all fun j => decide (i = j) || decide ((He.cT K (atOf ds i)).2 ≠ (He.cT K (atOf ds j)).2)) = true from hxx)
  obtain ⟨hc, hnd⟩ := and1 hc
  obtain ⟨hc, hlb⟩ := and1 hc
  obtain ⟨hc, hdl⟩ := and1 hc
  obtain ⟨hc, hcl⟩ := and1 hc
  obtain ⟨hc, hu⟩ := and1 hc
  obtain ⟨hc, hhs⟩ := and1 hc
  have hid : ∀ (i : Nat) (d : DI), dOf ds i = some d → i < LB ∧ ∀ l ∈ xt.ls, i + LB ≠ l.k := fun i d hi => by
    obtain ⟨h1, h2⟩ := and1 (List.all_eq_true.mp hdl d (dOf_mem hi))
    rw [dOf_id hi] at h1 h2
    exact ⟨of_decide_eq_true h1, fun l hl => of_decide_eq_true (List.all_eq_true.mp h2 l hl)⟩
  have hd : ∀ (i : Nat) (d : DI), dOf ds i = some d → ∃ fd, FunD K d.nm d.qual (defArgs d.st) (defBody d.st) (defScope d.st) [] [] ((lay w K ds t xt hk).fn i) fd ∧ (d.cls = none → mg d.nm = some (.ref ((lay w K ds t xt hk).fn i))) ∧ L2.Binds K fd d.ps [] := fun i d hi => by
    have hm := dOf_mem hi
    obtain ⟨fd, Fu⟩ := c.defs (d := d.dd) (List.mem_map.mpr ⟨d, List.mem_append_left _ hm, rfl⟩)
    have e : (lay w K ds t xt hk).fn i = He.fAd K d.at_ := by show faD K ds i = _; unfold faD; rw [hi]
    have Fu' : FunD K d.nm d.qual (defArgs d.st) (defBody d.st) (defScope d.st) [] [] ((lay w K ds t xt hk).fn i) fd := by rw [e]; exact Fu
    refine ⟨fd, Fu', fun hn => ?_, Fu'.bindsN (hB.get hm)⟩
    rw [e]
    unfold DI.at_
    rw [hn]
    exact He.glo_ok X Gn (fact_of c (List.mem_append_left _ (List.mem_map.mpr ⟨d, List.mem_filter.mpr ⟨hm, by rw [hn]; rfl⟩, rfl⟩)))
  have hg : ∀ (k : Nat) (y : Str), (tbOf ds hs cs bf t xt).gl.lookup k = some y → k ≠ LK ∧ ∃ u v d, mg y = some u ∧ RelV v u ∧ gOf cs xt k = some d ∧ ∀ G' φ, RV K (lay w K ds t xt hk) G' φ d v := fun k y hk => by
    obtain ⟨cn, hm, rfl, hG⟩ := lookup_cOf (show (cs.map fun c => (c.id, c.nm)).lookup k = some y from hk)
    have hfact := fact_of (f := cn.fa) c (List.mem_append_right _ (List.mem_append_right _ (List.mem_append_left _ (List.mem_map.mpr ⟨cn, hm, rfl⟩))))
    have hok := List.all_eq_true.mp hcs cn hm
    have hkn : k ≠ LK := by
      have hmem := look_mem (show (cs.map fun c => (c.id, c.nm)).lookup k = some cn.nm from hk)
      obtain ⟨c', hc', e⟩ := List.mem_map.mp hmem
      have := of_decide_eq_true (List.all_eq_true.mp hcl c' hc')
      have e1 : c'.id = k := congrArg Prod.fst e
      rw [e1] at this
      exact this
    have hG' : gOf cs xt k = some cn.d := by
      unfold gOf
      rw [if_neg hkn]
      exact hG
    refine ⟨hkn, ?_⟩
    cases cn with
    | int _ y i =>
      obtain ⟨t, e⟩ := He.int_ok X Gn hfact
      exact ⟨_, .int i, _, e, ⟨t, rfl⟩, hG', fun _ _ => mk_int⟩
    | str _ y s =>
      obtain ⟨t, e⟩ := He.str_ok X Gn hfact
      exact ⟨_, .str (sOf s), _, e, ⟨t, rfl⟩, hG', fun _ _ => mk_str hok⟩
    | tup _ y l =>
      obtain ⟨hok1, hok2⟩ := and1 hok
      have hlen := of_decide_eq_true hok2
      have hx := List.all_eq_true.mp hcx _ hm
      have hx : (match K.lookup (He.ga K y) with
        | some ⟨.type c, none, .seq items _, sl⟩ => decide (c = "tuple") && sl.isEmpty && txsB l items.toList
        | _ => false) = true := hx
      split at hx
      · rename_i items n sl hlk
        obtain ⟨hx, h3⟩ := and1 hx
        obtain ⟨h1, h2⟩ := and1 hx
        have hv := txs_ok h3
        refine ⟨_, .ref (He.ga K y), _, He.glo_ok X Gn hfact, rfl, hG', fun G' φ => mk_tup (vs := l.map fun s => V.str (sOf s)) (.inr ⟨_, items, n, hlk, by rw [of_decide_eq_true h1], rfl, rfl, ?_, hv⟩) (txs_rv hok1)⟩
        have := hv.length
        rw [List.length_map] at this
        show items.size ≤ sizeLine
        have h8 : items.toList.length = items.size := by simp
        have h9 : (1000 : Nat) ≤ sizeLine := by decide
        omega
      · cases hx
  have hb : ∀ y, y ∈ (tbOf ds hs cs bf t xt).bf → mg y = none := fun y hy =>
    He.free_ok X Gn (fact_of c (List.mem_append_right _ (List.mem_append_right _ (List.mem_append_right _ (List.mem_append_left _ (List.mem_map.mpr ⟨y, hy, rfl⟩))))))
  obtain ⟨fd, Fu, hm, hbn⟩ := hd li dl hl
  have hm := hm hlc
  have ef : f = (lay w K ds t xt hk).fn li := by
    rw [hfa] at hm
    cases hm
    rfl
  subst ef
  have hA := Fu.bindsA (hB.get (dOf_mem hl))
  refine ⟨fd, fun s v => ?_, fun base hK hN hT => ?_⟩
  · have := hA s [v] (by rw [hps]; rfl)
    rw [hps] at this
    exact this
  · have hcf0 : ClsF K mg (lay w K ds t xt hk) ds (tbOf ds hs cs bf t xt) := cls_facts hk hex X Gn c
    have hcf : ∀ fa', (fa' = lay w K ds t xt hk ∨ ∃ ci, fa' = (lay w K ds t xt hk).wclo ci) → ClsF K mg fa' ds (tbOf ds hs cs bf t xt) := fun fa' e => by
      rcases e with rfl | ⟨ci, rfl⟩
      · exact hcf0
      · exact ⟨hcf0.cl, hcf0.fl, hcf0.me, hcf0.ec, hcf0.em, hcf0.is, hcf0.ve, hcf0.hc⟩
    have hhf : ∀ (base : Heap) (fa' : Lay), (fa' = lay w K ds t xt hk ∨ ∃ ci, fa' = (lay w K ds t xt hk).wclo ci) → ∀ (y : Str) (k : Nat) (b : Bool), (y, k, b) ∈ (tbOf ds hs cs bf t xt).hf → HotF P w K mg base fa' y k b := fun base fa' e => by
      refine hotFs (P := P) (w := w) (base := base) (hs := hs) (G := gOf cs xt) (by rcases e with rfl | ⟨ci, rfl⟩ <;> rfl) hhs (hcf fa' e) (by rcases e with rfl | ⟨ci, rfl⟩ <;> rfl) rfl (fun h hm => ?_) (fun k y hky => ?_) hb
      · obtain ⟨fd, Fu⟩ := c.defs (d := h.d.dd) (List.mem_map.mpr ⟨h.d, List.mem_append_right _ (List.mem_map.mpr ⟨h, hm, rfl⟩), rfl⟩)
        have hx := List.all_eq_true.mp hhs h hm
        unfold chkH at hx
        obtain ⟨hx, _⟩ := and1 hx
        obtain ⟨_, hx⟩ := and1 hx
        have hcl : h.d.cls = none := of_decide_eq_true hx
        have Fu' : FunD K h.d.nm h.d.qual (defArgs h.d.st) (defBody h.d.st) (defScope h.d.st) [] [] (He.fAd K h.d.at_) fd := Fu
        refine ⟨_, fd, Fu', ?_, Fu'.bindsN (hB2.get (List.mem_map.mpr ⟨h, hm, rfl⟩))⟩
        unfold DI.at_
        rw [hcl]
        exact He.glo_ok X Gn (fact_of c (List.mem_append_right _ (List.mem_append_left _ (List.mem_map.mpr ⟨h, hm, rfl⟩))))
      · obtain ⟨_, u, v, d, h1, h2, h3, h4⟩ := hg k y hky
        refine ⟨u, v, d, h1, h2, h3, fun G' φ => ?_⟩
        rcases e with rfl | ⟨ci, rfl⟩
        · exact h4 G' φ
        · exact RV.clo rfl _ _ (h4 G' φ)
    have hdc : TabsF w K mg (lay w K ds t xt hk) (tbOf ds hs cs bf t xt) := fun nm y tab hm => by
      have hm : (nm, y, tab) ∈ xt.dc := hm
      have f1 := fact_of (f := .glo y) c (List.mem_append_right _ (List.mem_append_right _ (List.mem_append_right _ (List.mem_append_right _ (List.mem_append_right _ (List.mem_map.mpr ⟨_, hm, rfl⟩))))))
      obtain ⟨j, hj, ej⟩ := List.mem_iff_getElem.mp hm
      have hkd := sx.t.tab j (t := ((fun K => He.ga K y), tab.map fun p => sOf p.1)) (by
        unfold XT.ts
        rw [List.getElem?_map, List.getElem?_eq_getElem hj, ej]
        rfl)
      refine ⟨_, He.glo_ok X Gn f1, hkd, fun s => ?_⟩
      have hdb : dctB K ds (He.ga K y) tab = true := List.all_eq_true.mp hxd _ hm
      obtain ⟨es, n, D⟩ := hkd
      have hat : K.lookup (He.ga K y) = some ⟨.type "dict", none, .dict es n, #[]⟩ := D.at_
      unfold dctB at hdb
      rw [hat] at hdb
      obtain ⟨q1, q2⟩ := ent_ok (fa := lay w K ds t xt hk) rfl rfl s hdb
      unfold PySem.W.nsIn
      rw [hat]
      dsimp only
      cases hlk : tab.lookup s with
      | none =>
        rw [hlk] at q2
        rw [show es.toList.find? (·.key.isStr (sOf s)) = none from q2]
        dsimp only
        rw [q1]
        exact ⟨none, rfl, rfl⟩
      | some d =>
        rw [hlk] at q2
        obtain ⟨e, v, z1, z2, z3⟩ := q2
        rw [z1]
        exact ⟨some e.val, rfl, e.val, v, rfl, z2, z3⟩
    obtain ⟨fd', Fu', ok, _, _⟩ := (promise (P := P) (w := w) (fa := lay w K ds t xt hk) (G := gOf cs xt) (F := fnOfL ds xt.ls) (tb := tbOf ds hs cs bf t xt) (ls := xt.ls) (mks := xt.mks) (mt := (xt.tf ds).map (He.cT K)) rfl rfl rfl
      (fun i d hi => by unfold fnOfL; rw [if_pos (hid i d hi).1]; unfold fnOfD; rw [hi]; rfl)
      (fun i d hi => by
        unfold fnOfL
        rw [if_neg (by have := Nat.le_add_left LB i; omega)]
        rw [List.find?_eq_none.mpr fun l hl => by simpa using (hid i d hi).2 l hl]
        rfl)
      (fun l hl => by
        have h1 := of_decide_eq_true (List.all_eq_true.mp hlb l hl)
        refine ⟨?_, h1⟩
        unfold fnOfL
        rw [if_neg h1, find_nd (of_decide_eq_true hnd) hl]
        rfl)
      (fun k hk => Option.isSome_iff_exists.mp hk) (fun i d hi => by show (dOf ds i).isSome = true; rw [hi]; rfl)
      (fun i d hi hmk fd' Fu' => by
        have eid := dOf_id hi
        have eat : atOf ds d.id = d.at_ := by unfold atOf; rw [eid, hi]
        have eq_ : qOf ds d.id = d.qual := by unfold qOf; rw [eid, hi]
        have efn : (lay w K ds t xt hk).fn i = He.fAd K d.at_ := by show faD K ds i = _; unfold faD; rw [hi]
        obtain ⟨oc, od, dV, kV, doc, pm, an, cdv, ct, osl, rfl, lk, hcd, _⟩ := Fu'.ex
        rw [efn] at lk
        obtain ⟨cc, ecc⟩ := He.codeIn_ref hcd
        have e1 : He.codeOf K d.at_ = cc := He.codeOf_eq lk ecc
        refine ⟨cc, (He.cT K d.at_).2, ecc, ?_, ?_, fun p hp e => ?_⟩
        · refine List.mem_map.mpr ⟨d.at_, ?_, ?_⟩
          · exact List.mem_map.mpr ⟨d.id, hmk, eat⟩
          · show (He.codeOf K d.at_, (He.cT K d.at_).2) = _
            rw [e1]
        · exact List.mem_map.mpr ⟨d.id, hmk, by rw [eat, eq_]⟩
        · obtain ⟨j, hj, rfl⟩ := List.mem_map.mp (show p ∈ xt.mks.map fun i => ((He.cT K (atOf ds i)).2, qOf ds i ++ ".<locals>." ++ "<lambda>") from hp)
          have hx2 := List.all_eq_true.mp (List.all_eq_true.mp hxm j hj) d.id hmk
          rcases Bool.or_eq_true_iff.mp hx2 with z | z
          · rw [of_decide_eq_true z, eq_]
          · exact absurd (by rw [eat]; exact e) (of_decide_eq_true z))
      hc hu rfl hcf hhf rfl hd hg hb hdc k base (lay w K ds t xt hk) (gOf cs xt) ⟨hK, .inl ⟨rfl, rfl, hT⟩⟩).df li dl hl
    obtain ⟨oc, od, dV, kV, doc, pm, an, cdv, ct, osl, e1, l1, _⟩ := Fu.ex
    obtain ⟨oc', od', dV', kV', doc', pm', an', cdv', ct', osl', e2, l2, _⟩ := Fu'.ex
    rw [l1] at l2
    have : fd = fd' := by
      cases l2
      rfl
    subst this
    rw [← hps]
    exact calm_fn ok
theorem ev_sp {G : Nat → Option D} {F : Nat → Option Fn} {fa : Lay} {k li : Nat} {E : XK} {m : Nat} (hlaw : ∀ ns : List Int, ns.length ≤ m → ∃ μ', run G F k li [.lst (ns.map .int)] [] = .ok (.bl true) μ') (H : Hp) (ht : ∀ p ∈ fa.tabs, H p.1 = some (.tbl #[])) (a : Addr) (ns : List Int) (hn : ns.length ≤ m) (hS : SqL K H a (ns.map V.int)) :
    spN K fa G F k li [.ref a] H (fun v _ => v = .bl true) E := by
  obtain ⟨μ', hr⟩ := hlaw ns hn
  have hmem : ∀ b : Addr, b ∈ (⟨[], fa.tabs.map (·.1)⟩ : Ph) → H b = some (.tbl #[]) := fun b h => by
    rcases h with h | h
    · cases h
    · obtain ⟨p, hp, rfl⟩ := List.mem_map.mp h
      exact ht p hp
  refine ⟨⟨[], fa.tabs.map (·.1)⟩, [], [.lst (ns.map .int)], ⟨rfl, List.nodup_nil, fun b h => ⟨(by simp), ⟨_, hmem b (.inr h)⟩⟩, fun i b q h _ => (by simp at h), fun p hp => ⟨List.mem_map.mpr ⟨p, hp, rfl⟩, #[], ht p hp, True.intro, fun pos cv e => ?_⟩⟩, RVs.one (mk_lst (vs := ns.map V.int) ?_ ?_), ?_⟩
  · have e : codeAmong pos [] = some cv := e
    simp [codeAmong] at e
  · rcases hS with (hS | ⟨o, hS⟩) | hS
    · refine .inl (.inl ?_)
      rw [msk_out fun h => by rw [hmem a h] at hS; cases hS]
      exact hS
    · refine .inl (.inr ⟨o, ?_⟩)
      rw [msk_out fun h => by rw [hmem a h] at hS; cases hS]
      exact hS
    · exact .inr hS
  · refine RVs.of_get (by rw [List.length_map, List.length_map]) fun i d v h1 h2 => ?_
    rw [List.getElem?_map] at h1 h2
    obtain ⟨j, e1, rfl⟩ := ofmap h1
    obtain ⟨j', e2, rfl⟩ := ofmap h2
    rw [e1] at e2
    cases e2
    exact mk_int
  · rw [hr]
    exact fun φ' H' x A v rv => rv_bl rv
/-- what the row's end asks -/
theorem ev_end {l : PySem.W.OpenLaw} {li k m : Nat} {f : Addr} {dl : DI} {z : Str} (hc : chkAll ds hs cs bf t xt = true) (hk : t.ok ds = true) (hcs : cs.all Cn.ok = true) (hB : BindAll ds) (hB2 : BindAll (hs.map HD.d)) (X : K.In h) (Gn : h.Ns mainGlobals mg) (sx : He.SaysX (faOf ds hs cs bf t xt) (ddOf ds hs) xt.ts (xt.tf ds) (exA cs t xt ds) w h K)
    (hl : dOf ds li = some dl) (hlc : dl.cls = none) (hps : dl.ps = [z]) (hfa : mg dl.nm = some (.ref f)) (hlaw : ∀ ns : List Int, ns.length ≤ m → ∃ μ', run (gOf cs xt) (fnOfL ds xt.ls) k li [.lst (ns.map .int)] [] = .ok (.bl true) μ') : LamX.LawAtS l w K L2.CX0 (2 * k) m z mg f h := by
  obtain ⟨fd, h1, h2⟩ := ev_law (P := l.prog) (k := k) hc hk hcs hB hB2 X Gn sx hl hlc hps hfa
  have mem : ∀ p ∈ (xt.tf ds).map (He.cT K), ∃ q ∈ xt.tf ds, p = He.cT K q := fun p hp => let ⟨q, hq, e⟩ := List.mem_map.mp hp; ⟨q, hq, e.symm⟩
  refine ⟨fd, (xt.tf ds).map (He.cT K), fun vs H Q _ => spN K (lay w K ds t xt hk) (gOf cs xt) (fnOfL ds xt.ls) k li vs H Q fun _ _ _ => False, fun p hp => ?_, fun p hp => ?_, fun p hp => ?_, h1, fun H a ns hn _ hT hS => ev_sp hlaw H (fun p hp => ?_) a ns hn hS, h2⟩
  · obtain ⟨q, hq, rfl⟩ := mem p hp
    exact sx.empty q hq
  · obtain ⟨q, hq, rfl⟩ := mem p hp
    exact sx.out q hq
  · obtain ⟨q, hq, rfl⟩ := mem p hp
    exact PySem.W.codeHd_of_K X (sx.hd q hq)
  · obtain ⟨j, hj, rfl⟩ := List.mem_map.mp (show p ∈ xt.mks.map fun i => ((He.cT K (atOf ds i)).2, qOf ds i ++ ".<locals>." ++ "<lambda>") from hp)
    exact hT _ (List.mem_map.mpr ⟨atOf ds j, List.mem_map.mpr ⟨j, hj, rfl⟩, rfl⟩)
end
end Ev

set_option Elab.async false
set_option linter.all false
set_option maxRecDepth 100000
set_option maxHeartbeats 1000000
/-! What the evaluator gives, by what is wanted of it. Plain Lean. -/
namespace Ev
/-- nothing is let out -/
abbrev noX : Ex → Mu → Prop := fun _ _ => False
/-- it gives a value, of which Q holds, or an exception, of which X holds -/
inductive Res.wp {α : Type} : Res α → (α → Mu → Prop) → (X : Ex → Mu → Prop := noX) → Prop
  | mk {a : α} {μ : Mu} {Q : α → Mu → Prop} {X : Ex → Mu → Prop} (h : Q a μ) : Res.wp (.ok a μ) Q X
  | ex {x : Ex} {μ : Mu} {Q : α → Mu → Prop} {X : Ex → Mu → Prop} (h : X x μ) : Res.wp (.ex x μ) Q X
/-- N: it goes on; R: it returns; B: break; C: continue -/
inductive Out.wp : Out → (Rho → Mu → Prop) → (D → Mu → Prop) → (Rho → Mu → Prop) → (Rho → Mu → Prop) → (X : Ex → Mu → Prop := noX) → Prop
  | nx {ρ : Rho} {μ : Mu} {N B C : Rho → Mu → Prop} {R : D → Mu → Prop} {X : Ex → Mu → Prop} (h : N ρ μ) : Out.wp (.nx ρ μ) N R B C X
  | rt {d : D} {μ : Mu} {N B C : Rho → Mu → Prop} {R : D → Mu → Prop} {X : Ex → Mu → Prop} (h : R d μ) : Out.wp (.rt d μ) N R B C X
  | bk {ρ : Rho} {μ : Mu} {N B C : Rho → Mu → Prop} {R : D → Mu → Prop} {X : Ex → Mu → Prop} (h : B ρ μ) : Out.wp (.bk ρ μ) N R B C X
  | ct {ρ : Rho} {μ : Mu} {N B C : Rho → Mu → Prop} {R : D → Mu → Prop} {X : Ex → Mu → Prop} (h : C ρ μ) : Out.wp (.ct ρ μ) N R B C X
  | ex {x : Ex} {ρ : Rho} {μ : Mu} {N B C : Rho → Mu → Prop} {R : D → Mu → Prop} {X : Ex → Mu → Prop} (h : X x μ) : Out.wp (.ex x ρ μ) N R B C X
inductive ofo {α : Type} : Option α → (α → Prop) → Prop
  | mk {a : α} {Q : α → Prop} (h : Q a) : ofo (some a) Q
section
variable {α β : Type} {Q : α → Mu → Prop} {N B C : Rho → Mu → Prop} {R : D → Mu → Prop} {X : Ex → Mu → Prop} {ρ : Rho} {μ : Mu}
theorem wp_ok {a : α} : (Res.ok a μ).wp Q X = Q a μ := propext ⟨fun h => by cases h; assumption, .mk⟩
theorem wp_no : (Res.no : Res α).wp Q X = False := propext ⟨fun h => (by cases h), fun h => h.elim⟩
theorem wp_ex {x : Ex} : (Res.ex x μ : Res α).wp Q X = X x μ := propext ⟨fun h => by cases h; assumption, .ex⟩
theorem wpo_nx : (Out.nx ρ μ).wp N R B C X = N ρ μ := propext ⟨fun h => by cases h; assumption, .nx⟩
theorem wpo_rt {d : D} : (Out.rt d μ).wp N R B C X = R d μ := propext ⟨fun h => by cases h; assumption, .rt⟩
theorem wpo_bk : (Out.bk ρ μ).wp N R B C X = B ρ μ := propext ⟨fun h => by cases h; assumption, .bk⟩
theorem wpo_ct : (Out.ct ρ μ).wp N R B C X = C ρ μ := propext ⟨fun h => by cases h; assumption, .ct⟩
theorem wpo_no : (Out.no).wp N R B C X = False := propext ⟨fun h => (by cases h), fun h => h.elim⟩
theorem wpo_ex {x : Ex} : (Out.ex x ρ μ).wp N R B C X = X x μ := propext ⟨fun h => by cases h; assumption, .ex⟩
theorem ofo_some {a : α} {P : α → Prop} : ofo (some a) P = P a := propext ⟨fun h => by cases h; assumption, .mk⟩
theorem ofo_none {P : α → Prop} : ofo none P = False := propext ⟨fun h => (by cases h), fun h => h.elim⟩
theorem wp_bind {r : Res β} {f : β → Mu → Res α} : (r.bind f).wp Q X = r.wp (fun b μ => (f b μ).wp Q X) X := by
  cases r with
  | ok b μ => rw [Res.bind_ok, wp_ok]
  | ex x μ => rw [Res.bind_ex, wp_ex, wp_ex]
  | no => rw [Res.bind_no, wp_no, wp_no]
theorem wp_of {o : Option α} : (Res.of o μ).wp Q X = ofo o fun a => Q a μ := by
  cases o with
  | none => rw [Res.of_none, wp_no, ofo_none]
  | some a => rw [Res.of_some, wp_ok, ofo_some]
theorem wp_ite {c : Prop} [Decidable c] {r s : Res α} : (if c then r else s).wp Q X = if c then r.wp Q X else s.wp Q X := by split <;> rfl
theorem wp_out {r : Res β} {f : β → Mu → Out} : (r.out ρ f).wp N R B C X = r.wp (fun b μ => (f b μ).wp N R B C X) X := by
  cases r with
  | ok b μ => rw [Res.out_ok, wp_ok]
  | ex x μ => rw [Res.out_ex, wpo_ex, wp_ex]
  | no => rw [Res.out_no, wpo_no, wp_no]
theorem wpo_ite {c : Prop} [Decidable c] {r s : Out} : (if c then r else s).wp N R B C X = if c then r.wp N R B C X else s.wp N R B C X := by split <;> rfl
theorem ofo_ite {c : Prop} [Decidable c] {o o' : Option α} {P : α → Prop} : ofo (if c then o else o') P = if c then ofo o P else ofo o' P := by split <;> rfl
theorem ofo_map {o : Option β} {f : β → α} {P : α → Prop} : ofo (o.map f) P = ofo o fun b => P (f b) := by
  cases o with
  | none => rw [Option.map_none, ofo_none, ofo_none]
  | some a => rw [Option.map_some, ofo_some, ofo_some]
theorem ofo_bind {o : Option β} {f : β → Option α} {P : α → Prop} : ofo (o.bind f) P = ofo o fun b => ofo (f b) P := by
  cases o with
  | none => rw [Option.bind_none, ofo_none, ofo_none]
  | some a => rw [Option.bind_some, ofo_some]
inductive ofoE {α : Type} : Option α → (α → Prop) → Prop → Prop
  | here {a : α} {P : α → Prop} {q : Prop} (h : P a) : ofoE (some a) P q
  | out {P : α → Prop} {q : Prop} (h : q) : ofoE none P q
theorem ofoE_some {a : α} {P : α → Prop} {q : Prop} : ofoE (some a) P q = P a := propext ⟨fun h => by cases h; assumption, .here⟩
theorem ofoE_none {P : α → Prop} {q : Prop} : ofoE none P q = q := propext ⟨fun h => by cases h; assumption, .out⟩
theorem ofo_intro {o : Option α} {a : α} {P : α → Prop} (h : o = some a) (q : P a) : ofo o P := by rw [h, ofo_some]; exact q
theorem Res.wp_mono {r : Res α} {Q Q' : α → Mu → Prop} {X X' : Ex → Mu → Prop} (h : r.wp Q X) (f : ∀ a μ, Q a μ → Q' a μ) (g : ∀ x μ, X x μ → X' x μ := by first | exact fun _ _ h => h | exact fun _ _ h => h.elim) : r.wp Q' X' := by
  cases h with
  | mk h => exact .mk (f _ _ h)
  | ex h => exact .ex (g _ _ h)
theorem Out.wp_mono {o : Out} {N N' B B' C C' : Rho → Mu → Prop} {R R' : D → Mu → Prop} {X X' : Ex → Mu → Prop} (h : o.wp N R B C X) (hN : ∀ ρ μ, N ρ μ → N' ρ μ) (hR : ∀ d μ, R d μ → R' d μ) (hB : ∀ ρ μ, B ρ μ → B' ρ μ) (hC : ∀ ρ μ, C ρ μ → C' ρ μ) (hX : ∀ x μ, X x μ → X' x μ := by first | exact fun _ _ h => h | exact fun _ _ h => h.elim) : o.wp N' R' B' C' X' := by
  cases h with
  | nx h => exact .nx (hN _ _ h)
  | rt h => exact .rt (hR _ _ h)
  | bk h => exact .bk (hB _ _ h)
  | ct h => exact .ct (hC _ _ h)
  | ex h => exact .ex (hX _ _ h)
theorem wp_eq {r : Res α} (h : r.wp Q) : ∃ a μ, r = .ok a μ ∧ Q a μ := by
  cases h with
  | mk h => exact ⟨_, _, rfl, h⟩
  | ex h => exact h.elim
/-- it gives one of both -/
theorem wp_eqX {r : Res α} (h : r.wp Q X) : (∃ a μ, r = .ok a μ ∧ Q a μ) ∨ ∃ x μ, r = .ex x μ ∧ X x μ := by
  cases h with
  | mk h => exact .inl ⟨_, _, rfl, h⟩
  | ex h => exact .inr ⟨_, _, rfl, h⟩
end
section
variable {G : Nat → Option D} {call : Nat → List D → Mu → Res D} {N B C : Rho → Mu → Prop} {R : D → Mu → Prop} {X : Ex → Mu → Prop} {ρ : Rho} {μ : Mu} {Q : D → Mu → Prop} {P : Bool → Mu → Prop}
/-! ### statements -/
theorem ss_n : (exSs G call [] ρ μ).wp N R B C X = N ρ μ := wpo_nx
theorem ss_c {s : S} {ss : List S} : (exSs G call (s :: ss) ρ μ).wp N R B C X = (exS G call s ρ μ).wp (fun ρ μ => (exSs G call ss ρ μ).wp N R B C X) R B C X := by
  show (match exS G call s ρ μ with | .nx ρ' μ' => exSs G call ss ρ' μ' | o => o).wp N R B C X = _
  cases exS G call s ρ μ with
  | nx ρ' μ' => rw [wpo_nx]
  | rt d' μ' => rw [wpo_rt, wpo_rt]
  | bk ρ' μ' => rw [wpo_bk, wpo_bk]
  | ct ρ' μ' => rw [wpo_ct, wpo_ct]
  | ex x ρ' μ' => rw [wpo_ex, wpo_ex]
  | no => rw [wpo_no, wpo_no]
theorem s_e {e : E} : (exS G call (.expr e) ρ μ).wp N R B C X = (evE G call e ρ μ).wp (fun _ μ => N ρ μ) X := by
  show (Res.out _ _ _).wp N R B C X = _
  simp only [wp_out, wpo_nx]
theorem s_r {e : E} : (exS G call (.ret e) ρ μ).wp N R B C X = (evE G call e ρ μ).wp R X := by
  show (Res.out _ _ _).wp N R B C X = _
  simp only [wp_out, wpo_rt]
theorem s_rN : (exS G call .retN ρ μ).wp N R B C X = R .non μ := wpo_rt
theorem s_a {t : T} {e : E} : (exS G call (.asg t e) ρ μ).wp N R B C X = (evE G call e ρ μ).wp (fun d μ => ofo (t.put d ρ) fun ρ' => N ρ' μ) X := by
  show (Res.out _ _ _).wp N R B C X = _
  rw [wp_out]
  congr 1
  funext d μ'
  show (match t.put d ρ with | some ρ' => Out.nx ρ' μ' | none => .no).wp N R B C X = _
  cases t.put d ρ with
  | none => rw [wpo_no, ofo_none]
  | some ρ' => rw [wpo_nx, ofo_some]
theorem s_i {c : E} {a b : List S} : (exS G call (.if_ c a b) ρ μ).wp N R B C X = (evT G call c ρ μ).wp (fun k μ => if k = true then (exSs G call a ρ μ).wp N R B C X else (exSs G call b ρ μ).wp N R B C X) X := by
  show (Res.out _ _ _).wp N R B C X = _
  rw [wp_out]
  congr 1
  funext d μ'
  exact wpo_ite
theorem s_w {kill : List Nat} {c : E} {b : List S} : (exS G call (.while_ kill c b) ρ μ).wp N R B C X = (whileL kill (fun ρ μ => evT G call c ρ μ) (fun ρ μ => exSs G call b ρ μ) manyTurns ρ μ).wp N R B C X := rfl
theorem s_f {kill : List Nat} {t : T} {k : IK} {src : List E} {b : List S} : (exS G call (.for_ kill t k src b) ρ μ).wp N R B C X = (evEs G call src ρ μ).wp (fun ss μ => ofo (itemsD k μ ss) fun lg => (forL lg.2 kill (fun d ρ μ => match t.put d ρ with
    | some ρ' => exSs G call b ρ' μ
    | none => .no) lg.1 ρ μ).wp N R B C X) X := by
  show (Res.out _ _ _).wp N R B C X = _
  rw [wp_out]
  congr 1
  funext ss μ'
  cases itemsD k μ' ss with
  | none => rw [ofo_none]; exact wpo_no
  | some lg => rw [ofo_some] <;> rfl
theorem s_x {o i e : E} : (exS G call (.setIdx o i e) ρ μ).wp N R B C X = (evE G call e ρ μ).wp (fun v μ => (evE G call o ρ μ).wp (fun x μ => (evE G call i ρ μ).wp (fun y μ => ofoE (lstAt μ x) (fun nl => ofo (intOf y) fun j => ofo (ixZ nl.2.length j) fun k => N ρ (μ.set nl.1 (.lst (nl.2.set k v))))
    (ofo (setDD μ x y v) fun μ' => N ρ μ')) X) X) X := by
  show (Res.out _ _ _).wp N R B C X = _
  rw [wp_out]
  congr 1
  funext v μ'
  rw [wp_out]
  congr 1
  funext x μ2
  rw [wp_out]
  congr 1
  funext y μ3
  have h2 : ∀ o : Option Mu, (match o with | some m => Out.nx ρ m | none => Out.no).wp N R B C X = ofo o fun m => N ρ m := fun o => by
    cases o with
    | none => rw [ofo_none]; exact wpo_no
    | some m => rw [ofo_some]; exact wpo_nx
  refine (h2 _).trans ?_
  unfold setD
  cases lstAt μ3 x with
  | some nl =>
    rw [ofoE_some, ofo_bind]
    congr 1
    funext j
    rw [ofo_map]
  | none => rw [ofoE_none]
theorem s_sl {o e : E} {lo hi : Option E} : (exS G call (.setSlc o lo hi e) ρ μ).wp N R B C X = (evE G call e ρ μ).wp (fun v μ => (evE G call o ρ μ).wp (fun x μ => (evO G call lo ρ μ).wp (fun l μ => (evO G call hi ρ μ).wp (fun h μ => ofo (setSlD μ x l h v) fun μ' => N ρ μ') X) X) X) X := by
  show (Res.out _ _ _).wp N R B C X = _
  rw [wp_out]
  congr 1
  funext v μ'
  rw [wp_out]
  congr 1
  funext x μ2
  rw [wp_out]
  congr 1
  funext y μ3
  rw [wp_out]
  congr 1
  funext h μ4
  cases setSlD μ4 x y h v with
  | none => rw [ofo_none]; exact wpo_no
  | some m => rw [ofo_some]; exact wpo_nx
theorem s_p : (exS G call .pass ρ μ).wp N R B C X = N ρ μ := wpo_nx
theorem s_b : (exS G call .brk ρ μ).wp N R B C X = B ρ μ := wpo_bk
theorem s_c : (exS G call .cont ρ μ).wp N R B C X = C ρ μ := wpo_ct
/-! ### expressions -/
theorem v_var {i : Nat} : (evE G call (.var i) ρ μ).wp Q X = ofo (ρ[i]?) fun o => ofo o fun d => Q d μ := by
  show (match ρ[i]? with | some (some d) => Res.ok d μ | _ => .no).wp Q X = _
  cases ρ[i]? with
  | none => rw [ofo_none]; exact wp_no
  | some o =>
    cases o with
    | none => rw [ofo_some, ofo_none]; exact wp_no
    | some d => rw [ofo_some, ofo_some]; exact wp_ok
theorem v_con {d : D} : (evE G call (.con d) ρ μ).wp Q X = Q d μ := wp_ok
theorem v_glo {k : Nat} : (evE G call (.glo k) ρ μ).wp Q X = ofo (G k) fun d => Q d μ := wp_of
theorem v_bin {o : BOp} {a b : E} : (evE G call (.bin o a b) ρ μ).wp Q X = (evE G call a ρ μ).wp (fun x μ => (evE G call b ρ μ).wp (fun y μ => ofo (binD o μ x y) fun d => Q d μ) X) X := by
  show (Res.bind _ _).wp Q X = _
  simp only [wp_bind, wp_of]
theorem v_neg {a : E} : (evE G call (.neg a) ρ μ).wp Q X = (evE G call a ρ μ).wp (fun x μ => ofo (intOf x) fun i => Q (.int (-i)) μ) X := by
  show (Res.bind _ _).wp Q X = _
  rw [wp_bind]
  congr 1
  funext x μ'
  cases x with
  | int i => rw [show intOf (D.int i) = some i from rfl, ofo_some]; exact wp_ok
  | _ => rw [show intOf _ = none from rfl, ofo_none]; exact wp_no
theorem v_cmp {o : COp} {a b : E} : (evE G call (.cmp o a b) ρ μ).wp Q X = (evE G call a ρ μ).wp (fun x μ => (evE G call b ρ μ).wp (fun y μ => ofo (cmpD o μ x y) fun k => Q (.bl k) μ) X) X := by
  show (Res.bind _ _).wp Q X = _
  simp only [wp_bind, wp_of, ofo_map]
theorem v_cmp2 {o o' : COp} {a b c : E} : (evE G call (.cmp2 o o' a b c) ρ μ).wp Q X = (evE G call a ρ μ).wp (fun x μ => (evE G call b ρ μ).wp (fun y μ => ofo (cmpD o μ x y) fun k => if k = true then (evE G call c ρ μ).wp (fun z μ => ofo (cmpD o' μ y z) fun k => Q (.bl k) μ) X else Q (.bl false) μ) X) X := by
  show (Res.bind _ _).wp Q X = _
  simp only [wp_bind, wp_of, ofo_map, wp_ite, wp_ok]
theorem v_and {a b : E} : (evE G call (.and_ a b) ρ μ).wp Q X = (evE G call a ρ μ).wp (fun x μ => ofo (truthD μ x) fun k => if k = true then (evE G call b ρ μ).wp Q X else Q x μ) X := by
  show (Res.bind _ _).wp Q X = _
  simp only [wp_bind, wp_of, ofo_map, wp_ite, wp_ok]
theorem v_or {a b : E} : (evE G call (.or_ a b) ρ μ).wp Q X = (evE G call a ρ μ).wp (fun x μ => ofo (truthD μ x) fun k => if k = true then Q x μ else (evE G call b ρ μ).wp Q X) X := by
  show (Res.bind _ _).wp Q X = _
  simp only [wp_bind, wp_of, ofo_map, wp_ite, wp_ok]
theorem v_not {a : E} : (evE G call (.not_ a) ρ μ).wp Q X = (evE G call a ρ μ).wp (fun x μ => ofo (truthD μ x) fun k => Q (.bl (!k)) μ) X := by
  show (Res.bind _ _).wp Q X = _
  simp only [wp_bind, wp_of, ofo_map, wp_ite, wp_ok]
theorem v_ite {c a b : E} : (evE G call (.ite c a b) ρ μ).wp Q X = (evT G call c ρ μ).wp (fun k μ => if k = true then (evE G call a ρ μ).wp Q X else (evE G call b ρ μ).wp Q X) X := by
  show (Res.bind _ _).wp Q X = _
  simp only [wp_bind, wp_of, ofo_map, wp_ite, wp_ok]
theorem v_tup {es : List E} : (evE G call (.tup es) ρ μ).wp Q X = (evEs G call es ρ μ).wp (fun ds μ => if ds.length ≤ lim then Q (.tup ds) μ else False) X := by
  show (Res.bind _ _).wp Q X = _
  simp only [wp_bind, wp_of, ofo_map, wp_ite, wp_ok, wp_no]
theorem v_lstT {es : List E} : (evE G call (.lst true es) ρ μ).wp Q X = (evEs G call es ρ μ).wp (fun ds μ => if ds.length ≤ lim then Q (.loc μ.length) (μ ++ [.lst ds]) else False) X := by
  show (Res.bind _ _).wp Q X = _
  simp only [wp_bind, wp_of, ofo_map, wp_ite, wp_ok, wp_no, if_true]
theorem v_lstF {es : List E} : (evE G call (.lst false es) ρ μ).wp Q X = (evEs G call es ρ μ).wp (fun ds μ => if ds.length ≤ lim then Q (.lst ds) μ else False) X := by
  show (Res.bind _ _).wp Q X = _
  simp only [wp_bind, wp_of, ofo_map, wp_ite, wp_ok, wp_no, Bool.false_eq_true, if_false]
theorem v_cat {a b : E} : (evE G call (.cat a b) ρ μ).wp Q X = (evE G call a ρ μ).wp (fun x μ => (evE G call b ρ μ).wp (fun y μ => ofo (lstOf μ x) fun s => ofo (lstOf μ y) fun t => if s.length + t.length ≤ lim then Q (.loc μ.length) (μ ++ [.lst (s ++ t)]) else False) X) X := by
  show (Res.bind _ _).wp Q X = _
  rw [wp_bind]
  congr 1
  funext x μ1
  rw [wp_bind]
  congr 1
  funext y μ2
  cases lstOf μ2 x with
  | none => rw [ofo_none]; exact wp_no
  | some s =>
    cases lstOf μ2 y with
    | none => rw [ofo_some, ofo_none]; exact wp_no
    | some t => rw [ofo_some, ofo_some]; simp only [wp_ite, wp_ok, wp_no]
theorem v_lrep {es : List E} {a : E} : (evE G call (.lrep es a) ρ μ).wp Q X = (evEs G call es ρ μ).wp (fun ds μ => if ds.length ≤ lim then (evE G call a ρ μ).wp (fun y μ => ofo (lrepD ds y) fun d => Q d μ) X else False) X := by
  show (Res.bind _ _).wp Q X = _
  simp only [wp_bind, wp_of, ofo_map, wp_ite, wp_ok, wp_no]
theorem v_idx {a i : E} : (evE G call (.idx a i) ρ μ).wp Q X = (evE G call a ρ μ).wp (fun x μ => (evE G call i ρ μ).wp (fun y μ => ofo (idxD μ x y) fun d => Q d μ) X) X := by
  show (Res.bind _ _).wp Q X = _
  simp only [wp_bind, wp_of]
theorem v_slc {a : E} {lo hi : Option E} : (evE G call (.slc a lo hi) ρ μ).wp Q X = (evE G call a ρ μ).wp (fun x μ => (evO G call lo ρ μ).wp (fun l μ => (evO G call hi ρ μ).wp (fun h μ => ofo (slcD μ x l h) fun d => Q d μ) X) X) X := by
  show (Res.bind _ _).wp Q X = _
  simp only [wp_bind, wp_of]
theorem v_call {f : Nat} {es : List E} : (evE G call (.call f es) ρ μ).wp Q X = (evEs G call es ρ μ).wp (fun ds μ => (call f ds μ).wp Q X) X := by
  show (Res.bind _ _).wp Q X = _
  simp only [wp_bind]
theorem v_bi {b : Bi} {es : List E} : (evE G call (.bi b es) ρ μ).wp Q X = (evEs G call es ρ μ).wp (fun ds μ => ofo (biD b μ ds) fun d => Q d μ) X := by
  show (Res.bind _ _).wp Q X = _
  simp only [wp_bind, wp_of]
theorem v_me {m : Me} {o : E} {es : List E} : (evE G call (.me m o es) ρ μ).wp Q X = (evE G call o ρ μ).wp (fun x μ => if meTy m μ x = true then (evEs G call es ρ μ).wp (fun ds μ => (meD m μ x ds).wp Q X) X else False) X := by
  show (Res.bind _ _).wp Q X = _
  simp only [wp_bind, wp_of, ofo_map, wp_ite, wp_ok, wp_no]
theorem v_dictP {e : E} : (evE G call (.dictP e) ρ μ).wp Q X = (evE G call e ρ μ).wp (fun x μ => ofo (dictPD μ x) fun c => Q (.loc μ.length) (μ ++ [c])) X := by
  show (Res.bind _ _).wp Q X = _
  rw [wp_bind]
  congr 1
  funext x μ'
  cases dictPD μ' x with
  | none => rw [ofo_none]; exact wp_no
  | some c => rw [ofo_some]; exact wp_ok
theorem v_dictL {ks : List D} {es : List E} : (evE G call (.dictL ks es) ρ μ).wp Q X = (evEs G call es ρ μ).wp (fun ds μ => if ks.length = ds.length ∧ ks.all isKey = true ∧ ks.length < 100 then Q (.loc μ.length) (μ ++ [.dct (mergeD (ks.zip ds))]) else False) X := by
  show (Res.bind _ _).wp Q X = _
  simp only [wp_bind, wp_ite, wp_ok, wp_no]
theorem v_mlst {e : E} : (evE G call (.mlst e) ρ μ).wp Q X = (evE G call e ρ μ).wp (fun x μ => ofo (seqOf μ x) fun l => Q (.loc μ.length) (μ ++ [.lst l])) X := by
  show (Res.bind _ _).wp Q X = _
  rw [wp_bind]
  congr 1
  funext x μ'
  cases seqOf μ' x with
  | none => rw [ofo_none]; exact wp_no
  | some c => rw [ofo_some]; exact wp_ok
theorem v_zipL {a b : E} : (evE G call (.zipL a b) ρ μ).wp Q X = (evE G call a ρ μ).wp (fun x μ => (evE G call b ρ μ).wp (fun y μ => ofo (zipLD μ [x, y]) fun d => Q d μ) X) X := by
  show (Res.bind _ _).wp Q X = _
  simp only [wp_bind, wp_of, ofo_map]
theorem v_fnv {k : Nat} : (evE G call (.fnv k) ρ μ).wp Q X = Q (.fn k []) μ := wp_ok
theorem v_tget {m : Nat} {tab : List (Txt × D)} {k d : E} : (evE G call (.tget m tab k d) ρ μ).wp Q X = (evE G call k ρ μ).wp (fun x μ => (evE G call d ρ μ).wp (fun y μ => ofo (strOf x) fun s => Q ((tab.lookup s).getD y) μ) X) X := by
  show (Res.bind _ _).wp Q X = _
  simp only [wp_bind, wp_of, ofo_map]
/-- a def, or a lambda with what it took along -/
def fnAt : D → Option (Nat × List D)
  | .fn k l => some (k, l)
  | _ => none
theorem fnAt_fn {k : Nat} {l : List D} : fnAt (.fn k l) = some (k, l) := rfl
theorem v_callv {i : Nat} {es : List E} : (evE G call (.callv i es) ρ μ).wp Q X = ofo (ρ[i]?) fun o => ofo o fun d => ofo (fnAt d) fun kl => (evEs G call es ρ μ).wp (fun ds μ => (call kl.1 (ds ++ kl.2) μ).wp Q X) X := by
  show (match ρ[i]? with | some (some (.fn k l)) => _ | _ => Res.no).wp Q X = _
  cases ρ[i]? with
  | none => rw [ofo_none]; exact wp_no
  | some o =>
    cases o with
    | none => rw [ofo_some, ofo_none]; exact wp_no
    | some d =>
      rw [ofo_some, ofo_some]
      cases d with
      | fn k l =>
        rw [fnAt_fn, ofo_some]
        show (Res.bind _ _).wp Q X = _
        rw [wp_bind]
      | _ => rw [show fnAt _ = none from rfl, ofo_none]; exact wp_no
theorem v_callL {f k : Nat} {es : List E} {caps : List Nat} : (evE G call (.callL f es k caps) ρ μ).wp Q X = (evEs G call es ρ μ).wp (fun ds μ => ofo (capt ρ caps) fun cs => (call (f + LB) (ds ++ [.fn k cs]) μ).wp Q X) X := by
  show (Res.bind _ _).wp Q X = _
  rw [wp_bind]
  congr 1
  funext ds μ'
  cases capt ρ caps with
  | none => rw [ofo_none]; exact wp_no
  | some cs => rw [ofo_some]
theorem cap_n : capt ρ [] = some [] := rfl
theorem cap_c {i : Nat} {r : List Nat} : capt ρ (i :: r) = match ρ[i]? with
    | some (some d) => (capt ρ r).map (d :: ·)
    | _ => none := rfl
theorem v_new {c f : Nat} {es : List E} : (evE G call (.new c f es) ρ μ).wp Q X = (evEs G call es ρ μ).wp (fun ds μ => (call f (.loc μ.length :: ds) (μ ++ [.obj c []])).wp (fun r μ' => if r = .non then Q (.loc μ.length) μ' else False) X) X := by
  show (Res.bind _ _).wp Q X = _
  simp only [wp_bind, wp_ite, wp_ok, wp_no]
theorem v_fld {c a : Nat} {o : E} : (evE G call (.fld c a o) ρ μ).wp Q X = (evE G call o ρ μ).wp (fun x μ => ofo (fldD μ c a x) fun d => Q d μ) X := by
  show (Res.bind _ _).wp Q X = _
  simp only [wp_bind, wp_of]
theorem v_meth {c f : Nat} {o : E} {es : List E} : (evE G call (.meth c f o es) ρ μ).wp Q X = (evE G call o ρ μ).wp (fun x μ => if (objAt μ c x).isSome = true then (evEs G call es ρ μ).wp (fun ds μ => (call f (x :: ds) μ).wp Q X) X else False) X := by
  show (Res.bind _ _).wp Q X = _
  simp only [wp_bind, wp_ite, wp_no]
theorem s_sf {c a : Nat} {o e : E} : (exS G call (.setFld c a o e) ρ μ).wp N R B C X = (evE G call e ρ μ).wp (fun v μ => (evE G call o ρ μ).wp (fun x μ => ofo (setFd μ c a x v) fun μ' => N ρ μ') X) X := by
  show (Res.out _ _ _).wp N R B C X = _
  rw [wp_out]
  congr 1
  funext v μ'
  rw [wp_out]
  congr 1
  funext x μ2
  cases setFd μ2 c a x v with
  | none => rw [ofo_none]; exact wpo_no
  | some m => rw [ofo_some]; exact wpo_nx
theorem s_af {c a : Nat} {o e : E} : (exS G call (.augFld c a o e) ρ μ).wp N R B C X = (evE G call o ρ μ).wp (fun x μ => ofo (fldD μ c a x) fun u => (evE G call e ρ μ).wp (fun v μ => ofo (i2 u v fun i j => some (.int (i + j))) fun z => ofo (setFd μ c a x z) fun μ' => N ρ μ') X) X := by
  show (Res.out _ _ _).wp N R B C X = _
  rw [wp_out]
  congr 1
  funext x μ'
  rw [wp_out, wp_of]
  congr 1
  funext u
  rw [wp_out]
  congr 1
  funext v μ2
  rw [wp_out, wp_of]
  congr 1
  funext z
  cases setFd μ2 c a x z with
  | none => rw [ofo_none]; exact wpo_no
  | some m => rw [ofo_some]; exact wpo_nx
theorem s_ra {c : Nat} : (exS G call (.raise_ c) ρ μ).wp N R B C X = X ⟨c, .non⟩ μ := wpo_ex
/-- a try's body that lets nothing out -/
theorem s_tr {b h : List S} {yes no : List Nat} (q : (exSs G call b ρ μ).wp N R B C) : (exS G call (.try_ b yes no h) ρ μ).wp N R B C X := by
  show (match exSs G call b ρ μ with | .ex x ρ' μ' => if x.cls ∈ yes then exSs G call h ρ' μ' else if x.cls ∈ no then .ex x ρ' μ' else .no | o => o).wp N R B C X
  cases e : exSs G call b ρ μ with
  | ex _ _ _ => rw [e, wpo_ex] at q; exact q.elim
  | nx _ _ => rw [e, wpo_nx] at q; exact .nx q
  | rt _ _ => rw [e, wpo_rt] at q; exact .rt q
  | bk _ _ => rw [e, wpo_bk] at q; exact .bk q
  | ct _ _ => rw [e, wpo_ct] at q; exact .ct q
  | no => rw [e, wpo_no] at q; exact q.elim
/-- .. that lets an exception out -/
theorem s_tx {b h : List S} {yes no : List Nat} {x : Ex} {ρ' : Rho} {μ' : Mu} (e : exSs G call b ρ μ = .ex x ρ' μ') (hy : x.cls ∈ yes) : exS G call (.try_ b yes no h) ρ μ = exSs G call h ρ' μ' := by
  show (match exSs G call b ρ μ with | .ex x ρ' μ' => if x.cls ∈ yes then exSs G call h ρ' μ' else if x.cls ∈ no then .ex x ρ' μ' else .no | o => o) = _
  rw [e]
  exact if_pos hy
theorem wp_kill {o : Out} {i : Nat} (h : o.wp (fun ρ μ => N (ρ.set i none) μ) R (fun ρ μ => B (ρ.set i none) μ) (fun ρ μ => C (ρ.set i none) μ) (fun _ _ => False)) : (o.kill i).wp N R B C X := by
  cases o with
  | ex _ _ _ => rw [wpo_ex] at h; exact h.elim
  | nx _ _ => rw [wpo_nx] at h; exact .nx h
  | rt _ _ => rw [wpo_rt] at h; exact .rt h
  | bk _ _ => rw [wpo_bk] at h; exact .bk h
  | ct _ _ => rw [wpo_ct] at h; exact .ct h
  | no => rw [wpo_no] at h; exact h.elim
/-- a try's body that lets nothing out, its suite may ask the exception -/
theorem s_trA {b h : List S} {i c : Nat} {no : List Nat} (q : (exSs G call b ρ μ).wp N R B C (fun _ _ => False)) : (exS G call (.tryA b i c no h) ρ μ).wp N R B C X := by
  show (evTryA i c no (exSs G call b) (exSs G call h) ρ μ).wp N R B C X
  unfold evTryA
  cases e : exSs G call b ρ μ with
  | ex _ _ _ => rw [e, wpo_ex] at q; exact q.elim
  | nx _ _ => rw [e, wpo_nx] at q; exact .nx q
  | rt _ _ => rw [e, wpo_rt] at q; exact .rt q
  | bk _ _ => rw [e, wpo_bk] at q; exact .bk q
  | ct _ _ => rw [e, wpo_ct] at q; exact .ct q
  | no => rw [e, wpo_no] at q; exact q.elim
/-- .. that lets one out -/
theorem s_txA {b h : List S} {i c : Nat} {no : List Nat} {x : Ex} {ρ' : Rho} {μ' : Mu} (e : exSs G call b ρ μ = .ex x ρ' μ') (hx : x.cls = c) (hl : i < ρ'.length) : exS G call (.tryA b i c no h) ρ μ = (exSs G call h (ρ'.set i none) μ').kill i := by
  show evTryA i c no (exSs G call b) (exSs G call h) ρ μ = _
  unfold evTryA
  rw [e]
  dsimp only
  rw [if_pos hx, if_pos hl]
/-- a comprehension's turn -/
def turnC (G : Nat → Option D) (call : Nat → List D → Mu → Res D) (own : List Nat) (elt : E) (t : T) (c : Option E) (ρ : Rho) : D → Mu → Res (Option D) := fun d μ => match t.put d (wipeR ρ own) with
  | some ρ' => (evC G call c ρ' μ).calm.bind fun b μ => if b then (evE G call elt ρ' μ).calm.bind fun x μ => .ok (some x) μ else .ok none μ
  | none => .no
theorem wp_calm {α : Type} {r : Res α} {Q : α → Mu → Prop} : r.calm.wp Q X = r.wp Q := by
  cases r with
  | ok a m => exact wp_ok.trans wp_ok.symm
  | ex x m => exact wp_no.trans (wp_ex (X := noX)).symm
  | no => exact wp_no.trans wp_no.symm
theorem v_comp {m : Bool} {own : List Nat} {elt : E} {t : T} {k : IK} {src : List E} {c : Option E} : (evE G call (.comp m own elt t k src c) ρ μ).wp Q X = (evEs G call src ρ μ).wp (fun ss μ => ofo (itemsD k μ ss) fun lg =>
    (compL lg.2 (turnC G call own elt t c ρ) lg.1 [] μ).wp (fun xs μ => if m = true then Q (.loc μ.length) (μ ++ [.lst xs]) else Q (.lst xs) μ) X) X := by
  show (Res.bind _ _).wp Q X = _
  rw [wp_bind]
  congr 1
  funext ss μ'
  cases itemsD k μ' ss with
  | none => rw [ofo_none]; exact wp_no
  | some lg =>
    rw [ofo_some]
    show (Res.bind _ _).wp Q X = _
    rw [wp_bind]
    congr 1
    funext xs μ2
    rw [wp_ite, wp_ok, wp_ok]
theorem turnC_wp {own : List Nat} {elt : E} {t : T} {c : Option E} {d : D} {P : Option D → Mu → Prop} : (turnC G call own elt t c ρ d μ).wp P X = ofo (t.put d (wipeR ρ own)) fun ρ' => (evC G call c ρ' μ).wp fun b μ => if b = true then (evE G call elt ρ' μ).wp fun x μ => P (some x) μ else P none μ := by
  unfold turnC
  cases t.put d (wipeR ρ own) with
  | none => rw [ofo_none]; exact wp_no
  | some ρ' => simp only [wp_bind, wp_calm, wp_ite, wp_ok, ofo_some]
theorem c_n {P : Bool → Mu → Prop} : (evC G call none ρ μ).wp P X = P true μ := wp_ok
theorem c_s {P : Bool → Mu → Prop} {e : E} : (evC G call (some e) ρ μ).wp P X = (evT G call e ρ μ).wp P X := rfl
theorem es_n {P : List D → Mu → Prop} : (evEs G call [] ρ μ).wp P X = P [] μ := wp_ok
theorem es_c {P : List D → Mu → Prop} {e : E} {es : List E} : (evEs G call (e :: es) ρ μ).wp P X = (evE G call e ρ μ).wp (fun x μ => (evEs G call es ρ μ).wp (fun xs μ => P (x :: xs) μ) X) X := by
  show (Res.bind _ _).wp P X = _
  simp only [wp_bind, wp_ok]
theorem eo_n {P : Option Int → Mu → Prop} : (evO G call none ρ μ).wp P X = P none μ := wp_ok
theorem eo_s {P : Option Int → Mu → Prop} {e : E} : (evO G call (some e) ρ μ).wp P X = (evE G call e ρ μ).wp (fun x μ => ofo (intOf x) fun i => P (some i) μ) X := by
  show (Res.bind _ _).wp P X = _
  rw [wp_bind]
  congr 1
  funext x μ'
  cases x with
  | int i => rw [show intOf (D.int i) = some i from rfl, ofo_some]; exact wp_ok
  | _ => rw [show intOf _ = none from rfl, ofo_none]; exact wp_no
/-! ### tests -/
theorem tru_bl0 {b : Bool} : truthD μ (.bl b) = some b := rfl
theorem t_tru {m : Rho → Mu → Res D} : ((truP m).2 ρ μ).wp P X = (m ρ μ).wp (fun x μ => ofo (truthD μ x) fun k => P k μ) X := by
  show (Res.bind _ _).wp P X = _
  simp only [wp_bind, wp_of]
theorem t_var {i : Nat} : (evT G call (.var i) ρ μ).wp P X = (evE G call (.var i) ρ μ).wp (fun x μ => ofo (truthD μ x) fun k => P k μ) X := t_tru
theorem t_con {d : D} : (evT G call (.con d) ρ μ).wp P X = (evE G call (.con d) ρ μ).wp (fun x μ => ofo (truthD μ x) fun k => P k μ) X := t_tru
theorem t_cm {o : COp} {a b : E} : (evT G call (.cmp o a b) ρ μ).wp P X = (evE G call a ρ μ).wp (fun x μ => (evE G call b ρ μ).wp (fun y μ => ofo (cmpD o μ x y) fun k => P k μ) X) X := by
  show ((truP _).2 ρ μ).wp P X = _
  rw [t_tru]
  refine (v_cmp (G := G) (call := call)).trans ?_
  simp only [tru_bl0, ofo_some]
theorem t_cm2 {o o' : COp} {a b c : E} : (evT G call (.cmp2 o o' a b c) ρ μ).wp P X = (evE G call a ρ μ).wp (fun x μ => (evE G call b ρ μ).wp (fun y μ => ofo (cmpD o μ x y) fun k => if k = true then (evE G call c ρ μ).wp (fun z μ => ofo (cmpD o' μ y z) fun k => P k μ) X else P false μ) X) X := by
  show ((truP _).2 ρ μ).wp P X = _
  rw [t_tru]
  refine (v_cmp2 (G := G) (call := call)).trans ?_
  simp only [tru_bl0, ofo_some]
theorem t_an {a b : E} : (evT G call (.and_ a b) ρ μ).wp P X = (evT G call a ρ μ).wp (fun k μ => if k = true then (evT G call b ρ μ).wp P X else P false μ) X := by
  show (Res.bind _ _).wp P X = _
  simp only [wp_bind, wp_of, ofo_map, wp_ite, wp_ok]
theorem t_or' {a b : E} : (evT G call (.or_ a b) ρ μ).wp P X = (evT G call a ρ μ).wp (fun k μ => if k = true then P true μ else (evT G call b ρ μ).wp P X) X := by
  show (Res.bind _ _).wp P X = _
  simp only [wp_bind, wp_of, ofo_map, wp_ite, wp_ok]
theorem t_no {a : E} : (evT G call (.not_ a) ρ μ).wp P X = (evT G call a ρ μ).wp (fun k μ => P (!k) μ) X := by
  show (Res.bind _ _).wp P X = _
  simp only [wp_bind, wp_of, ofo_map, wp_ite, wp_ok]
theorem t_bi {b : Bi} {es : List E} : (evT G call (.bi b es) ρ μ).wp P X = (evE G call (.bi b es) ρ μ).wp (fun x μ => ofo (truthD μ x) fun k => P k μ) X := t_tru
theorem t_call {f : Nat} {es : List E} : (evT G call (.call f es) ρ μ).wp P X = (evE G call (.call f es) ρ μ).wp (fun x μ => ofo (truthD μ x) fun k => P k μ) X := t_tru
theorem t_fld {c a : Nat} {o : E} : (evT G call (.fld c a o) ρ μ).wp P X = (evE G call (.fld c a o) ρ μ).wp (fun x μ => ofo (truthD μ x) fun k => P k μ) X := t_tru
theorem t_meth {c f : Nat} {o : E} {es : List E} : (evT G call (.meth c f o es) ρ μ).wp P X = (evE G call (.meth c f o es) ρ μ).wp (fun x μ => ofo (truthD μ x) fun k => P k μ) X := t_tru
theorem t_callv {i : Nat} {es : List E} : (evT G call (.callv i es) ρ μ).wp P X = (evE G call (.callv i es) ρ μ).wp (fun x μ => ofo (truthD μ x) fun k => P k μ) X := t_tru
theorem t_idx {a i : E} : (evT G call (.idx a i) ρ μ).wp P X = (evE G call (.idx a i) ρ μ).wp (fun x μ => ofo (truthD μ x) fun k => P k μ) X := t_tru
end
/-! ### targets -/
theorem put_nm {i : Nat} {d : D} {ρ : Rho} : T.put (.nm i) d ρ = some (ρ.set i (some d)) := rfl
theorem put_tp {ts : List T} {l : List D} {ρ : Rho} : T.put (.tp ts) (.tup l) ρ = T.putL ts l ρ := rfl
theorem putL_n {ρ : Rho} : T.putL [] [] ρ = some ρ := rfl
theorem putL_c {t : T} {ts : List T} {d : D} {ds : List D} {ρ : Rho} : T.putL (t :: ts) (d :: ds) ρ = (T.put t d ρ).bind fun ρ' => T.putL ts ds ρ' := rfl
/-! ### operations -/
section
variable {μ : Mu} {i j : Int} {s t : Txt}
theorem o_add : binD .add μ (.int i) (.int j) = some (.int (i + j)) := rfl
theorem o_adds : binD .add μ (.str s) (.str t) = if s.length + t.length ≤ lim then some (.str (s ++ t)) else none := rfl
theorem o_addt {l r : List D} : binD .add μ (.tup l) (.tup r) = if l.length + r.length ≤ lim then some (.tup (l ++ r)) else none := rfl
theorem o_addl {l r : List D} : binD .add μ (.lst l) (.lst r) = if l.length + r.length ≤ lim then some (.lst (l ++ r)) else none := rfl
theorem o_sub : binD .sub μ (.int i) (.int j) = some (.int (i - j)) := rfl
theorem o_mul : binD .mul μ (.int i) (.int j) = if i.natAbs.log2 + j.natAbs.log2 < 1000000 then some (.int (i * j)) else none := rfl
theorem o_muls : binD .mul μ (.str s) (.int j) = if -(2 ^ 62) ≤ j ∧ j < 2 ^ 62 ∧ s.length * j.toNat ≤ lim then some (.str (List.replicate j.toNat s).flatten) else none := rfl
theorem o_mult {l : List D} : binD .mul μ (.tup l) (.int j) = if -(2 ^ 62) ≤ j ∧ j ≤ 1000 ∧ l.length ≤ 1000 then some (.tup (List.replicate j.toNat l).flatten) else none := rfl
theorem l_rep {l : List D} : lrepD l (.int j) = if -(2 ^ 62) ≤ j ∧ j < 2 ^ 62 ∧ l.length * j.toNat ≤ lim then some (.lst (List.replicate j.toNat l).flatten) else none := rfl
theorem c_is {a b : D} : cmpD .isN μ a b = isD a b := rfl
theorem c_nis {a b : D} : cmpD .notN μ a b = (isD a b).map (!·) := rfl
theorem is_bl {a b : Bool} : isD (.bl a) (.bl b) = some (decide (a = b)) := rfl
theorem o_fdiv : binD .fdiv μ (.int i) (.int j) = if 0 < j ∧ j.natAbs.log2 < 9000 then some (.int (i / j)) else none := rfl
theorem o_mod : binD .mod μ (.int i) (.int j) = if 0 < j then some (.int (i % j)) else none := rfl
theorem c_lt : cmpD .lt μ (.int i) (.int j) = some (decide (i < j)) := rfl
theorem c_le : cmpD .le μ (.int i) (.int j) = some (decide (i ≤ j)) := rfl
theorem c_gt : cmpD .gt μ (.int i) (.int j) = some (decide (j < i)) := rfl
theorem c_ge : cmpD .ge μ (.int i) (.int j) = some (decide (j ≤ i)) := rfl
theorem c_eq {a b : D} : cmpD .eq μ a b = eqD μ a b := rfl
theorem c_ne {a b : D} : cmpD .ne μ a b = (eqD μ a b).map (!·) := rfl
theorem c_in {a b : D} : cmpD .in_ μ a b = inD μ a b := rfl
theorem c_nin {a b : D} : cmpD .nin μ a b = (inD μ a b).map (!·) := rfl
theorem q_int : eqD μ (.int i) (.int j) = some (i == j) := rfl
theorem q_str : eqD μ (.str s) (.str t) = some (s == t) := rfl
theorem eq_flat {a b : D} (ha : a.flat = true) (hb : b.flat = true) (hd : b.depth ≤ 64) : eqD μ a b = some (a.eqv b) := by
  have sa : seen μ a = a := by cases a <;> first | rfl | cases ha
  have sb : seen μ b = b := by cases b <;> first | rfl | cases hb
  unfold eqD
  rw [sa, sb, ha, hb]
  have : min a.depth b.depth ≤ 64 := by omega
  simp [this]
theorem tr_bl {b : Bool} : truthD μ (.bl b) = some b := rfl
theorem x_tup {l : List D} : idxD μ (.tup l) (.int i) = atZ l i := rfl
theorem x_lst {l : List D} : idxD μ (.lst l) (.int i) = atZ l i := rfl
theorem x_loc {n : Nat} {l : List D} (h : μ[n]? = some (.lst l)) : idxD μ (.loc n) (.int i) = atZ l i := by
  show (match seqOf μ (.loc n) with | some l => atZ l i | none => (dctAt μ (.loc n)).bind fun nl => lookD nl.2 (.int i)) = _
  have : seqOf μ (.loc n) = some l := by
    show (match μ[n]? with | some (.lst l) => some l | _ => none) = some l
    rw [h]
  rw [this]
theorem l_loc {n : Nat} {l : List D} (h : μ[n]? = some (.lst l)) : lstAt μ (.loc n) = some (n, l) := by
  show (match μ[n]? with | some (.lst l) => some (n, l) | _ => none) = _
  rw [h]
theorem lstOf_loc {n : Nat} {l : List D} (h : μ[n]? = some (.lst l)) : lstOf μ (.loc n) = some l := by
  show (match μ[n]? with | some (.lst l) => some l | _ => none) = _
  rw [h]
theorem seqOf_loc {n : Nat} {l : List D} (h : μ[n]? = some (.lst l)) : seqOf μ (.loc n) = some l := lstOf_loc h
theorem meTy_loc {m : Me} {n : Nat} {l : List D} (hm : m ≠ .index ∧ m ≠ .join) (h : μ[n]? = some (.lst l)) : meTy m μ (.loc n) = true := by
  cases m <;> first | exact absurd rfl hm.1 | exact absurd rfl hm.2 | (show (match μ[n]? with | some (.lst _) => true | _ => false) = true; rw [h])
theorem m_app {n : Nat} {l : List D} {x : D} (h : μ[n]? = some (.lst l)) : meD .append μ (.loc n) [x] = if l.length < lim then .ok .non (μ.set n (.lst (l ++ [x]))) else .no := by
  unfold meD
  rw [l_loc h]
theorem o_pow : binD .pow μ (.int i) (.int j) = if 0 ≤ j ∧ j ≤ 1000000 ∧ i.natAbs < 2 ^ 64 then some (.int (i ^ j.toNat)) else none := rfl
theorem i_r1 : itemsD .rng1 μ [.int j] = if -(2 ^ 62) ≤ j ∧ j < 2 ^ 62 then some (rngL 0 j.toNat, []) else none := rfl
theorem i_r2 : itemsD .rng2 μ [.int i, .int j] = if -(2 ^ 62) ≤ i ∧ i < 2 ^ 62 ∧ -(2 ^ 62) ≤ j ∧ j < 2 ^ 62 then some (rngL i (j - i).toNat, []) else none := rfl
theorem i_tup {l : List D} : itemsD .seq μ [.tup l] = some (l, []) := rfl
theorem i_lst {l : List D} : itemsD .seq μ [.lst l] = some (l, []) := rfl
theorem i_loc {n : Nat} {l : List D} (h : μ[n]? = some (.lst l)) : itemsD .seq μ [.loc n] = some (l, [(n, l)]) := by
  show (match μ[n]? with | some (.lst l) => some (l, [(n, l)]) | _ => none) = _
  rw [h]
theorem i_en {l : List D} : itemsD .enum μ [.tup l] = some (enumFrom 0 l, []) := rfl
theorem b_len {l : List D} : biD .len μ [.tup l] = some (.int l.length) := rfl
theorem b_lenl {l : List D} : biD .len μ [.lst l] = some (.int l.length) := rfl
theorem b_tup {a : D} : biD .tuple μ [a] = tupleD μ a := rfl
theorem tup_lst {l : List D} : tupleD μ (.lst l) = some (.tup l) := rfl
theorem tup_loc {n : Nat} {l : List D} (h : μ[n]? = some (.lst l)) : tupleD μ (.loc n) = some (.tup l) := by
  show (lstOf μ (.loc n)).map D.tup = _
  rw [lstOf_loc h]
  rfl
theorem b_lst {l : List D} : biD .list μ [.tup l] = some (.lst l) := rfl
theorem b_int {b : Bool} : biD .int μ [.bl b] = some (.int (if b then 1 else 0)) := rfl
theorem b_inti : biD .int μ [.int i] = some (.int i) := rfl
theorem b_trg : biD .tupRg μ [.int j] = if -(2 ^ 62) ≤ j ∧ j ≤ 16777216 then some (.tup (rngL 0 j.toNat)) else none := rfl
theorem b_lrg : biD .lstRg μ [.int j] = if -(2 ^ 62) ≤ j ∧ j ≤ 16777216 then some (.lst (rngL 0 j.toNat)) else none := rfl
theorem b_min : biD .min2 μ [.int i, .int j] = some (.int (if j < i then j else i)) := rfl
theorem b_isin {t : Ty} {a : D} : biD (.isin t) μ [a] = (kindIs μ t a).map .bl := rfl
theorem k_ii : kindIs μ .int (.int i) = some true := rfl
theorem k_bi : kindIs μ .bool (.int i) = some false := rfl
theorem k_si : kindIs μ .str (.int i) = some false := rfl
theorem k_ss : kindIs μ .str (.str s) = some true := rfl
theorem k_is : kindIs μ .int (.str s) = some false := rfl
theorem k_tt {l : List D} : kindIs μ .tuple (.tup l) = some true := rfl
theorem k_ti : kindIs μ .tuple (.int i) = some false := rfl
theorem k_ts : kindIs μ .tuple (.str s) = some false := rfl
theorem intOf_int : intOf (.int i) = some i := rfl
theorem atZ0 {α : Type} {a : α} {l : List α} : atZ (a :: l) 0 = some a := by
  unfold atZ ixZ
  simp
theorem atZ1 {α : Type} {a b : α} {l : List α} : atZ (a :: b :: l) 1 = some b := by
  unfold atZ ixZ
  have : (1 : Int) < (l.length : Int) + 1 + 1 := by omega
  simp [this]
theorem atZ2 {α : Type} {a b c : α} {l : List α} : atZ (a :: b :: c :: l) 2 = some c := by
  unfold atZ ixZ
  have : (2 : Int) < (l.length : Int) + 1 + 1 + 1 := by omega
  simp [this]
theorem ixZ0 {n : Nat} : ixZ (n + 1) 0 = some 0 := by
  unfold ixZ
  have : (0 : Int) < ((n + 1 : Nat) : Int) := by omega
  rw [if_pos (by omega), if_pos this]
  rfl
theorem ixZ1 {n : Nat} : ixZ (n + 1 + 1) 1 = some 1 := by
  unfold ixZ
  have : (1 : Int) < ((n + 1 + 1 : Nat) : Int) := by omega
  rw [if_pos (by omega), if_pos this]
  rfl
theorem ixZ2 {n : Nat} : ixZ (n + 1 + 1 + 1) 2 = some 2 := by
  unfold ixZ
  have : (2 : Int) < ((n + 1 + 1 + 1 : Nat) : Int) := by omega
  rw [if_pos (by omega), if_pos this]
  rfl
theorem ixZ_nat {n : Nat} {k : Nat} (h : k < n) : ixZ n (k : Int) = some k := by
  unfold ixZ
  simp [h]
theorem atZ_nat {α : Type} {l : List α} {k : Nat} {a : α} (h : l[k]? = some a) : atZ l (k : Int) = some a := by
  unfold atZ
  rw [ixZ_nat (List.getElem?_eq_some_iff.mp h).1]
  exact h
theorem atZ_int {α : Type} {l : List α} {i : Int} (h0 : 0 ≤ i) (h1 : i < l.length) : ∃ a, atZ l i = some a ∧ l[i.toNat]? = some a := by
  have hk : i.toNat < l.length := by omega
  refine ⟨l[i.toNat], ?_, List.getElem?_eq_getElem hk⟩
  have e : ((i.toNat : Nat) : Int) = i := by omega
  have := atZ_nat (List.getElem?_eq_getElem hk)
  rw [e] at this
  exact this
end
/-! ### loops -/
section
variable {N B C : Rho → Mu → Prop} {R : D → Mu → Prop} {X : Ex → Mu → Prop} {g : List (Nat × List D)} {kill : List Nat}
theorem for_wp {turn : D → Rho → Mu → Out} : ∀ (l : List D) (Inv : Nat → Rho → Mu → Prop) (k : Nat) (ρ : Rho) (μ : Mu), Inv k ρ μ → (∀ i ρ μ, Inv i ρ μ → stays μ g = true) →
    (∀ i d ρ μ, l[i]? = some d → Inv (k + i) ρ μ → (turn d (wipeR ρ kill) μ).wp (Inv (k + i + 1)) R N (Inv (k + i + 1)) X) → (∀ ρ μ, Inv (k + l.length) ρ μ → N (wipeR ρ kill) μ) → (forL g kill turn l ρ μ).wp N R B C X
  | [], Inv, k, ρ, μ, h, hs, _, hd => by
    unfold forL
    rw [if_pos (hs k ρ μ h)]
    exact .nx (hd ρ μ h)
  | d :: r, Inv, k, ρ, μ, h, hs, ht, hd => by
    unfold forL
    rw [if_pos (hs k ρ μ h)]
    have t := ht 0 d ρ μ rfl h
    have again : ∀ ρ' μ', Inv (k + 1) ρ' μ' → (forL g kill turn r ρ' μ').wp N R B C X := fun ρ' μ' h' =>
      for_wp r Inv (k + 1) ρ' μ' h' hs (fun i d ρ μ e q => by
        have e2 : k + 1 + i = k + (i + 1) := by omega
        rw [e2] at q ⊢
        exact ht (i + 1) d ρ μ (by simpa using e) q) (fun ρ μ q => hd ρ μ (by
          have e2 : k + 1 + r.length = k + (d :: r).length := by rw [List.length_cons]; omega
          rw [e2] at q
          exact q))
    cases q : turn d (wipeR ρ kill) μ with
    | nx ρ' μ' => rw [q, wpo_nx] at t; exact again ρ' μ' t
    | ct ρ' μ' => rw [q, wpo_ct] at t; exact again ρ' μ' t
    | bk ρ' μ' => rw [q, wpo_bk] at t; exact .nx t
    | rt d' μ' => rw [q, wpo_rt] at t; exact .rt t
    | ex _ _ _ => rw [q, wpo_ex] at t; exact .ex t
    | no => rw [q, wpo_no] at t; exact t.elim
theorem while_wp {test : Rho → Mu → Res Bool} {body : Rho → Mu → Out} (Inv : Nat → Rho → Mu → Prop) (ht : ∀ m ρ μ, Inv m ρ μ → (test (wipeR ρ kill) μ).wp (fun b μ' => if b = true then ∃ m', m = m' + 1 ∧ (body (wipeR ρ kill) μ').wp (Inv m') R N (Inv m') X else N (wipeR ρ kill) μ') X) :
    ∀ (m n : Nat) (ρ : Rho) (μ : Mu), m < n → Inv m ρ μ → (whileL kill test body n ρ μ).wp N R B C X
  | m, 0, ρ, μ, hn, _ => by omega
  | m, n + 1, ρ, μ, hn, h => by
    unfold whileL
    rw [wp_out]
    refine Res.wp_mono (ht m ρ μ h) fun b μ' q => ?_
    cases b with
    | false => exact .nx q
    | true =>
      obtain ⟨m', rfl, q⟩ := q
      rw [if_pos rfl]
      cases e : body (wipeR ρ kill) μ' with
      | nx ρ2 μ2 => rw [e, wpo_nx] at q; exact while_wp Inv ht m' n ρ2 μ2 (by omega) q
      | ct ρ2 μ2 => rw [e, wpo_ct] at q; exact while_wp Inv ht m' n ρ2 μ2 (by omega) q
      | bk ρ2 μ2 => rw [e, wpo_bk] at q; exact .nx q
      | rt d2 μ2 => rw [e, wpo_rt] at q; exact .rt q
      | ex _ _ _ => rw [e, wpo_ex] at q; exact .ex q
      | no => rw [e, wpo_no] at q; exact q.elim
theorem comp_wp {turn : D → Mu → Res (Option D)} {Q : List D → Mu → Prop} : ∀ (l : List D) (Inv : Nat → List D → Mu → Prop) (k : Nat) (acc : List D) (μ : Mu), Inv k acc μ → (∀ i acc μ, Inv i acc μ → stays μ g = true ∧ (i < k + l.length → acc.length < lim)) →
    (∀ i d acc μ, l[i]? = some d → Inv (k + i) acc μ → (turn d μ).wp (fun o μ' => Inv (k + i + 1) (match o with | some x => acc ++ [x] | none => acc) μ') X) → (∀ acc μ, Inv (k + l.length) acc μ → Q acc μ) → (compL g turn l acc μ).wp Q X
  | [], Inv, k, acc, μ, h, hs, _, hd => by
    unfold compL
    rw [if_pos (hs k acc μ h).1]
    exact .mk (hd acc μ h)
  | d :: r, Inv, k, acc, μ, h, hs, ht, hd => by
    unfold compL
    have hc := hs k acc μ h
    rw [if_pos (by rw [hc.1, decide_eq_true (hc.2 (by rw [List.length_cons]; omega))]; rfl), wp_bind]
    refine Res.wp_mono (ht 0 d acc μ rfl h) fun o μ' q => ?_
    refine comp_wp r Inv (k + 1) _ μ' q (fun i acc μ q => ⟨(hs i acc μ q).1, fun hi => (hs i acc μ q).2 (by rw [List.length_cons]; omega)⟩) (fun i d acc μ e q => by
        have e2 : k + 1 + i = k + (i + 1) := by omega
        rw [e2] at q ⊢
        exact ht (i + 1) d acc μ (by simpa using e) q) (fun acc μ q => hd acc μ (by
          have e2 : k + 1 + r.length = k + (d :: r).length := by rw [List.length_cons]; omega
          rw [e2] at q
          exact q))
/-- a comprehension that leaves the store -/
theorem comp_pure {turn : D → Mu → Res (Option D)} {μ : Mu} {f : D → Option D} : ∀ (l acc : List D), stays μ g = true → acc.length + l.length ≤ lim → (∀ d ∈ l, turn d μ = .ok (f d) μ) → compL g turn l acc μ = .ok (acc ++ l.filterMap f) μ
  | [], acc, hs, _, _ => by unfold compL; rw [if_pos hs]; simp
  | d :: r, acc, hs, hl, ht => by
    rw [List.length_cons] at hl
    unfold compL
    rw [if_pos (by rw [hs, decide_eq_true (show acc.length < lim by omega)]; rfl), ht d List.mem_cons_self]
    show compL g turn r (match f d with | some x => acc ++ [x] | none => acc) μ = _
    have rest := fun acc hl => comp_pure (turn := turn) (f := f) r acc hs hl fun x hx => ht x (List.mem_cons_of_mem _ hx)
    cases hf : f d with
    | none => rw [rest acc (by omega), List.filterMap_cons, hf]
    | some x => rw [rest (acc ++ [x]) (by rw [List.length_append, List.length_singleton]; omega), List.filterMap_cons, hf, List.append_assoc]; rfl
end
/-! ### calls -/
section
variable {G : Nat → Option D} {F : Nat → Option Fn} {n f : Nat} {fd : Fn} {ds : List D} {μ : Mu} {Q : D → Mu → Prop} {X : Ex → Mu → Prop}
theorem run_eq (hf : F f = some fd) (hl : ds.length = fd.np) : run G F (n + 1) f ds μ = ends fd.fz μ (exSs G (run G F n) fd.body (ds.map some ++ List.replicate (fd.nn - ds.length) none) μ) := by
  show (match F f with | some fd => _ | none => _) = _
  rw [hf]
  show (if ds.length = fd.np then _ else _) = _
  rw [if_pos hl]
theorem run_wp (hf : F f = some fd) (hl : ds.length = fd.np) (hz : fd.fz = false) (h : (exSs G (run G F n) fd.body (ds.map some ++ List.replicate (fd.nn - ds.length) none) μ).wp (fun _ μ' => Q .non μ') Q (fun _ _ => False) (fun _ _ => False) X) : (run G F (n + 1) f ds μ).wp Q X := by
  rw [run_eq hf hl, hz]
  cases q : exSs G (run G F n) fd.body (ds.map some ++ List.replicate (fd.nn - ds.length) none) μ with
  | nx _ _ => rw [q, wpo_nx] at h; exact .mk h
  | rt _ _ => rw [q, wpo_rt] at h; exact .mk h
  | bk _ _ => rw [q, wpo_bk] at h; exact False.elim h
  | ct _ _ => rw [q, wpo_ct] at h; exact False.elim h
  | ex _ _ _ => rw [q, wpo_ex] at h; exact .ex h
  | no => rw [q, wpo_no] at h; exact False.elim h
/-- an exception that leaves a def whose room is cut off -/
def finX (μ : Mu) (X : Ex → Mu → Prop) : Ex → Mu → Prop := fun x μ' => (cutOk μ.length μ μ' && x.val.closed μ.length) = true ∧ X x (μ'.take μ.length)
theorem run_wpzX (hf : F f = some fd) (hl : ds.length = fd.np) (hz : fd.fz = true) (h : (exSs G (run G F n) fd.body (ds.map some ++ List.replicate (fd.nn - ds.length) none) μ).wp (fun _ μ' => (fin μ μ' .non).wp Q X) (fun d μ' => (fin μ μ' d).wp Q X) (fun _ _ => False) (fun _ _ => False) (finX μ X)) : (run G F (n + 1) f ds μ).wp Q X := by
  rw [run_eq hf hl, hz]
  cases q : exSs G (run G F n) fd.body (ds.map some ++ List.replicate (fd.nn - ds.length) none) μ with
  | nx _ _ => rw [q, wpo_nx] at h; exact h
  | rt _ _ => rw [q, wpo_rt] at h; exact h
  | bk _ _ => rw [q, wpo_bk] at h; exact False.elim h
  | ct _ _ => rw [q, wpo_ct] at h; exact False.elim h
  | ex x ρ' μ' =>
    rw [q, wpo_ex] at h
    show (if (cutOk μ.length μ μ' && x.val.closed μ.length) = true then Res.ex x (μ'.take μ.length) else .no).wp Q X
    rw [if_pos h.1]
    exact .ex h.2
  | no => rw [q, wpo_no] at h; exact False.elim h
theorem run_wpz (hf : F f = some fd) (hl : ds.length = fd.np) (hz : fd.fz = true) (h : (exSs G (run G F n) fd.body (ds.map some ++ List.replicate (fd.nn - ds.length) none) μ).wp (fun _ μ' => (fin μ μ' .non).wp Q) (fun d μ' => (fin μ μ' d).wp Q) (fun _ _ => False) fun _ _ => False) : (run G F (n + 1) f ds μ).wp Q :=
  run_wpzX hf hl hz (Out.wp_mono h (fun _ _ h => h) (fun _ _ h => h) (fun _ _ h => h) (fun _ _ h => h))
/-- what stood stands, but for plain cells at S -/
def Fr (S : List Nat) (μ μ' : Mu) : Prop := μ.length ≤ μ'.length ∧ ∀ i, i < μ.length → i ∉ S → μ'[i]? = μ[i]?
theorem Fr.refl (S : List Nat) (μ : Mu) : Fr S μ μ := ⟨Nat.le_refl _, fun _ _ _ => rfl⟩
theorem Fr.trans {S : List Nat} {μ μ' μ'' : Mu} (h : Fr S μ μ') (h' : Fr S μ' μ'') : Fr S μ μ'' := ⟨Nat.le_trans h.1 h'.1, fun i hi hS => (h'.2 i (Nat.lt_of_lt_of_le hi h.1) hS).trans (h.2 i hi hS)⟩
theorem Fr.push {S : List Nat} {μ : Mu} (X : Mu) : Fr S μ (μ ++ X) := ⟨by rw [List.length_append]; omega, fun i hi _ => List.getElem?_append_left hi⟩
theorem Fr.set {S : List Nat} {μ : Mu} {n : Nat} {c : Cell} (h : n ∈ S) : Fr S μ (μ.set n c) := ⟨by rw [List.length_set]; exact Nat.le_refl _, fun i _ hS => List.getElem?_set_ne fun e => hS (by rw [← e]; exact h)⟩
theorem Fr.mono {S S' : List Nat} {μ μ' : Mu} (h : Fr S μ μ') (hs : ∀ i ∈ S, i < μ.length → i ∈ S') : Fr S' μ μ' := ⟨h.1, fun i hi hS => h.2 i hi fun q => hS (hs i q hi)⟩
theorem cut_ok {S : List Nat} {μ μ' : Mu} (h : Fr S μ μ') (hf : ∀ i ∈ S, i < μ.length → ∃ c, μ'[i]? = some c ∧ c.flat = true) : cutOk μ.length μ μ' = true := by
  unfold cutOk
  rw [List.all_eq_true]
  intro i hi
  have hi := List.mem_range.mp hi
  rw [Bool.or_eq_true]
  by_cases hS : i ∈ S
  · obtain ⟨c, e, hc⟩ := hf i hS hi
    exact .inr (by rw [e]; exact hc)
  · exact .inl (decide_eq_true (h.2 i hi hS))
theorem fin_wp {S : List Nat} {μ' : Mu} {d : D} (h : Fr S μ μ') (hf : ∀ i ∈ S, i < μ.length → ∃ c, μ'[i]? = some c ∧ c.flat = true) (hd : d.flat = true) (q : Q d (μ'.take μ.length)) : (fin μ μ' d).wp Q X := by
  unfold fin
  rw [if_pos (cut_ok h hf)]
  cases d with
  | loc n => cases hd
  | _ =>
    dsimp only
    rw [if_pos (flat_closed _ _ hd)]
    exact .mk q
theorem fin_wpL {S : List Nat} {μ' : Mu} {n : Nat} {l : List D} (h : Fr S μ μ') (hf : ∀ i ∈ S, i < μ.length → ∃ c, μ'[i]? = some c ∧ c.flat = true) (hn : μ.length ≤ n) (hl : μ'[n]? = some (.lst l)) (hd : D.flatL l = true) (q : Q (.lst l) (μ'.take μ.length)) : (fin μ μ' (.loc n)).wp Q X := by
  unfold fin
  rw [if_pos (cut_ok h hf)]
  dsimp only
  rw [if_neg (by omega), hl]
  dsimp only
  rw [if_pos (flat_closedL _ _ hd)]
  exact .mk q
theorem Fr.take {S : List Nat} {μ μ' : Mu} (h : Fr S μ μ') : Fr S μ (μ'.take μ.length) ∧ (μ'.take μ.length).length = μ.length := by
  have hl : (μ'.take μ.length).length = μ.length := by rw [List.length_take]; have := h.1; omega
  exact ⟨⟨by omega, fun i hi hS => by rw [List.getElem?_take_of_lt hi]; exact h.2 i hi hS⟩, hl⟩
end
end Ev
namespace Ev
theorem ss_step {G : Nat → Option D} {call : Nat → List D → Mu → Res D} {N B C : Rho → Mu → Prop} {R : D → Mu → Prop} {X : Ex → Mu → Prop} {ρ : Rho} {μ : Mu} {s : S} {ss : List S}
    (h : ∀ K : Rho → Mu → Prop, K = (fun ρ μ => (exSs G call ss ρ μ).wp N R B C X) → (exS G call s ρ μ).wp K R B C X) : (exSs G call (s :: ss) ρ μ).wp N R B C X := by
  rw [ss_c]
  exact h _ rfl
theorem log_s {i : Int} (h : i.natAbs < 2 ^ 64) : i.natAbs.log2 < 9000 := by
  by_cases e : i.natAbs = 0
  · rw [e]; decide
  · exact Nat.lt_trans ((Nat.log2_lt e).mpr h) (by decide)
theorem mul_ok {i j : Int} (hi : i.natAbs < 2 ^ 1000) (hj : j.natAbs < 2 ^ 1000) : i.natAbs.log2 + j.natAbs.log2 < 1000000 := by
  have key : ∀ i : Int, i.natAbs < 2 ^ 1000 → i.natAbs.log2 < 1000 := fun i h => by
    by_cases e : i.natAbs = 0
    · rw [e]; decide
    · exact (Nat.log2_lt e).mpr h
  have := key i hi
  have := key j hj
  omega
theorem small_ok {i : Int} (h : i.natAbs < 2 ^ 200) : i.natAbs < 2 ^ 1000 := Nat.lt_trans h (Nat.pow_lt_pow_right (by decide) (by decide))
/-- a small number's length -/
theorem log_le {i : Int} {k : Nat} (h : i.natAbs < 2 ^ k) (hk : 0 < k) : i.natAbs.log2 < k := by
  by_cases e : i.natAbs = 0
  · rw [e]; simp [Nat.log2]; omega
  · exact (Nat.log2_lt e).mpr h
end Ev

set_option Elab.async false
set_option linter.all false
set_option maxRecDepth 100000
set_option maxHeartbeats 1000000
/-! Small facts that the laws share. -/
namespace Ev
mutual
theorem eqv_refl : ∀ d : D, d.flat = true → d.eqv d = true
  | .non, _ => rfl
  | .bl a, _ => by simp [D.eqv]
  | .int a, _ => by simp [D.eqv]
  | .str a, _ => by simp [D.eqv]
  | .tup l, h => by unfold D.flat at h; unfold D.eqv; exact eqvL_refl l h
  | .lst l, h => by unfold D.flat at h; unfold D.eqv; exact eqvL_refl l h
  | .loc _, h => by unfold D.flat at h; cases h
  | .fn _ _, h => by unfold D.flat at h; cases h
theorem eqvL_refl : ∀ l : List D, D.flatL l = true → D.eqvL l l = true
  | [], _ => rfl
  | d :: ds, h => by
    unfold D.flatL at h
    rw [Bool.and_eq_true] at h
    unfold D.eqvL
    rw [eqv_refl d h.1, eqvL_refl ds h.2]
    rfl
end
theorem flatL_all : ∀ l : List D, D.flatL l = true ↔ ∀ d ∈ l, d.flat = true
  | [] => by simp [D.flatL]
  | d :: ds => by
    unfold D.flatL
    rw [Bool.and_eq_true, flatL_all ds]
    simp
theorem flatL_map {α : Type} {l : List α} {f : α → D} (h : ∀ a ∈ l, (f a).flat = true) : D.flatL (l.map f) = true := by
  rw [flatL_all]
  intro d hd
  obtain ⟨a, ha, rfl⟩ := List.mem_map.mp hd
  exact h a ha
theorem depthL_le {k : Nat} : ∀ {l : List D}, (∀ d ∈ l, d.depth ≤ k) → D.depthL l ≤ k
  | [], _ => Nat.zero_le _
  | d :: ds, h => by
    unfold D.depthL
    exact Nat.max_le.mpr ⟨h d List.mem_cons_self, depthL_le fun x hx => h x (List.mem_cons_of_mem _ hx)⟩
/-- among n unlike ones one is not in a shorter list -/
theorem hole {α : Type} [DecidableEq α] : ∀ (l : List α) (n : Nat) (f : Nat → α), (∀ i j, i < n → j < n → f i = f j → i = j) → l.length < n → ∃ j, j < n ∧ f j ∉ l
  | [], n, f, _, h => ⟨0, by simpa using h, by simp⟩
  | a :: r, n, f, hf, h => by
    rw [List.length_cons] at h
    by_cases hex : ∃ j0, j0 < n ∧ f j0 = a
    · obtain ⟨j0, h0, e0⟩ := hex
      obtain ⟨j, hj, hn⟩ := hole r (n - 1) (fun i => if i < j0 then f i else f (i + 1)) (fun i j hi hj e => by
        by_cases h1 : i < j0 <;> by_cases h2 : j < j0
        · rw [if_pos h1, if_pos h2] at e; exact hf i j (by omega) (by omega) e
        · rw [if_pos h1, if_neg h2] at e; have := hf i (j + 1) (by omega) (by omega) e; omega
        · rw [if_neg h1, if_pos h2] at e; have := hf (i + 1) j (by omega) (by omega) e; omega
        · rw [if_neg h1, if_neg h2] at e; have := hf (i + 1) (j + 1) (by omega) (by omega) e; omega) (by omega)
      by_cases h1 : j < j0
      · rw [if_pos h1] at hn
        refine ⟨j, by omega, fun q => ?_⟩
        rcases List.mem_cons.mp q with q | q
        · have := hf j j0 (by omega) h0 (q.trans e0.symm); omega
        · exact hn q
      · rw [if_neg h1] at hn
        refine ⟨j + 1, by omega, fun q => ?_⟩
        rcases List.mem_cons.mp q with q | q
        · have := hf (j + 1) j0 (by omega) h0 (q.trans e0.symm); omega
        · exact hn q
    · obtain ⟨j, hj, hn⟩ := hole r n f hf (by omega)
      refine ⟨j, hj, fun q => ?_⟩
      rcases List.mem_cons.mp q with q | q
      · exact hex ⟨j, hj, q⟩
      · exact hn q
/-! ### texts -/
theorem lim_val : lim = 16777216 := rfl
theorem lim1 : (0 + 1 ≤ lim) = True := eq_true (by rw [lim_val]; omega)
theorem lim2 : (0 + 1 + 1 ≤ lim) = True := eq_true (by rw [lim_val]; omega)
theorem lim3 : (0 + 1 + 1 + 1 ≤ lim) = True := eq_true (by rw [lim_val]; omega)
theorem lim4 : (0 + 1 + 1 + 1 + 1 ≤ lim) = True := eq_true (by rw [lim_val]; omega)
theorem lim5 : (0 + 1 + 1 + 1 + 1 + 1 ≤ lim) = True := eq_true (by rw [lim_val]; omega)
theorem last_at (s : Txt) (c : Nat) (h : s.length + 1 ≤ lim) {μ : Mu} : idxD μ (.str (s ++ [c])) (.int (-1)) = some (.str [c]) := by
  show (if (s ++ [c]).length ≤ lim then (atZ (s ++ [c]) (-1)).map fun c => D.str [c] else none) = _
  rw [if_pos (by rw [List.length_append]; simpa using h)]
  unfold atZ ixZ
  have h1 : ¬ (0 : Int) ≤ -1 := by omega
  have h2 : -(((s ++ [c]).length : Nat) : Int) ≤ -1 := by rw [List.length_append]; simp; omega
  have h3 : ((-1 : Int) + (((s ++ [c]).length : Nat) : Int)).toNat = s.length := by rw [List.length_append, List.length_singleton]; omega
  rw [if_neg h1, if_pos h2, h3]
  simp
theorem cut_last (s : Txt) (c : Nat) (h : s.length + 1 ≤ lim) {μ : Mu} : slcD μ (.str (s ++ [c])) none (some (-1)) = some (.str s) := by
  show (if (s ++ [c]).length ≤ lim then some (D.str (cutL (s ++ [c]) none (some (-1)))) else none) = _
  rw [if_pos (by rw [List.length_append]; simpa using h)]
  unfold cutL cutZ
  have h1 : (-1 : Int) < 0 := by omega
  have h3 : ((-1 : Int) + (((s ++ [c]).length : Nat) : Int)).toNat = s.length := by rw [List.length_append, List.length_singleton]; omega
  simp only [if_pos h1, h3, List.drop_zero, Nat.sub_zero]
  simp
theorem idx_str {s : Txt} {k : Nat} {c : Nat} (h : s[k]? = some c) (hl : s.length ≤ lim) {μ : Mu} : idxD μ (.str s) (.int (k : Int)) = some (.str [c]) := by
  show (if s.length ≤ lim then (atZ s (k : Int)).map fun c => D.str [c] else none) = _
  rw [if_pos hl, atZ_nat h]
  rfl
/-- a .. z -/
def az : Txt := [97, 98, 99, 100, 101, 102, 103, 104, 105, 106, 107, 108, 109, 110, 111, 112, 113, 114, 115, 116, 117, 118, 119, 120, 121, 122]
theorem az_get : ∀ k < 26, az[k]? = some (97 + k) := by decide
theorem az_ix : ∀ k < 26, indexT az (97 + k) = some k := by decide
def aza : Txt := az ++ [97]
theorem aza_get : ∀ k < 26, aza[1 + k]? = some (97 + (k + 1) % 26) := by decide
theorem aza_ix : ∀ k < 26, indexT aza (97 + k) = some k := by decide
/-- a name: letters, the last one apart -/
structure Nm (s : Txt) : Prop where
  len : s.length ≤ 8
  sgn : ∀ c ∈ s, 97 ≤ c ∧ c < 123
  ex : ∃ b k, s = b ++ [97 + k] ∧ k < 26
def rot (b : Txt) (k j : Nat) : Txt := b ++ [97 + (k + j) % 26]
theorem rot_inj (b : Txt) (k : Nat) (hk : k < 26) : ∀ i j, i < 26 → j < 26 → rot b k i = rot b k j → i = j := by
  intro i j hi hj e
  have := List.append_cancel_left e
  simp only [List.cons.injEq, and_true] at this
  omega
theorem Nm.rot {b : Txt} {k j : Nat} (h : Nm (b ++ [97 + k])) : Nm (Ev.rot b k j) := by
  unfold Ev.rot
  have hl := h.len
  rw [List.length_append] at hl
  refine ⟨by rw [List.length_append]; simpa using hl, fun c hc => ?_, b, (k + j) % 26, rfl, Nat.mod_lt _ (by decide)⟩
  rcases List.mem_append.mp hc with hc | hc
  · exact h.sgn c (List.mem_append_left _ hc)
  · have : c = 97 + (k + j) % 26 := by simpa using hc
    subst this
    have := Nat.mod_lt (k + j) (show 0 < 26 by decide)
    omega
theorem any_str (l : List Txt) (s : Txt) : ((l.map D.str).any fun x => x.eqv (.str s)) = l.contains s := by
  induction l with
  | nil => rfl
  | cons t r ih =>
    rw [List.map_cons, List.any_cons, ih, List.contains_cons]
    congr 1
    show (t == s) = (s == t)
    exact Bool.eq_iff_iff.mpr (by rw [beq_iff_eq, beq_iff_eq]; exact eq_comm)
theorem in_strs {μ : Mu} {n : Nat} {l : List Txt} {s : Txt} (h : μ[n]? = some (.lst (l.map .str))) : inD μ (.str s) (.loc n) = some (l.contains s) := by
  unfold inD
  dsimp only
  rw [seqOf_loc h]
  dsimp only
  have hf : D.flatL (l.map D.str) = true := flatL_map fun _ _ => rfl
  rw [hf, any_str]
  rfl
/-! ### the store -/
theorem set_get {μ : Mu} {n : Nat} {c d : Cell} (h : μ[n]? = some c) : (μ.set n d)[n]? = some d := List.getElem?_set_self (List.getElem?_eq_some_iff.mp h).1
theorem push_get {μ : Mu} {c : Cell} : (μ ++ [c])[μ.length]? = some c := by rw [List.getElem?_append_right (Nat.le_refl _), Nat.sub_self]; rfl
theorem push_old {μ : Mu} {c d : Cell} {n : Nat} (h : μ[n]? = some c) : (μ ++ [d])[n]? = some c := by rw [List.getElem?_append_left (List.getElem?_eq_some_iff.mp h).1]; exact h
theorem set_set {μ : Mu} {n : Nat} {c d : Cell} : (μ.set n c).set n d = μ.set n d := List.set_set ..
theorem rngL_get {lo : Int} {n i : Nat} {d : D} (h : (rngL lo n)[i]? = some d) : d = .int (lo + i) ∧ i < n := by
  unfold rngL at h
  rw [List.getElem?_map] at h
  cases e : (List.range n)[i]? with
  | none => rw [e] at h; cases h
  | some j =>
    rw [e] at h
    obtain ⟨hl, hj⟩ := List.getElem?_eq_some_iff.mp e
    rw [List.getElem_range] at hj
    rw [List.length_range] at hl
    subst hj
    cases h
    exact ⟨rfl, hl⟩
theorem rngL_len {lo : Int} {n : Nat} : (rngL lo n).length = n := by unfold rngL; rw [List.length_map, List.length_range]
theorem stays_nl {μ : Mu} : stays μ [] = true := rfl
theorem stays_1 {μ : Mu} {n : Nat} {l : List D} (h : μ[n]? = some (.lst l)) : stays μ [(n, l)] = true := by
  unfold stays
  rw [List.all_cons, List.all_nil]
  simp [h]
theorem atZ_last {α : Type} {l : List α} {a : α} : atZ (l ++ [a]) (-1) = some a := by
  unfold atZ ixZ
  have h1 : ¬ (0 : Int) ≤ -1 := by omega
  have h2 : -(((l ++ [a]).length : Nat) : Int) ≤ -1 := by rw [List.length_append, List.length_singleton]; omega
  have h3 : ((-1 : Int) + (((l ++ [a]).length : Nat) : Int)).toNat = l.length := by rw [List.length_append, List.length_singleton]; omega
  rw [if_neg h1, if_pos h2, h3]
  simp
/-- a def that leaves the store and hands back plain data -/
theorem fin_same {μ : Mu} {d : D} {Q : D → Mu → Prop} {X : Ex → Mu → Prop} (hd : d.flat = true) (q : Q d μ) : (fin μ μ d).wp Q X :=
  fin_wp (S := []) (Fr.refl _ _) (fun i hi => by cases hi) hd (by rw [List.take_length]; exact q)
theorem fin_more {μ X : Mu} {d : D} {Q : D → Mu → Prop} {Z : Ex → Mu → Prop} (hd : d.flat = true) (q : Q d μ) : (fin μ (μ ++ X) d).wp Q Z :=
  fin_wp (S := []) (Fr.push X) (fun i hi => by cases hi) hd (by rw [List.take_left]; exact q)
/-- .. a list of its own -/
theorem fin_list {μ : Mu} {l : List D} {Q : D → Mu → Prop} {X : Ex → Mu → Prop} (hd : D.flatL l = true) (q : Q (.lst l) μ) : (fin μ (μ ++ [.lst l]) (.loc μ.length)).wp Q X :=
  fin_wpL (S := []) (Fr.push _) (fun i hi => by cases hi) (Nat.le_refl _) push_get hd (by rw [List.take_left]; exact q)
theorem q_strd {μ : Mu} {s t : Txt} : eqD μ (.str s) (.str t) = some (decide (s = t)) := by
  show some (s == t) = _
  exact congrArg some (Bool.eq_iff_iff.mpr (by rw [beq_iff_eq, decide_eq_true_iff]))
theorem wp_to {α : Type} {r : Res α} {d : α} {μ : Mu} (h : r.wp fun d' μ' => d' = d ∧ μ' = μ) : r = .ok d μ := by
  obtain ⟨a, m, e, rfl, rfl⟩ := wp_eq h
  exact e
theorem cut_take {α : Type} (l : List α) (m : Nat) : cutL l none (some (m : Int)) = l.take m := by
  unfold cutL cutZ
  dsimp only
  rw [if_neg (by omega), List.drop_zero, Nat.sub_zero, Int.toNat_natCast]
  by_cases h : m ≤ l.length
  · rw [Nat.min_eq_left h]
  · rw [Nat.min_eq_right (by omega), List.take_length, List.take_of_length_le (by omega)]
theorem sl_take {μ : Mu} {l : List D} (m : Nat) : slcD μ (.lst l) none (some (m : Int)) = some (.lst (l.take m)) := by
  show some (D.lst (cutL l none (some (m : Int)))) = _
  rw [cut_take]
theorem eq_self {μ : Mu} {d : D} (hf : d.flat = true) (hd : d.depth ≤ 64) : eqD μ d d = some true := by
  rw [eq_flat hf hf hd, eqv_refl d hf]
theorem fin_end {μ' : Mu} {d : D} {Q : D → Mu → Prop} {X : Ex → Mu → Prop} (hd : d.flat = true) (q : ∀ μ, Q d μ) : (fin [] μ' d).wp Q X :=
  fin_wp (S := []) ⟨Nat.zero_le _, fun i hi _ => absurd hi (Nat.not_lt_zero _)⟩ (fun i hi => by cases hi) hd (q _)
theorem strsOf_map : ∀ ss : List Txt, strsOf (ss.map D.str) = some ss
  | [] => rfl
  | t :: r => by
    show (strsOf (r.map D.str)).map (t :: ·) = _
    rw [strsOf_map r]
    rfl
theorem joinT_nil : ∀ ss : List Txt, joinT [] ss = ss.flatten
  | [] => rfl
  | [p] => by simp [joinT]
  | p :: q :: r => by
    show p ++ ([] ++ joinT [] (q :: r)) = _
    rw [joinT_nil (q :: r)]
    rfl
theorem m_join {μ : Mu} {s : Txt} {a : D} {ss : List Txt} (h : seqOf μ a = some (ss.map D.str)) (hl : (ss.map List.length).sum + ss.length * s.length ≤ lim) : meD .join μ (.str s) [a] = .ok (.str (joinT s ss)) μ := by
  show (match strOf (D.str s), (d1 [a] (seqOf μ)).bind strsOf with
    | some s, some ss => if (ss.map List.length).sum + ss.length * s.length ≤ lim then Res.ok (D.str (joinT s ss)) μ else .no
    | _, _ => .no) = _
  have e : (d1 [a] (seqOf μ)).bind strsOf = some ss := by
    show (seqOf μ a).bind strsOf = some ss
    rw [h]
    exact strsOf_map ss
  rw [e]
  show (if (ss.map List.length).sum + ss.length * s.length ≤ lim then Res.ok (D.str (joinT s ss)) μ else .no) = _
  rw [if_pos hl]
theorem nlet {s : Txt} {c : Nat} (h : ∀ x ∈ s, 97 ≤ x ∧ x < 123) (hc : 97 ≤ c ∧ c < 123) : ∀ x ∈ s ++ [c], 97 ≤ x ∧ x < 123 := fun x hx => by
  rcases List.mem_append.mp hx with hx | hx
  · exact h x hx
  · have : x = c := by simpa using hx
    subst this; exact hc
theorem nm_of {s : Txt} (h1 : 0 < s.length) (h2 : s.length ≤ 8) (h3 : ∀ x ∈ s, 97 ≤ x ∧ x < 123) : Nm s := by
  refine ⟨h2, h3, ?_⟩
  have hne : s ≠ [] := fun e => by subst e; simp at h1
  refine ⟨s.dropLast, s.getLast hne - 97, ?_, ?_⟩
  · have := h3 _ (List.getLast_mem hne)
    have e : 97 + (s.getLast hne - 97) = s.getLast hne := by omega
    rw [e]
    exact (List.dropLast_concat_getLast hne).symm
  · have := h3 _ (List.getLast_mem hne)
    omega
theorem sum_ones (cs : List Nat) : ((cs.map fun c => ([c] : Txt)).map List.length).sum = cs.length := by
  induction cs with
  | nil => rfl
  | cons c r ih => rw [List.map_cons, List.map_cons, List.sum_cons, ih, List.length_cons (as := r)]; show 1 + r.length = _; omega
theorem flat_ones (cs : List Nat) : (cs.map fun c => ([c] : Txt)).flatten = cs := by
  induction cs with
  | nil => rfl
  | cons c r ih => rw [List.map_cons, List.flatten_cons, ih]; rfl
theorem m_ext {μ : Mu} {n : Nat} {l r : List D} {a : D} (h : μ[n]? = some (.lst l)) (ha : seqOf μ a = some r) : meD .extend μ (.loc n) [a] = if l.length + r.length ≤ lim then .ok .non (μ.set n (.lst (l ++ r))) else .no := by
  show (match lstAt μ (.loc n), d1 [a] (seqOf μ) with
    | some (n, l), some r => if l.length + r.length ≤ lim then Res.ok D.non (μ.set n (.lst (l ++ r))) else .no
    | _, _ => .no) = _
  rw [l_loc h, show d1 [a] (seqOf μ) = some r from ha]
theorem m_pop0 {μ : Mu} {n : Nat} {x : D} {r : List D} (h : μ[n]? = some (.lst (x :: r))) : meD .popAt μ (.loc n) [.int 0] = .ok x (μ.set n (.lst r)) := by
  unfold meD
  dsimp only
  rw [l_loc h]
  simp only [d1, intOf, List.length_cons, ixZ0, List.getElem?_cons_zero, List.eraseIdx_cons_zero]
theorem eq_nil {μ : Mu} {n : Nat} {l : List D} (h : μ[n]? = some (.lst l)) (hf : D.flatL l = true) : eqD μ (.loc n) (.lst []) = some l.isEmpty := by
  have sa : seen μ (.loc n) = .lst l := by
    show (match μ[n]? with | some (.lst l) => D.lst l | _ => .loc n) = _
    rw [h]
  have sb : seen μ (.lst []) = .lst [] := rfl
  unfold eqD
  rw [sa, sb]
  have h1 : (D.lst l).flat = true := hf
  have h2 : min (D.lst l).depth (D.lst []).depth ≤ 64 := Nat.le_trans (Nat.min_le_right _ _) (by decide)
  have h3 : (D.lst []).flat = true := rfl
  rw [h1, h3, decide_eq_true h2]
  show some _ = _
  congr 1
  cases l <;> rfl
theorem fr_take {μ μ' : Mu} (h : Fr [] μ μ') : μ'.take μ.length = μ := by
  apply List.ext_getElem?
  intro i
  by_cases hi : i < μ.length
  · rw [List.getElem?_take_of_lt hi, h.2 i hi (by simp)]
  · rw [List.getElem?_eq_none (by rw [List.length_take]; omega), List.getElem?_eq_none (by omega)]
theorem b_all {μ : Mu} {l : List D} (h : ∀ d ∈ l, d = .bl true) : biD .all μ [.lst l] = some (.bl true) := by
  have : ∀ l : List D, (∀ d ∈ l, d = .bl true) → ∃ bs, boolsOf l = some bs ∧ bs.all id = true := fun l => by
    induction l with
    | nil => exact fun _ => ⟨[], rfl, rfl⟩
    | cons d r ih =>
      intro h
      obtain ⟨bs, e1, e2⟩ := ih fun x hx => h x (List.mem_cons_of_mem _ hx)
      rw [h d List.mem_cons_self]
      exact ⟨true :: bs, by show (boolsOf r).map (true :: ·) = _; rw [e1]; rfl, by simpa using e2⟩
  obtain ⟨bs, e1, e2⟩ := this l h
  show ((boolsOf l).map fun bs => D.bl (bs.all id)) = _
  rw [e1]
  show some (D.bl (bs.all id)) = _
  rw [e2]
theorem none_left {l : List D} {f : D → Option D} (h : ∀ d ∈ l, f d = none) : l.filterMap f = [] := by
  rw [List.filterMap_eq_nil_iff]
  exact h
theorem empty_eq {μ : Mu} : eqD μ (.lst []) (.lst []) = some true := rfl
theorem enum_get {l : List D} {i : Nat} {d : D} : ∀ (k : Nat) (l : List D) (i : Nat) (d : D), (enumFrom k l)[i]? = some d → ∃ x, l[i]? = some x ∧ d = .tup [.int ((k + i : Nat) : Int), x]
  | _, [], _, _, h => by simp [enumFrom] at h
  | k, e :: r, 0, d, h => by
    simp [enumFrom] at h
    exact ⟨e, rfl, by rw [← h]; rfl⟩
  | k, e :: r, i + 1, d, h => by
    simp only [enumFrom, List.getElem?_cons_succ] at h
    obtain ⟨x, h1, h2⟩ := enum_get (l := r) (i := i) (d := d) (k + 1) r i d h
    exact ⟨x, by simpa using h1, by rw [h2]; congr 3; omega⟩
theorem fm_map {α β γ : Type} {g : α → β} {f : β → Option γ} {h : α → γ} (e : ∀ a, f (g a) = some (h a)) : ∀ l : List α, (l.map g).filterMap f = l.map h
  | [] => rfl
  | a :: r => by rw [List.map_cons, List.filterMap_cons, e a, List.map_cons, fm_map e r]
end Ev

set_option Elab.async false
set_option linter.all false
set_option maxRecDepth 100000
set_option maxHeartbeats 0
namespace LawX
open Ev
/-! plain data -/
mutual
/-- short texts and rows -/
def sml : D → Bool
  | .str s => decide (s.length ≤ 1000)
  | .tup l => decide (l.length ≤ 1000) && smlL l
  | .lst l => decide (l.length ≤ 1000) && smlL l
  | _ => true
def smlL : List D → Bool
  | [] => true
  | d :: ds => sml d && smlL ds
end
theorem smlL_all : ∀ l : List D, smlL l = true ↔ ∀ d ∈ l, sml d = true
  | [] => by simp [smlL]
  | d :: ds => by
    unfold smlL
    rw [Bool.and_eq_true, smlL_all ds]
    simp
/-- plain and short -/
def Gd (d : D) : Prop := d.flat = true ∧ sml d = true
theorem Gd.tup {l : List D} (hl : l.length ≤ 1000) (h : ∀ x ∈ l, Gd x) : Gd (.tup l) :=
  ⟨(flatL_all l).mpr fun x hx => (h x hx).1, by
    show (decide (l.length ≤ 1000) && smlL l) = true
    rw [decide_eq_true hl, Bool.true_and, smlL_all]
    exact fun x hx => (h x hx).2⟩
theorem Gd.lst {l : List D} (hl : l.length ≤ 1000) (h : ∀ x ∈ l, Gd x) : Gd (.lst l) := Gd.tup hl h
theorem Gd.str {s : Txt} (h : s.length ≤ 1000) : Gd (.str s) := ⟨rfl, decide_eq_true h⟩
theorem gd_int (i : Int) : Gd (.int i) := ⟨rfl, rfl⟩
theorem gd_bl (b : Bool) : Gd (.bl b) := ⟨rfl, rfl⟩
theorem gd_non : Gd .non := ⟨rfl, rfl⟩
theorem gd_tup0 : Gd (.tup []) := ⟨rfl, rfl⟩
theorem gd_cons {x : D} {l : List D} (h : Gd x) (hl : ∀ y ∈ l, Gd y) : ∀ y ∈ x :: l, Gd y := fun y hy => by
  rcases List.mem_cons.mp hy with rfl | hy
  · exact h
  · exact hl y hy
theorem gd_nil : ∀ y ∈ ([] : List D), Gd y := fun y hy => by cases hy
def kI : D → Bool
  | .int _ => true
  | .bl _ => true
  | _ => false
def kB : D → Bool
  | .bl _ => true
  | _ => false
def kS : D → Bool
  | .str _ => true
  | _ => false
def kT : D → Bool
  | .tup _ => true
  | _ => false

/-! things, and which of them are forms -/
/-- lists, tuples and dicts of any kind in one another -/
inductive Tg (μ : Mu) : D → Prop
  | gd {d : D} (h : Gd d) : Tg μ d
  | tup {l : List D} (hl : l.length ≤ 1000) (h : ∀ x ∈ l, Tg μ x) : Tg μ (.tup l)
  | lst {l : List D} (hl : l.length ≤ 1000) (h : ∀ x ∈ l, Tg μ x) : Tg μ (.lst l)
  | sl {n : Nat} {l : List D} (h : μ[n]? = some (.lst l)) : Tg μ (.loc n)
  | sd {n : Nat} {l : List (D × D)} (h : μ[n]? = some (.dct l)) : Tg μ (.loc n)
theorem Tg.kinds {μ : Mu} {d : D} (h : Tg μ d) : kindIs μ .int d = some (kI d) ∧ kindIs μ .bool d = some (kB d) ∧ kindIs μ .str d = some (kS d) ∧ kindIs μ .tuple d = some (kT d) := by
  cases h with
  | gd h => cases d <;> first | exact ⟨rfl, rfl, rfl, rfl⟩ | cases h.1
  | tup _ _ => exact ⟨rfl, rfl, rfl, rfl⟩
  | lst _ _ => exact ⟨rfl, rfl, rfl, rfl⟩
  | @sl n l e =>
    have key : ∀ t, kindIs μ t (.loc n) = some (t == Ty.list) := fun t => by
      show (match μ[n]? with | some (.lst _) => some (t == Ty.list) | some (.dct _) => some (t == Ty.dict) | _ => none) = _
      rw [e]
    exact ⟨key _, key _, key _, key _⟩
  | @sd n l e =>
    have key : ∀ t, kindIs μ t (.loc n) = some (t == Ty.dict) := fun t => by
      show (match μ[n]? with | some (.lst _) => some (t == Ty.list) | some (.dct _) => some (t == Ty.dict) | _ => none) = _
      rw [e]
    exact ⟨key _, key _, key _, key _⟩
theorem Gd.elem {l : List D} (h : Gd (.tup l)) : l.length ≤ 1000 ∧ ∀ x ∈ l, Gd x := by
  obtain ⟨h1, h2⟩ := h
  have h2 : (decide (l.length ≤ 1000) && smlL l) = true := h2
  rw [Bool.and_eq_true, decide_eq_true_iff, smlL_all] at h2
  exact ⟨h2.1, fun x hx => ⟨(flatL_all l).mp h1 x hx, h2.2 x hx⟩⟩
theorem Tg.elem {μ : Mu} {l : List D} (h : Tg μ (.tup l)) : l.length ≤ 1000 ∧ ∀ x ∈ l, Tg μ x := by
  cases h with
  | gd h => exact ⟨h.elem.1, fun x hx => .gd (h.elem.2 x hx)⟩
  | tup hl h => exact ⟨hl, h⟩
theorem Tg.str {μ : Mu} {s : Txt} (h : Tg μ (.str s)) : s.length ≤ 1000 := by
  cases h with
  | gd h => exact of_decide_eq_true h.2
def isW (t : Txt) : D → Bool
  | .str s => decide (s = t)
  | _ => false
theorem Tg.eqT {μ : Mu} {d : D} (h : Tg μ d) (t : Txt) : eqD μ d (.str t) = some (isW t d) := by
  have gd : ∀ {d : D}, Gd d → eqD μ d (.str t) = some (isW t d) := fun {d} h => by
    rw [eq_flat (a := d) (b := .str t) h.1 rfl (by show 0 ≤ 64; decide)]
    cases d with
    | str s =>
      show some (s == t) = some (decide (s = t))
      by_cases e : s = t
      · subst e; simp
      · rw [decide_eq_false e, beq_eq_false_iff_ne.mpr e]
    | _ => rfl
  have box : ∀ {d : D}, isBox μ d = true → (∀ x, (seen μ d).eqv (.str x) = false) → isW t d = false → eqD μ d (.str t) = some (isW t d) := fun {d} h1 h2 h3 => by
    unfold eqD
    by_cases c : ((seen μ d).flat && (seen μ (.str t)).flat && decide (min (seen μ d).depth (seen μ (.str t)).depth ≤ 64)) = true
    · rw [if_pos c, h3]; exact congrArg some (h2 t)
    · rw [if_neg c, if_pos (by rw [h1]; rfl), h3]
  cases h with
  | gd h => exact gd h
  | tup _ _ => exact box rfl (fun _ => rfl) rfl
  | lst _ _ => exact box rfl (fun _ => rfl) rfl
  | @sl n l e =>
    refine box ?_ (fun x => ?_) rfl
    · show (match μ[n]? with | some (.lst _) => true | some (.dct _) => true | _ => false) = true
      rw [e]
    · have : seen μ (.loc n) = .lst l := by
        show (match μ[n]? with | some (.lst l) => D.lst l | _ => .loc n) = _
        rw [e]
      rw [this]; rfl
  | @sd n l e =>
    refine box ?_ (fun x => ?_) rfl
    · show (match μ[n]? with | some (.lst _) => true | some (.dct _) => true | _ => false) = true
      rw [e]
    · have : seen μ (.loc n) = .loc n := by
        show (match μ[n]? with | some (.lst l) => D.lst l | _ => .loc n) = _
        rw [e]
      rw [this]; rfl
/-! what is due -/
def lowB (c : Nat) : Bool := az.contains c
def nameB : D → Bool
  | .str s => decide (1 ≤ s.length) && decide (s.length ≤ 8) && s.all lowB
  | _ => false
def txtOf : D → Txt
  | .str s => s
  | _ => []
def wholeB (a b : Int) : D → Bool
  | .int i => decide (a ≤ i) && decide (i ≤ b)
  | _ => false
def namesB (l : List D) : Bool := l.all nameB && decide (l.map txtOf).Nodup
def chosB : D → Bool
  | .tup l => decide (1 ≤ l.length) && decide (l.length ≤ 6) && namesB l
  | _ => false
abbrev wNum : Txt := [110, 117, 109, 98, 101, 114]
abbrev wTxt : Txt := [116, 101, 120, 116]
abbrev wCho : Txt := [99, 104, 111, 105, 99, 101]
abbrev wLst : Txt := [108, 105, 115, 116]
abbrev wRcd : Txt := [114, 101, 99, 111, 114, 100]
def plainB : D → Bool
  | .tup [w, m] => if isW wNum w then wholeB 1 240 m else if isW wTxt w then wholeB 0 20 m else isW wCho w && chosB m
  | _ => false
def headD : D → D
  | .tup (n :: _) => n
  | _ => .non
def fldB (f : D → Bool) : D → Bool
  | .tup [n, x] => nameB n && f x
  | _ => false
def recB (f : D → Bool) : D → Bool
  | .tup l => decide (l.length ≤ 8) && l.all (fldB f) && decide ((l.map headD).map txtOf).Nodup
  | _ => false
def lstQ : List D → Bool
  | [p, m] => plainB p && wholeB 1 4 m
  | _ => false
def recQ (r : D → Bool) : List D → Bool
  | [fs] => r fs
  | _ => false
def baseB (r : D → Bool) : D → Bool
  | .tup (w :: q) => if isW wLst w then lstQ q else if isW wRcd w then recQ r q else plainB (.tup (w :: q))
  | _ => false
def formB : Nat → D → Bool
  | 0 => baseB fun _ => false
  | n + 1 => baseB (recB (formB n))
theorem unl_all : ∀ (r σ : List Txt), ((unl σ r).length = σ.length + r.length) ↔ (r.Nodup ∧ ∀ x ∈ r, x ∉ σ)
  | [], σ => by simp [unl]
  | t :: r, σ => by
    show ((unl (if σ.contains t then σ else σ ++ [t]) r).length = _) ↔ _
    by_cases c : σ.contains t = true
    · rw [if_pos c]
      have hle : (unl σ r).length ≤ σ.length + r.length := by
        have : ∀ (r σ : List Txt), (unl σ r).length ≤ σ.length + r.length := fun r => by
          induction r with
          | nil => intro σ; exact Nat.le_refl _
          | cons t r ih =>
            intro σ
            show (unl (if σ.contains t then σ else σ ++ [t]) r).length ≤ _
            have h1 := ih (if σ.contains t then σ else σ ++ [t])
            have h2 : (if σ.contains t then σ else σ ++ [t]).length ≤ σ.length + 1 := by
              split
              · omega
              · rw [List.length_append]; exact Nat.le_refl _
            rw [List.length_cons]; omega
        exact this r σ
      constructor
      · intro h
        rw [List.length_cons] at h
        omega
      · rintro ⟨_, h⟩
        exact absurd (by simpa using c) (h t List.mem_cons_self)
    · rw [if_neg c]
      have hc : t ∉ σ := fun q => c (by simpa using q)
      have := unl_all r (σ ++ [t])
      rw [List.length_append, List.length_singleton] at this
      rw [List.length_cons, show σ.length + (r.length + 1) = σ.length + 1 + r.length from by omega, this, List.nodup_cons]
      constructor
      · rintro ⟨h1, h2⟩
        refine ⟨⟨fun q => h2 t q (by simp), h1⟩, fun x hx => ?_⟩
        rcases List.mem_cons.mp hx with rfl | hx
        · exact hc
        · exact fun q => h2 x hx (List.mem_append_left _ q)
      · rintro ⟨⟨h1, h2⟩, h3⟩
        refine ⟨h2, fun x hx q => ?_⟩
        rcases List.mem_append.mp q with q | q
        · exact h3 x (List.mem_cons_of_mem _ hx) q
        · have : x = t := by simpa using q
          subst this
          exact h1 hx
theorem unlike_eq (ts : List Txt) : ((unlike ts : Int) == (ts.length : Int)) = decide ts.Nodup := by
  have h := unl_all ts []
  rw [List.length_nil, Nat.zero_add] at h
  have h2 : unlike ts = ts.length ↔ ts.Nodup := ⟨fun e => (h.mp e).1, fun e => h.mpr ⟨e, fun _ _ => by simp⟩⟩
  by_cases e : ts.Nodup
  · rw [decide_eq_true e, beq_iff_eq, h2.mpr e]
  · rw [decide_eq_false e, beq_eq_false_iff_ne]
    intro q
    exact e (h2.mp (by omega))
theorem names_txt {l : List D} (h : l.all nameB = true) : l = (l.map txtOf).map .str := by
  induction l with
  | nil => rfl
  | cons d r ih =>
    rw [List.all_cons, Bool.and_eq_true] at h
    rw [List.map_cons, List.map_cons, ← ih h.2]
    cases d with
    | str s => rfl
    | _ => cases h.1
theorem lenset_t {μ : Mu} {l : List Txt} (hl : l.length ≤ 1000) : biD .lenset μ [.tup (l.map .str)] = some (.int (unlike l)) := by
  show (strsOf (l.map D.str)).bind (fun ss => if ss.length < 4000 then some (D.int (unlike ss)) else none) = _
  rw [strsOf_map]
  show (if l.length < 4000 then some (D.int (unlike l)) else none) = _
  rw [if_pos (by omega)]
theorem lenset_l {μ : Mu} {l : List Txt} (hl : l.length ≤ 1000) : biD .lenset μ [.lst (l.map .str)] = some (.int (unlike l)) := by
  show (strsOf (l.map D.str)).bind (fun ss => if ss.length < 4000 then some (D.int (unlike ss)) else none) = _
  rw [strsOf_map]
  show (if l.length < 4000 then some (D.int (unlike l)) else none) = _
  rw [if_pos (by omega)]
theorem in_az {μ : Mu} {c : Nat} : inD μ (.str [c]) (.str az) = some (lowB c) := rfl
theorem eqzz {a b : Nat} : ((a : Int) == (b : Int)) = decide (a = b) := by
  by_cases h : a = b
  · subst h; simp
  · rw [decide_eq_false h, beq_eq_false_iff_ne]; omega
/-- a comprehension of truths -/
theorem comp_bools {turn : D → Mu → Res (Option D)} {μ : Mu} {l : List D} (hl : l.length ≤ lim) (f : D → Bool) (h : ∀ d ∈ l, turn d μ = .ok (some (.bl (f d))) μ) : compL [] turn l [] μ = .ok ((l.map f).map .bl) μ := by
  rw [comp_pure (f := fun d => some (.bl (f d))) _ _ rfl (by rw [List.length_nil]; omega) h, List.nil_append, List.map_map]
  congr 1
  exact (congrArg (List.filterMap _) (List.map_id l).symm).trans (fm_map (g := id) (h := fun d => D.bl (f d)) (fun _ => rfl) l)
/-- a comprehension that keeps some -/
theorem comp_keep {turn : D → Mu → Res (Option D)} {μ : Mu} {l : List D} (hl : l.length ≤ lim) (f : D → Bool) (h : ∀ d ∈ l, turn d μ = .ok (if f d then some d else none) μ) : compL [] turn l [] μ = .ok (l.filter f) μ := by
  rw [comp_pure (f := fun d => if f d then some d else none) _ _ rfl (by rw [List.length_nil]; omega) h, List.nil_append]
  congr 1
  induction l with
  | nil => rfl
  | cons d r ih =>
    rw [List.length_cons] at hl
    rw [List.filterMap_cons, List.filter_cons, ih (by omega) fun x hx => h x (List.mem_cons_of_mem _ hx)]
    cases f d <;> rfl
theorem b_alls {μ : Mu} (bs : List Bool) : biD .all μ [.lst (bs.map .bl)] = some (.bl (bs.all id)) := by
  have : ∀ bs : List Bool, boolsOf (bs.map .bl) = some bs := fun bs => by
    induction bs with
    | nil => rfl
    | cons b r ih => show (boolsOf (r.map .bl)).map (b :: ·) = _; rw [ih]; rfl
  show ((boolsOf (bs.map .bl)).map fun bs => D.bl (bs.all id)) = _
  rw [this]
  rfl
theorem eq_empty {μ : Mu} {l : List D} (h : D.flatL l = true) : eqD μ (.lst l) (.lst []) = some l.isEmpty := by
  rw [eq_flat (a := .lst l) (b := .lst []) h rfl (by decide)]
  cases l <;> rfl
theorem i_str {s : Txt} {μ : Mu} : itemsD .seq μ [.str s] = some (s.map fun c => .str [c], []) := rfl
theorem len_str {μ : Mu} {s : Txt} (h : s.length ≤ 1000) : biD .len μ [.str s] = some (.int s.length) := by
  show ((if s.length ≤ lim then some (s.length : Int) else none).map D.int) = _
  rw [if_pos (by rw [lim_val]; omega)]
  rfl

local macro_rules | `(tactic| solve_by_elim [evV_b_len, $[$xs:term],*]) => `(tactic| (try simp only [ss_n, ss_c, s_e, s_r, s_rN, s_a, s_i, s_x, s_p, s_b, s_c, s_f, s_w, v_var, v_con, v_glo, v_bin, v_neg, v_cmp, v_cmp2, v_and, v_or, v_not, v_ite, v_tup, v_lstT, v_lstF, v_cat, v_idx, v_lrep, v_slc, v_call, v_bi, v_me, v_comp, turnC_wp, c_n, c_s, es_n, es_c, eo_n, eo_s, t_var, t_con, t_cm, t_cm2, t_an, t_or', t_no, t_bi, t_call, t_idx, v_dictP, v_dictL, v_mlst, v_zipL, v_fnv, v_tget, v_callv, fnAt_fn, v_callL, cap_n, cap_c, s_sl, t_callv, v_new, v_fld, v_meth, s_sf, s_af, t_fld, t_meth, put_nm, put_tp, putL_n, putL_c, Option.bind_some, ofo_some, ofo_none, ofoE_some, ofoE_none, ofo_ite, ofo_map, ofo_bind, o_add, o_adds, o_addt, o_addl, o_sub, o_mul, o_muls, o_mult, l_rep, c_is, c_nis, is_bl, o_fdiv, o_mod, c_lt, c_le, c_gt, c_ge, c_eq, c_ne, c_in, c_nin, q_int, q_strd, tr_bl, x_tup, x_lst, intOf_int, b_isin, k_ii, k_bi, k_si, k_ss, k_is, k_tt, k_ti, k_ts, o_pow, i_r1, i_r2, i_tup, i_lst, i_en, b_lenl, b_tup, tup_lst, b_lst, b_int, b_inti, b_trg, b_lrg, b_min, atZ0, atZ1, atZ2, ixZ0, ixZ1, ixZ2, List.length_set, wp_ok, List.getElem?_cons_zero, List.getElem?_cons_succ, List.set_cons_zero, List.set_cons_succ, wipeR, List.length_cons, List.length_nil, List.map_cons, List.map_nil, List.replicate_succ, List.replicate_zero, List.cons_append, List.nil_append, decide_eq_true_eq, beq_iff_eq, Bool.not_eq_true', Bool.true_eq_false, and_self, Nat.zero_le, lim1, lim2, lim3, lim4, lim5, decide_true, decide_false, Bool.not_true, Bool.not_false, ite_true, ite_false, if_true, if_false, Bool.false_eq_true, $[$xs:term],*]))
local macro_rules | `(tactic| solve_by_elim [evW, $[$xs:term],*]) => `(tactic| (try simp only [ss_n, ss_c, s_e, s_r, s_rN, s_a, s_i, s_x, s_p, s_b, s_c, s_f, s_w, v_var, v_con, v_glo, v_bin, v_neg, v_cmp, v_cmp2, v_and, v_or, v_not, v_ite, v_tup, v_lstT, v_lstF, v_cat, v_idx, v_lrep, v_slc, v_call, v_bi, v_me, v_comp, turnC_wp, c_n, c_s, es_n, es_c, eo_n, eo_s, t_var, t_con, t_cm, t_cm2, t_an, t_or', t_no, t_bi, t_call, t_idx, v_dictP, v_dictL, v_mlst, v_zipL, v_fnv, v_tget, v_callv, fnAt_fn, v_callL, cap_n, cap_c, s_sl, t_callv, v_new, v_fld, v_meth, s_sf, s_af, t_fld, t_meth, put_nm, put_tp, putL_n, putL_c, Option.bind_some, ofo_some, ofo_none, ofoE_some, ofoE_none, ofo_ite, ofo_map, ofo_bind, o_add, o_adds, o_addt, o_addl, o_sub, o_mul, o_muls, o_mult, l_rep, c_is, c_nis, is_bl, o_fdiv, o_mod, c_lt, c_le, c_gt, c_ge, c_eq, c_ne, c_in, c_nin, q_int, q_strd, tr_bl, x_tup, x_lst, intOf_int, b_isin, k_ii, k_bi, k_si, k_ss, k_is, k_tt, k_ti, k_ts, o_pow, i_r1, i_r2, i_tup, i_lst, i_en, b_len, b_lenl, b_tup, tup_lst, b_lst, b_int, b_inti, b_trg, b_lrg, b_min, atZ0, atZ1, atZ2, ixZ0, ixZ1, ixZ2, List.length_set, wp_ok, List.getElem?_cons_zero, List.getElem?_cons_succ, List.set_cons_zero, List.set_cons_succ, wipeR, List.length_cons, List.length_nil, List.map_cons, List.map_nil, List.replicate_succ, List.replicate_zero, List.cons_append, List.nil_append, decide_eq_true_eq, beq_iff_eq, Bool.not_eq_true', Bool.true_eq_false, and_self, Nat.zero_le, lim1, lim2, lim3, lim4, lim5, decide_true, decide_false, Bool.not_true, Bool.not_false, ite_true, ite_false, if_true, if_false, Bool.false_eq_true, $[$xs:term],*]))
local macro_rules | `(tactic| solve_by_elim [evW]) => `(tactic| (try simp only [ss_n, ss_c, s_e, s_r, s_rN, s_a, s_i, s_x, s_p, s_b, s_c, s_f, s_w, v_var, v_con, v_glo, v_bin, v_neg, v_cmp, v_cmp2, v_and, v_or, v_not, v_ite, v_tup, v_lstT, v_lstF, v_cat, v_idx, v_lrep, v_slc, v_call, v_bi, v_me, v_comp, turnC_wp, c_n, c_s, es_n, es_c, eo_n, eo_s, t_var, t_con, t_cm, t_cm2, t_an, t_or', t_no, t_bi, t_call, t_idx, v_dictP, v_dictL, v_mlst, v_zipL, v_fnv, v_tget, v_callv, fnAt_fn, v_callL, cap_n, cap_c, s_sl, t_callv, v_new, v_fld, v_meth, s_sf, s_af, t_fld, t_meth, put_nm, put_tp, putL_n, putL_c, Option.bind_some, ofo_some, ofo_none, ofoE_some, ofoE_none, ofo_ite, ofo_map, ofo_bind, o_add, o_adds, o_addt, o_addl, o_sub, o_mul, o_muls, o_mult, l_rep, c_is, c_nis, is_bl, o_fdiv, o_mod, c_lt, c_le, c_gt, c_ge, c_eq, c_ne, c_in, c_nin, q_int, q_strd, tr_bl, x_tup, x_lst, intOf_int, b_isin, k_ii, k_bi, k_si, k_ss, k_is, k_tt, k_ti, k_ts, o_pow, i_r1, i_r2, i_tup, i_lst, i_en, b_len, b_lenl, b_tup, tup_lst, b_lst, b_int, b_inti, b_trg, b_lrg, b_min, atZ0, atZ1, atZ2, ixZ0, ixZ1, ixZ2, List.length_set, wp_ok, List.getElem?_cons_zero, List.getElem?_cons_succ, List.set_cons_zero, List.set_cons_succ, wipeR, List.length_cons, List.length_nil, List.map_cons, List.map_nil, List.replicate_succ, List.replicate_zero, List.cons_append, List.nil_append, decide_eq_true_eq, beq_iff_eq, Bool.not_eq_true', Bool.true_eq_false, and_self, Nat.zero_le, lim1, lim2, lim3, lim4, lim5, decide_true, decide_false, Bool.not_true, Bool.not_false, ite_true, ite_false, if_true, if_false, Bool.false_eq_true]))
/-! is_form -/
section
variable {G : Nat → Option D} {F : Nat → Option Fn} {n : Nat} {μ : Mu}
theorem whole_23 (hF : F 23 = some f23) {d : D} (hd : Tg μ d) (a b : Int) : run G F (n + 1) 23 [d, .int a, .int b] μ = .ok (.bl (wholeB a b d)) μ := by
  refine wp_to (run_wp hF rfl rfl ?_)
  show (exSs G (run G F n) b23 [some d, some (.int a), some (.int b)] μ).wp _ _ _ _
  unfold b23
  obtain ⟨h1, h2, _, _⟩ := hd.kinds
  solve_by_elim [evW, h1, h2]
  cases d with
  | int i =>
    simp only [kI, kB, if_true, Bool.not_false]
    solve_by_elim [evW]
    have hb : wholeB a b (.int i) = (decide (a ≤ i) && decide (i ≤ b)) := rfl
    rw [hb]
    split
    · rename_i ha
      rw [decide_eq_true ha, Bool.true_and]
      exact ⟨rfl, trivial⟩
    · rename_i ha
      rw [decide_eq_false ha, Bool.false_and]
      exact ⟨rfl, trivial⟩
  | bl b =>
    simp only [kI, kB, if_true, Bool.not_true]
    solve_by_elim [evW]
    try exact ⟨rfl, trivial⟩
  | _ =>
    simp only [kI]
    solve_by_elim [evW]
    try exact ⟨rfl, trivial⟩
theorem name_42 (hF : F 42 = some f42) (g34 : G 34 = some (.str az)) (g35 : G 35 = some (.int 8)) {d : D} (hd : Tg μ d) : run G F (n + 1) 42 [d] μ = .ok (.bl (nameB d)) μ := by
  refine wp_to (run_wp hF rfl rfl ?_)
  show (exSs G (run G F n) b42 [some d, none] μ).wp _ _ _ _
  unfold b42
  obtain ⟨_, _, h3, _⟩ := hd.kinds
  refine ss_step ?_; intro K hK
  solve_by_elim [evW, h3]
  cases d with
  | str s =>
    have hl := hd.str
    simp only [kS, Bool.not_true, Bool.false_eq_true, if_false]
    have hb : nameB (.str s) = (decide (1 ≤ s.length) && decide (s.length ≤ 8) && s.all lowB) := rfl
    obtain ⟨kk, hkk⟩ : ∃ kk : Int, (s.length : Int) = kk := ⟨_, rfl⟩
    have hlen := len_str (μ := μ) hl
    rw [hkk] at hlen
    solve_by_elim [evW, hlen, g35]
    by_cases h1 : 1 ≤ kk
    · rw [if_pos h1]
      by_cases h2 : kk ≤ 8
      · have hv : nameB (.str s) = s.all lowB := by rw [hb, decide_eq_true (show 1 ≤ s.length by omega), decide_eq_true (show s.length ≤ 8 by omega)]; rfl
        simp only [h2, decide_true, Bool.not_true, Bool.false_eq_true, if_false, hK, Bool.true_and]
        solve_by_elim [evW, i_str]
        rw [comp_bools (f := fun d => match d with | .str [c] => lowB c | _ => false) (by rw [List.length_map, lim_val]; omega) fun d hd => ?_]
        · solve_by_elim [evW, b_alls]
          rw [List.map_map, List.all_map, hv]
          exact ⟨rfl, trivial⟩
        · obtain ⟨c, hc, rfl⟩ := List.mem_map.mp hd
          refine wp_to ?_
          solve_by_elim [evW, g34, in_az]
      · have hv : nameB (.str s) = false := by rw [hb, decide_eq_false (show ¬ s.length ≤ 8 by omega), Bool.and_false]; rfl
        simp only [h2, decide_false, Bool.not_false, if_true]
        rw [hv]
        (first | exact ⟨rfl, trivial⟩ | exact ⟨trivial, trivial⟩ | exact ⟨trivial, rfl⟩ | exact ⟨rfl, rfl⟩ | trivial)
    · have hv : nameB (.str s) = false := by rw [hb, decide_eq_false (show ¬ 1 ≤ s.length by omega)]; rfl
      rw [if_neg h1]
      (try simp only [Bool.not_false, if_true])
      rw [hv]
      (first | exact ⟨rfl, trivial⟩ | exact ⟨trivial, trivial⟩ | exact ⟨trivial, rfl⟩ | exact ⟨rfl, rfl⟩ | trivial)
  | _ =>
    simp only [kS, Bool.not_false, if_true]
    exact ⟨rfl, trivial⟩
theorem chos_43 (hF : F 42 = some f42) (hF2 : F 43 = some f43) (g34 : G 34 = some (.str az)) (g35 : G 35 = some (.int 8)) (g37 : G 37 = some (.int 6)) {d : D} (hd : Tg μ d) : run G F (n + 2) 43 [d] μ = .ok (.bl (chosB d)) μ := by
  refine wp_to (run_wp hF2 rfl rfl ?_)
  show (exSs G (run G F (n + 1)) b43 [some d, none] μ).wp _ _ _ _
  unfold b43
  obtain ⟨_, _, _, h4⟩ := hd.kinds
  refine ss_step ?_; intro K hK
  solve_by_elim [evW, h4]
  cases d with
  | tup l =>
    obtain ⟨hl, hel⟩ := hd.elem
    simp only [kT, Bool.not_true, Bool.false_eq_true, if_false]
    have hb : chosB (.tup l) = (decide (1 ≤ l.length) && decide (l.length ≤ 6) && namesB l) := rfl
    obtain ⟨kk, hkk⟩ : ∃ kk : Int, (l.length : Int) = kk := ⟨_, rfl⟩
    have hlen : biD .len μ [.tup l] = some (.int kk) := by rw [b_len, hkk]
    solve_by_elim [evV_b_len, hlen, g37]
    by_cases h1 : 1 ≤ kk
    · rw [if_pos h1]
      by_cases h2 : kk ≤ 6
      · have hv : chosB (.tup l) = namesB l := by rw [hb, decide_eq_true (show 1 ≤ l.length by omega), decide_eq_true (show l.length ≤ 6 by omega)]; rfl
        simp only [h2, decide_true, Bool.not_true, Bool.false_eq_true, if_false, hK]
        solve_by_elim [evV_b_len, hlen]
        rw [comp_bools (f := nameB) (by rw [lim_val]; omega) fun d hd => ?_]
        · solve_by_elim [evV_b_len, b_alls]
          have hall : (l.map nameB).all id = l.all nameB := by rw [List.all_map]; rfl
          rw [hall]
          have hn : namesB l = (l.all nameB && decide (l.map txtOf).Nodup) := rfl
          rw [hv]
          cases hal : l.all nameB with
          | false =>
            rw [if_neg (by simp), hn, hal]
            (first | exact ⟨rfl, trivial⟩ | exact ⟨trivial, trivial⟩ | exact ⟨trivial, rfl⟩ | exact ⟨rfl, rfl⟩ | trivial)
          | true =>
            rw [if_pos rfl]
            have el := names_txt hal
            have es : biD .lenset μ [.tup l] = some (.int (unlike (l.map txtOf))) := by
              have := lenset_t (μ := μ) (l := l.map txtOf) (by rw [List.length_map]; exact hl)
              rwa [← el] at this
            solve_by_elim [evV_b_len, hlen, es]
            have e2 : ((unlike (l.map txtOf) : Int) == kk) = decide (l.map txtOf).Nodup := by
              rw [← hkk, ← unlike_eq, List.length_map]
            rw [hn, hal, Bool.true_and, ← e2]
            (first | exact ⟨rfl, trivial⟩ | exact ⟨trivial, trivial⟩ | exact ⟨trivial, rfl⟩ | exact ⟨rfl, rfl⟩ | trivial)
        · refine wp_to ?_
          solve_by_elim [evW, name_42 (G := G) (n := n) hF g34 g35 (hel d hd)]
      · have hv : chosB (.tup l) = false := by rw [hb, decide_eq_false (show ¬ l.length ≤ 6 by omega), Bool.and_false]; rfl
        simp only [h2, decide_false, Bool.not_false, if_true]
        rw [hv]
        (first | exact ⟨rfl, trivial⟩ | exact ⟨trivial, trivial⟩ | exact ⟨trivial, rfl⟩ | exact ⟨rfl, rfl⟩ | trivial)
    · have hv : chosB (.tup l) = false := by rw [hb, decide_eq_false (show ¬ 1 ≤ l.length by omega)]; rfl
      rw [if_neg h1]
      (try simp only [Bool.not_false, if_true])
      rw [hv]
      (first | exact ⟨rfl, trivial⟩ | exact ⟨trivial, trivial⟩ | exact ⟨trivial, rfl⟩ | exact ⟨rfl, rfl⟩ | trivial)
  | _ =>
    simp only [kT, Bool.not_false, if_true]
    exact ⟨rfl, trivial⟩
theorem tup2 {l : List D} (h : l.length = 2) : ∃ a b, l = [a, b] := by
  rcases l with _ | ⟨a, _ | ⟨b, _ | ⟨c, r⟩⟩⟩
  · cases h
  · cases h
  · exact ⟨a, b, rfl⟩
  · simp only [List.length_cons] at h; omega
theorem plainB_no {l : List D} (h : l.length ≠ 2) : plainB (.tup l) = false := by
  rcases l with _ | ⟨a, _ | ⟨b, _ | ⟨c, r⟩⟩⟩
  · rfl
  · rfl
  · exact absurd rfl h
  · rfl
theorem plainB_kind {d : D} (h : kT d = false) : plainB d = false := by
  cases d <;> first | rfl | cases h
theorem plain_44 (hF : F 23 = some f23) (hF2 : F 42 = some f42) (hF3 : F 43 = some f43) (hF4 : F 44 = some f44) (g34 : G 34 = some (.str az)) (g35 : G 35 = some (.int 8)) (g36 : G 36 = some (.int 240)) (g37 : G 37 = some (.int 6)) (g38 : G 38 = some (.int 20)) {d : D} (hd : Tg μ d) : run G F (n + 3) 44 [d] μ = .ok (.bl (plainB d)) μ := by
  refine wp_to (run_wp hF4 rfl rfl ?_)
  show (exSs G (run G F (n + 2)) b44 [some d, none, none] μ).wp _ _ _ _
  unfold b44
  obtain ⟨_, _, _, h4⟩ := hd.kinds
  refine ss_step ?_; intro K hK
  solve_by_elim [evW, h4]
  by_cases hk : kT d = true
  case neg =>
    have hk : kT d = false := by simpa using hk
    simp only [hk, Bool.not_false, if_true]
    rw [plainB_kind hk]
    (first | exact ⟨rfl, trivial⟩ | exact ⟨trivial, trivial⟩ | exact ⟨trivial, rfl⟩ | exact ⟨rfl, rfl⟩ | trivial)
  simp only [hk, Bool.not_true, Bool.false_eq_true, if_false]
  obtain ⟨l, rfl⟩ : ∃ l, d = .tup l := by cases d <;> first | exact ⟨_, rfl⟩ | cases hk
  obtain ⟨hl, hel⟩ := hd.elem
  obtain ⟨kk, hkk⟩ : ∃ kk : Int, (l.length : Int) = kk := ⟨_, rfl⟩
  have hlen : biD .len μ [.tup l] = some (.int kk) := by rw [b_len, hkk]
  solve_by_elim [evV_b_len, hlen]
  by_cases h2 : kk = 2
  case neg =>
    have : (kk == 2) = false := by rw [beq_eq_false_iff_ne]; exact h2
    simp only [this, Bool.not_false, if_true, h2, not_false_eq_true]
    rw [plainB_no (by omega)]
    (first | exact ⟨rfl, trivial⟩ | exact ⟨trivial, trivial⟩ | exact ⟨trivial, rfl⟩ | exact ⟨rfl, rfl⟩ | trivial)
  subst h2
  obtain ⟨w, m, rfl⟩ := tup2 (l := l) (by omega)
  simp only [BEq.rfl, Bool.not_true, Bool.false_eq_true, if_false, not_true_eq_false, hK]
  have hw := hel w (by simp)
  have hm := hel m (by simp)
  have hb : plainB (.tup [w, m]) = if isW wNum w then wholeB 1 240 m else if isW wTxt w then wholeB 0 20 m else isW wCho w && chosB m := rfl
  have q1 := hw.eqT wNum
  have q2 := hw.eqT wTxt
  have q3 := hw.eqT wCho
  unfold wNum at q1
  unfold wTxt at q2
  unfold wCho at q3
  refine ss_step ?_; intro K1 hK1
  solve_by_elim [evW]
  simp only [hK1]
  refine ss_step ?_; intro K2 hK2
  solve_by_elim [evW, q1]
  by_cases i1 : isW wNum w = true
  · rw [if_pos i1]
    solve_by_elim [evW, g36, whole_23 (G := G) (n := n + 1) hF hm]
    rw [hb, if_pos i1]
    (first | exact ⟨rfl, trivial⟩ | exact ⟨trivial, trivial⟩ | exact ⟨trivial, rfl⟩ | exact ⟨rfl, rfl⟩ | trivial)
  rw [if_neg i1]
  simp only [hK2]
  refine ss_step ?_; intro K3 hK3
  solve_by_elim [evW, q2]
  by_cases i2 : isW wTxt w = true
  · rw [if_pos i2]
    solve_by_elim [evW, g38, whole_23 (G := G) (n := n + 1) hF hm]
    rw [hb, if_neg i1, if_pos i2]
    (first | exact ⟨rfl, trivial⟩ | exact ⟨trivial, trivial⟩ | exact ⟨trivial, rfl⟩ | exact ⟨rfl, rfl⟩ | trivial)
  rw [if_neg i2]
  simp only [hK3]
  solve_by_elim [evW, q3]
  by_cases i3 : isW wCho w = true
  · rw [if_pos i3]
    solve_by_elim [evW, chos_43 (G := G) (n := n) hF2 hF3 g34 g35 g37 hm]
    rw [hb, if_neg i1, if_neg i2, i3]
    (first | exact ⟨rfl, trivial⟩ | exact ⟨trivial, trivial⟩ | exact ⟨trivial, rfl⟩ | exact ⟨rfl, rfl⟩ | trivial)
  · rw [if_neg i3, hb, if_neg i1, if_neg i2]
    rw [show isW [99, 104, 111, 105, 99, 101] w = false by simpa using i3]
    (first | exact ⟨rfl, trivial⟩ | exact ⟨trivial, trivial⟩ | exact ⟨trivial, rfl⟩ | exact ⟨rfl, rfl⟩ | trivial)
theorem fldB_no {f : D → Bool} {l : List D} (h : l.length ≠ 2) : fldB f (.tup l) = false := by
  rcases l with _ | ⟨a, _ | ⟨b, _ | ⟨c, r⟩⟩⟩
  · rfl
  · rfl
  · exact absurd rfl h
  · rfl
theorem field_45 (hF : F 42 = some f42) (hF2 : F 45 = some f45) (g34 : G 34 = some (.str az)) (g35 : G 35 = some (.int 8)) {f : D → Bool} {dp : Int} (hf : ∀ x, Tg μ x → run G F (n + 1) 47 [x, .int dp] μ = .ok (.bl (f x)) μ) {d : D} (hd : Tg μ d) :
    run G F (n + 2) 45 [d, .int dp] μ = .ok (.bl (fldB f d)) μ := by
  refine wp_to (run_wp hF2 rfl rfl ?_)
  show (exSs G (run G F (n + 1)) b45 [some d, some (.int dp)] μ).wp _ _ _ _
  unfold b45
  obtain ⟨_, _, _, h4⟩ := hd.kinds
  refine ss_step ?_; intro K hK
  solve_by_elim [evW, h4]
  by_cases hk : kT d = true
  case neg =>
    have hk : kT d = false := by simpa using hk
    simp only [hk, Bool.not_false, if_true]
    have : fldB f d = false := by cases d <;> first | rfl | cases hk
    rw [this]
    (first | exact ⟨rfl, trivial⟩ | exact ⟨trivial, trivial⟩ | exact ⟨trivial, rfl⟩ | exact ⟨rfl, rfl⟩ | trivial)
  simp only [hk, Bool.not_true, Bool.false_eq_true, if_false]
  obtain ⟨l, rfl⟩ : ∃ l, d = .tup l := by cases d <;> first | exact ⟨_, rfl⟩ | cases hk
  obtain ⟨hl, hel⟩ := hd.elem
  obtain ⟨kk, hkk⟩ : ∃ kk : Int, (l.length : Int) = kk := ⟨_, rfl⟩
  have hlen : biD .len μ [.tup l] = some (.int kk) := by rw [b_len, hkk]
  solve_by_elim [evV_b_len, hlen]
  by_cases h2 : kk = 2
  case neg =>
    have : (kk == 2) = false := by rw [beq_eq_false_iff_ne]; exact h2
    simp only [this, Bool.not_false, if_true, h2, not_false_eq_true]
    rw [fldB_no (by omega)]
    (first | exact ⟨rfl, trivial⟩ | exact ⟨trivial, trivial⟩ | exact ⟨trivial, rfl⟩ | exact ⟨rfl, rfl⟩ | trivial)
  subst h2
  obtain ⟨w, m, rfl⟩ := tup2 (l := l) (by omega)
  simp only [BEq.rfl, Bool.not_true, Bool.false_eq_true, if_false, not_true_eq_false, hK]
  have hw := hel w (by simp)
  have hm := hel m (by simp)
  have hb : fldB f (.tup [w, m]) = (nameB w && f m) := rfl
  solve_by_elim [evW, name_42 (G := G) (n := n) hF g34 g35 hw]
  cases hnw : nameB w with
  | false =>
    rw [hb, hnw]
    (first | exact ⟨rfl, trivial⟩ | exact ⟨trivial, trivial⟩ | exact ⟨trivial, rfl⟩ | exact ⟨rfl, rfl⟩ | trivial)
  | true =>
    solve_by_elim [evW, hf m hm]
    rw [hb, hnw]
    (first | exact ⟨rfl, trivial⟩ | exact ⟨trivial, trivial⟩ | exact ⟨trivial, rfl⟩ | exact ⟨rfl, rfl⟩ | trivial)
theorem fields_46 (hF : F 42 = some f42) (hF2 : F 45 = some f45) (hF3 : F 46 = some f46) (g34 : G 34 = some (.str az)) (g35 : G 35 = some (.int 8)) (g40 : G 40 = some (.int 8)) {f : D → Bool} {dp : Int} (hf : ∀ x, Tg μ x → run G F (n + 1) 47 [x, .int dp] μ = .ok (.bl (f x)) μ) {d : D} (hd : Tg μ d) :
    run G F (n + 3) 46 [d, .int dp] μ = .ok (.bl (recB f d)) μ := by
  refine wp_to (run_wp hF3 rfl rfl ?_)
  show (exSs G (run G F (n + 2)) b46 [some d, some (.int dp), none] μ).wp _ _ _ _
  unfold b46
  obtain ⟨_, _, _, h4⟩ := hd.kinds
  refine ss_step ?_; intro K hK
  solve_by_elim [evW, h4]
  by_cases hk : kT d = true
  case neg =>
    have hk : kT d = false := by simpa using hk
    simp only [hk, Bool.not_false, if_true]
    have : recB f d = false := by cases d <;> first | rfl | cases hk
    rw [this]
    (first | exact ⟨rfl, trivial⟩ | exact ⟨trivial, trivial⟩ | exact ⟨trivial, rfl⟩ | exact ⟨rfl, rfl⟩ | trivial)
  simp only [hk, Bool.not_true, Bool.false_eq_true, if_false]
  obtain ⟨l, rfl⟩ : ∃ l, d = .tup l := by cases d <;> first | exact ⟨_, rfl⟩ | cases hk
  obtain ⟨hl, hel⟩ := hd.elem
  have hb : recB f (.tup l) = (decide (l.length ≤ 8) && l.all (fldB f) && decide ((l.map headD).map txtOf).Nodup) := rfl
  obtain ⟨kk, hkk⟩ : ∃ kk : Int, (l.length : Int) = kk := ⟨_, rfl⟩
  have hlen : biD .len μ [.tup l] = some (.int kk) := by rw [b_len, hkk]
  solve_by_elim [evV_b_len, hlen, g40]
  by_cases h8 : 8 < kk
  · rw [if_pos h8, hb, decide_eq_false (show ¬ l.length ≤ 8 by omega)]
    (first | exact ⟨rfl, trivial⟩ | exact ⟨trivial, trivial⟩ | exact ⟨trivial, rfl⟩ | exact ⟨rfl, rfl⟩ | trivial)
  rw [if_neg h8]
  simp only [hK]
  refine ss_step ?_; intro K2 hK2
  solve_by_elim [evV_b_len, hlen]
  rw [comp_bools (f := fldB f) (by rw [lim_val]; omega) fun d hd => ?_]
  rotate_left
  · refine wp_to ?_
    solve_by_elim [evW, field_45 (G := G) (n := n) hF hF2 g34 g35 hf (hel d hd)]
  solve_by_elim [evV_b_len, b_alls]
  have hall : (l.map (fldB f)).all id = l.all (fldB f) := by rw [List.all_map]; rfl
  rw [hall]
  cases hal : l.all (fldB f) with
  | false =>
    simp only [Bool.not_false, if_true]
    rw [hb, hal, Bool.and_false]
    (first | exact ⟨rfl, trivial⟩ | exact ⟨trivial, trivial⟩ | exact ⟨trivial, rfl⟩ | exact ⟨rfl, rfl⟩ | trivial)
  | true =>
    simp only [Bool.not_true, Bool.false_eq_true, if_false, hK2]
    have hpair : ∀ x ∈ l, ∃ a b, x = .tup [a, b] ∧ nameB a = true := fun x hx => by
      have := List.all_eq_true.mp hal x hx
      unfold fldB at this
      split at this
      · rename_i a b
        rw [Bool.and_eq_true] at this
        exact ⟨a, b, rfl, this.1⟩
      · cases this
    solve_by_elim [evV_b_len, hlen]
    rw [comp_pure (f := fun d => some (headD d)) _ _ rfl (by rw [List.length_nil, lim_val]; omega) ?_]
    rotate_left
    · intro x hx
      obtain ⟨a, b, rfl, _⟩ := hpair x hx
      refine wp_to ?_
      solve_by_elim [evW]
      exact ⟨rfl, trivial⟩
    have e1 : ([] : List D) ++ l.filterMap (fun d => some (headD d)) = ((l.map headD).map txtOf).map .str := by
      rw [List.nil_append, List.filterMap_eq_map']
      refine names_txt (List.all_eq_true.mpr fun x hx => ?_)
      obtain ⟨y, hy, rfl⟩ := List.mem_map.mp hx
      obtain ⟨a, b, rfl, ha⟩ := hpair y hy
      exact ha
    rw [e1]
    have es := lenset_l (μ := μ) (l := (l.map headD).map txtOf) (by rw [List.length_map, List.length_map]; exact hl)
    have e2 : ((unlike ((l.map headD).map txtOf) : Int) == kk) = decide ((l.map headD).map txtOf).Nodup := by
      rw [← hkk, ← unlike_eq, List.length_map, List.length_map]
    solve_by_elim [evV_b_len, hlen, es]
    rw [hb, hal, decide_eq_true (show l.length ≤ 8 by omega), ← e2]
    (first | exact ⟨rfl, trivial⟩ | exact ⟨trivial, trivial⟩ | exact ⟨trivial, rfl⟩ | exact ⟨rfl, rfl⟩ | trivial)
theorem baseB_kind {r : D → Bool} {d : D} (h : kT d = false) : baseB r d = false := by
  cases d <;> first | rfl | cases h
theorem form_step (h23 : F 23 = some f23) (h42 : F 42 = some f42) (h43 : F 43 = some f43) (h44 : F 44 = some f44) (h47 : F 47 = some f47) (g34 : G 34 = some (.str az)) (g35 : G 35 = some (.int 8)) (g36 : G 36 = some (.int 240)) (g37 : G 37 = some (.int 6)) (g38 : G 38 = some (.int 20)) (g39 : G 39 = some (.int 4))
    {r : D → Bool} {dp : Int} (hr : 0 < dp → ∀ x, Tg μ x → run G F (n + 3) 46 [x, .int (dp - 1)] μ = .ok (.bl (r x)) μ) {d : D} (hd : Tg μ d) :
    run G F (n + 4) 47 [d, .int dp] μ = .ok (.bl (baseB (if 0 < dp then r else fun _ => false) d)) μ := by
  refine wp_to (run_wp h47 rfl rfl ?_)
  show (exSs G (run G F (n + 3)) b47 [some d, some (.int dp)] μ).wp _ _ _ _
  unfold b47
  obtain ⟨_, _, _, h4⟩ := hd.kinds
  have hp := plain_44 (G := G) (n := n) h23 h42 h43 h44 g34 g35 g36 g37 g38 hd
  refine ss_step ?_; intro K hK
  solve_by_elim [evW, h4]
  by_cases hk : kT d = true
  case neg =>
    have hk : kT d = false := by simpa using hk
    simp only [hk, Bool.not_false, if_true]
    rw [baseB_kind hk]
    (first | exact ⟨rfl, trivial⟩ | exact ⟨trivial, trivial⟩ | exact ⟨trivial, rfl⟩ | exact ⟨rfl, rfl⟩ | trivial)
  simp only [hk, Bool.not_true, Bool.false_eq_true, if_false]
  obtain ⟨l, rfl⟩ : ∃ l, d = .tup l := by cases d <;> first | exact ⟨_, rfl⟩ | cases hk
  obtain ⟨hl, hel⟩ := hd.elem
  obtain ⟨kk, hkk⟩ : ∃ kk : Int, (l.length : Int) = kk := ⟨_, rfl⟩
  have hlen : biD .len μ [.tup l] = some (.int kk) := by rw [b_len, hkk]
  solve_by_elim [evV_b_len, hlen]
  cases l with
  | nil =>
    rw [if_pos (by rw [← hkk]; rfl)]
    (first | exact ⟨rfl, trivial⟩ | exact ⟨trivial, trivial⟩ | exact ⟨trivial, rfl⟩ | exact ⟨rfl, rfl⟩ | trivial)
  | cons w q =>
    rw [List.length_cons] at hkk
    rw [if_neg (by omega)]
    simp only [hK]
    have hw := hel w List.mem_cons_self
    have q1 := hw.eqT wLst
    have q2 := hw.eqT wRcd
    unfold wLst at q1
    unfold wRcd at q2
    have hb : baseB (if 0 < dp then r else fun _ => false) (.tup (w :: q)) = if isW wLst w then lstQ q else if isW wRcd w then recQ (if 0 < dp then r else fun _ => false) q else plainB (.tup (w :: q)) := rfl
    refine ss_step ?_; intro K2 hK2
    solve_by_elim [evV_b_len, q1, hlen]
    by_cases i1 : isW wLst w = true
    · rw [if_pos i1]
      rw [if_pos i1] at hb
      solve_by_elim [evV_b_len, hlen]
      by_cases h3 : kk = 3
      · rw [if_pos h3]
        obtain ⟨p, m, rfl⟩ := tup2 (l := q) (by omega)
        have hp2 := plain_44 (G := G) (n := n) h23 h42 h43 h44 g34 g35 g36 g37 g38 (hel p (by simp))
        have hm := whole_23 (G := G) (n := n + 2) h23 (hel m (by simp)) 1 4
        have hb : baseB (if 0 < dp then r else fun _ => false) (.tup [w, p, m]) = (plainB p && wholeB 1 4 m) := hb
        solve_by_elim [evW, hp2, g39, hm]
        cases hpb : plainB p with
        | false => rw [hb, hpb]; (first | exact ⟨rfl, trivial⟩ | exact ⟨trivial, trivial⟩ | exact ⟨trivial, rfl⟩ | exact ⟨rfl, rfl⟩ | trivial)
        | true => rw [hb, hpb]; (first | exact ⟨rfl, trivial⟩ | exact ⟨trivial, trivial⟩ | exact ⟨trivial, rfl⟩ | exact ⟨rfl, rfl⟩ | trivial)
      · rw [if_neg h3]
        have : lstQ q = false := by
          rcases q with _ | ⟨a, _ | ⟨b, _ | ⟨c, r⟩⟩⟩
          · rfl
          · rfl
          · exact absurd (show kk = 3 by simp only [List.length_cons, List.length_nil] at hkk; omega) h3
          · rfl
        rw [hb, this, show (kk == 3) = false from beq_eq_false_iff_ne.mpr h3]
        (first | exact ⟨rfl, trivial⟩ | exact ⟨trivial, trivial⟩ | exact ⟨trivial, rfl⟩ | exact ⟨rfl, rfl⟩ | trivial)
    rw [if_neg i1]
    rw [if_neg i1] at hb
    simp only [hK2]
    refine ss_step ?_; intro K3 hK3
    solve_by_elim [evV_b_len, q2, hlen]
    by_cases i2 : isW wRcd w = true
    · rw [if_pos i2]
      rw [if_pos i2] at hb
      solve_by_elim [evV_b_len, hlen]
      by_cases h3 : kk = 2
      · rw [if_pos h3]
        obtain ⟨fs, rfl⟩ : ∃ a, q = [a] := by
          rcases q with _ | ⟨a, _ | ⟨b, c⟩⟩
          · simp only [List.length_nil] at hkk; omega
          · exact ⟨a, rfl⟩
          · simp only [List.length_cons] at hkk; omega
        have hb : baseB (if 0 < dp then r else fun _ => false) (.tup [w, fs]) = (if 0 < dp then r else fun _ => false) fs := hb
        solve_by_elim [evW]
        by_cases hdp : 0 < dp
        · rw [if_pos hdp]
          rw [if_pos hdp] at hb
          solve_by_elim [evW, hr hdp fs (hel fs (by simp))]
          rw [if_pos hdp, hb]
          (first | exact ⟨rfl, trivial⟩ | exact ⟨trivial, trivial⟩ | exact ⟨trivial, rfl⟩ | exact ⟨rfl, rfl⟩ | trivial)
        · rw [if_neg hdp]
          rw [hb, if_neg hdp, show decide (0 < dp) = false from decide_eq_false hdp]
          (first | exact ⟨rfl, trivial⟩ | exact ⟨trivial, trivial⟩ | exact ⟨trivial, rfl⟩ | exact ⟨rfl, rfl⟩ | trivial)
      · rw [if_neg h3]
        have : recQ (if 0 < dp then r else fun _ => false) q = false := by
          rcases q with _ | ⟨a, _ | ⟨b, c⟩⟩
          · rfl
          · exact absurd (show kk = 2 by simp only [List.length_cons, List.length_nil] at hkk; omega) h3
          · rfl
        rw [hb, this, show (kk == 2) = false from beq_eq_false_iff_ne.mpr h3]
        (first | exact ⟨rfl, trivial⟩ | exact ⟨trivial, trivial⟩ | exact ⟨trivial, rfl⟩ | exact ⟨rfl, rfl⟩ | trivial)
    rw [if_neg i2]
    rw [if_neg i2] at hb
    simp only [hK3]
    solve_by_elim [evW, hp]
    rw [hb]
    (first | exact ⟨rfl, trivial⟩ | exact ⟨trivial, trivial⟩ | exact ⟨trivial, rfl⟩ | exact ⟨rfl, rfl⟩ | trivial)
theorem form_47 (h23 : F 23 = some f23) (h42 : F 42 = some f42) (h43 : F 43 = some f43) (h44 : F 44 = some f44) (h45 : F 45 = some f45) (h46 : F 46 = some f46) (h47 : F 47 = some f47) (g34 : G 34 = some (.str az)) (g35 : G 35 = some (.int 8)) (g36 : G 36 = some (.int 240)) (g37 : G 37 = some (.int 6)) (g38 : G 38 = some (.int 20)) (g39 : G 39 = some (.int 4)) (g40 : G 40 = some (.int 8)) :
    ∀ (k n : Nat) (dp : Int) (d : D), dp = k → Tg μ d → run G F (n + 4 + 3 * k) 47 [d, .int dp] μ = .ok (.bl (formB k d)) μ := by
  intro k
  induction k with
  | zero =>
    intro n dp d hk hd
    have := form_step (G := G) (n := n) (r := fun _ => false) (dp := dp) h23 h42 h43 h44 h47 g34 g35 g36 g37 g38 g39 (fun h => absurd h (by omega)) hd
    rw [if_neg (by omega)] at this
    exact this
  | succ k ih =>
    intro n dp d hk hd
    have hf : 0 < dp → ∀ x, Tg μ x → run G F (n + 3 * k + 3 + 3) 46 [x, .int (dp - 1)] μ = .ok (.bl (recB (formB k) x)) μ := fun _ x hx =>
      fields_46 (n := n + 3 * k + 3) h42 h45 h46 g34 g35 g40 (fun y hy => by
        have := ih n (dp - 1) y (by omega) hy
        rw [show n + 4 + 3 * k = n + 3 * k + 3 + 1 from by omega] at this
        exact this) hx
    have := form_step (n := n + 3 * k + 3) h23 h42 h43 h44 h47 g34 g35 g36 g37 g38 g39 hf hd
    rw [if_pos (by omega)] at this
    rw [show n + 4 + 3 * (k + 1) = n + 3 * k + 3 + 4 from by omega]
    exact this
theorem form_48 (h23 : F 23 = some f23) (h42 : F 42 = some f42) (h43 : F 43 = some f43) (h44 : F 44 = some f44) (h45 : F 45 = some f45) (h46 : F 46 = some f46) (h47 : F 47 = some f47) (h48 : F 48 = some f48) (g34 : G 34 = some (.str az)) (g35 : G 35 = some (.int 8)) (g36 : G 36 = some (.int 240)) (g37 : G 37 = some (.int 6)) (g38 : G 38 = some (.int 20)) (g39 : G 39 = some (.int 4)) (g40 : G 40 = some (.int 8)) (g41 : G 41 = some (.int 3)) {d : D} (hd : Tg μ d) :
    run G F (n + 14) 48 [d] μ = .ok (.bl (formB 3 d)) μ := by
  refine wp_to (run_wp (n := n + 13) h48 rfl rfl ?_)
  show (exSs G (run G F (n + 13)) b48 [some d] μ).wp _ _ _ _
  unfold b48
  have := form_47 (G := G) h23 h42 h43 h44 h45 h46 h47 g34 g35 g36 g37 g38 g39 g40 3 n 3 d rfl hd
  solve_by_elim [evW, g41, this]
end

local macro_rules | `(tactic| solve_by_elim [evV_b_len_o_addt, $[$xs:term],*]) => `(tactic| (try simp only [ss_n, ss_c, s_e, s_r, s_rN, s_a, s_i, s_x, s_p, s_b, s_c, s_f, s_w, v_var, v_con, v_glo, v_bin, v_neg, v_cmp, v_cmp2, v_and, v_or, v_not, v_ite, v_tup, v_lstT, v_lstF, v_cat, v_idx, v_lrep, v_slc, v_call, v_bi, v_me, v_comp, turnC_wp, c_n, c_s, es_n, es_c, eo_n, eo_s, t_var, t_con, t_cm, t_cm2, t_an, t_or', t_no, t_bi, t_call, t_idx, v_dictP, v_dictL, v_mlst, v_zipL, v_fnv, v_tget, v_callv, fnAt_fn, v_callL, cap_n, cap_c, s_sl, t_callv, v_new, v_fld, v_meth, s_sf, s_af, t_fld, t_meth, put_nm, put_tp, putL_n, putL_c, Option.bind_some, ofo_some, ofo_none, ofoE_some, ofoE_none, ofo_ite, ofo_map, ofo_bind, o_add, o_adds, o_addl, o_sub, o_mul, o_muls, o_mult, l_rep, c_is, c_nis, is_bl, o_fdiv, o_mod, c_lt, c_le, c_gt, c_ge, c_eq, c_ne, c_in, c_nin, q_int, q_strd, tr_bl, x_tup, x_lst, intOf_int, b_isin, k_ii, k_bi, k_si, k_ss, k_is, k_tt, k_ti, k_ts, o_pow, i_r1, i_r2, i_tup, i_lst, i_en, b_lenl, b_tup, tup_lst, b_lst, b_int, b_inti, b_trg, b_lrg, b_min, atZ0, atZ1, atZ2, ixZ0, ixZ1, ixZ2, List.length_set, wp_ok, List.getElem?_cons_zero, List.getElem?_cons_succ, List.set_cons_zero, List.set_cons_succ, wipeR, List.length_cons, List.length_nil, List.map_cons, List.map_nil, List.replicate_succ, List.replicate_zero, List.cons_append, List.nil_append, decide_eq_true_eq, beq_iff_eq, Bool.not_eq_true', Bool.true_eq_false, and_self, Nat.zero_le, lim1, lim2, lim3, lim4, lim5, decide_true, decide_false, Bool.not_true, Bool.not_false, ite_true, ite_false, if_true, if_false, Bool.false_eq_true, $[$xs:term],*]))
local macro_rules | `(tactic| solve_by_elim [evV_o_addt, $[$xs:term],*]) => `(tactic| (try simp only [ss_n, ss_c, s_e, s_r, s_rN, s_a, s_i, s_x, s_p, s_b, s_c, s_f, s_w, v_var, v_con, v_glo, v_bin, v_neg, v_cmp, v_cmp2, v_and, v_or, v_not, v_ite, v_tup, v_lstT, v_lstF, v_cat, v_idx, v_lrep, v_slc, v_call, v_bi, v_me, v_comp, turnC_wp, c_n, c_s, es_n, es_c, eo_n, eo_s, t_var, t_con, t_cm, t_cm2, t_an, t_or', t_no, t_bi, t_call, t_idx, v_dictP, v_dictL, v_mlst, v_zipL, v_fnv, v_tget, v_callv, fnAt_fn, v_callL, cap_n, cap_c, s_sl, t_callv, v_new, v_fld, v_meth, s_sf, s_af, t_fld, t_meth, put_nm, put_tp, putL_n, putL_c, Option.bind_some, ofo_some, ofo_none, ofoE_some, ofoE_none, ofo_ite, ofo_map, ofo_bind, o_add, o_adds, o_addl, o_sub, o_mul, o_muls, o_mult, l_rep, c_is, c_nis, is_bl, o_fdiv, o_mod, c_lt, c_le, c_gt, c_ge, c_eq, c_ne, c_in, c_nin, q_int, q_strd, tr_bl, x_tup, x_lst, intOf_int, b_isin, k_ii, k_bi, k_si, k_ss, k_is, k_tt, k_ti, k_ts, o_pow, i_r1, i_r2, i_tup, i_lst, i_en, b_len, b_lenl, b_tup, tup_lst, b_lst, b_int, b_inti, b_trg, b_lrg, b_min, atZ0, atZ1, atZ2, ixZ0, ixZ1, ixZ2, List.length_set, wp_ok, List.getElem?_cons_zero, List.getElem?_cons_succ, List.set_cons_zero, List.set_cons_succ, wipeR, List.length_cons, List.length_nil, List.map_cons, List.map_nil, List.replicate_succ, List.replicate_zero, List.cons_append, List.nil_append, decide_eq_true_eq, beq_iff_eq, Bool.not_eq_true', Bool.true_eq_false, and_self, Nat.zero_le, lim1, lim2, lim3, lim4, lim5, decide_true, decide_false, Bool.not_true, Bool.not_false, ite_true, ite_false, if_true, if_false, Bool.false_eq_true, $[$xs:term],*]))
/-! rows and places -/
def fm (p : Txt × D) : D := .tup [.str p.1, p.2]
theorem cut_fromM {α : Type} (l : List α) (m : Nat) : cutL l (some (m : Int)) none = l.drop m := by
  unfold cutL cutZ
  have h : ¬ ((m : Int) < 0) := by omega
  simp only [if_neg h, Int.toNat_natCast]
  by_cases hm : m ≤ l.length
  · rw [Nat.min_eq_left hm, List.take_of_length_le (by rw [List.length_drop]; omega)]
  · rw [Nat.min_eq_right (by omega), List.drop_eq_nil_of_le (Nat.le_refl _), List.drop_eq_nil_of_le (by omega), List.take_nil]
theorem slT {μ : Mu} {l : List D} (m : Nat) : slcD μ (.tup l) none (some (m : Int)) = some (.tup (l.take m)) := by
  show some (D.tup (cutL l none (some (m : Int)))) = _
  rw [cut_take]
theorem slD' {μ : Mu} {l : List D} (m : Nat) : slcD μ (.tup l) (some (m : Int)) none = some (.tup (l.drop m)) := by
  show some (D.tup (cutL l (some (m : Int)) none)) = _
  rw [cut_fromM]
theorem slD1 {μ : Mu} {l : List D} (m : Nat) : slcD μ (.tup l) (some ((m : Int) + 1)) none = some (.tup (l.drop (m + 1))) := slD' (m + 1)
theorem addt {μ : Mu} {l r : List D} (h : l.length + r.length ≤ 1000000) : binD .add μ (.tup l) (.tup r) = some (.tup (l ++ r)) := by
  rw [o_addt, if_pos (by rw [lim_val]; omega)]
section
variable {G : Nat → Option D} {F : Nat → Option Fn} {n : Nat} {μ : Mu}
theorem exch_134 (hF : F 134 = some f134) {l o : List D} {k : Nat} (hl : l.length + o.length ≤ 100000) : run G F (n + 1) 134 [.tup l, .int k, .tup o] μ = .ok (.tup (l.take k ++ o ++ l.drop (k + 1))) μ := by
  refine wp_to (run_wp hF rfl rfl ?_)
  show (exSs G (run G F n) b134 [some (.tup l), some (.int k), some (.tup o)] μ).wp _ _ _ _
  unfold b134
  have h1 : (l.take k).length ≤ l.length := by rw [List.length_take]; omega
  have h2 : (l.drop (k + 1)).length ≤ l.length := by rw [List.length_drop]; omega
  solve_by_elim [evV_o_addt, slT, slD1, addt (μ := μ) (l := l.take k) (r := o) (by omega), addt (μ := μ) (l := l.take k ++ o) (r := l.drop (k + 1)) (by rw [List.length_append]; omega)]
theorem with_132 (hF : F 132 = some f132) {l : List D} {k : Nat} (hl : l.length ≤ 100000) : run G F (n + 1) 132 [.tup l, .int k] μ = .ok (.tup (l.take k ++ l.drop (k + 1))) μ := by
  refine wp_to (run_wp hF rfl rfl ?_)
  show (exSs G (run G F n) b132 [some (.tup l), some (.int k)] μ).wp _ _ _ _
  unfold b132
  have h1 : (l.take k).length ≤ l.length := by rw [List.length_take]; omega
  have h2 : (l.drop (k + 1)).length ≤ l.length := by rw [List.length_drop]; omega
  solve_by_elim [evV_o_addt, slT, slD1, addt (μ := μ) (l := l.take k) (r := l.drop (k + 1)) (by omega)]
theorem must_130 (hF : F 130 = some f130) : run G F (n + 1) 130 [.bl true] μ = .ok .non μ := by
  refine wp_to (run_wp hF rfl rfl ?_)
  show (exSs G (run G F n) b130 [some (.bl true)] μ).wp _ _ _ _
  unfold b130
  solve_by_elim [evW]
  try exact ⟨rfl, trivial⟩
theorem put_133 (hF : F 133 = some f133) (h130 : F 130 = some f130) (h23 : F 23 = some f23) {l : List D} {k : Nat} {x : D} (hk : k ≤ l.length) (hl : l.length ≤ 100000) : run G F (n + 2) 133 [.tup l, .int k, x] μ = .ok (.tup (l.take k ++ [x] ++ l.drop k)) μ := by
  refine wp_to (run_wp hF rfl rfl ?_)
  show (exSs G (run G F (n + 1)) b133 [some (.tup l), some (.int k), some x] μ).wp _ _ _ _
  unfold b133
  have h1 : (l.take k).length ≤ l.length := by rw [List.length_take]; omega
  have h2 : (l.drop k).length ≤ l.length := by rw [List.length_drop]; omega
  have w1 : run G F (n + 1) 23 [.int k, .int 0, .int l.length] μ = .ok (.bl true) μ := by
    refine wp_to (run_wp h23 rfl rfl ?_)
    show (exSs G (run G F n) b23 [some (.int k), some (.int 0), some (.int l.length)] μ).wp _ _ _ _
    unfold b23
    generalize hkk : (k : Int) = kk
    generalize hll : (l.length : Int) = ll
    solve_by_elim [evW]
    have e1 : (0 : Int) ≤ kk := by omega
    have e2 : kk ≤ ll := by omega
    simp only [e1, e2, decide_true, if_true]
    (first | exact ⟨rfl, trivial⟩ | exact ⟨trivial, trivial⟩ | exact ⟨trivial, rfl⟩ | exact ⟨rfl, rfl⟩ | trivial)
  have hlen : biD .len μ [.tup l] = some (.int l.length) := rfl
  solve_by_elim [evV_b_len_o_addt, hlen, w1, must_130 (G := G) (n := n) h130, slT, slD', addt (μ := μ) (l := l.take k) (r := [x]) (by simp; omega), addt (μ := μ) (l := l.take k ++ [x]) (r := l.drop k) (by simp; omega)]
theorem place_131 (hF : F 131 = some f131) {pre post : List (Txt × D)} {nm : Txt} {x : D} (hn : ∀ p ∈ pre, p.1 ≠ nm) : run G F (n + 1) 131 [.tup ((pre ++ (nm, x) :: post).map fm), .str nm] μ = .ok (.int pre.length) μ := by
  refine wp_to (run_wp hF rfl rfl ?_)
  show (exSs G (run G F n) b131 [some (.tup ((pre ++ (nm, x) :: post).map fm)), some (.str nm), none, none] μ).wp _ _ _ _
  unfold b131
  have hat : (pre ++ (nm, x) :: post)[pre.length]? = some (nm, x) := by rw [List.getElem?_append_right (Nat.le_refl _), Nat.sub_self]; rfl
  have hlen : (pre ++ (nm, x) :: post).length = pre.length + (post.length + 1) := by rw [List.length_append, List.length_cons]
  generalize hfs : pre ++ (nm, x) :: post = fs at hat hlen ⊢
  refine ss_step ?_; intro K hK
  solve_by_elim [evW]
  have hen : ∀ (k : Nat) (l : List D), (enumFrom k l).length = l.length := fun k l => by
    induction l generalizing k with
    | nil => rfl
    | cons d r ih => show (enumFrom (k + 1) r).length + 1 = r.length + 1; rw [ih]
  refine for_wp _ (fun i ρ μ' => μ' = μ ∧ i ≤ pre.length ∧ ∃ x0 x2 x3, ρ = [x0, some (.str nm), x2, x3]) 0 _ _ ⟨rfl, Nat.zero_le _, _, _, _, rfl⟩ (fun _ _ _ _ => rfl) ?_ ?_
  · rintro i d ρ μ' hd ⟨rfl, hij, x0, x2, x3, rfl⟩
    obtain ⟨y, hy, rfl⟩ := enum_get (l := []) (i := 0) (d := .non) 0 _ i d hd
    rw [List.getElem?_map] at hy
    obtain ⟨f, hf, rfl⟩ : ∃ f, fs[i]? = some f ∧ y = fm f := by
      cases e : fs[i]? with
      | none => rw [e] at hy; cases hy
      | some f => rw [e] at hy; exact ⟨f, rfl, (Option.some.inj hy).symm⟩
    obtain ⟨nf, xf⟩ := f
    rw [Nat.zero_add] at hij ⊢
    have hlast : nf = nm → i = pre.length := fun e => by
      by_cases hi : i < pre.length
      · rw [← hfs, List.getElem?_append_left hi] at hf
        exact absurd e (hn _ (List.mem_of_getElem? hf))
      · omega
    have hfirst : i = pre.length → nf = nm := fun e => by
      rw [e, hat] at hf
      cases hf
      rfl
    generalize hii : (i : Int) = ii
    unfold fm
    simp only [put_nm, put_tp, putL_n, putL_c, Option.bind_some, wipeR, List.set_cons_zero, List.set_cons_succ]
    refine ss_step ?_; intro K2 hK2
    solve_by_elim [evW]
    split
    · rename_i e
      exact ⟨by rw [← hii, hlast e], trivial⟩
    · rename_i e
      simp only [hK2]
      solve_by_elim [evW]
      have hne : i ≠ pre.length := fun e2 => e (hfirst e2)
      exact ⟨by trivial, by omega, _, _, _, rfl⟩
  · rintro ρ μ' ⟨rfl, hij, x0, x2, x3, rfl⟩
    rw [hen, List.length_map, Nat.zero_add, hlen] at hij
    omega
end

local macro_rules | `(tactic| solve_by_elim [evV_q_strd, $[$xs:term],*]) => `(tactic| (try simp only [ss_n, ss_c, s_e, s_r, s_rN, s_a, s_i, s_x, s_p, s_b, s_c, s_f, s_w, v_var, v_con, v_glo, v_bin, v_neg, v_cmp, v_cmp2, v_and, v_or, v_not, v_ite, v_tup, v_lstT, v_lstF, v_cat, v_idx, v_lrep, v_slc, v_call, v_bi, v_me, v_comp, turnC_wp, c_n, c_s, es_n, es_c, eo_n, eo_s, t_var, t_con, t_cm, t_cm2, t_an, t_or', t_no, t_bi, t_call, t_idx, v_dictP, v_dictL, v_mlst, v_zipL, v_fnv, v_tget, v_callv, fnAt_fn, v_callL, cap_n, cap_c, s_sl, t_callv, v_new, v_fld, v_meth, s_sf, s_af, t_fld, t_meth, put_nm, put_tp, putL_n, putL_c, Option.bind_some, ofo_some, ofo_none, ofoE_some, ofoE_none, ofo_ite, ofo_map, ofo_bind, o_add, o_adds, o_addt, o_addl, o_sub, o_mul, o_muls, o_mult, l_rep, c_is, c_nis, is_bl, o_fdiv, o_mod, c_lt, c_le, c_gt, c_ge, c_eq, c_ne, c_in, c_nin, q_int, tr_bl, x_tup, x_lst, intOf_int, b_isin, k_ii, k_bi, k_si, k_ss, k_is, k_tt, k_ti, k_ts, o_pow, i_r1, i_r2, i_tup, i_lst, i_en, b_len, b_lenl, b_tup, tup_lst, b_lst, b_int, b_inti, b_trg, b_lrg, b_min, atZ0, atZ1, atZ2, ixZ0, ixZ1, ixZ2, List.length_set, wp_ok, List.getElem?_cons_zero, List.getElem?_cons_succ, List.set_cons_zero, List.set_cons_succ, wipeR, List.length_cons, List.length_nil, List.map_cons, List.map_nil, List.replicate_succ, List.replicate_zero, List.cons_append, List.nil_append, decide_eq_true_eq, beq_iff_eq, Bool.not_eq_true', Bool.true_eq_false, and_self, Nat.zero_le, lim1, lim2, lim3, lim4, lim5, decide_true, decide_false, Bool.not_true, Bool.not_false, ite_true, ite_false, if_true, if_false, Bool.false_eq_true, $[$xs:term],*]))
/-! leaf moves at the root -/
abbrev wR : Txt := [114, 101, 99, 111, 114, 100]
abbrev wLonger : Txt := [108, 111, 110, 103, 101, 114]
abbrev wMore : Txt := [109, 111, 114, 101]
abbrev wMany : Txt := [109, 97, 110, 121]
abbrev wScale : Txt := [115, 99, 97, 108, 101]
/-- the words of moves that change a field's form -/
def Lw (w : Txt) : Prop := w = wLonger ∨ w = wMore ∨ w = wMany ∨ w = wScale
theorem tg125 {w : Txt} {d : D} (h : Lw w) : (List.lookup w [([112, 117, 116], .fn 135 []), ([100, 114, 111, 112], .fn 137 []), ([110, 97, 109, 101], .fn 139 []), ([115, 104, 105, 102, 116], .fn 140 []), ([119, 105, 116, 104, 105, 110], .fn 142 []), ([111, 117, 116], .fn 143 []), ([112, 97, 114, 116], .fn 145 []), ([106, 111, 105, 110], .fn 146 [])]).getD d = d := by
  rcases h with rfl | rfl | rfl | rfl <;> rfl
theorem tg126 {w : Txt} {d : D} (h : Lw w) : (List.lookup w [([112, 117, 116], .fn 136 []), ([100, 114, 111, 112], .fn 138 [])]).getD d = d := by
  rcases h with rfl | rfl | rfl | rfl <;> rfl
theorem tg127 {w : Txt} {d : D} (h : Lw w) : (List.lookup w [([112, 117, 116], .fn 164 []), ([100, 114, 111, 112], .fn 164 []), ([115, 104, 105, 102, 116], .fn 166 []), ([119, 105, 116, 104, 105, 110], .fn 168 []), ([111, 117, 116], .fn 170 []), ([112, 97, 114, 116], .fn 172 []), ([106, 111, 105, 110], .fn 174 [])]).getD d = d := by
  rcases h with rfl | rfl | rfl | rfl <;> rfl
theorem tg128 {w : Txt} {d : D} (h : Lw w) : (List.lookup w [([112, 117, 116], .fn 165 []), ([100, 114, 111, 112], .fn 165 []), ([115, 104, 105, 102, 116], .fn 167 []), ([119, 105, 116, 104, 105, 110], .fn 169 []), ([111, 117, 116], .fn 171 []), ([112, 97, 114, 116], .fn 173 []), ([106, 111, 105, 110], .fn 175 [])]).getD d = d := by
  rcases h with rfl | rfl | rfl | rfl <;> rfl
theorem tg123 {d : D} (w : Txt) (h : Lw w) : (List.lookup w [([112, 117, 116], .int 6), ([100, 114, 111, 112], .int 4), ([110, 97, 109, 101], .int 4), ([115, 104, 105, 102, 116], .int 4), ([119, 105, 116, 104, 105, 110], .int 5), ([111, 117, 116], .int 5), ([112, 97, 114, 116], .int 6), ([106, 111, 105, 110], .int 5)]).getD d = d := by
  rcases h with rfl | rfl | rfl | rfl <;> rfl
theorem sl3 {μ : Mu} {x y z : D} {l : List D} : slcD μ (.tup (x :: y :: z :: l)) (some 3) none = some (.tup l) := slD' (μ := μ) (l := x :: y :: z :: l) 3
theorem at_fm {pre post : List (Txt × D)} {nm : Txt} {x : D} : atZ ((pre ++ (nm, x) :: post).map fm) (pre.length : Int) = some (.tup [.str nm, x]) := by
  refine atZ_nat ?_
  rw [List.getElem?_map, List.getElem?_append_right (Nat.le_refl _), Nat.sub_self]
  rfl
theorem put_fm {pre post : List (Txt × D)} {nm : Txt} {x y : D} : ((pre ++ (nm, x) :: post).map fm).take pre.length ++ [.tup [.str nm, y]] ++ ((pre ++ (nm, x) :: post).map fm).drop (pre.length + 1) = (pre ++ (nm, y) :: post).map fm := by
  have h1 : ((pre ++ (nm, x) :: post).map fm).take pre.length = pre.map fm := by
    rw [List.map_append, List.take_left' (by rw [List.length_map])]
  have h2 : ((pre ++ (nm, x) :: post).map fm).drop (pre.length + 1) = post.map fm := by
    have e : (pre ++ (nm, x) :: post) = (pre ++ [(nm, x)]) ++ post := by rw [List.append_assoc]; rfl
    rw [e, List.map_append, List.drop_left' (by rw [List.length_map, List.length_append]; rfl)]
  rw [h1, h2, List.map_append, List.map_cons, List.append_assoc]
  rfl
section
variable {G : Nat → Option D} {F : Nat → Option Fn} {n : Nat} {μ : Mu}
theorem chg_151 (h131 : F 131 = some f131) (h134 : F 134 = some f134) (h151 : F 151 = some f151) {pre post : List (Txt × D)} {nm w : Txt} {x y : D} {told : List D} (hn : ∀ p ∈ pre, p.1 ≠ nm) (hl : (pre ++ (nm, x) :: post).length ≤ 1000)
    (hf : ∀ μ, run G F (n + 1) 150 [x, .str w, .tup told] μ = .ok y μ) :
    run G F (n + 2) 151 [.tup ((pre ++ (nm, x) :: post).map fm), .tup (.str w :: .tup [] :: .str nm :: told)] μ = .ok (.tup ((pre ++ (nm, y) :: post).map fm)) μ := by
  refine wp_to (run_wp h151 rfl rfl ?_)
  show (exSs G (run G F (n + 1)) b151 [some (.tup ((pre ++ (nm, x) :: post).map fm)), some (.tup (.str w :: .tup [] :: .str nm :: told)), none] μ).wp _ _ _ _
  unfold b151
  have e1 := exch_134 (G := G) (F := F) (n := n) (μ := μ) h134 (l := (pre ++ (nm, x) :: post).map fm) (o := [.tup [.str nm, y]]) (k := pre.length) (by rw [List.length_map]; simp at hl ⊢; omega)
  rw [put_fm] at e1
  have e0 := place_131 (G := G) (F := F) (n := n) (μ := μ) h131 (x := x) (post := post) hn
  generalize hfs : (pre ++ (nm, x) :: post).map fm = fs at e0 e1 ⊢
  have e2 : atZ fs (pre.length : Int) = some (.tup [.str nm, x]) := by rw [← hfs]; exact at_fm
  generalize hk : (pre.length : Int) = kk at e0 e1 e2
  solve_by_elim [evW, e0, e2, sl3, hf, e1]
theorem lam_189 (hL : F 1000189 = some f1000189) {a b c : D} (h : run G F n 151 [a, b] μ = .ok c μ) : run G F (n + 1) 1000189 [a, b, .fn 151 []] μ = .ok c μ := by
  refine wp_to (run_wp hL rfl rfl ?_)
  show (exSs G (run G F n) b1000189 [some a, some b, some (.fn 151 [])] μ).wp _ _ _ _
  unfold b1000189
  have h' : run G F n 151 ([a, b] ++ []) μ = .ok c μ := h
  solve_by_elim [evW, h', h]
  try exact ⟨rfl, trivial⟩
theorem lam_188 (hL : F 1000188 = some f1000188) {a b c : D} (h : run G F n 151 [a, b] μ = .ok c μ) : run G F (n + 1) 1000188 [a, b, .fn 151 []] μ = .ok c μ := by
  refine wp_to (run_wp hL rfl rfl ?_)
  show (exSs G (run G F n) b1000188 [some a, some b, some (.fn 151 [])] μ).wp _ _ _ _
  unfold b1000188
  solve_by_elim [evW, h]
  try exact ⟨rfl, trivial⟩
theorem rec_152 (h130 : F 130 = some f130) (h152 : F 152 = some f152) {k : Nat} {l : List D} {a b : D} (h : run G F (n + 1) k (a :: l) μ = .ok b μ) : run G F (n + 2) 152 [.tup [.str wR, a], .tup [], .fn k l] μ = .ok (.tup [.str wR, b]) μ := by
  refine wp_to (run_wp h152 rfl rfl ?_)
  show (exSs G (run G F (n + 1)) b152 [some (.tup [.str wR, a]), some (.tup []), some (.fn k l), none, none] μ).wp _ _ _ _
  unfold b152
  have e0 : eqD μ (.tup []) (.tup []) = some true := rfl
  have e1 : eqD μ (.str wR) (.str wR) = some true := rfl
  refine ss_step ?_; intro K hK
  solve_by_elim [evV_q_strd, e1, must_130 (G := G) (n := n) h130]
  simp only [hK]
  solve_by_elim [evW, e0, h]
theorem callL_run {f : Nat} {ds : List D} {μ : Mu} (hf : F (f + LB) = none) (hG : (G LK).isSome = true) : run G F (n + 1) (f + LB) ds μ = within μ (run (noLam G) F n f ds μ) := by
  conv => lhs; unfold run
  rw [hf]
  dsimp only
  rw [if_pos ⟨Nat.le_add_left _ _, hG⟩, Nat.add_sub_cancel]
theorem within_ok {d : D} {μ : Mu} (h : d.flat = true) : within μ (.ok d μ) = .ok d μ := if_pos ⟨h, rfl⟩
end

/-! one move that changes a field's form, at the root -/
structure Mv (F : Nat → Option Fn) : Prop where
  h23 : F 23 = some f23
  h130 : F 130 = some f130
  h131 : F 131 = some f131
  h132 : F 132 = some f132
  h133 : F 133 = some f133
  h134 : F 134 = some f134
  h148 : F 148 = some f148
  h149 : F 149 = some f149
  h150 : F 150 = some f150
  h151 : F 151 = some f151
  h152 : F 152 = some f152
  h153 : F 153 = some f153
  h154 : F 154 = some f154
  h155 : F 155 = some f155
  h159 : F 159 = some f159
  h161 : F 161 = some f161
  h162 : F 162 = some f162
  h163 : F 163 = some f163
  h176 : F 176 = some f176
  h177 : F 177 = some f177
  h178 : F 178 = some f178
  h179 : F 179 = some f179
  h180 : F 180 = some f180
  l188 : F 1000188 = some f1000188
  l189 : F 1000189 = some f1000189
  l190 : F 1000190 = some f1000190
  l191 : F 1000191 = some f1000191
  n152 : F (152 + LB) = none
  n178 : F (178 + LB) = none
theorem strOf_str {w : Txt} : strOf (.str w) = some w := rfl
theorem lt1 : (0 + 1 < lim) = True := eq_true (by rw [lim_val]; omega)
theorem one_at {a : D} : atZ [a] (-1) = some a := rfl
theorem set_end {μ : Mu} {x y : Cell} : (μ ++ [x]).set μ.length y = μ ++ [y] := by
  rw [List.set_append_right _ _ (Nat.le_refl _), Nat.sub_self]
  rfl
theorem for_one {N B C : Rho → Mu → Prop} {R : D → Mu → Prop} {X : Ex → Mu → Prop} {kill : List Nat} {turn : D → Rho → Mu → Out} {d : D} {ρ : Rho} {μ : Mu} (h : (turn d (wipeR ρ kill) μ).wp (fun ρ μ => N (wipeR ρ kill) μ) R N (fun ρ μ => N (wipeR ρ kill) μ) X) : (forL [] kill turn [d] ρ μ).wp N R B C X := by
  refine for_wp [d] (fun i ρ' μ' => (i = 0 ∧ ρ' = ρ ∧ μ' = μ) ∨ (i = 1 ∧ N (wipeR ρ' kill) μ')) 0 ρ μ (.inl ⟨rfl, rfl, rfl⟩) (fun _ _ _ _ => rfl) ?_ ?_
  · rintro i d' ρ' μ' hd (⟨hi, rfl, rfl⟩ | ⟨hi, _⟩)
    · have : i = 0 := by omega
      subst this
      cases hd
      exact Out.wp_mono h (fun _ _ q => .inr ⟨by omega, q⟩) (fun _ _ q => q) (fun _ _ q => q) (fun _ _ q => .inr ⟨by omega, q⟩) (fun _ _ q => q)
    · have : i = 1 := by omega
      subst this
      cases hd
  · rintro ρ' μ' (⟨hi, _⟩ | ⟨_, h⟩)
    · cases hi
    · exact h
/-- the row of fields, as a thing -/
abbrev rec (fs : List (Txt × D)) : D := .tup [.str wR, .tup (fs.map fm)]
theorem rec_flat {fs : List (Txt × D)} (h : ∀ p ∈ fs, p.2.flat = true) : (rec fs).flat = true := by
  unfold rec
  have e : D.flatL (fs.map fm) = true := flatL_map fun p hp => by
    show D.flatL [D.str p.1, p.2] = true
    rw [flatL_all]
    intro d hd
    rcases List.mem_cons.mp hd with rfl | hd
    · rfl
    · rcases List.mem_cons.mp hd with rfl | hd
      · exact h p hp
      · cases hd
  show (D.flatL [_, D.tup _]) = true
  rw [flatL_all]
  intro d hd
  rcases List.mem_cons.mp hd with rfl | hd
  · rfl
  · rcases List.mem_cons.mp hd with rfl | hd
    · show D.flatL _ = true
      exact e
    · cases hd
section
variable {G : Nat → Option D} {F : Nat → Option Fn} {n : Nat} {μ : Mu}
theorem known_155 (H : Mv F) (hG : (G LK).isSome = true) {pre post : List (Txt × D)} {nm w : Txt} {x y : D} {told : List D} (hw : Lw w) (hn : ∀ p ∈ pre, p.1 ≠ nm) (hl : (pre ++ (nm, x) :: post).length ≤ 1000)
    (hp : ∀ p ∈ pre ++ post, p.2.flat = true) (hx : x.flat = true) (hy : y.flat = true)
    (hf : ∀ n μ, run (noLam G) F (n + 5) 150 [x, .str w, .tup told] μ = .ok y μ) :
    run G F (n + 10) 155 [rec (pre ++ (nm, x) :: post), .tup [.tup (.str w :: .tup [] :: .str nm :: told)]] μ = .ok (.lst [rec (pre ++ (nm, x) :: post), rec (pre ++ (nm, y) :: post)]) μ := by
  have fl : ∀ z : D, z.flat = true → (rec (pre ++ (nm, z) :: post)).flat = true := fun z hz => rec_flat fun p hpp => by
    rcases List.mem_append.mp hpp with q | q
    · exact hp p (List.mem_append_left _ q)
    · rcases List.mem_cons.mp q with rfl | q
      · exact hz
      · exact hp p (List.mem_append_right _ q)
  have e1 : ∀ μ, run G F (n + 9) (152 + LB) [rec (pre ++ (nm, x) :: post), .tup [], .fn 1000189 [.tup (.str w :: .tup [] :: .str nm :: told), .fn 151 []]] μ = .ok (rec (pre ++ (nm, y) :: post)) μ := fun μ => by
    have a1 := chg_151 (G := noLam G) (F := F) (n := n + 4) (μ := μ) H.h131 H.h134 H.h151 (w := w) (told := told) (post := post) hn hl (fun μ => hf n μ)
    have a2 := lam_189 (G := noLam G) (F := F) (μ := μ) H.l189 a1
    have a3 := rec_152 (G := noLam G) (F := F) (μ := μ) (n := n + 6) H.h130 H.h152 a2
    rw [callL_run H.n152 hG, a3, within_ok (fl y hy)]
  have fl1 := fl x hx
  have fl2 := fl y hy
  generalize rec (pre ++ (nm, x) :: post) = r0 at e1 fl1 ⊢
  generalize rec (pre ++ (nm, y) :: post) = r1 at e1 fl2 ⊢
  generalize hmv : told = tl at e1 ⊢
  have hlb : 152 + LB = 1000152 := rfl
  refine wp_to (run_wpz H.h155 rfl rfl ?_)
  show (exSs G (run G F (n + 9)) b155 [some r0, some (.tup [.tup (.str w :: .tup [] :: .str nm :: tl)]), none, none, none] μ).wp _ _ _ _
  unfold b155
  refine ss_step ?_; intro K hK
  solve_by_elim [evW]
  simp only [hK]
  refine ss_step ?_; intro K2 hK2
  solve_by_elim [evW]
  refine for_one ?_
  have hg : (μ ++ [Cell.lst [r0]])[μ.length]? = some (.lst [r0]) := push_get
  have hmt := meTy_loc (m := .append) ⟨by decide, by decide⟩ hg
  have htg := fun d => tg125 (d := d) hw
  solve_by_elim [evW, strOf_str, htg, hmt, x_loc hg, one_at, e1, m_app hg, set_end, lt1]
  simp only [hK2]
  solve_by_elim [evW]
  refine fin_wpL (S := []) (Fr.push _) (fun i hi => by cases hi) (Nat.le_refl _) push_get ?_ ?_
  · show D.flatL [r0, r1] = true
    simp only [D.flatL, fl1, fl2, Bool.and_self]
  · exact ⟨rfl, List.take_left ..⟩
end

/-! values along one move at the root -/
theorem isN {d : D} : isD d .non = some (decide (d = .non)) := by cases d <;> rfl
abbrev wName : Txt := [110, 97, 109, 101]
theorem lw_name {μ : Mu} {w : Txt} (h : Lw w) : eqD μ (.str w) (.str wName) = some false := by
  rcases h with rfl | rfl | rfl | rfl <;> rfl
theorem put_row {pr po : List D} {v r : D} {k : Nat} (h : pr.length = k) : (pr ++ v :: po).take k ++ [r] ++ (pr ++ v :: po).drop (k + 1) = pr ++ r :: po := by
  have h1 : (pr ++ v :: po).take k = pr := List.take_left' h
  have h2 : (pr ++ v :: po).drop (k + 1) = po := by
    have e : (pr ++ v :: po) = (pr ++ [v]) ++ po := by rw [List.append_assoc]; rfl
    rw [e, List.drop_left' (by rw [List.length_append, h]; rfl)]
  rw [h1, h2, List.append_assoc]
  rfl
theorem row_at {pr po : List D} {v : D} {k : Nat} (h : pr.length = k) : atZ (pr ++ v :: po) (k : Int) = some v := by
  refine atZ_nat ?_
  rw [List.getElem?_append_right (by omega), h, Nat.sub_self]
  rfl
/-- a row with one worth put otherwise, or none -/
def rowR (pr po : List D) (r : D) : D := if r = .non then .non else .tup (pr ++ r :: po)
theorem rowR_non {pr po : List D} : rowR pr po .non = .non := rfl
theorem rowR_some {pr po : List D} {r : D} (h : r ≠ .non) : rowR pr po r = .tup (pr ++ r :: po) := if_neg h
theorem rowR_flat {pr po : List D} {r : D} (h : ∀ d ∈ pr ++ po, d.flat = true) (hr : r.flat = true) : (rowR pr po r).flat = true := by
  by_cases e : r = .non
  · subst e; rfl
  · rw [rowR_some e]
    show D.flatL _ = true
    rw [flatL_all]
    intro d hd
    rcases List.mem_append.mp hd with q | q
    · exact h d (List.mem_append_left _ q)
    · rcases List.mem_cons.mp q with rfl | q
      · exact hr
      · exact h d (List.mem_append_right _ q)
section
variable {G : Nat → Option D} {F : Nat → Option Fn} {n : Nat} {μ : Mu}
theorem leaf_176 (h131 : F 131 = some f131) (h134 : F 134 = some f134) (h176 : F 176 = some f176) {pre post : List (Txt × D)} {nm w : Txt} {x : D} {told pr po : List D} {v r : D} (hw : Lw w) (hn : ∀ p ∈ pre, p.1 ≠ nm) (hk : pr.length = pre.length) (hl : (pr ++ v :: po).length ≤ 1000)
    (hf : run G F (n + 1) 162 [x, .tup (.str w :: .tup [] :: .str nm :: told), v] μ = .ok r μ) :
    run G F (n + 2) 176 [.tup ((pre ++ (nm, x) :: post).map fm), .tup (.str w :: .tup [] :: .str nm :: told), .tup (pr ++ v :: po)] μ = .ok (.tup (pr ++ r :: po)) μ := by
  refine wp_to (run_wp h176 rfl rfl ?_)
  show (exSs G (run G F (n + 1)) b176 [some (.tup ((pre ++ (nm, x) :: post).map fm)), some (.tup (.str w :: .tup [] :: .str nm :: told)), some (.tup (pr ++ v :: po)), none] μ).wp _ _ _ _
  unfold b176
  have e1 := exch_134 (G := G) (F := F) (n := n) (μ := μ) h134 (l := pr ++ v :: po) (o := [r]) (k := pre.length) (by simp at hl ⊢; omega)
  rw [put_row hk] at e1
  have e0 := place_131 (G := G) (F := F) (n := n) (μ := μ) h131 (x := x) (post := post) hn
  have e3 := row_at (po := po) (v := v) hk
  have ew := lw_name (μ := μ) hw
  generalize hfs : (pre ++ (nm, x) :: post).map fm = fs at e0 e1 ⊢
  have e2 : atZ fs (pre.length : Int) = some (.tup [.str nm, x]) := by rw [← hfs]; exact at_fm
  generalize hkk : (pre.length : Int) = kk at e0 e1 e2 e3
  generalize pr ++ v :: po = row at e1 e3 ⊢
  refine ss_step ?_; intro K hK
  solve_by_elim [evV_q_strd, ew]
  simp only [hK]
  solve_by_elim [evW, e0, e2, e3, hf, e1]
theorem leaf_177 (h131 : F 131 = some f131) (h134 : F 134 = some f134) (h177 : F 177 = some f177) {pre post : List (Txt × D)} {nm w : Txt} {x : D} {told pr po : List D} {v r : D} (hw : Lw w) (hn : ∀ p ∈ pre, p.1 ≠ nm) (hk : pr.length = pre.length) (hl : (pr ++ v :: po).length ≤ 1000)
    (hf : run G F (n + 1) 163 [x, .tup (.str w :: .tup [] :: .str nm :: told), v] μ = .ok r μ) :
    run G F (n + 2) 177 [.tup ((pre ++ (nm, x) :: post).map fm), .tup (.str w :: .tup [] :: .str nm :: told), .tup (pr ++ v :: po)] μ = .ok (rowR pr po r) μ := by
  refine wp_to (run_wp h177 rfl rfl ?_)
  show (exSs G (run G F (n + 1)) b177 [some (.tup ((pre ++ (nm, x) :: post).map fm)), some (.tup (.str w :: .tup [] :: .str nm :: told)), some (.tup (pr ++ v :: po)), none, none] μ).wp _ _ _ _
  unfold b177
  have e1 := exch_134 (G := G) (F := F) (n := n) (μ := μ) h134 (l := pr ++ v :: po) (o := [r]) (k := pre.length) (by simp at hl ⊢; omega)
  rw [put_row hk] at e1
  have e0 := place_131 (G := G) (F := F) (n := n) (μ := μ) h131 (x := x) (post := post) hn
  have e3 := row_at (po := po) (v := v) hk
  have ew := lw_name (μ := μ) hw
  generalize hfs : (pre ++ (nm, x) :: post).map fm = fs at e0 e1 ⊢
  have e2 : atZ fs (pre.length : Int) = some (.tup [.str nm, x]) := by rw [← hfs]; exact at_fm
  generalize hkk : (pre.length : Int) = kk at e0 e1 e2 e3
  have hres : rowR pr po r = if r = .non then .non else .tup (pr ++ r :: po) := rfl
  generalize pr ++ v :: po = row at e1 e3 ⊢
  refine ss_step ?_; intro K hK
  solve_by_elim [evV_q_strd, ew]
  simp only [hK]
  refine ss_step ?_; intro K2 hK2
  solve_by_elim [evW, e0]
  simp only [hK2]
  refine ss_step ?_; intro K3 hK3
  solve_by_elim [evW, e2, e3, hf]
  simp only [hK3]
  refine ss_step ?_; intro K4 hK4
  by_cases er : r = .non
  · subst er
    solve_by_elim [evW, isN]
    try exact ⟨rfl, trivial⟩
  · rw [if_neg er] at hres
    solve_by_elim [evW, isN, er]
    simp only [hK4]
    solve_by_elim [evW, e1, hres]
theorem lam_190 (hL : F 1000190 = some f1000190) {a b c d : D} {k : Nat} (h : run G F n k [a, b, c] μ = .ok d μ) : run G F (n + 1) 1000190 [a, c, b, .fn k []] μ = .ok d μ := by
  refine wp_to (run_wp hL rfl rfl ?_)
  show (exSs G (run G F n) b1000190 [some a, some c, some b, some (.fn k [])] μ).wp _ _ _ _
  unfold b1000190
  have h' : run G F n k ([a, b, c] ++ []) μ = .ok d μ := h
  solve_by_elim [evW, h', h]
  try exact ⟨rfl, trivial⟩
theorem lam_191 (hL : F 1000191 = some f1000191) {a b c d : D} {k : Nat} (h : run G F n k [a, b, c] μ = .ok d μ) : run G F (n + 1) 1000191 [a, c, b, .fn k []] μ = .ok d μ := by
  refine wp_to (run_wp hL rfl rfl ?_)
  show (exSs G (run G F n) b1000191 [some a, some c, some b, some (.fn k [])] μ).wp _ _ _ _
  unfold b1000191
  have h' : run G F n k ([a, b, c] ++ []) μ = .ok d μ := h
  solve_by_elim [evW, h', h]
  try exact ⟨rfl, trivial⟩
theorem row_178 (h178 : F 178 = some f178) {k : Nat} {l : List D} {a b c : D} (h : run G F n k (a :: b :: l) μ = .ok c μ) : run G F (n + 1) 178 [.tup [.str wR, a], .tup [], b, .fn k l] μ = .ok c μ := by
  refine wp_to (run_wp h178 rfl rfl ?_)
  show (exSs G (run G F n) b178 [some (.tup [.str wR, a]), some (.tup []), some b, some (.fn k l), none, none] μ).wp _ _ _ _
  unfold b178
  have e0 : eqD μ (.tup []) (.tup []) = some true := rfl
  refine ss_step ?_; intro K hK
  solve_by_elim [evW, e0, h]
  try exact ⟨rfl, trivial⟩
end

/-! forth and back along one move at the root -/
section
variable {G : Nat → Option D} {F : Nat → Option Fn} {n : Nat} {μ : Mu}
theorem back_180 (H : Mv F) (hG : (G LK).isSome = true) {pre post : List (Txt × D)} {nm w : Txt} {x y : D} {told pr po : List D} {v r : D} (hw : Lw w) (hn : ∀ p ∈ pre, p.1 ≠ nm) (hl : (pre ++ (nm, x) :: post).length ≤ 1000)
    (hp : ∀ p ∈ pre ++ post, p.2.flat = true) (hx : x.flat = true) (hy : y.flat = true)
    (hf : ∀ n μ, run (noLam G) F (n + 5) 150 [x, .str w, .tup told] μ = .ok y μ)
    (hk : pr.length = pre.length) (hl' : (pr ++ v :: po).length ≤ 1000) (hrow : ∀ d ∈ pr ++ po, d.flat = true) (hr : r.flat = true)
    (hb : ∀ n μ, run (noLam G) F (n + 5) 163 [x, .tup (.str w :: .tup [] :: .str nm :: told), v] μ = .ok r μ) :
    run G F (n + 11) 180 [rec (pre ++ (nm, x) :: post), .tup [.tup (.str w :: .tup [] :: .str nm :: told)], .tup (pr ++ v :: po)] μ = .ok (rowR pr po r) μ := by
  have e0 := fun μ => known_155 (n := n) (μ := μ) H hG (w := w) (told := told) hw hn hl hp hx hy hf
  have e1 : ∀ μ, run G F (n + 10) (178 + LB) [rec (pre ++ (nm, x) :: post), .tup [], .tup (pr ++ v :: po), .fn 1000191 [.tup (.str w :: .tup [] :: .str nm :: told), .fn 177 []]] μ = .ok (rowR pr po r) μ := fun μ => by
    have a1 := leaf_177 (G := noLam G) (F := F) (n := n + 5) (μ := μ) H.h131 H.h134 H.h177 (w := w) (told := told) (post := post) hw hn hk hl' (hb (n + 1) μ)
    have a2 := lam_191 (G := noLam G) (F := F) (μ := μ) H.l191 a1
    have a3 := row_178 (G := noLam G) (F := F) (μ := μ) H.h178 a2
    rw [callL_run H.n178 hG, a3, within_ok (rowR_flat hrow hr)]
  generalize rec (pre ++ (nm, x) :: post) = r0 at e0 e1 ⊢
  generalize rec (pre ++ (nm, y) :: post) = r1 at e0
  generalize hmv : told = tl at e0 e1 ⊢
  generalize pr ++ v :: po = row at e1 ⊢
  generalize rowR pr po r = res at e1 ⊢
  have hlb : 178 + LB = 1000178 := rfl
  refine wp_to (run_wp H.h180 rfl rfl ?_)
  show (exSs G (run G F (n + 10)) b180 [some r0, some (.tup [.tup (.str w :: .tup [] :: .str nm :: tl)]), some (.tup row), none, none, none] μ).wp _ _ _ _
  unfold b180
  have hz : ∀ μ, zipLD μ [.lst [r0, r1], .tup [.tup (.str w :: .tup [] :: .str nm :: tl)]] = some (.lst [.tup [r0, .tup (.str w :: .tup [] :: .str nm :: tl)]]) := fun _ => rfl
  have hi : ∀ μ a, itemsD .rev μ [.lst [a]] = some ([a], []) := fun _ _ => rfl
  have htg := fun d => tg128 (d := d) hw
  refine ss_step ?_; intro K hK
  solve_by_elim [evW, e0, hz, hi]
  refine for_one ?_
  simp only [put_nm, put_tp, putL_n, putL_c, Option.bind_some, wipeR, List.set_cons_zero, List.set_cons_succ]
  refine ss_step ?_; intro K2 hK2
  solve_by_elim [evW, strOf_str, htg]
  simp only [hK2]
  refine ss_step ?_; intro K3 hK3
  solve_by_elim [evW, cap_c, cap_n, e1]
  simp only [hK3]
  refine ss_step ?_; intro K4 hK4
  by_cases er : res = .non
  · subst er
    solve_by_elim [evW, isN]
    try exact ⟨rfl, trivial⟩
  · solve_by_elim [evW, isN, er]
    simp only [hK4, hK]
    solve_by_elim [evW]
    try exact ⟨rfl, trivial⟩
theorem forth_179 (H : Mv F) (hG : (G LK).isSome = true) {pre post : List (Txt × D)} {nm w : Txt} {x y : D} {told pr po : List D} {v r : D} (hw : Lw w) (hn : ∀ p ∈ pre, p.1 ≠ nm) (hl : (pre ++ (nm, x) :: post).length ≤ 1000)
    (hp : ∀ p ∈ pre ++ post, p.2.flat = true) (hx : x.flat = true) (hy : y.flat = true)
    (hf : ∀ n μ, run (noLam G) F (n + 5) 150 [x, .str w, .tup told] μ = .ok y μ)
    (hk : pr.length = pre.length) (hl' : (pr ++ v :: po).length ≤ 1000) (hrow : ∀ d ∈ pr ++ r :: po, d.flat = true)
    (hb : ∀ n μ, run (noLam G) F (n + 5) 162 [x, .tup (.str w :: .tup [] :: .str nm :: told), v] μ = .ok r μ) :
    run G F (n + 11) 179 [rec (pre ++ (nm, x) :: post), .tup [.tup (.str w :: .tup [] :: .str nm :: told)], .tup (pr ++ v :: po)] μ = .ok (.tup (pr ++ r :: po)) μ := by
  have e0 := fun μ => known_155 (n := n) (μ := μ) H hG (w := w) (told := told) hw hn hl hp hx hy hf
  have e1 : ∀ μ, run G F (n + 10) (178 + LB) [rec (pre ++ (nm, x) :: post), .tup [], .tup (pr ++ v :: po), .fn 1000190 [.tup (.str w :: .tup [] :: .str nm :: told), .fn 176 []]] μ = .ok (.tup (pr ++ r :: po)) μ := fun μ => by
    have a1 := leaf_176 (G := noLam G) (F := F) (n := n + 5) (μ := μ) H.h131 H.h134 H.h176 (w := w) (told := told) (post := post) hw hn hk hl' (hb (n + 1) μ)
    have a2 := lam_190 (G := noLam G) (F := F) (μ := μ) H.l190 a1
    have a3 := row_178 (G := noLam G) (F := F) (μ := μ) H.h178 a2
    rw [callL_run H.n178 hG, a3, within_ok (show (D.tup (pr ++ r :: po)).flat = true from (flatL_all _).mpr hrow)]
  generalize rec (pre ++ (nm, x) :: post) = r0 at e0 e1 ⊢
  generalize rec (pre ++ (nm, y) :: post) = r1 at e0
  generalize hmv : told = tl at e0 e1 ⊢
  generalize pr ++ v :: po = row at e1 ⊢
  generalize pr ++ r :: po = res at e1 ⊢
  have hlb : 178 + LB = 1000178 := rfl
  refine wp_to (run_wp H.h179 rfl rfl ?_)
  show (exSs G (run G F (n + 10)) b179 [some r0, some (.tup [.tup (.str w :: .tup [] :: .str nm :: tl)]), some (.tup row), none, none, none] μ).wp _ _ _ _
  unfold b179
  have hz : ∀ μ, itemsD .zip2 μ [.lst [r0, r1], .tup [.tup (.str w :: .tup [] :: .str nm :: tl)]] = some ([.tup [r0, .tup (.str w :: .tup [] :: .str nm :: tl)]], []) := fun _ => rfl
  have htg := fun d => tg127 (d := d) hw
  refine ss_step ?_; intro K hK
  solve_by_elim [evW, e0, hz]
  refine for_one ?_
  simp only [put_nm, put_tp, putL_n, putL_c, Option.bind_some, wipeR, List.set_cons_zero, List.set_cons_succ]
  refine ss_step ?_; intro K2 hK2
  solve_by_elim [evW, strOf_str, htg]
  simp only [hK2]
  refine ss_step ?_; intro K3 hK3
  solve_by_elim [evW, cap_c, cap_n, e1]
  simp only [hK3, hK]
  solve_by_elim [evW]
  try exact ⟨rfl, trivial⟩
end

local macro_rules | `(tactic| solve_by_elim [evV_o_addt_q_strd, $[$xs:term],*]) => `(tactic| (try simp only [ss_n, ss_c, s_e, s_r, s_rN, s_a, s_i, s_x, s_p, s_b, s_c, s_f, s_w, v_var, v_con, v_glo, v_bin, v_neg, v_cmp, v_cmp2, v_and, v_or, v_not, v_ite, v_tup, v_lstT, v_lstF, v_cat, v_idx, v_lrep, v_slc, v_call, v_bi, v_me, v_comp, turnC_wp, c_n, c_s, es_n, es_c, eo_n, eo_s, t_var, t_con, t_cm, t_cm2, t_an, t_or', t_no, t_bi, t_call, t_idx, v_dictP, v_dictL, v_mlst, v_zipL, v_fnv, v_tget, v_callv, fnAt_fn, v_callL, cap_n, cap_c, s_sl, t_callv, v_new, v_fld, v_meth, s_sf, s_af, t_fld, t_meth, put_nm, put_tp, putL_n, putL_c, Option.bind_some, ofo_some, ofo_none, ofoE_some, ofoE_none, ofo_ite, ofo_map, ofo_bind, o_add, o_adds, o_addl, o_sub, o_mul, o_muls, o_mult, l_rep, c_is, c_nis, is_bl, o_fdiv, o_mod, c_lt, c_le, c_gt, c_ge, c_eq, c_ne, c_in, c_nin, q_int, tr_bl, x_tup, x_lst, intOf_int, b_isin, k_ii, k_bi, k_si, k_ss, k_is, k_tt, k_ti, k_ts, o_pow, i_r1, i_r2, i_tup, i_lst, i_en, b_len, b_lenl, b_tup, tup_lst, b_lst, b_int, b_inti, b_trg, b_lrg, b_min, atZ0, atZ1, atZ2, ixZ0, ixZ1, ixZ2, List.length_set, wp_ok, List.getElem?_cons_zero, List.getElem?_cons_succ, List.set_cons_zero, List.set_cons_succ, wipeR, List.length_cons, List.length_nil, List.map_cons, List.map_nil, List.replicate_succ, List.replicate_zero, List.cons_append, List.nil_append, decide_eq_true_eq, beq_iff_eq, Bool.not_eq_true', Bool.true_eq_false, and_self, Nat.zero_le, lim1, lim2, lim3, lim4, lim5, decide_true, decide_false, Bool.not_true, Bool.not_false, ite_true, ite_false, if_true, if_false, Bool.false_eq_true, $[$xs:term],*]))
/-! what the changes do -/
theorem in_tupM {μ : Mu} {l : List Txt} {s : Txt} : inD μ (.str s) (.tup (l.map .str)) = some (l.contains s) := by
  unfold inD
  have hf : D.flatL (l.map D.str) = true := flatL_map fun _ _ => rfl
  show (if (D.str s).flat && D.flatL (l.map D.str) && decide ((D.str s).depth ≤ 64) then some ((l.map D.str).any fun x => x.eqv (.str s)) else none) = _
  rw [hf, any_str]
  rfl
theorem slS {μ : Mu} {s : Txt} {i : Int} (h0 : 0 ≤ i) (h : s.length ≤ 1000) : slcD μ (.str s) none (some i) = some (.str (s.take i.toNat)) := by
  show (if s.length ≤ lim then some (D.str (cutL s none (some i))) else none) = _
  rw [if_pos (by rw [lim_val]; omega)]
  have e : i = ((i.toNat : Nat) : Int) := by omega
  rw [e, cut_take, Int.toNat_natCast]
theorem k_bb {μ : Mu} {b : Bool} : kindIs μ .bool (.bl b) = some true := rfl
theorem wholeI {a b i : Int} (h1 : a ≤ i) (h2 : i ≤ b) : wholeB a b (.int i) = true := by
  show (decide (a ≤ i) && decide (i ≤ b)) = true
  rw [decide_eq_true h1, decide_eq_true h2]
  rfl
theorem atZ3 {α : Type} {a b c d : α} {l : List α} : atZ (a :: b :: c :: d :: l) 3 = some d := atZ_nat (k := 3) rfl
theorem atZ4 {α : Type} {a b c d e : α} {l : List α} : atZ (a :: b :: c :: d :: e :: l) 4 = some e := atZ_nat (k := 4) rfl
theorem atZ5 {α : Type} {a b c d e f : α} {l : List α} : atZ (a :: b :: c :: d :: e :: f :: l) 5 = some f := atZ_nat (k := 5) rfl
section
variable {G : Nat → Option D} {F : Nat → Option Fn} {n : Nat} {μ : Mu}
theorem wh (H : Mv F) {i a b : Int} (h1 : a ≤ i) (h2 : i ≤ b) : run G F (n + 1) 23 [.int i, .int a, .int b] μ = .ok (.bl true) μ := by
  rw [whole_23 H.h23 (.gd (gd_int i)), wholeI h1 h2]
theorem len_149 (H : Mv F) (g121 : G 121 = some (.int 1000000000)) {old new : Int} {near : Bool} (h1 : old ≤ new) (h2 : new ≤ 1000000000) :
    run G F (n + 3) 149 [.tup [.str wTxt, .int old], .tup [.int new, .bl near]] μ = .ok (.tup [.str wTxt, .int new]) μ := by
  refine wp_to (run_wp H.h149 rfl rfl ?_)
  show (exSs G (run G F (n + 2)) b149 [some (.tup [.str wTxt, .int old]), some (.tup [.int new, .bl near]), none, none] μ).wp _ _ _ _
  unfold b149
  have e1 : eqD μ (.str wTxt) (.str wTxt) = some true := rfl
  have w1 := wh (G := G) (n := n + 1) (μ := μ) H h1 h2
  have m1 := must_130 (G := G) (n := n + 1) (μ := μ) H.h130
  refine ss_step ?_; intro K hK
  solve_by_elim [evW]
  simp only [hK]
  refine ss_step ?_; intro K2 hK2
  solve_by_elim [evV_q_strd, e1, w1, g121, k_bb, m1]
  simp only [hK2]
  solve_by_elim [evW]
  try exact ⟨rfl, trivial⟩
theorem form_longer (H : Mv F) (g121 : G 121 = some (.int 1000000000)) {old new : Int} {near : Bool} (h1 : old ≤ new) (h2 : new ≤ 1000000000) :
    run G F (n + 4) 150 [.tup [.str wTxt, .int old], .str wLonger, .tup [.int new, .bl near]] μ = .ok (.tup [.str wTxt, .int new]) μ := by
  refine wp_to (run_wp H.h150 rfl rfl ?_)
  show (exSs G (run G F (n + 3)) b150 [some (.tup [.str wTxt, .int old]), some (.str wLonger), some (.tup [.int new, .bl near])] μ).wp _ _ _ _
  unfold b150
  have e1 : eqD μ (.str wLonger) (.str wMany) = some false := rfl
  have e2 : eqD μ (.str wTxt) (.str wLst) = some false := rfl
  have e3 : eqD μ (.str wLonger) (.str wScale) = some false := rfl
  have e4 : eqD μ (.str wLonger) (.str wMore) = some false := rfl
  have w1 := len_149 (G := G) (n := n) (μ := μ) (near := near) H g121 h1 h2
  solve_by_elim [evV_q_strd, e1, e2, e3, e4, w1]
  try exact ⟨rfl, trivial⟩
theorem more_148 (H : Mv F) {ns : List Txt} {k : Nat} {new : Txt} {inst : D} (hk : k ≤ ns.length) (hl : ns.length ≤ 1000) (hi : inst = .non ∨ ∃ s ∈ ns, inst = .str s) :
    run G F (n + 3) 148 [.tup [.str wCho, .tup (ns.map .str)], .tup [.int k, .str new, inst]] μ = .ok (.tup [.str wCho, .tup ((ns.take k ++ [new] ++ ns.drop k).map .str)]) μ := by
  refine wp_to (run_wp H.h148 rfl rfl ?_)
  show (exSs G (run G F (n + 2)) b148 [some (.tup [.str wCho, .tup (ns.map .str)]), some (.tup [.int k, .str new, inst]), none, none, none] μ).wp _ _ _ _
  unfold b148
  have e1 : eqD μ (.str wCho) (.str wCho) = some true := rfl
  have m1 := must_130 (G := G) (n := n + 1) (μ := μ) H.h130
  have p1 := put_133 (G := G) (n := n) (μ := μ) H.h133 H.h130 H.h23 (l := ns.map .str) (k := k) (x := .str new) (by rw [List.length_map]; exact hk) (by rw [List.length_map]; omega)
  rw [← List.map_take, ← List.map_drop] at p1
  rw [show (ns.take k).map D.str ++ [D.str new] ++ (ns.drop k).map D.str = (ns.take k ++ [new] ++ ns.drop k).map D.str by rw [List.map_append, List.map_append]; rfl] at p1
  generalize (ns.take k ++ [new] ++ ns.drop k).map D.str = res at p1 ⊢
  generalize hkk : (k : Int) = kk at p1 ⊢
  refine ss_step ?_; intro K hK
  solve_by_elim [evW]
  simp only [hK]
  refine ss_step ?_; intro K2 hK2
  rcases hi with rfl | ⟨s, hs, rfl⟩
  · solve_by_elim [evV_q_strd, e1, isN, m1]
    simp only [hK2]
    solve_by_elim [evW, p1]
    try exact ⟨rfl, trivial⟩
  · have hc : ns.contains s = true := by simpa using hs
    have e5 := in_tupM (μ := μ) (l := ns) (s := s)
    rw [hc] at e5
    have e6 : isD (.str s) .non = some false := rfl
    solve_by_elim [evV_q_strd, e1, e6, e5, m1]
    simp only [hK2]
    solve_by_elim [evW, p1]
    try exact ⟨rfl, trivial⟩
theorem form_more (H : Mv F) {ns : List Txt} {k : Nat} {new : Txt} {inst : D} (hk : k ≤ ns.length) (hl : ns.length ≤ 1000) (hi : inst = .non ∨ ∃ s ∈ ns, inst = .str s) :
    run G F (n + 4) 150 [.tup [.str wCho, .tup (ns.map .str)], .str wMore, .tup [.int k, .str new, inst]] μ = .ok (.tup [.str wCho, .tup ((ns.take k ++ [new] ++ ns.drop k).map .str)]) μ := by
  have w1 := more_148 (G := G) (n := n) (μ := μ) H (new := new) hk hl hi
  generalize (ns.take k ++ [new] ++ ns.drop k).map D.str = res at w1 ⊢
  generalize hkk : (k : Int) = kk at w1 ⊢
  generalize hnn : ns.map D.str = nn at w1 ⊢
  refine wp_to (run_wp H.h150 rfl rfl ?_)
  show (exSs G (run G F (n + 3)) b150 [some (.tup [.str wCho, .tup nn]), some (.str wMore), some (.tup [.int kk, .str new, inst])] μ).wp _ _ _ _
  unfold b150
  have e1 : eqD μ (.str wMore) (.str wMany) = some false := rfl
  have e2 : eqD μ (.str wCho) (.str wLst) = some false := rfl
  have e3 : eqD μ (.str wMore) (.str wScale) = some false := rfl
  have e4 : eqD μ (.str wMore) (.str wMore) = some true := rfl
  solve_by_elim [evV_q_strd, e1, e2, e3, e4, w1]
  try exact ⟨rfl, trivial⟩
theorem form_list (H : Mv F) {x m y : D} {w : Txt} {told : List D} (hw : eqD μ (.str w) (.str wMany) = some false) (h : run G F (n + 1) 150 [x, .str w, .tup told] μ = .ok y μ) :
    run G F (n + 2) 150 [.tup [.str wLst, x, m], .str w, .tup told] μ = .ok (.tup [.str wLst, y, m]) μ := by
  refine wp_to (run_wp H.h150 rfl rfl ?_)
  show (exSs G (run G F (n + 1)) b150 [some (.tup [.str wLst, x, m]), some (.str w), some (.tup told)] μ).wp _ _ _ _
  unfold b150
  have e2 : eqD μ (.str wLst) (.str wLst) = some true := rfl
  solve_by_elim [evV_q_strd, hw, e2, h]
  try exact ⟨rfl, trivial⟩
theorem form_many (H : Mv F) (g122 : G 122 = some (.tup [.str wNum, .str wCho, .str wTxt])) {h0 : Txt} {b : D} {m : Int} (hh : h0 = wNum ∨ h0 = wCho ∨ h0 = wTxt) :
    run G F (n + 2) 150 [.tup [.str h0, b], .str wMany, .tup [.int m]] μ = .ok (.tup [.str wLst, .tup [.str h0, b], .int m]) μ := by
  refine wp_to (run_wp H.h150 rfl rfl ?_)
  show (exSs G (run G F (n + 1)) b150 [some (.tup [.str h0, b]), some (.str wMany), some (.tup [.int m])] μ).wp _ _ _ _
  unfold b150
  have e1 : eqD μ (.str wMany) (.str wMany) = some true := rfl
  have m1 := must_130 (G := G) (n := n) (μ := μ) H.h130
  have e2 : inD μ (.str h0) (.tup [.str wNum, .str wCho, .str wTxt]) = some true := by
    rcases hh with rfl | rfl | rfl <;> rfl
  have e3 : binD .add μ (.tup [.str wLst, .tup [.str h0, b]]) (.tup [.int m]) = some (.tup [.str wLst, .tup [.str h0, b], .int m]) := addt (by simp)
  solve_by_elim [evV_o_addt_q_strd, e1, e2, g122, m1, e3]
  try exact ⟨rfl, trivial⟩
end

local macro_rules | `(tactic| solve_by_elim [evV_b_len_q_int_q_strd, $[$xs:term],*]) => `(tactic| (try simp only [ss_n, ss_c, s_e, s_r, s_rN, s_a, s_i, s_x, s_p, s_b, s_c, s_f, s_w, v_var, v_con, v_glo, v_bin, v_neg, v_cmp, v_cmp2, v_and, v_or, v_not, v_ite, v_tup, v_lstT, v_lstF, v_cat, v_idx, v_lrep, v_slc, v_call, v_bi, v_me, v_comp, turnC_wp, c_n, c_s, es_n, es_c, eo_n, eo_s, t_var, t_con, t_cm, t_cm2, t_an, t_or', t_no, t_bi, t_call, t_idx, v_dictP, v_dictL, v_mlst, v_zipL, v_fnv, v_tget, v_callv, fnAt_fn, v_callL, cap_n, cap_c, s_sl, t_callv, v_new, v_fld, v_meth, s_sf, s_af, t_fld, t_meth, put_nm, put_tp, putL_n, putL_c, Option.bind_some, ofo_some, ofo_none, ofoE_some, ofoE_none, ofo_ite, ofo_map, ofo_bind, o_add, o_adds, o_addt, o_addl, o_sub, o_mul, o_muls, o_mult, l_rep, c_is, c_nis, is_bl, o_fdiv, o_mod, c_lt, c_le, c_gt, c_ge, c_eq, c_ne, c_in, c_nin, tr_bl, x_tup, x_lst, intOf_int, b_isin, k_ii, k_bi, k_si, k_ss, k_is, k_tt, k_ti, k_ts, o_pow, i_r1, i_r2, i_tup, i_lst, i_en, b_lenl, b_tup, tup_lst, b_lst, b_int, b_inti, b_trg, b_lrg, b_min, atZ0, atZ1, atZ2, ixZ0, ixZ1, ixZ2, List.length_set, wp_ok, List.getElem?_cons_zero, List.getElem?_cons_succ, List.set_cons_zero, List.set_cons_succ, wipeR, List.length_cons, List.length_nil, List.map_cons, List.map_nil, List.replicate_succ, List.replicate_zero, List.cons_append, List.nil_append, decide_eq_true_eq, beq_iff_eq, Bool.not_eq_true', Bool.true_eq_false, and_self, Nat.zero_le, lim1, lim2, lim3, lim4, lim5, decide_true, decide_false, Bool.not_true, Bool.not_false, ite_true, ite_false, if_true, if_false, Bool.false_eq_true, $[$xs:term],*]))
/-! values along the changes -/
theorem atZ6 {α : Type} {a b c d e f g : α} {l : List α} : atZ (a :: b :: c :: d :: e :: f :: g :: l) 6 = some g := atZ_nat (k := 6) rfl
/-- short plain worths: what the laws draw -/
inductive Lf : D → Prop
  | non : Lf .non
  | str {s : Txt} (h : s.length ≤ 1000) : Lf (.str s)
  | int {i : Int} : Lf (.int i)
theorem Lf.flat {d : D} (h : Lf d) : d.flat = true := by cases h <;> rfl
theorem Lf.depth {d : D} (h : Lf d) : d.depth = 0 := by cases h <;> rfl
/-- a thing ahead of a longer text -/
def longR (old : Int) (near : Bool) (s : Txt) : D := if (s.length : Int) ≤ old then .str s else if near then .str (s.take old.toNat) else .non
/-- the one thing, or none -/
def manyR : List D → D
  | [t] => t
  | _ => .non
def moreR (new : Txt) (inst : D) (s : Txt) : D := if s = new then inst else .str s
section
variable {G : Nat → Option D} {F : Nat → Option Fn} {n : Nat} {μ : Mu}
theorem back_longer (h161 : F 161 = some f161) {old new : Int} {near : Bool} {p nm : D} {s : Txt} (h0 : 0 ≤ old) (hs : s.length ≤ 1000) :
    run G F (n + 1) 161 [.tup [.str wTxt, .int old], .tup [.str wLonger, p, nm, new', .bl near], .str s] μ = .ok (longR old near s) μ := by
  refine wp_to (run_wp h161 rfl rfl ?_)
  show (exSs G (run G F n) b161 [some (.tup [.str wTxt, .int old]), some (.tup [.str wLonger, p, nm, new', .bl near]), some (.str s)] μ).wp _ _ _ _
  unfold b161
  have e3 : eqD μ (.str wLonger) (.str wScale) = some false := rfl
  have e4 : eqD μ (.str wLonger) (.str wMore) = some false := rfl
  have e5 := len_str (μ := μ) hs
  have e6 := slS (μ := μ) h0 hs
  have hres : longR old near s = if (s.length : Int) ≤ old then .str s else if near then .str (s.take old.toNat) else .non := rfl
  generalize longR old near s = res at hres ⊢
  generalize hkk : (s.length : Int) = kk at e5 hres
  refine ss_step ?_; intro K hK
  solve_by_elim [evV_q_strd, e3]
  simp only [hK]
  refine ss_step ?_; intro K2 hK2
  solve_by_elim [evV_q_strd, e4]
  simp only [hK2]
  refine ss_step ?_; intro K3 hK3
  by_cases hc : kk ≤ old
  · rw [if_pos hc] at hres
    solve_by_elim [evW, e5, hc, hres]
    try exact ⟨rfl, trivial⟩
  · rw [if_neg hc] at hres
    solve_by_elim [evW, e5, hc]
    simp only [hK3]
    cases near with
    | true => 
      rw [if_pos rfl] at hres
      solve_by_elim [evW, atZ4, tr_bl, e6, hres]
      try exact ⟨rfl, trivial⟩
    | false => 
      rw [if_neg (by decide)] at hres
      solve_by_elim [evW, atZ4, tr_bl, e6, hres]
      try exact ⟨rfl, trivial⟩
theorem back_more (h161 : F 161 = some f161) {x p nm k inst : D} {new s : Txt} :
    run G F (n + 1) 161 [x, .tup [.str wMore, p, nm, k, .str new, inst], .str s] μ = .ok (moreR new inst s) μ := by
  refine wp_to (run_wp h161 rfl rfl ?_)
  show (exSs G (run G F n) b161 [some x, some (.tup [.str wMore, p, nm, k, .str new, inst]), some (.str s)] μ).wp _ _ _ _
  unfold b161
  have e3 : eqD μ (.str wMore) (.str wScale) = some false := rfl
  have e4 : eqD μ (.str wMore) (.str wMore) = some true := rfl
  have hres : moreR new inst s = if s = new then inst else .str s := rfl
  generalize moreR new inst s = res at hres ⊢
  refine ss_step ?_; intro K hK
  solve_by_elim [evV_q_strd, e3]
  simp only [hK]
  refine ss_step ?_; intro K2 hK2
  by_cases hc : s = new
  · have e7 : eqD μ (.str s) (.str new) = some true := by rw [q_strd, decide_eq_true hc]
    rw [if_pos hc] at hres
    solve_by_elim [evV_q_strd, e4, atZ4, atZ5, e7, hres]
    try exact ⟨rfl, trivial⟩
  · have e7 : eqD μ (.str s) (.str new) = some false := by rw [q_strd, decide_eq_false hc]
    rw [if_neg hc] at hres
    solve_by_elim [evV_q_strd, e4, atZ4, atZ5, e7, hres]
    try exact ⟨rfl, trivial⟩
theorem forth_159 (h159 : F 159 = some f159) {w : Txt} {l : List D} {t : D} (hw : eqD μ (.str w) (.str wScale) = some false) :
    run G F (n + 1) 159 [.tup (.str w :: l), t] μ = .ok t μ := by
  refine wp_to (run_wp h159 rfl rfl ?_)
  show (exSs G (run G F n) b159 [some (.tup (.str w :: l)), some t] μ).wp _ _ _ _
  unfold b159
  solve_by_elim [evV_q_strd, hw]
  try exact ⟨rfl, trivial⟩
theorem cf_one (H : Mv F) {h0 w : Txt} {b : D} {l : List D} {t : D} (hh : eqD μ (.str h0) (.str wLst) = some false) (hm : eqD μ (.str w) (.str wMany) = some false) (hw : eqD μ (.str w) (.str wScale) = some false) :
    run G F (n + 2) 162 [.tup [.str h0, b], .tup (.str w :: l), t] μ = .ok t μ := by
  refine wp_to (run_wp H.h162 rfl rfl ?_)
  show (exSs G (run G F (n + 1)) b162 [some (.tup [.str h0, b]), some (.tup (.str w :: l)), some t, none] μ).wp _ _ _ _
  unfold b162
  solve_by_elim [evV_q_strd, hm, hh, forth_159 (G := G) (n := n) (μ := μ) H.h159 hw]
  try exact ⟨rfl, trivial⟩
theorem cf_list (H : Mv F) {w : Txt} {x m : D} {l ts : List D} (hl : ts.length ≤ 1000) (hm : eqD μ (.str w) (.str wMany) = some false) (hw : eqD μ (.str w) (.str wScale) = some false) :
    run G F (n + 2) 162 [.tup [.str wLst, x, m], .tup (.str w :: l), .tup ts] μ = .ok (.tup ts) μ := by
  refine wp_to (run_wp H.h162 rfl rfl ?_)
  show (exSs G (run G F (n + 1)) b162 [some (.tup [.str wLst, x, m]), some (.tup (.str w :: l)), some (.tup ts), none] μ).wp _ _ _ _
  unfold b162
  have e2 : eqD μ (.str wLst) (.str wLst) = some true := rfl
  have w1 := fun t => forth_159 (G := G) (n := n) (μ := μ) (l := l) (t := t) H.h159 hw
  solve_by_elim [evV_q_strd, hm, e2]
  rw [comp_pure (f := fun d => some d) _ _ rfl (by rw [List.length_nil, lim_val]; omega) (fun d hd => wp_to (by solve_by_elim [evW, w1])), List.nil_append, List.filterMap_some]
  solve_by_elim [evW]
  try exact ⟨rfl, trivial⟩
theorem cf_many (H : Mv F) {x t : D} {l : List D} : run G F (n + 1) 162 [x, .tup (.str wMany :: l), t] μ = .ok (.tup [t]) μ := by
  refine wp_to (run_wp H.h162 rfl rfl ?_)
  show (exSs G (run G F n) b162 [some x, some (.tup (.str wMany :: l)), some t, none] μ).wp _ _ _ _
  unfold b162
  have e1 : eqD μ (.str wMany) (.str wMany) = some true := rfl
  solve_by_elim [evV_q_strd, e1]
  try exact ⟨rfl, trivial⟩
theorem cb_many (H : Mv F) {x : D} {l ts : List D} : run G F (n + 1) 163 [x, .tup (.str wMany :: l), .tup ts] μ = .ok (manyR ts) μ := by
  refine wp_to (run_wp H.h163 rfl rfl ?_)
  show (exSs G (run G F n) b163 [some x, some (.tup (.str wMany :: l)), some (.tup ts), none, none] μ).wp _ _ _ _
  unfold b163
  have e1 : eqD μ (.str wMany) (.str wMany) = some true := rfl
  have hlen : biD .len μ [.tup ts] = some (.int ts.length) := rfl
  refine ss_step ?_; intro K hK
  match ts, hlen with
  | [], hlen =>
    have e2 : eqD μ (.int 0) (.int 1) = some false := rfl
    have hlen : biD .len μ [.tup []] = some (.int 0) := rfl
    have hres : manyR [] = .non := rfl
    rw [hres]
    solve_by_elim [evV_b_len_q_int_q_strd, e1, hlen, e2]
    try exact ⟨rfl, trivial⟩
  | [t], hlen =>
    have e2 : eqD μ (.int 1) (.int 1) = some true := rfl
    have hlen : biD .len μ [.tup [t]] = some (.int 1) := rfl
    have hres : manyR [t] = t := rfl
    rw [hres]
    solve_by_elim [evV_b_len_q_int_q_strd, e1, hlen, e2]
    try exact ⟨rfl, trivial⟩
  | a :: b :: r, hlen =>
    have e2 : eqD μ (.int (((a :: b :: r).length : Nat) : Int)) (.int 1) = some false := by
      rw [q_int]
      refine congrArg some (beq_eq_false_iff_ne.mpr ?_)
      rw [List.length_cons, List.length_cons]
      omega
    generalize hkk : (((a :: b :: r).length : Nat) : Int) = kk at hlen e2
    have hres : manyR (a :: b :: r) = .non := rfl
    generalize a :: b :: r = l2 at hlen hres ⊢
    rw [hres]
    solve_by_elim [evV_b_len_q_int_q_strd, e1, hlen, e2]
    try exact ⟨rfl, trivial⟩
theorem cb_one (H : Mv F) {h0 w : Txt} {b : D} {l : List D} {t r : D} (hh : eqD μ (.str h0) (.str wLst) = some false) (hm : eqD μ (.str w) (.str wMany) = some false) (h : run G F (n + 1) 161 [.tup [.str h0, b], .tup (.str w :: l), t] μ = .ok r μ) :
    run G F (n + 2) 163 [.tup [.str h0, b], .tup (.str w :: l), t] μ = .ok r μ := by
  refine wp_to (run_wp H.h163 rfl rfl ?_)
  show (exSs G (run G F (n + 1)) b163 [some (.tup [.str h0, b]), some (.tup (.str w :: l)), some t, none, none] μ).wp _ _ _ _
  unfold b163
  refine ss_step ?_; intro K hK
  solve_by_elim [evV_q_strd, hm]
  simp only [hK]
  solve_by_elim [evV_q_strd, hh, h]
  try exact ⟨rfl, trivial⟩
/-- all things read, or none -/
def allR (rs : List D) : D := if D.non ∈ rs then .non else .tup rs
theorem cb_list (H : Mv F) {w : Txt} {x m : D} {l ts : List D} {f : D → D} (hl : ts.length ≤ 1000) (hm : eqD μ (.str w) (.str wMany) = some false) (hf : ∀ t ∈ ts, Lf (f t)) (h : ∀ t ∈ ts, run G F (n + 1) 161 [x, .tup (.str w :: l), t] μ = .ok (f t) μ) :
    run G F (n + 2) 163 [.tup [.str wLst, x, m], .tup (.str w :: l), .tup ts] μ = .ok (allR (ts.map f)) μ := by
  refine wp_to (run_wp H.h163 rfl rfl ?_)
  show (exSs G (run G F (n + 1)) b163 [some (.tup [.str wLst, x, m]), some (.tup (.str w :: l)), some (.tup ts), none, none] μ).wp _ _ _ _
  unfold b163
  have e2 : eqD μ (.str wLst) (.str wLst) = some true := rfl
  have hin : inD μ .non (.tup (ts.map f)) = some (decide (D.non ∈ ts.map f)) := by
    unfold inD
    have hfl : D.flatL (ts.map f) = true := flatL_map fun t ht => (hf t ht).flat
    show (if D.non.flat && D.flatL (ts.map f) && decide (D.non.depth ≤ 64) then some ((ts.map f).any fun x => x.eqv .non) else none) = _
    rw [hfl, if_pos (show (D.non.flat && true && decide (D.non.depth ≤ 64)) = true from rfl)]
    congr 1
    rw [Bool.eq_iff_iff, List.any_eq_true, decide_eq_true_iff]
    constructor
    · rintro ⟨d, hd, he⟩
      obtain ⟨t, ht, rfl⟩ := List.mem_map.mp hd
      cases hq : f t with
      | non => rw [hq] at hd; exact hd
      | _ => rw [hq] at he; simp [D.eqv] at he
    · exact fun h => ⟨_, h, rfl⟩
  have hres : allR (ts.map f) = if D.non ∈ ts.map f then .non else .tup (ts.map f) := rfl
  generalize hrr : allR (ts.map f) = res at hres ⊢
  refine ss_step ?_; intro K hK
  solve_by_elim [evV_q_strd, hm]
  simp only [hK]
  refine ss_step ?_; intro K2 hK2
  solve_by_elim [evV_q_strd, e2]
  simp only [hK2]
  refine ss_step ?_; intro K3 hK3
  solve_by_elim [evW]
  have hfm : ts.filterMap (fun d => some (f d)) = ts.map f := by
    induction ts with
    | nil => rfl
    | cons a r ih => rw [List.filterMap_cons, List.map_cons]; simp [List.filterMap_eq_map]
  rw [comp_pure (f := fun d => some (f d)) _ _ rfl (by rw [List.length_nil, lim_val]; omega) (fun d hd => wp_to (by solve_by_elim [evW, h d hd])), List.nil_append, hfm]
  solve_by_elim [evW]
  simp only [hK3]
  refine ss_step ?_; intro K4 hK4
  by_cases hc : D.non ∈ ts.map f
  · rw [if_pos hc] at hres
    rw [decide_eq_true hc] at hin
    solve_by_elim [evW, hin, hres]
    try exact ⟨rfl, trivial⟩
  · rw [if_neg hc] at hres
    rw [decide_eq_false hc] at hin
    solve_by_elim [evW, hin]
    simp only [hK4]
    solve_by_elim [evW, hres]
    try exact ⟨rfl, trivial⟩
end

local macro_rules | `(tactic| solve_by_elim [evV_o_pow, $[$xs:term],*]) => `(tactic| (try simp only [ss_n, ss_c, s_e, s_r, s_rN, s_a, s_i, s_x, s_p, s_b, s_c, s_f, s_w, v_var, v_con, v_glo, v_bin, v_neg, v_cmp, v_cmp2, v_and, v_or, v_not, v_ite, v_tup, v_lstT, v_lstF, v_cat, v_idx, v_lrep, v_slc, v_call, v_bi, v_me, v_comp, turnC_wp, c_n, c_s, es_n, es_c, eo_n, eo_s, t_var, t_con, t_cm, t_cm2, t_an, t_or', t_no, t_bi, t_call, t_idx, v_dictP, v_dictL, v_mlst, v_zipL, v_fnv, v_tget, v_callv, fnAt_fn, v_callL, cap_n, cap_c, s_sl, t_callv, v_new, v_fld, v_meth, s_sf, s_af, t_fld, t_meth, put_nm, put_tp, putL_n, putL_c, Option.bind_some, ofo_some, ofo_none, ofoE_some, ofoE_none, ofo_ite, ofo_map, ofo_bind, o_add, o_adds, o_addt, o_addl, o_sub, o_mul, o_muls, o_mult, l_rep, c_is, c_nis, is_bl, o_fdiv, o_mod, c_lt, c_le, c_gt, c_ge, c_eq, c_ne, c_in, c_nin, q_int, q_strd, tr_bl, x_tup, x_lst, intOf_int, b_isin, k_ii, k_bi, k_si, k_ss, k_is, k_tt, k_ti, k_ts, i_r1, i_r2, i_tup, i_lst, i_en, b_len, b_lenl, b_tup, tup_lst, b_lst, b_int, b_inti, b_trg, b_lrg, b_min, atZ0, atZ1, atZ2, ixZ0, ixZ1, ixZ2, List.length_set, wp_ok, List.getElem?_cons_zero, List.getElem?_cons_succ, List.set_cons_zero, List.set_cons_succ, wipeR, List.length_cons, List.length_nil, List.map_cons, List.map_nil, List.replicate_succ, List.replicate_zero, List.cons_append, List.nil_append, decide_eq_true_eq, beq_iff_eq, Bool.not_eq_true', Bool.true_eq_false, and_self, Nat.zero_le, lim1, lim2, lim3, lim4, lim5, decide_true, decide_false, Bool.not_true, Bool.not_false, ite_true, ite_false, if_true, if_false, Bool.false_eq_true, $[$xs:term],*]))
/-! the law's state: begun, drawn from -/
def Sk (k : Nat) (μ μ' : Mu) : Prop := k < μ.length ∧ ∃ a b : Int, μ' = μ.set k (.lst [.int a, .int b]) ∧ 0 ≤ a ∧ 0 ≤ b ∧ b < 2147483647
theorem Sk.get {k : Nat} {μ μ' : Mu} (h : Sk k μ μ') : ∃ a b : Int, μ'[k]? = some (.lst [.int a, .int b]) ∧ 0 ≤ a ∧ 0 ≤ b ∧ b < 2147483647 := by
  obtain ⟨h1, a, b, rfl, h2⟩ := h
  exact ⟨a, b, List.getElem?_set_self h1, h2⟩
theorem Sk.other {k i : Nat} {μ μ' : Mu} (h : Sk k μ μ') (hi : i ≠ k) : μ'[i]? = μ[i]? := by
  obtain ⟨h1, a, b, rfl, _⟩ := h
  exact List.getElem?_set_ne fun e => hi e.symm
theorem Sk.len {k : Nat} {μ μ' : Mu} (h : Sk k μ μ') : μ'.length = μ.length := by
  obtain ⟨h1, a, b, rfl, _⟩ := h
  exact List.length_set ..
theorem set_idM {μ : Mu} {k : Nat} {c : Cell} (h : μ[k]? = some c) : μ.set k c = μ := by
  have h1 := (List.getElem?_eq_some_iff.mp h).1
  apply List.ext_getElem?
  intro i
  by_cases e : k = i
  · subst e; rw [List.getElem?_set_self h1, h]
  · rw [List.getElem?_set_ne e]
theorem Sk.trans {k : Nat} {μ μ1 μ2 : Mu} (h : Sk k μ μ1) (h' : Sk k μ1 μ2) : Sk k μ μ2 := by
  obtain ⟨h1, a, b, rfl, _⟩ := h
  obtain ⟨_, c, d, rfl, h2⟩ := h'
  exact ⟨h1, c, d, List.set_set .., h2⟩
theorem Sk.refl {k : Nat} {μ μ' : Mu} (h : Sk k μ μ') : Sk k μ' μ' := by
  obtain ⟨a, b, e, h2⟩ := h.get
  exact ⟨(List.getElem?_eq_some_iff.mp e).1, a, b, (set_idM e).symm, h2⟩
theorem Sk.push {k : Nat} {μ μ' : Mu} (h : Sk k μ μ') (X : Mu) : Sk k (μ ++ X) (μ' ++ X) := by
  obtain ⟨h1, a, b, rfl, h2⟩ := h
  exact ⟨by rw [List.length_append]; omega, a, b, (List.set_append_left _ _ h1).symm, h2⟩
theorem Sk.pop {k : Nat} {μ μ' X : Mu} (hk : k < μ.length) (h : Sk k (μ ++ X) μ') : ∃ μ3, μ' = μ3 ++ X ∧ Sk k μ μ3 := by
  obtain ⟨h1, a, b, rfl, h2⟩ := h
  exact ⟨_, List.set_append_left _ _ hk, hk, a, b, rfl, h2⟩
theorem Sk.fin {k : Nat} {μ μ1 μ3 X : Mu} {d : D} {Q : D → Mu → Prop} (h1 : Sk k μ μ1) (h3 : Sk k μ μ3) (hd : d.flat = true) (q : Q d μ3) : (Ev.fin μ1 (μ3 ++ X) d).wp Q := by
  have hl : μ3.length = μ1.length := h3.len.trans h1.len.symm
  refine fin_wp (S := [k]) ⟨by rw [List.length_append]; omega, fun i hi hS => ?_⟩ (fun i hi _ => ?_) hd ?_
  · have hne : i ≠ k := fun e => hS (by simp [e])
    rw [List.getElem?_append_left (by omega), h3.other hne, h1.other hne]
  · have : i = k := by simpa using hi
    subst this
    obtain ⟨a, b, e, _⟩ := h3.get
    exact ⟨_, by rw [List.getElem?_append_left (List.getElem?_eq_some_iff.mp e).1]; exact e, rfl⟩
  · rw [← hl, List.take_left]; exact q
theorem Sk.finL {k : Nat} {μ μ1 μ3 : Mu} {l : List D} {Q : D → Mu → Prop} (h1 : Sk k μ μ1) (h3 : Sk k μ μ3) (hd : D.flatL l = true) (q : Q (.lst l) μ3) : (Ev.fin μ1 (μ3 ++ [.lst l]) (.loc μ.length)).wp Q := by
  have hl : μ3.length = μ1.length := h3.len.trans h1.len.symm
  have hl1 : μ1.length = μ.length := h1.len
  refine fin_wpL (S := [k]) ⟨by rw [List.length_append]; omega, fun i hi hS => ?_⟩ (fun i hi _ => ?_) (by omega) (by rw [← hl1, ← hl]; exact push_get) hd ?_
  · have hne : i ≠ k := fun e => hS (by simp [e])
    rw [List.getElem?_append_left (by omega), h3.other hne, h1.other hne]
  · have : i = k := by simpa using hi
    subst this
    obtain ⟨a, b, e, _⟩ := h3.get
    exact ⟨_, by rw [List.getElem?_append_left (List.getElem?_eq_some_iff.mp e).1]; exact e, rfl⟩
  · rw [← hl, List.take_left]; exact q
section
variable {G : Nat → Option D} {F : Nat → Option Fn} {n : Nat} {μ : Mu}
theorem begin_181 (hF : F 181 = some f181) (cell : Int) : (run G F (n + 1) 181 [.int cell] μ).wp fun d μ' => d = .loc μ.length ∧ ∃ a b : Int, μ' = μ ++ [.lst [.int a, .int b]] ∧ 0 ≤ a ∧ 0 ≤ b ∧ b < 2147483647 := by
  refine run_wp hF rfl rfl ?_
  show (exSs G (run G F n) b181 [some (.int cell)] μ).wp _ _ _ _
  unfold b181
  have h1 : 0 ≤ cell % 2147483647 := Int.emod_nonneg _ (by decide)
  have h2 : cell % 2147483647 < 2147483647 := Int.emod_lt_of_pos _ (by decide)
  have hp : binD .pow μ (.int 10) (.int 18) = some (.int 1000000000000000000) := rfl
  have hlog : (2147483647 : Int).natAbs.log2 < 9000 := by decide
  have hz : (0 : Int) < 2147483647 := by decide
  by_cases hc : 1000000000000000000 ≤ cell
  · solve_by_elim [evV_o_pow, hp, hc, hlog, hz]
    exact ⟨by trivial, _, _, rfl, by omega, h1, h2⟩
  · solve_by_elim [evV_o_pow, hp, hc, hlog, hz]
    exact ⟨by trivial, _, _, rfl, by omega, h1, h2⟩
theorem draw_182 (hF : F 182 = some f182) {k : Nat} {m : Int} {μ1 : Mu} (h : Sk k μ μ1) (hm : 0 < m) (hl : m < 1000000) :
    (run G F (n + 1) 182 [.loc k, .int m] μ1).wp fun d μ' => ∃ r : Int, d = .int r ∧ 0 ≤ r ∧ r < m ∧ Sk k μ μ' := by
  obtain ⟨hk, a, b, rfl, ha, hb0, hb1⟩ := h
  have hg : ∀ {x : Cell}, (μ.set k x)[k]? = some x := List.getElem?_set_self hk
  refine run_wp hF rfl rfl ?_
  have hlog : m.natAbs.log2 < 9000 := log_s (by omega)
  show (exSs G (run G F n) b182 [some (.loc k), some (.int m), none, none] _).wp _ _ _ _
  unfold b182
  refine ss_step ?_; intro K hK
  by_cases hc : 0 < a
  · solve_by_elim [evW, x_loc hg, l_loc hg, hm, hlog, set_set, hc]
    exact ⟨_, rfl, Int.emod_nonneg _ (by omega), Int.emod_lt_of_pos _ hm, hk, _, _, rfl, Int.ediv_nonneg ha (by omega), hb0, hb1⟩
  · solve_by_elim [evW, x_loc hg, l_loc hg, set_set, hc]
    simp only [hK]
    refine ss_step ?_; intro K2 hK2
    have m1 := mul_ok (i := b) (j := 48271) (small_ok (by omega)) (small_ok (by omega))
    have l1 : (2147483647 : Int).natAbs.log2 < 9000 := by decide
    have l2 : (2147483629 : Int).natAbs.log2 < 9000 := by decide
    have l3 : (2147483587 : Int).natAbs.log2 < 9000 := by decide
    have l4 : (16 : Int).natAbs.log2 < 9000 := by decide
    solve_by_elim [evW, x_loc hg, l_loc hg, set_set, m1, l1]
    simp only [hK2]
    obtain ⟨y, hy⟩ : ∃ y : Int, y = (b * 48271 + 7919) % 2147483647 := ⟨_, rfl⟩
    rw [← hy]
    have hy0 : 0 ≤ y ∧ y < 2147483647 := by
      rw [hy]
      exact ⟨Int.emod_nonneg _ (by decide), Int.emod_lt_of_pos _ (by decide)⟩
    have m2 := mul_ok (i := y) (j := y) (small_ok (by omega)) (small_ok (by omega))
    have m3 := mul_ok (i := 69621) (j := y) (small_ok (by omega)) (small_ok (by omega))
    refine ss_step ?_; intro K3 hK3
    solve_by_elim [evW, x_loc hg, l_loc hg, set_set, m2, m3, l2]
    simp only [hK3]
    obtain ⟨z, hz⟩ : ∃ z : Int, z = (y * y + 69621 * y + 7) % 2147483629 := ⟨_, rfl⟩
    rw [← hz]
    have hz0 : 0 ≤ z ∧ z < 2147483629 := by
      rw [hz]
      exact ⟨Int.emod_nonneg _ (by decide), Int.emod_lt_of_pos _ (by decide)⟩
    have m4 := mul_ok (i := z) (j := 16807) (small_ok (by omega)) (small_ok (by omega))
    solve_by_elim [evW, x_loc hg, l_loc hg, set_set, m4, l3, l4, hm, hlog]
    exact ⟨_, rfl, Int.emod_nonneg _ (by omega), Int.emod_lt_of_pos _ hm, hk, _, _, rfl, ha, hz0.1, by omega⟩
end

/-! texts and names drawn -/
/-- a row of texts, shown or kept (but not at k) -/
def Tk (k : Nat) (μ : Mu) (t : D) (l : List D) : Prop := t = .lst l ∨ ∃ j, t = .loc j ∧ j ≠ k ∧ μ[j]? = some (.lst l)
theorem Tk.mv {k : Nat} {μ0 μ μ' : Mu} {t : D} {l : List D} (h : Tk k μ t l) (h1 : Sk k μ0 μ) (h2 : Sk k μ0 μ') : Tk k μ' t l := by
  rcases h with h | ⟨j, e, hj, hg⟩
  · exact .inl h
  · exact .inr ⟨j, e, hj, by rw [h2.other hj, ← h1.other hj]; exact hg⟩
theorem Tk.inS {k : Nat} {μ : Mu} {t : D} {l : List Txt} {s : Txt} (h : Tk k μ t (l.map .str)) : inD μ (.str s) t = some (l.contains s) := by
  rcases h with rfl | ⟨j, rfl, _, hg⟩
  · unfold inD
    have hf : D.flatL (l.map D.str) = true := flatL_map fun _ _ => rfl
    show (if (D.str s).flat && D.flatL (l.map D.str) && decide ((D.str s).depth ≤ 64) then some ((l.map D.str).any fun x => x.eqv (.str s)) else none) = _
    rw [hf, any_str]
    rfl
  · exact in_strs hg
theorem Tk.idx {k : Nat} {μ : Mu} {t : D} {l : List D} {i : Int} (h : Tk k μ t l) : idxD μ t (.int i) = atZ l i := by
  rcases h with rfl | ⟨j, rfl, _, hg⟩
  · rfl
  · exact x_loc hg
theorem Tk.len {k : Nat} {μ : Mu} {t : D} {l : List D} (h : Tk k μ t l) : biD .len μ [t] = some (.int l.length) := by
  rcases h with rfl | ⟨j, rfl, _, hg⟩
  · rfl
  · show ((lenD μ (.loc j)).map D.int) = _
    unfold lenD
    dsimp only
    rw [hg]
    rfl
theorem Tk.nil {k : Nat} {μ : Mu} {t : D} {l : List Txt} (h : Tk k μ t (l.map .str)) : eqD μ t (.lst []) = some (decide (l = [])) := by
  have key : ∀ a, seen μ a = .lst (l.map .str) → eqD μ a (.lst []) = some (decide (l = [])) := fun a ha => by
    unfold eqD
    rw [ha]
    have hf : (D.lst (l.map .str)).flat = true := flatL_map fun _ _ => rfl
    show (if (D.lst (l.map .str)).flat && (D.lst []).flat && decide (min (D.lst (l.map .str)).depth (D.lst []).depth ≤ 64) then some ((D.lst (l.map .str)).eqv (.lst [])) else _) = _
    rw [hf]
    have hd : (D.lst []).depth ≤ 64 := by decide
    rw [if_pos (show (true && (D.lst []).flat && decide (min (D.lst (l.map D.str)).depth (D.lst []).depth ≤ 64)) = true by
      rw [decide_eq_true (show min (D.lst (l.map D.str)).depth (D.lst []).depth ≤ 64 from Nat.le_trans (Nat.min_le_right _ _) hd)]; rfl)]
    cases l with
    | nil => rfl
    | cons a r => rfl
  rcases h with rfl | ⟨j, rfl, _, hg⟩
  · exact key _ rfl
  · refine key _ ?_
    show (match μ[j]? with | some (.lst l) => D.lst l | _ => .loc j) = _
    rw [hg]
def sgM : Txt := [32, 33, 34, 35, 36, 38, 39, 40, 41, 42, 43, 44, 45, 46, 47, 48, 49, 50, 51, 52, 53, 54, 55, 56, 57, 58, 59, 60, 61, 62, 63, 64, 65, 66, 67, 68, 69, 70, 71, 72, 73, 74, 75, 76, 77, 78, 79, 80, 81, 82, 83, 84, 85, 86, 87, 88, 89, 90, 91, 92, 93, 94, 95, 96, 97, 98, 99, 100, 101, 102, 103, 104, 105, 106, 107, 108, 109, 110, 111, 112, 113, 114, 115, 116, 117, 118, 119, 120, 121, 122, 123, 124, 125, 126]
section
variable {G : Nat → Option D} {F : Nat → Option Fn} {n : Nat} {μ : Mu}
theorem text_194 (hF : F 182 = some f182) (hL : F 194 = some f194) {k : Nat} {μ1 : Mu} (h : Sk k μ μ1) {m : Int} (h0 : 0 ≤ m) (h1 : m ≤ 1000) :
    (run G F (n + 2) 194 [.loc k, .int m] μ1).wp fun d μ' => ∃ s, d = .str s ∧ (s.length : Int) = m ∧ Sk k μ μ' := by
  refine run_wp hL rfl rfl ?_
  show (exSs G (run G F (n + 1)) b194 [some (.loc k), some (.int m), none, none] μ1).wp _ _ _ _
  unfold b194
  refine ss_step ?_; intro K hK; solve_by_elim [evW]
  (try simp only [hK])
  have e0 : meTy .join μ1 (.str []) = true := rfl
  solve_by_elim [evW, e0]
  rw [if_pos (by omega)]
  refine comp_wp _ (fun i acc μ' => i ≤ m.toNat ∧ ∃ cs : List Nat, acc = (cs.map fun c => ([c] : Txt)).map .str ∧ cs.length = i ∧ Sk k μ μ') 0 _ _ ⟨by omega, [], rfl, rfl, h⟩ (fun i acc μ' hI => ⟨rfl, fun _ => ?_⟩) ?_ ?_
  · obtain ⟨hi8, cs, rfl, hcs, _⟩ := hI
    rw [List.length_map, List.length_map, lim_val]; omega
  · rintro i d acc μ' hd ⟨hi8, cs, rfl, hcs, h4⟩
    obtain ⟨rfl, hi⟩ := rngL_get hd
    solve_by_elim [evW]
    refine Res.wp_mono (draw_182 hF h4 (by omega) (by decide)) fun d μ4 hd => ?_
    obtain ⟨z, rfl, hz0, hz1, h5⟩ := hd
    have hz : ((z.toNat : Nat) : Int) = z := by omega
    have hzl : z.toNat < sgM.length := by show z.toNat < 94; omega
    obtain ⟨c, hc⟩ : ∃ c, sgM[z.toNat]? = some c := ⟨_, List.getElem?_eq_getElem hzl⟩
    have e1 : idxD μ4 (.str sgM) (.int z) = some (.str [c]) := by
      rw [← hz]
      exact idx_str hc (by decide)
    unfold sgM at e1
    solve_by_elim [evW, e1]
    exact ⟨by omega, cs ++ [c], by rw [List.map_append, List.map_append]; rfl, by rw [List.length_append, hcs]; rfl, h5⟩
  · rintro acc μ' ⟨hi8, cs, rfl, hcs, h4⟩
    rw [rngL_len] at hcs hi8
    solve_by_elim [evW]
    rw [m_join (ss := cs.map fun c => [c]) rfl (by rw [sum_ones, List.length_nil, lim_val]; omega), joinT_nil, flat_ones]
    solve_by_elim [evW]
    exact ⟨cs, rfl, by omega, h4⟩
/-- a letter eight times -/
def oct (c : Nat) : Txt := List.replicate 8 c
theorem oct_nm {c : Nat} (h : 97 ≤ c ∧ c < 123) : Nm (oct c) := nm_of (show 0 < (oct c).length by rw [oct, List.length_replicate]; decide) (show (oct c).length ≤ 8 by rw [oct, List.length_replicate]; decide) fun x hx => by
  rw [oct, List.mem_replicate] at hx
  rw [hx.2]; exact h
theorem oct_inj : ∀ i j, i < 26 → j < 26 → oct (97 + i) = oct (97 + j) → i = j := fun i j _ _ e => by
  have := (List.cons.inj (show (97 + i) :: List.replicate 7 (97 + i) = (97 + j) :: List.replicate 7 (97 + j) from e)).1
  omega
theorem oct_flat {c : Nat} : (List.replicate 8 [c]).flatten = oct c := rfl
/-- the first letter that is free -/
theorem spare {ns : List Txt} (h : ns.length < 26) : ∃ s r, (az.filterMap fun c => if ns.contains (oct c) then none else some (D.str (oct c))) = .str s :: r ∧ Nm s ∧ s ∉ ns := by
  obtain ⟨j, hj, hn⟩ := hole ns 26 (fun i => oct (97 + i)) oct_inj h
  cases q : az.filterMap fun c => if ns.contains (oct c) then none else some (D.str (oct c)) with
  | nil =>
    rw [List.filterMap_eq_nil_iff] at q
    have := q (97 + j) (List.mem_of_getElem? (az_get j hj))
    rw [if_neg (by simpa using hn)] at this
    cases this
  | cons d r =>
    have hd : d ∈ az.filterMap fun c => if ns.contains (oct c) then none else some (D.str (oct c)) := by rw [q]; exact List.mem_cons_self
    obtain ⟨c, hc, e⟩ := List.mem_filterMap.mp hd
    by_cases hcn : ns.contains (oct c) = true
    · rw [if_pos hcn] at e; cases e
    · rw [if_neg hcn] at e
      cases e
      refine ⟨_, _, rfl, oct_nm ?_, by simpa using hcn⟩
      have : ∀ c ∈ az, 97 ≤ c ∧ c < 123 := by decide
      exact this c hc
end

local macro_rules | `(tactic| solve_by_elim [evV_o_adds_q_int, $[$xs:term],*]) => `(tactic| (try simp only [ss_n, ss_c, s_e, s_r, s_rN, s_a, s_i, s_x, s_p, s_b, s_c, s_f, s_w, v_var, v_con, v_glo, v_bin, v_neg, v_cmp, v_cmp2, v_and, v_or, v_not, v_ite, v_tup, v_lstT, v_lstF, v_cat, v_idx, v_lrep, v_slc, v_call, v_bi, v_me, v_comp, turnC_wp, c_n, c_s, es_n, es_c, eo_n, eo_s, t_var, t_con, t_cm, t_cm2, t_an, t_or', t_no, t_bi, t_call, t_idx, v_dictP, v_dictL, v_mlst, v_zipL, v_fnv, v_tget, v_callv, fnAt_fn, v_callL, cap_n, cap_c, s_sl, t_callv, v_new, v_fld, v_meth, s_sf, s_af, t_fld, t_meth, put_nm, put_tp, putL_n, putL_c, Option.bind_some, ofo_some, ofo_none, ofoE_some, ofoE_none, ofo_ite, ofo_map, ofo_bind, o_add, o_addt, o_addl, o_sub, o_mul, o_muls, o_mult, l_rep, c_is, c_nis, is_bl, o_fdiv, o_mod, c_lt, c_le, c_gt, c_ge, c_eq, c_ne, c_in, c_nin, q_strd, tr_bl, x_tup, x_lst, intOf_int, b_isin, k_ii, k_bi, k_si, k_ss, k_is, k_tt, k_ti, k_ts, o_pow, i_r1, i_r2, i_tup, i_lst, i_en, b_len, b_lenl, b_tup, tup_lst, b_lst, b_int, b_inti, b_trg, b_lrg, b_min, atZ0, atZ1, atZ2, ixZ0, ixZ1, ixZ2, List.length_set, wp_ok, List.getElem?_cons_zero, List.getElem?_cons_succ, List.set_cons_zero, List.set_cons_succ, wipeR, List.length_cons, List.length_nil, List.map_cons, List.map_nil, List.replicate_succ, List.replicate_zero, List.cons_append, List.nil_append, decide_eq_true_eq, beq_iff_eq, Bool.not_eq_true', Bool.true_eq_false, and_self, Nat.zero_le, lim1, lim2, lim3, lim4, lim5, decide_true, decide_false, Bool.not_true, Bool.not_false, ite_true, ite_false, if_true, if_false, Bool.false_eq_true, $[$xs:term],*]))
local macro_rules | `(tactic| solve_by_elim [evV_o_muls, $[$xs:term],*]) => `(tactic| (try simp only [ss_n, ss_c, s_e, s_r, s_rN, s_a, s_i, s_x, s_p, s_b, s_c, s_f, s_w, v_var, v_con, v_glo, v_bin, v_neg, v_cmp, v_cmp2, v_and, v_or, v_not, v_ite, v_tup, v_lstT, v_lstF, v_cat, v_idx, v_lrep, v_slc, v_call, v_bi, v_me, v_comp, turnC_wp, c_n, c_s, es_n, es_c, eo_n, eo_s, t_var, t_con, t_cm, t_cm2, t_an, t_or', t_no, t_bi, t_call, t_idx, v_dictP, v_dictL, v_mlst, v_zipL, v_fnv, v_tget, v_callv, fnAt_fn, v_callL, cap_n, cap_c, s_sl, t_callv, v_new, v_fld, v_meth, s_sf, s_af, t_fld, t_meth, put_nm, put_tp, putL_n, putL_c, Option.bind_some, ofo_some, ofo_none, ofoE_some, ofoE_none, ofo_ite, ofo_map, ofo_bind, o_add, o_adds, o_addt, o_addl, o_sub, o_mul, o_mult, l_rep, c_is, c_nis, is_bl, o_fdiv, o_mod, c_lt, c_le, c_gt, c_ge, c_eq, c_ne, c_in, c_nin, q_int, q_strd, tr_bl, x_tup, x_lst, intOf_int, b_isin, k_ii, k_bi, k_si, k_ss, k_is, k_tt, k_ti, k_ts, o_pow, i_r1, i_r2, i_tup, i_lst, i_en, b_len, b_lenl, b_tup, tup_lst, b_lst, b_int, b_inti, b_trg, b_lrg, b_min, atZ0, atZ1, atZ2, ixZ0, ixZ1, ixZ2, List.length_set, wp_ok, List.getElem?_cons_zero, List.getElem?_cons_succ, List.set_cons_zero, List.set_cons_succ, wipeR, List.length_cons, List.length_nil, List.map_cons, List.map_nil, List.replicate_succ, List.replicate_zero, List.cons_append, List.nil_append, decide_eq_true_eq, beq_iff_eq, Bool.not_eq_true', Bool.true_eq_false, and_self, Nat.zero_le, lim1, lim2, lim3, lim4, lim5, decide_true, decide_false, Bool.not_true, Bool.not_false, ite_true, ite_false, if_true, if_false, Bool.false_eq_true, $[$xs:term],*]))
local macro_rules | `(tactic| solve_by_elim [evV_q_int, $[$xs:term],*]) => `(tactic| (try simp only [ss_n, ss_c, s_e, s_r, s_rN, s_a, s_i, s_x, s_p, s_b, s_c, s_f, s_w, v_var, v_con, v_glo, v_bin, v_neg, v_cmp, v_cmp2, v_and, v_or, v_not, v_ite, v_tup, v_lstT, v_lstF, v_cat, v_idx, v_lrep, v_slc, v_call, v_bi, v_me, v_comp, turnC_wp, c_n, c_s, es_n, es_c, eo_n, eo_s, t_var, t_con, t_cm, t_cm2, t_an, t_or', t_no, t_bi, t_call, t_idx, v_dictP, v_dictL, v_mlst, v_zipL, v_fnv, v_tget, v_callv, fnAt_fn, v_callL, cap_n, cap_c, s_sl, t_callv, v_new, v_fld, v_meth, s_sf, s_af, t_fld, t_meth, put_nm, put_tp, putL_n, putL_c, Option.bind_some, ofo_some, ofo_none, ofoE_some, ofoE_none, ofo_ite, ofo_map, ofo_bind, o_add, o_adds, o_addt, o_addl, o_sub, o_mul, o_muls, o_mult, l_rep, c_is, c_nis, is_bl, o_fdiv, o_mod, c_lt, c_le, c_gt, c_ge, c_eq, c_ne, c_in, c_nin, q_strd, tr_bl, x_tup, x_lst, intOf_int, b_isin, k_ii, k_bi, k_si, k_ss, k_is, k_tt, k_ti, k_ts, o_pow, i_r1, i_r2, i_tup, i_lst, i_en, b_len, b_lenl, b_tup, tup_lst, b_lst, b_int, b_inti, b_trg, b_lrg, b_min, atZ0, atZ1, atZ2, ixZ0, ixZ1, ixZ2, List.length_set, wp_ok, List.getElem?_cons_zero, List.getElem?_cons_succ, List.set_cons_zero, List.set_cons_succ, wipeR, List.length_cons, List.length_nil, List.map_cons, List.map_nil, List.replicate_succ, List.replicate_zero, List.cons_append, List.nil_append, decide_eq_true_eq, beq_iff_eq, Bool.not_eq_true', Bool.true_eq_false, and_self, Nat.zero_le, lim1, lim2, lim3, lim4, lim5, decide_true, decide_false, Bool.not_true, Bool.not_false, ite_true, ite_false, if_true, if_false, Bool.false_eq_true, $[$xs:term],*]))
/-! names drawn -/
section
variable {G : Nat → Option D} {F : Nat → Option Fn} {n : Nat} {μ : Mu}
theorem add_str {μ : Mu} {s t : Txt} (h : s.length + t.length ≤ 1000) : binD .add μ (.str s) (.str t) = some (.str (s ++ t)) := by
  rw [o_adds, if_pos (by rw [lim_val]; omega)]
theorem last_tk {k : Nat} {μ : Mu} {t : D} {l : List Txt} (h : Tk k μ t (l.map .str)) (hn : l ≠ []) : ∃ s ∈ l, idxD μ t (.int (-1)) = some (.str s) := by
  refine ⟨l.getLast hn, List.getLast_mem hn, ?_⟩
  rw [h.idx]
  have hne : (l.map D.str).length ≠ 0 := by rw [List.length_map]; exact fun e => hn (List.length_eq_zero_iff.mp e)
  unfold atZ ixZ
  have h1 : ¬ (0 : Int) ≤ -1 := by omega
  have h2 : -(((l.map D.str).length : Nat) : Int) ≤ -1 := by omega
  rw [if_neg h1, if_pos h2]
  have h3 : ((-1 : Int) + (((l.map D.str).length : Nat) : Int)).toNat = l.length - 1 := by rw [List.length_map] at hne ⊢; omega
  show (l.map D.str)[((-1 : Int) + (((l.map D.str).length : Nat) : Int)).toNat]? = _
  rw [h3, List.getElem?_map, ← List.getLast?_eq_getElem?, List.getLast?_eq_some_getLast hn]
  rfl
theorem name_192 (hF : F 182 = some f182) (hN : F 192 = some f192) {k : Nat} {μ1 : Mu} (h : Sk k μ μ1) {t : D} {ns : List Txt} (ht : Tk k μ1 t (ns.map .str)) (hns : ∀ s ∈ ns, Nm s) (hl : ns.length < 26) :
    (run G F (n + 2) 192 [.loc k, t] μ1).wp fun d μ' => ∃ s, d = .str s ∧ Nm s ∧ s ∉ ns ∧ Sk k μ μ' := by
  refine run_wp hN rfl rfl ?_
  show (exSs G (run G F (n + 1)) b192 [some (.loc k), some t, none, none, none, none, none] μ1).wp _ _ _ _
  unfold b192
  refine ss_step ?_; intro K hK; solve_by_elim [evW]
  (try simp only [hK])
  have e0 : ∀ μ, meTy .join μ (.str []) = true := fun _ => rfl
  refine ss_step ?_; intro K hK
  solve_by_elim [evW, e0]
  refine Res.wp_mono (draw_182 hF h (by omega) (by decide)) fun d μ2 hd => ?_
  obtain ⟨q, rfl, hq0, hq1, h2⟩ := hd
  solve_by_elim [evW]
  rw [if_pos (by omega)]
  refine comp_wp _ (fun i acc μ' => i ≤ (1 + q).toNat ∧ ∃ cs : List Nat, acc = (cs.map fun c => ([c] : Txt)).map .str ∧ cs.length = i ∧ (∀ x ∈ cs, 97 ≤ x ∧ x < 123) ∧ Sk k μ μ') 0 _ _ ⟨by omega, [], rfl, rfl, by simp, h2⟩ (fun i acc μ' hI => ⟨rfl, fun _ => ?_⟩) ?_ ?_
  · obtain ⟨hi8, cs, rfl, hcs, _⟩ := hI
    rw [List.length_map, List.length_map, lim_val]; omega
  · rintro i d acc μ' hd ⟨hi8, cs, rfl, hcs, hlet, h4⟩
    obtain ⟨rfl, hi⟩ := rngL_get hd
    solve_by_elim [evW]
    refine Res.wp_mono (draw_182 hF h4 (by omega) (by decide)) fun d μ4 hd => ?_
    obtain ⟨z, rfl, hz0, hz1, h5⟩ := hd
    have hz : ((z.toNat : Nat) : Int) = z := by omega
    have e1 : idxD μ4 (.str az) (.int z) = some (.str [97 + z.toNat]) := by
      rw [← hz]
      exact idx_str (az_get z.toNat (by omega)) (by decide)
    unfold az at e1
    solve_by_elim [evW, e1]
    exact ⟨by omega, cs ++ [97 + z.toNat], by rw [List.map_append, List.map_append]; rfl, by rw [List.length_append, hcs]; rfl, nlet hlet (by omega), h5⟩
  rintro acc μ3 ⟨hi8, cs, rfl, hcs, hlet, h4⟩
  rw [rngL_len] at hcs hi8
  solve_by_elim [evW]
  rw [m_join (ss := cs.map fun c => [c]) rfl (by rw [sum_ones, List.length_nil, lim_val]; omega), joinT_nil, flat_ones]
  solve_by_elim [evW]
  have hcN : Nm cs := nm_of (by omega) (by omega) hlet
  simp only [hK]
  clear hK hlet hi8 hcs
  have ht3 := ht.mv h h4
  have rest : ∀ (s : Txt) (μ5 : Mu), Nm s → Sk k μ μ5 → (exSs G (run G F (n + 1)) (b192.drop 3) [some (.loc k), some t, some (.str az), some (.str s), none, none, none] μ5).wp (fun _ μ' => ∃ s, D.non = .str s ∧ Nm s ∧ s ∉ ns ∧ Sk k μ μ') (fun d μ' => ∃ s, d = .str s ∧ Nm s ∧ s ∉ ns ∧ Sk k μ μ') (fun _ _ => False) (fun _ _ => False) := fun s μ5 hs h5 => by
    have ht5 := ht.mv h h5
    show (exSs G (run G F (n + 1)) [.asg (.nm 4) (.comp false [5] (.bin .mul (.var 5) (.con (.int 8))) (.nm 5) .seq [.var 2] (some (.cmp .nin (.bin .mul (.var 5) (.con (.int 8))) (.var 1)))), .ret (.idx (.lst false [.var 3, .idx (.var 4) (.con (.int 0))]) (.bi .int [.cmp .in_ (.var 3) (.var 1)]))] [some (.loc k), some t, some (.str az), some (.str s), none, none, none] μ5).wp _ _ _ _
    obtain ⟨s1, r, e1, hs1, hs1n⟩ := spare (ns := ns) hl
    refine ss_step ?_; intro K hK
    solve_by_elim [evW, i_str]
    have hfm : (az.map fun c => D.str [c]).filterMap (fun d => match d with | .str [c] => if ns.contains (oct c) then none else some (D.str (oct c)) | _ => none) = .str s1 :: r := by
      rw [List.filterMap_map]
      exact e1
    rw [comp_pure (f := fun d => match d with | .str [c] => if ns.contains (oct c) then none else some (D.str (oct c)) | _ => none) _ _ rfl (by rw [List.length_nil, List.length_map, lim_val]; decide) (fun d hd => ?_), List.nil_append, hfm]
    · solve_by_elim [evW]
      simp only [hK]
      have ein := ht5.inS (s := s)
      cases hc : ns.contains s with
      | true =>
        rw [hc] at ein
        solve_by_elim [evW, ein]
        exact ⟨s1, rfl, hs1, hs1n, h5⟩
      | false =>
        rw [hc] at ein
        solve_by_elim [evW, ein]
        exact ⟨s, rfl, hs, by simpa using hc, h5⟩
    · obtain ⟨c, hc, rfl⟩ := List.mem_map.mp hd
      refine wp_to ?_
      have em : binD .mul μ5 (.str [c]) (.int 8) = some (.str (oct c)) := by
        rw [o_muls, if_pos ⟨by decide, by decide, by rw [lim_val]; show 1 * 8 ≤ 16777216; omega⟩]
        rfl
      have ein := ht5.inS (s := oct c)
      cases hcn : ns.contains (oct c) with
      | true =>
        rw [hcn] at ein
        solve_by_elim [evV_o_muls, em, ein, turnC_wp, hcn]
        try exact ⟨rfl, trivial⟩
      | false =>
        rw [hcn] at ein
        solve_by_elim [evV_o_muls, em, ein, turnC_wp, hcn]
        try exact ⟨rfl, trivial⟩
  have rest' : ∀ (s : Txt) (μ5 : Mu), Nm s → Sk k μ μ5 → (exSs G (run G F (n + 1)) [.asg (.nm 4) (.comp false [5] (.bin .mul (.var 5) (.con (.int 8))) (.nm 5) .seq [.var 2] (some (.cmp .nin (.bin .mul (.var 5) (.con (.int 8))) (.var 1)))), .ret (.idx (.lst false [.var 3, .idx (.var 4) (.con (.int 0))]) (.bi .int [.cmp .in_ (.var 3) (.var 1)]))] [some (.loc k), some t, some (.str az), some (.str s), none, none, none] μ5).wp (fun _ μ' => ∃ s, D.non = .str s ∧ Nm s ∧ s ∉ ns ∧ Sk k μ μ') (fun d μ' => ∃ s, d = .str s ∧ Nm s ∧ s ∉ ns ∧ Sk k μ μ') (fun _ _ => False) (fun _ _ => False) := rest
  clear rest
  refine ss_step ?_; intro K2 hK2
  have hnil := ht3.nil
  by_cases hn : ns = []
  · rw [decide_eq_true hn] at hnil
    solve_by_elim [evW, hnil]
    simp only [hK2]
    exact rest' _ _ hcN h4
  · rw [decide_eq_false hn] at hnil
    solve_by_elim [evW, hnil]
    refine Res.wp_mono (draw_182 hF h4 (by omega) (by decide)) fun d μ6 hd => ?_
    obtain ⟨z, rfl, hz0, hz1, h6⟩ := hd
    have ht6 := ht.mv h h6
    by_cases hz : z = 0
    · obtain ⟨s, hs, es⟩ := last_tk ht6 hn
      have hsN := hns s hs
      have ea := add_str (μ := μ6) (s := s) (t := cs) (by have := hsN.len; have := hcN.len; omega)
      have e8 := slS (μ := μ6) (s := s ++ cs) (i := 8) (by decide) (by rw [List.length_append]; have := hsN.len; have := hcN.len; omega)
      subst hz
      have eq0 : eqD μ6 (.int 0) (.int 0) = some true := rfl
      solve_by_elim [evV_o_adds_q_int, eq0, es, ea, e8]
      simp only [hK2]
      refine rest' _ _ ?_ h6
      refine nm_of ?_ (by rw [List.length_take]; exact Nat.min_le_left _ _) fun x hx => ?_
      · rw [List.length_take, List.length_append]
        obtain ⟨b, kk, e, _⟩ := hcN.ex
        have : cs.length = b.length + 1 := by rw [e, List.length_append]; rfl
        show 0 < min 8 _
        omega
      · rcases List.mem_append.mp (List.mem_of_mem_take hx) with q | q
        · exact hsN.sgn x q
        · exact hcN.sgn x q
    · have eq0 : eqD μ6 (.int z) (.int 0) = some false := by rw [q_int]; exact congrArg some (beq_eq_false_iff_ne.mpr hz)
      solve_by_elim [evV_q_int, eq0]
      simp only [hK2]
      exact rest' _ _ hcN h6
theorem names_193 (hF : F 182 = some f182) (hN : F 192 = some f192) (hNs : F 193 = some f193) {k : Nat} {μ1 : Mu} (h : Sk k μ μ1) {m : Int} (h0 : 0 ≤ m) (h1 : m ≤ 20) :
    (run G F (n + 3) 193 [.loc k, .int m] μ1).wp fun d μ' => ∃ l : List Txt, d = .lst (l.map .str) ∧ (l.length : Int) = m ∧ l.Nodup ∧ (∀ s ∈ l, Nm s) ∧ Sk k μ μ' := by
  refine run_wpz hNs rfl rfl ?_
  have hkl : k < μ.length := h.1
  have hl1 : μ1.length = μ.length := h.len
  show (exSs G (run G F (n + 2)) b193 [some (.loc k), some (.int m), none, none] μ1).wp _ _ _ _
  unfold b193
  refine ss_step ?_; intro K hK; solve_by_elim [evW]
  (try simp only [hK])
  refine ss_step ?_; intro K hK
  solve_by_elim [evW]
  rw [if_pos (by omega)]
  refine for_wp _ (fun i ρ μ' => i ≤ m.toNat ∧ ∃ (l : List Txt) (μ3 : Mu) (x1 x3 : Option D), l.length = i ∧ l.Nodup ∧ (∀ s ∈ l, Nm s) ∧ μ' = μ3 ++ [.lst (l.map .str)] ∧ Sk k μ μ3 ∧ ρ = [some (.loc k), x1, some (.loc μ.length), x3]) 0 _ _ ⟨by omega, [], μ1, _, _, rfl, List.nodup_nil, by simp, rfl, h, by rw [hl1]⟩ (fun _ _ _ _ => rfl) ?_ ?_
  · rintro i d ρ μ' hd ⟨him, l, μ3, x1, x3, hl, hnd, hnm, rfl, h3, rfl⟩
    obtain ⟨rfl, hi⟩ := rngL_get hd
    simp only [put_nm, put_tp, putL_n, putL_c, Option.bind_some, wipeR, List.set_cons_zero, List.set_cons_succ]
    have hg3 : (μ3 ++ [Cell.lst (l.map D.str)])[μ.length]? = some (.lst (l.map .str)) := by rw [← h3.len]; exact push_get
    have hmt := meTy_loc (m := .append) ⟨by decide, by decide⟩ hg3
    solve_by_elim [evW, hmt]
    refine Res.wp_mono (name_192 (n := n) hF hN (h3.push [Cell.lst (l.map .str)]) (t := .loc μ.length) (ns := l) (.inr ⟨_, rfl, by omega, hg3⟩) hnm (by omega)) fun d μ4 hd => ?_
    obtain ⟨w, rfl, hw, hwn, h4⟩ := hd
    obtain ⟨μ5, rfl, h5⟩ := h4.pop hkl
    have hμ5 : μ5.length = μ.length := h5.len
    have hg : (μ5 ++ [Cell.lst (l.map D.str)])[μ.length]? = some (.lst (l.map .str)) := by rw [← hμ5]; exact push_get
    solve_by_elim [evW]
    rw [m_app hg, if_pos (by rw [List.length_map, lim_val]; omega), ← hμ5, set_end]
    solve_by_elim [evW]
    refine ⟨by omega, l ++ [w], μ5, _, _, by rw [List.length_append, hl]; rfl, ?_, ?_, by rw [List.map_append]; rfl, h5, rfl⟩
    · rw [List.nodup_append]
      refine ⟨hnd, by simp, fun x hx y hy e => ?_⟩
      have : y = w := by simpa using hy
      rw [e, this] at hx
      exact hwn hx
    · intro s hs
      rcases List.mem_append.mp hs with hs | hs
      · exact hnm s hs
      · have : s = w := by simpa using hs
        subst this; exact hw
  · rintro ρ μ' ⟨him, l, μ3, x1, x3, hl, hnd, hnm, rfl, h3, rfl⟩
    rw [rngL_len, Nat.zero_add] at hl
    (try simp only [hK])
    solve_by_elim [evW]
    exact Sk.finL h h3 (flatL_map fun _ _ => rfl) ⟨l, rfl, by omega, hnd, hnm, h3⟩
end

/-! the law's tables -/
structure GC (G : Nat → Option D) : Prop where
  g34 : G 34 = some (.str az)
  g35 : G 35 = some (.int 8)
  g36 : G 36 = some (.int 240)
  g37 : G 37 = some (.int 6)
  g38 : G 38 = some (.int 20)
  g39 : G 39 = some (.int 4)
  g40 : G 40 = some (.int 8)
  g41 : G 41 = some (.int 3)
  g121 : G 121 = some (.int 1000000000)
  g122 : G 122 = some (.tup [.str wNum, .str wCho, .str wTxt])
theorem GC.no {G : Nat → Option D} (h : GC G) : GC (noLam G) := ⟨h.g34, h.g35, h.g36, h.g37, h.g38, h.g39, h.g40, h.g41, h.g121, h.g122⟩
def mvD (w nm : Txt) (told : List D) : D := .tup (.str w :: .tup [] :: .str nm :: told)
def pr (p : D × D) : D := .tup [p.1, p.2]
/-- a form, and what its things are read as -/
structure TabX (x : D) (T : List (D × D)) : Prop where
  hd : ∃ h0 b, x = .tup [.str h0, b] ∧ (h0 = wNum ∨ h0 = wCho ∨ h0 = wTxt)
  gd : Gd x
  pl : plainB x = true
  dep : x.depth ≤ 10
  lf : ∀ p ∈ T, Lf p.1 ∧ Lf p.2 ∧ p.1 ≠ .non
  len : 0 < T.length ∧ T.length ≤ 100
/-- with a move that changes it -/
structure MvT (F : Nat → Option Fn) (x : D) (w : Txt) (told : List D) (T : List (D × D)) : Prop extends TabX x T where
  w2 : w = wLonger ∨ w = wMore
  ch : ∃ y, y.flat = true ∧ ∀ G n μ, GC G → run G F (n + 4) 150 [x, .str w, .tup told] μ = .ok y μ
  bk : ∀ p ∈ T, ∀ G n μ, run G F (n + 1) 161 [x, mvD w [97] told, p.1] μ = .ok p.2 μ
  tf : D.flatL told = true
theorem longR_lf {old : Int} {near : Bool} {s : Txt} (h : s.length ≤ 1000) : Lf (longR old near s) := by
  unfold longR
  split
  · exact .str h
  · split
    · exact .str (by rw [List.length_take]; omega)
    · exact .non
theorem Lf.strT {d : D} {s : Txt} (h : d = .str s) (hl : s.length ≤ 1000) : Lf d := by subst h; exact .str hl
section
variable {G : Nat → Option D} {F : Nat → Option Fn} {n : Nat} {μ : Mu}
theorem longer_200 (H : Mv F) (h182 : F 182 = some f182) (h194 : F 194 = some f194) (h200 : F 200 = some f200) {k : Nat} {μ1 : Mu} (h : Sk k μ μ1) :
    (run G F (n + 3) 200 [.loc k] μ1).wp fun d μ' => ∃ x told T μ3, d = .tup [x, mvD wLonger [97] told, .loc μ.length] ∧ MvT F x wLonger told T ∧ μ' = μ3 ++ [.lst (T.map pr)] ∧ Sk k μ μ3 := by
  have hkl : k < μ.length := h.1
  refine run_wp h200 rfl rfl ?_
  show (exSs G (run G F (n + 2)) b200 [some (.loc k), none, none, none, none, none, none] μ1).wp _ _ _ _
  unfold b200
  refine ss_step ?_; intro K hK
  solve_by_elim [evW]
  refine Res.wp_mono (draw_182 (n := n + 1) h182 h (by omega) (by decide)) fun d μ2 hd => ?_
  obtain ⟨old, rfl, ho0, ho1, h2⟩ := hd
  solve_by_elim [evW]
  simp only [hK]
  clear hK
  refine ss_step ?_; intro K hK
  solve_by_elim [evW]
  refine Res.wp_mono (draw_182 (n := n + 1) h182 h2 (by omega) (by omega)) fun d μ3 hd => ?_
  obtain ⟨ad, rfl, hn0, hn1, h3⟩ := hd
  obtain ⟨new, hnew⟩ : ∃ new : Int, old + ad = new := ⟨_, rfl⟩
  solve_by_elim [evW, hnew]
  simp only [hK]
  clear hK
  refine ss_step ?_; intro K hK
  solve_by_elim [evW]
  refine Res.wp_mono (draw_182 (n := n + 1) h182 h3 (by omega) (by omega)) fun d μ4 hd => ?_
  obtain ⟨z, rfl, hz0, hz1, h4⟩ := hd
  have ez : eqD μ4 (.int z) (.int 1) = some (z == 1) := q_int
  generalize (z == 1) = near at ez
  solve_by_elim [evV_q_int, ez]
  simp only [hK]
  clear hK
  refine ss_step ?_; intro K hK; solve_by_elim [evW]
  (try simp only [hK])
  refine ss_step ?_; intro K hK
  solve_by_elim [evW]
  rw [if_pos (by omega)]
  refine for_wp _ (fun i ρ μ' => i ≤ (new + 1).toNat ∧ ∃ (T : List (D × D)) (μ3 : Mu) (x5 x6 : Option D), T.length = i ∧ (∀ p ∈ T, ∃ s, s.length ≤ 100 ∧ p = (.str s, longR old near s)) ∧ μ' = μ3 ++ [.lst (T.map pr)] ∧ Sk k μ μ3 ∧ ρ = [some (.loc k), some (.int old), some (.int new), some (.bl near), some (.loc μ.length), x5, x6]) 0 _ _ ⟨by omega, [], μ4, _, _, rfl, by simp, rfl, h4, by rw [h4.len]⟩ (fun _ _ _ _ => rfl) ?_ ?_
  · rintro i d ρ μ' hd ⟨him, T, μ5, x5, x6, hT, hall, rfl, h5, rfl⟩
    obtain ⟨rfl, hi⟩ := rngL_get hd
    simp only [put_nm, put_tp, putL_n, putL_c, Option.bind_some, wipeR, List.set_cons_zero, List.set_cons_succ]
    obtain ⟨ii, hii⟩ : ∃ ii : Int, (0 : Int) + i = ii := ⟨_, rfl⟩
    have hi0 : 0 ≤ ii := by omega
    have hi1 : ii ≤ 20 := by omega
    rw [hii]
    refine ss_step ?_; intro K2 hK2
    solve_by_elim [evW]
    refine Res.wp_mono (text_194 (n := n) h182 h194 (h5.push [Cell.lst (T.map pr)]) hi0 (by omega)) fun d μ6 hd => ?_
    obtain ⟨s, rfl, hs, h6⟩ := hd
    obtain ⟨μ7, rfl, h7⟩ := h6.pop hkl
    solve_by_elim [evW]
    simp only [hK2]
    have hg : (μ7 ++ [Cell.lst (T.map pr)])[μ.length]? = some (.lst (T.map pr)) := by rw [← h7.len]; exact push_get
    have hmt := meTy_loc (m := .append) ⟨by decide, by decide⟩ hg
    have e8 := slS (μ := μ7 ++ [Cell.lst (T.map pr)]) (s := s) (i := old) ho0 (by omega)
    have happ : ∀ d, meD .append (μ7 ++ [Cell.lst (T.map pr)]) (.loc μ.length) [d] = .ok .non (μ7 ++ [Cell.lst (T.map pr ++ [d])]) := fun d => by
      rw [m_app hg, if_pos (by rw [List.length_map, lim_val]; omega), ← h7.len, set_end]
    have fin : ∀ d, d = longR old near s → (i + 1 ≤ (new + 1).toNat ∧ ∃ (T' : List (D × D)) (μ3 : Mu) (x5 x6 : Option D), T'.length = 0 + i + 1 ∧ (∀ p ∈ T', ∃ s, s.length ≤ 100 ∧ p = (.str s, longR old near s)) ∧ μ7 ++ [Cell.lst (T.map pr ++ [D.tup [.str s, d]])] = μ3 ++ [.lst (T'.map pr)] ∧ Sk k μ μ3 ∧ [some (D.loc k), some (.int old), some (.int new), some (.bl near), some (.loc μ.length), some (.int ii), some (.str s)] = [some (.loc k), some (.int old), some (.int new), some (.bl near), some (.loc μ.length), x5, x6]) := fun d hd => by
      subst hd
      refine ⟨by omega, T ++ [(.str s, longR old near s)], μ7, _, _, by rw [List.length_append, hT]; rfl, fun p hp => ?_, by rw [List.map_append]; rfl, h7, rfl⟩
      rcases List.mem_append.mp hp with hp | hp
      · exact hall p hp
      · have : p = (.str s, longR old near s) := by simpa using hp
        exact ⟨s, by omega, this⟩
    by_cases hle : ii ≤ old
    · solve_by_elim [evW, hmt, hle, happ]
      refine (fun q => ⟨by omega, q.2⟩) (fin (.str s) ?_)
      unfold longR
      rw [if_pos (by omega)]
    · cases near with
      | true =>
        solve_by_elim [evW, hmt, hle, e8, happ]
        refine (fun q => ⟨by omega, q.2⟩) (fin (.str (s.take old.toNat)) ?_)
        unfold longR
        rw [if_neg (by omega), if_pos rfl]
      | false =>
        solve_by_elim [evW, hmt, hle, e8, happ]
        refine (fun q => ⟨by omega, q.2⟩) (fin .non ?_)
        unfold longR
        rw [if_neg (by omega), if_neg (by decide)]
  · rintro ρ μ' ⟨him, T, μ5, x5, x6, hT, hall, rfl, h5, rfl⟩
    rw [rngL_len, Nat.zero_add] at hT
    (try simp only [hK])
    (try simp only [wipeR, List.set_cons_zero, List.set_cons_succ])
    solve_by_elim [evW]
    refine ⟨.tup [.str wTxt, .int old], [.int new, .bl near], T, μ5, rfl, ?_, rfl, h5⟩
    have hp : plainB (.tup [.str wTxt, .int old]) = true := by
      show (if isW wNum (.str wTxt) then wholeB 1 240 (.int old) else if isW wTxt (.str wTxt) then wholeB 0 20 (.int old) else isW wCho (.str wTxt) && chosB (.int old)) = true
      rw [if_neg (by decide), if_pos (by decide)]
      exact wholeI ho0 (by omega)
    refine { hd := ⟨_, _, rfl, .inr (.inr rfl)⟩, gd := Gd.tup (by simp) ?_, pl := hp, dep := by simp [D.depth, D.depthL], lf := ?_, len := ⟨by omega, by omega⟩, w2 := .inl rfl, ch := ⟨.tup [.str wTxt, .int new], rfl, ?_⟩, bk := ?_, tf := rfl }
    · intro d hd
      rcases List.mem_cons.mp hd with rfl | hd
      · exact Gd.str (by decide)
      · rcases List.mem_cons.mp hd with rfl | hd
        · exact gd_int _
        · cases hd
    · intro p hp
      obtain ⟨s, hs, rfl⟩ := hall p hp
      exact ⟨.str (by omega), longR_lf (by omega), fun e => by cases e⟩
    · intro G n μ hG
      exact form_longer (n := n) H hG.g121 (by omega) (by omega)
    · intro p hp G n μ
      obtain ⟨s, hs, rfl⟩ := hall p hp
      exact back_longer (new := 0) H.h161 ho0 (by omega)
end

/-! the law's choices -/
theorem nm_B {s : Txt} (h : Nm s) : nameB (.str s) = true := by
  have h1 : 1 ≤ s.length := by
    obtain ⟨b, k, e, _⟩ := h.ex
    rw [e, List.length_append, List.length_singleton]; omega
  show (decide (1 ≤ s.length) && decide (s.length ≤ 8) && s.all lowB) = true
  rw [decide_eq_true h1, decide_eq_true h.len, List.all_eq_true.mpr fun c hc => by
    have := h.sgn c hc
    have e := az_get (c - 97) (by omega)
    rw [show 97 + (c - 97) = c by omega] at e
    have hm := List.mem_of_getElem? e
    unfold lowB
    simpa using hm]
  rfl
theorem lim6 : (0 + 1 + 1 + 1 + 1 + 1 + 1 ≤ lim) = True := eq_true (by rw [lim_val]; omega)
theorem txt_map (l : List Txt) : (l.map D.str).map txtOf = l := by
  induction l with
  | nil => rfl
  | cons a r ih => rw [List.map_cons, List.map_cons, ih]; rfl
theorem add_lst {μ : Mu} {l r : List D} (h : l.length + r.length ≤ 1000) : binD .add μ (.lst l) (.lst r) = some (.lst (l ++ r)) := by
  rw [o_addl, if_pos (by rw [lim_val]; omega)]
theorem Sk.fin0 {k : Nat} {μ μ1 μ3 : Mu} {d : D} {Q : D → Mu → Prop} (h1 : Sk k μ μ1) (h3 : Sk k μ μ3) (hd : d.flat = true) (q : Q d μ3) : (Ev.fin μ1 μ3 d).wp Q := by
  have := Sk.fin (X := []) h1 h3 hd q
  rw [List.append_nil] at this
  exact this
section
variable {G : Nat → Option D} {F : Nat → Option Fn} {n : Nat} {μ : Mu}
theorem more_196 (H : Mv F) (h182 : F 182 = some f182) (h192 : F 192 = some f192) (h193 : F 193 = some f193) (h196 : F 196 = some f196) {k : Nat} {μ1 : Mu} (h : Sk k μ μ1) :
    (run G F (n + 4) 196 [.loc k] μ1).wp fun d μ' => ∃ x told T, d = .tup [x, mvD wMore [97] told, .lst (T.map pr)] ∧ MvT F x wMore told T ∧ Sk k μ μ' := by
  refine run_wp h196 rfl rfl ?_
  show (exSs G (run G F (n + 3)) b196 [some (.loc k), none, none, none, none, none, none] μ1).wp _ _ _ _
  unfold b196
  refine ss_step ?_; intro K hK
  solve_by_elim [evW]
  refine Res.wp_mono (draw_182 (n := n + 2) h182 h (by omega) (by decide)) fun d μ2 hd => ?_
  obtain ⟨q, rfl, hq0, hq1, h2⟩ := hd
  solve_by_elim [evW]
  refine Res.wp_mono (names_193 (n := n) h182 h192 h193 h2 (by omega) (by omega)) fun d μ3 hd => ?_
  obtain ⟨ns, rfl, hl, hnd, hnm, h3⟩ := hd
  solve_by_elim [evW]
  simp only [hK]
  clear hK
  have hl5 : 1 ≤ ns.length ∧ ns.length ≤ 5 := by omega
  clear hl
  refine ss_step ?_; intro K hK
  solve_by_elim [evW]
  refine Res.wp_mono (name_192 (n := n + 1) h182 h192 h3 (t := .lst (ns.map .str)) (ns := ns) (.inl rfl) hnm (by omega)) fun d μ4 hd => ?_
  obtain ⟨new, rfl, hnew, hnn, h4⟩ := hd
  solve_by_elim [evW]
  simp only [hK]
  clear hK
  refine ss_step ?_; intro K hK
  solve_by_elim [evW]
  refine Res.wp_mono (draw_182 (n := n + 2) h182 h4 (by rw [List.length_map]; omega) (by rw [List.length_map]; omega)) fun d μ5 hd => ?_
  obtain ⟨r, rfl, hr0, hr1, h5⟩ := hd
  rw [List.length_map] at hr1
  obtain ⟨a, ea, s0, hs0, rfl⟩ : ∃ a, atZ (ns.map D.str) r = some a ∧ ∃ s ∈ ns, a = .str s := by
    obtain ⟨a, e, h⟩ := atZ_int (l := ns.map D.str) hr0 (by rw [List.length_map]; exact hr1)
    obtain ⟨s, hs, rfl⟩ := List.mem_map.mp (List.mem_of_getElem? h)
    exact ⟨_, e, s, hs, rfl⟩
  solve_by_elim [evW, ea]
  refine Res.wp_mono (draw_182 (n := n + 2) h182 h5 (by omega) (by omega)) fun d μ6 hd => ?_
  obtain ⟨z, rfl, hz0, hz1, h6⟩ := hd
  obtain ⟨inst, hinst, hi⟩ : ∃ inst, atZ [D.non, .str s0] z = some inst ∧ (inst = .non ∨ ∃ s ∈ ns, inst = .str s) := by
    by_cases e : z = 0
    · subst e; exact ⟨_, atZ0, .inl rfl⟩
    · have : z = 1 := by omega
      subst this; exact ⟨_, atZ1, .inr ⟨s0, hs0, rfl⟩⟩
  solve_by_elim [evW, hinst]
  simp only [hK]
  clear hK
  refine ss_step ?_; intro K hK
  solve_by_elim [evW]
  refine Res.wp_mono (draw_182 (n := n + 2) h182 h6 (by rw [List.length_map]; omega) (by rw [List.length_map]; omega)) fun d μ7 hd => ?_
  obtain ⟨at_, rfl, ha0, ha1, h7⟩ := hd
  rw [List.length_map] at ha1
  solve_by_elim [evW]
  simp only [hK]
  clear hK
  refine ss_step ?_; intro K hK
  solve_by_elim [evW]
  have hfm : (ns.map D.str).filterMap (fun d => some (D.tup [d, d])) = (ns.map fun s => (D.str s, D.str s)).map pr := by
    rw [List.filterMap_map, List.map_map, ← List.filterMap_eq_map]
    rfl
  have hturn : ∀ d ∈ ns.map D.str, turnC G (run G F (n + 3)) [6] (.tup [.var 6, .var 6]) (.nm 6) none [some (.loc k), some (.lst (ns.map .str)), some (.str new), some inst, some (.int at_), none, none] d μ7 = .ok (some (.tup [d, d])) μ7 := fun d hd => by
    refine wp_to ?_
    solve_by_elim [evW, turnC_wp]
    try exact ⟨rfl, trivial⟩
  rw [comp_pure (f := fun d => some (D.tup [d, d])) _ _ rfl (by rw [List.length_nil, List.length_map, lim_val]; omega) hturn, List.nil_append, hfm]
  have hadd : (ns.map fun s => (D.str s, D.str s)).map pr ++ [D.tup [D.str new, inst]] = (ns.map (fun s => (D.str s, D.str s)) ++ [(D.str new, inst)]).map pr := by
    rw [List.map_append]
    rfl
  solve_by_elim [evW]
  simp only [hK]
  solve_by_elim [evW, lim6]
  rw [hadd, if_pos (by rw [List.length_map, List.length_map, lim_val]; omega)]
  have hT : ∀ p ∈ ns.map (fun s => (D.str s, D.str s)) ++ [(D.str new, inst)], (∃ s ∈ ns, p = (D.str s, D.str s)) ∨ p = (D.str new, inst) := fun p hp => by
    rcases List.mem_append.mp hp with hp | hp
    · obtain ⟨s, hs, rfl⟩ := List.mem_map.mp hp
      exact .inl ⟨s, hs, rfl⟩
    · exact .inr (by simpa using hp)
  have hTl : (ns.map (fun s => (D.str s, D.str s)) ++ [(D.str new, inst)]).length = ns.length + 1 := by rw [List.length_append, List.length_map]; rfl
  have hat : ((at_.toNat : Nat) : Int) = at_ := by omega
  have hil : Lf inst := by
    rcases hi with rfl | ⟨s, hs, rfl⟩
    · exact .non
    · exact .str (by have := (hnm s hs).len; omega)
  generalize ns.map (fun s => (D.str s, D.str s)) ++ [(D.str new, inst)] = T at hT hTl ⊢
  have hm : MvT F (.tup [.str wCho, .tup (ns.map .str)]) wMore [.int at_, .str new, inst] T := by
    have hp : plainB (.tup [.str wCho, .tup (ns.map .str)]) = true := by
      show (if isW wNum (.str wCho) then wholeB 1 240 (.tup (ns.map .str)) else if isW wTxt (.str wCho) then wholeB 0 20 (.tup (ns.map .str)) else isW wCho (.str wCho) && chosB (.tup (ns.map .str))) = true
      rw [if_neg (by decide), if_neg (by decide)]
      show (true && (decide (1 ≤ (ns.map D.str).length) && decide ((ns.map D.str).length ≤ 6) && namesB (ns.map .str))) = true
      rw [List.length_map, decide_eq_true hl5.1, decide_eq_true (show ns.length ≤ 6 by omega)]
      show ((ns.map D.str).all nameB && decide ((ns.map D.str).map txtOf).Nodup) = true
      rw [txt_map, decide_eq_true hnd, List.all_eq_true.mpr fun d hd => by
        obtain ⟨s, hs, rfl⟩ := List.mem_map.mp hd
        exact nm_B (hnm s hs)]
      rfl
    have hdep : D.depthL (ns.map D.str) ≤ 0 := depthL_le fun d hd => by
      obtain ⟨s, hs, rfl⟩ := List.mem_map.mp hd
      exact Nat.le_refl _
    refine { hd := ⟨_, _, rfl, .inr (.inl rfl)⟩, gd := Gd.tup (by simp) ?_, pl := hp, dep := ?_, lf := ?_, len := ⟨by omega, by omega⟩, w2 := .inr rfl, ch := ⟨.tup [.str wCho, .tup ((ns.take at_.toNat ++ [new] ++ ns.drop at_.toNat).map .str)], ?_, ?_⟩, bk := ?_, tf := ?_ }
    · intro d hd
      rcases List.mem_cons.mp hd with rfl | hd
      · exact Gd.str (by decide)
      · rcases List.mem_cons.mp hd with rfl | hd
        · refine Gd.tup (by rw [List.length_map]; omega) fun d hd => ?_
          obtain ⟨s, hs, rfl⟩ := List.mem_map.mp hd
          exact Gd.str (by have := (hnm s hs).len; omega)
        · cases hd
    · show max 0 (max (D.depthL (ns.map D.str) + 1) 0) + 1 ≤ 10
      omega
    · intro p hp
      rcases hT p hp with ⟨s, hs, rfl⟩ | rfl
      · have := (hnm s hs).len
        exact ⟨.str (by omega), .str (by omega), fun e => by cases e⟩
      · have := hnew.len
        exact ⟨.str (by omega), hil, fun e => by cases e⟩
    · show D.flatL [_, D.tup _] = true
      have : D.flatL ((ns.take at_.toNat ++ [new] ++ ns.drop at_.toNat).map D.str) = true := flatL_map fun _ _ => rfl
      show (true && (D.flatL ((ns.take at_.toNat ++ [new] ++ ns.drop at_.toNat).map D.str) && true)) = true
      rw [this]
      rfl
    · intro G n μ hG
      have := form_more (G := G) (F := F) (n := n) (μ := μ) (ns := ns) (k := at_.toNat) (new := new) (inst := inst) H (by omega) (by omega) hi
      rw [hat] at this
      exact this
    · intro p hp G n μ
      have key := fun s => back_more (G := G) (F := F) (n := n) (μ := μ) (x := .tup [.str wCho, .tup (ns.map .str)]) (p := .tup []) (nm := .str [97]) (k := .int at_) (inst := inst) (new := new) (s := s) H.h161
      rcases hT p hp with ⟨s, hs, rfl⟩ | rfl
      · have := key s
        unfold moreR at this
        rw [if_neg fun e => hnn (by rw [← e]; exact hs)] at this
        exact this
      · have := key new
        unfold moreR at this
        rw [if_pos rfl] at this
        exact this
    · show (true && (true && (inst.flat && true))) = true
      rw [hil.flat]
      rfl
  exact ⟨_, _, T, rfl, hm, h7⟩
end

/-! what forth and back tell of the law's tables -/
theorem eqd_of {μ : Mu} {s t : Txt} (h : s ≠ t) : eqD μ (.str s) (.str t) = some false := by
  rw [q_strd, decide_eq_false h]
theorem lone_ne {h0 : Txt} (h : h0 = wNum ∨ h0 = wCho ∨ h0 = wTxt) {μ : Mu} : eqD μ (.str h0) (.str wLst) = some false := by
  rcases h with rfl | rfl | rfl <;> rfl
theorem two_many {w : Txt} (h : w = wLonger ∨ w = wMore) {μ : Mu} : eqD μ (.str w) (.str wMany) = some false := by
  rcases h with rfl | rfl <;> rfl
theorem two_scale {w : Txt} (h : w = wLonger ∨ w = wMore) {μ : Mu} : eqD μ (.str w) (.str wScale) = some false := by
  rcases h with rfl | rfl <;> rfl
theorem two_lw {w : Txt} (h : w = wLonger ∨ w = wMore) : Lw w := by
  rcases h with rfl | rfl
  · exact .inl rfl
  · exact .inr (.inl rfl)
theorem allR_flat {l : List D} (h : ∀ d ∈ l, d.flat = true) : (allR l).flat = true := by
  unfold allR
  split
  · rfl
  · exact (flatL_all _).mpr h
theorem fst_ne {pre : List (Txt × D)} (h : pre = []) {nm : Txt} : ∀ p ∈ pre, p.1 ≠ nm := by subst h; simp
section
variable {G : Nat → Option D} {F : Nat → Option Fn} {n : Nat} {μ : Mu} {x : D} {w : Txt} {told : List D} {T : List (D × D)}
theorem lone_back (H : Mv F) (hG : (G LK).isSome = true) (gc : GC G) (hm : MvT F x w told T) {p : D × D} (hp : p ∈ T) :
    run G F (n + 11) 180 [rec [([97], x), ([98], .tup [.str wTxt, .int 0])], .tup [mvD w [97] told], .tup [p.1, .str []]] μ = .ok (rowR [] [.str []] p.2) μ := by
  obtain ⟨y, hy, hch⟩ := hm.ch
  obtain ⟨h0, b, rfl, hh⟩ := hm.hd
  exact back_180 (pre := []) (post := [([98], .tup [.str wTxt, .int 0])]) (pr := []) (po := [.str []]) (v := p.1) (r := p.2) H hG (two_lw hm.w2) (by simp) (by simp) (by simp [D.flat, D.flatL]) hm.gd.1 hy
    (fun n μ => hch _ (n + 1) μ gc.no) rfl (by simp) (by simp [D.flat]) (hm.lf p hp).2.1.flat
    (fun n μ => cb_one (n := n + 3) H (lone_ne hh) (two_many hm.w2) (hm.bk p hp _ (n + 3) μ))
theorem lone_forth (H : Mv F) (hG : (G LK).isSome = true) (gc : GC G) (hm : MvT F x w told T) {p : D × D} (hp : p ∈ T) :
    run G F (n + 11) 179 [rec [([97], x), ([98], .tup [.str wTxt, .int 0])], .tup [mvD w [97] told], .tup [p.1, .str []]] μ = .ok (.tup [p.1, .str []]) μ := by
  obtain ⟨y, hy, hch⟩ := hm.ch
  obtain ⟨h0, b, rfl, hh⟩ := hm.hd
  exact forth_179 (pre := []) (post := [([98], .tup [.str wTxt, .int 0])]) (pr := []) (po := [.str []]) (v := p.1) (r := p.1) H hG (two_lw hm.w2) (by simp) (by simp) (by simp [D.flat, D.flatL]) hm.gd.1 hy
    (fun n μ => hch _ (n + 1) μ gc.no) rfl (by simp) (by simp [D.flat, (hm.lf p hp).1.flat])
    (fun n μ => cf_one (n := n + 3) H (lone_ne hh) (two_many hm.w2) (two_scale hm.w2))
theorem cb_pairs (H : Mv F) {m : D} {l : List D} {ps : List (D × D)} (hl : ps.length ≤ 1000) (hm : eqD μ (.str w) (.str wMany) = some false) (hf : ∀ p ∈ ps, Lf p.2) (h : ∀ p ∈ ps, run G F (n + 1) 161 [x, .tup (.str w :: l), p.1] μ = .ok p.2 μ) :
    run G F (n + 2) 163 [.tup [.str wLst, x, m], .tup (.str w :: l), .tup (ps.map Prod.fst)] μ = .ok (allR (ps.map Prod.snd)) μ := by
  have key : ∀ p ∈ ps, (match run G F (n + 1) 161 [x, .tup (.str w :: l), p.1] μ with | .ok d _ => d | _ => D.non) = p.2 := fun p hp => by rw [h p hp]
  have hmap : (ps.map Prod.fst).map (fun t => match run G F (n + 1) 161 [x, .tup (.str w :: l), t] μ with | .ok d _ => d | _ => D.non) = ps.map Prod.snd := by
    rw [List.map_map]
    exact List.map_congr_left key
  have := cb_list (G := G) (F := F) (n := n) (μ := μ) (x := x) (m := m) (l := l) (ts := ps.map Prod.fst) (f := fun t => match run G F (n + 1) 161 [x, .tup (.str w :: l), t] μ with | .ok d _ => d | _ => D.non) H (by rw [List.length_map]; exact hl) hm (fun t ht => by
      obtain ⟨p, hp, rfl⟩ := List.mem_map.mp ht
      show Lf (match run G F (n + 1) 161 [x, .tup (.str w :: l), p.1] μ with | .ok d _ => d | _ => D.non)
      rw [key p hp]
      exact hf p hp) (fun t ht => by
      obtain ⟨p, hp, rfl⟩ := List.mem_map.mp ht
      show _ = Res.ok (match run G F (n + 1) 161 [x, .tup (.str w :: l), p.1] μ with | .ok d _ => d | _ => D.non) μ
      rw [key p hp]
      exact h p hp)
  rw [hmap] at this
  exact this
abbrev lrec (x : D) (most : Int) : D := rec [([98], .tup [.str wNum, .int 3]), ([97], .tup [.str wLst, x, .int most])]
theorem list_flat {x : D} (h : x.flat = true) (most : Int) : (D.tup [.str wLst, x, .int most]).flat = true := by
  show (true && (x.flat && (true && true))) = true
  rw [h]; rfl
theorem list_back (H : Mv F) (hG : (G LK).isSome = true) (gc : GC G) (hm : MvT F x w told T) {most i : Int} {ps : List (D × D)} (hl : ps.length ≤ 100) (hp : ∀ p ∈ ps, p ∈ T) :
    run G F (n + 11) 180 [lrec x most, .tup [mvD w [97] told], .tup [.int i, .tup (ps.map Prod.fst)]] μ = .ok (rowR [.int i] [] (allR (ps.map Prod.snd))) μ := by
  obtain ⟨y, hy, hch⟩ := hm.ch
  have h1 : ∀ n μ, run (noLam G) F (n + 5) 150 [.tup [.str wLst, x, .int most], .str w, .tup told] μ = .ok (.tup [.str wLst, y, .int most]) μ := fun n μ => form_list (n := n + 3) H (two_many hm.w2) (hch _ n μ gc.no)
  have h2 : ∀ n μ, run (noLam G) F (n + 5) 163 [.tup [.str wLst, x, .int most], .tup (.str w :: .tup [] :: .str [97] :: told), .tup (ps.map Prod.fst)] μ = .ok (allR (ps.map Prod.snd)) μ := fun n μ =>
    cb_pairs (n := n + 3) H (by omega) (two_many hm.w2) (fun p hq => (hm.lf p (hp p hq)).2.1) (fun p hq => hm.bk p (hp p hq) _ (n + 3) μ)
  have hr : (allR (ps.map Prod.snd)).flat = true := allR_flat fun d hd => by
    obtain ⟨p, hq, rfl⟩ := List.mem_map.mp hd
    exact (hm.lf p (hp p hq)).2.1.flat
  have hx := list_flat hm.gd.1 most
  have hy2 := list_flat hy most
  have hw := two_lw hm.w2
  clear hch
  unfold lrec
  generalize hX : D.tup [.str wLst, x, .int most] = X at *
  generalize D.tup [.str wLst, y, .int most] = Y at *
  generalize hV : D.tup (ps.map Prod.fst) = V at *
  generalize allR (ps.map Prod.snd) = R at *
  have := back_180 (G := G) (F := F) (n := n) (μ := μ) (pre := [([98], .tup [.str wNum, .int 3])]) (post := []) (nm := [97]) (w := w) (x := X) (y := Y) (told := told) (pr := [.int i]) (po := []) (v := V) (r := R) H hG hw (by simp) (by simp) (by simp [D.flat, D.flatL]) hx hy2 h1 rfl (by simp) (by simp [D.flat]) hr h2
  exact this
theorem list_forth (H : Mv F) (hG : (G LK).isSome = true) (gc : GC G) (hm : MvT F x w told T) {most i : Int} {ps : List (D × D)} (hl : ps.length ≤ 100) (hp : ∀ p ∈ ps, p ∈ T) :
    run G F (n + 11) 179 [lrec x most, .tup [mvD w [97] told], .tup [.int i, .tup (ps.map Prod.fst)]] μ = .ok (.tup [.int i, .tup (ps.map Prod.fst)]) μ := by
  obtain ⟨y, hy, hch⟩ := hm.ch
  have h1 : ∀ n μ, run (noLam G) F (n + 5) 150 [.tup [.str wLst, x, .int most], .str w, .tup told] μ = .ok (.tup [.str wLst, y, .int most]) μ := fun n μ => form_list (n := n + 3) H (two_many hm.w2) (hch _ n μ gc.no)
  have h2 : ∀ n μ, run (noLam G) F (n + 5) 162 [.tup [.str wLst, x, .int most], .tup (.str w :: .tup [] :: .str [97] :: told), .tup (ps.map Prod.fst)] μ = .ok (.tup (ps.map Prod.fst)) μ := fun n μ =>
    cf_list (n := n + 3) H (by rw [List.length_map]; omega) (two_many hm.w2) (two_scale hm.w2)
  have hfl : (D.tup (ps.map Prod.fst)).flat = true := (flatL_all _).mpr fun d hd => by
    obtain ⟨p, hq, rfl⟩ := List.mem_map.mp hd
    exact (hm.lf p (hp p hq)).1.flat
  have hx := list_flat hm.gd.1 most
  have hy2 := list_flat hy most
  have hw := two_lw hm.w2
  clear hch
  unfold lrec
  generalize hX : D.tup [.str wLst, x, .int most] = X at *
  generalize D.tup [.str wLst, y, .int most] = Y at *
  generalize hV : D.tup (ps.map Prod.fst) = V at *
  have := forth_179 (G := G) (F := F) (n := n) (μ := μ) (pre := [([98], .tup [.str wNum, .int 3])]) (post := []) (nm := [97]) (w := w) (x := X) (y := Y) (told := told) (pr := [.int i]) (po := []) (v := V) (r := V) H hG hw (by simp) (by simp) (by simp [D.flat, D.flatL]) hx hy2 h1 rfl (by simp) (by simp [D.flat, hfl]) h2
  exact this
theorem many_ch (H : Mv F) (gc : GC G) (hm : TabX x T) {most : Int} (n : Nat) (μ : Mu) : run G F (n + 5) 150 [x, .str wMany, .tup [.int most]] μ = .ok (.tup [.str wLst, x, .int most]) μ := by
  obtain ⟨h0, b, rfl, hh⟩ := hm.hd
  exact form_many (n := n + 3) H gc.g122 hh
theorem many_back (H : Mv F) (hG : (G LK).isSome = true) (gc : GC G) (hm : TabX x T) {most : Int} {ts : List D} (hl : ts.length ≤ 100) (hts : ∀ d ∈ ts, d.flat = true) :
    run G F (n + 11) 180 [rec [([97], x)], .tup [mvD wMany [97] [.int most]], .tup [.tup ts]] μ = .ok (rowR [] [] (manyR ts)) μ := by
  exact back_180 (pre := []) (post := []) (pr := []) (po := []) (v := .tup ts) (r := manyR ts) (y := .tup [.str wLst, x, .int most]) H hG (.inr (.inr (.inl rfl))) (by simp) (by simp) (by simp) hm.gd.1 (list_flat hm.gd.1 most)
    (fun n μ => many_ch H gc.no hm n μ) rfl (by simp) (by simp) (by
      match ts, hts with
      | [], _ => rfl
      | [t], h => exact h t List.mem_cons_self
      | _ :: _ :: _, _ => rfl)
    (fun n μ => cb_many (n := n + 4) H)
theorem many_forth (H : Mv F) (hG : (G LK).isSome = true) (gc : GC G) (hm : TabX x T) {most : Int} {t : D} (ht : t.flat = true) :
    run G F (n + 11) 179 [rec [([97], x)], .tup [mvD wMany [97] [.int most]], .tup [t]] μ = .ok (.tup [.tup [t]]) μ := by
  exact forth_179 (pre := []) (post := []) (pr := []) (po := []) (v := t) (r := .tup [t]) (y := .tup [.str wLst, x, .int most]) H hG (.inr (.inr (.inl rfl))) (by simp) (by simp) (by simp) hm.gd.1 (list_flat hm.gd.1 most)
    (fun n μ => many_ch H gc.no hm n μ) rfl (by simp) (by simp [D.flat, D.flatL, ht])
    (fun n μ => cf_many (n := n + 4) H)
end

local macro_rules | `(tactic| solve_by_elim [evV_b_len_q_int, $[$xs:term],*]) => `(tactic| (try simp only [ss_n, ss_c, s_e, s_r, s_rN, s_a, s_i, s_x, s_p, s_b, s_c, s_f, s_w, v_var, v_con, v_glo, v_bin, v_neg, v_cmp, v_cmp2, v_and, v_or, v_not, v_ite, v_tup, v_lstT, v_lstF, v_cat, v_idx, v_lrep, v_slc, v_call, v_bi, v_me, v_comp, turnC_wp, c_n, c_s, es_n, es_c, eo_n, eo_s, t_var, t_con, t_cm, t_cm2, t_an, t_or', t_no, t_bi, t_call, t_idx, v_dictP, v_dictL, v_mlst, v_zipL, v_fnv, v_tget, v_callv, fnAt_fn, v_callL, cap_n, cap_c, s_sl, t_callv, v_new, v_fld, v_meth, s_sf, s_af, t_fld, t_meth, put_nm, put_tp, putL_n, putL_c, Option.bind_some, ofo_some, ofo_none, ofoE_some, ofoE_none, ofo_ite, ofo_map, ofo_bind, o_add, o_adds, o_addt, o_addl, o_sub, o_mul, o_muls, o_mult, l_rep, c_is, c_nis, is_bl, o_fdiv, o_mod, c_lt, c_le, c_gt, c_ge, c_eq, c_ne, c_in, c_nin, q_strd, tr_bl, x_tup, x_lst, intOf_int, b_isin, k_ii, k_bi, k_si, k_ss, k_is, k_tt, k_ti, k_ts, o_pow, i_r1, i_r2, i_tup, i_lst, i_en, b_lenl, b_tup, tup_lst, b_lst, b_int, b_inti, b_trg, b_lrg, b_min, atZ0, atZ1, atZ2, ixZ0, ixZ1, ixZ2, List.length_set, wp_ok, List.getElem?_cons_zero, List.getElem?_cons_succ, List.set_cons_zero, List.set_cons_succ, wipeR, List.length_cons, List.length_nil, List.map_cons, List.map_nil, List.replicate_succ, List.replicate_zero, List.cons_append, List.nil_append, decide_eq_true_eq, beq_iff_eq, Bool.not_eq_true', Bool.true_eq_false, and_self, Nat.zero_le, lim1, lim2, lim3, lim4, lim5, decide_true, decide_false, Bool.not_true, Bool.not_false, ite_true, ite_false, if_true, if_false, Bool.false_eq_true, $[$xs:term],*]))
/-! behind a move to many -/
section
variable {G : Nat → Option D} {F : Nat → Option Fn} {n : Nat} {μ : Mu} {x : D} {T : List (D × D)}
theorem worded_153 (H : Mv F) {most : Int} : run G F (n + 1) 153 [mvD wMany [97] [.int most]] μ = .ok (.bl true) μ := by
  refine wp_to (run_wp H.h153 rfl rfl ?_)
  show (exSs G (run G F n) b153 [some (.tup [.str wMany, .tup [], .str [97], .int most])] μ).wp _ _ _ _
  unfold b153
  have e1 : biD .len μ [.tup [.str wMany, .tup [], .str [97], .int most]] = some (.int 4) := rfl
  have e2 : eqD μ (.int 4) (.int 4) = some true := rfl
  have e5 : ((4 : Int) < 2) = False := eq_false (by decide)
  have e3 : ∀ d, (List.lookup wMany [([112, 117, 116], D.int 6), ([100, 114, 111, 112], .int 4), ([110, 97, 109, 101], .int 4), ([115, 104, 105, 102, 116], .int 4), ([119, 105, 116, 104, 105, 110], .int 5), ([111, 117, 116], .int 5), ([112, 97, 114, 116], .int 6), ([106, 111, 105, 110], .int 5)]).getD d = d := fun d => tg123 wMany (.inr (.inr (.inl rfl)))
  have e4 : ∀ d, (List.lookup wMany [([115, 99, 97, 108, 101], D.int 7), ([109, 111, 114, 101], .int 6), ([108, 111, 110, 103, 101, 114], .int 5), ([109, 97, 110, 121], .int 4)]).getD d = .int 4 := fun d => rfl
  solve_by_elim [evV_b_len_q_int, e1, e2, e3, e4, e5, strOf_str]
  try exact ⟨rfl, trivial⟩
theorem many_form (hm : TabX x T) {most : Int} (h0 : 1 ≤ most) (h1 : most ≤ 4) : formB 3 (rec [([97], .tup [.str wLst, x, .int most])]) = true := by
  have e1 : formB 2 (.tup [.str wLst, x, .int most]) = true := by
    show (if isW wLst (.str wLst) then plainB x && wholeB 1 4 (.int most) else if isW wRcd (.str wLst) then recQ (recB (formB 1)) [x, .int most] else plainB (.tup [.str wLst, x, .int most])) = true
    rw [if_pos (by decide), hm.pl, wholeI h0 h1]
    rfl
  show (if isW wLst (.str wR) then lstQ [.tup [.tup [.str [97], .tup [.str wLst, x, .int most]]]] else if isW wRcd (.str wR) then recB (formB 2) (.tup [.tup [.str [97], .tup [.str wLst, x, .int most]]]) else plainB (rec [([97], .tup [.str wLst, x, .int most])])) = true
  rw [if_neg (by decide), if_pos (by decide)]
  show (decide (1 ≤ 8) && (true && formB 2 (.tup [.str wLst, x, .int most]) && true) && decide ([([97] : Txt)]).Nodup) = true
  rw [e1]
  rfl
theorem behind_154 (H : Mv F) (h42 : F 42 = some f42) (h43 : F 43 = some f43) (h44 : F 44 = some f44) (h45 : F 45 = some f45) (h46 : F 46 = some f46) (h47 : F 47 = some f47) (h48 : F 48 = some f48) (hG : (G LK).isSome = true) (gc : GC G) (hm : TabX x T) {most : Int} (m0 : 1 ≤ most) (m1 : most ≤ 4) :
    run G F (n + 15) 154 [rec [([97], x)], mvD wMany [97] [.int most]] μ = .ok (rec [([97], .tup [.str wLst, x, .int most])]) μ := by
  have hg : Gd (rec [([97], .tup [.str wLst, x, .int most])]) := by
    have g1 : Gd (.tup [.str wLst, x, .int most]) := Gd.tup (by simp) fun d hd => by
      rcases List.mem_cons.mp hd with rfl | hd
      · exact Gd.str (by decide)
      · rcases List.mem_cons.mp hd with rfl | hd
        · exact hm.gd
        · rcases List.mem_cons.mp hd with rfl | hd
          · exact gd_int _
          · cases hd
    refine Gd.tup (by simp) fun d hd => ?_
    rcases List.mem_cons.mp hd with rfl | hd
    · exact Gd.str (by decide)
    · rcases List.mem_cons.mp hd with rfl | hd
      · refine Gd.tup (by simp) fun d hd => ?_
        rcases List.mem_cons.mp hd with rfl | hd
        · refine Gd.tup (by simp) fun d hd => ?_
          rcases List.mem_cons.mp hd with rfl | hd
          · exact Gd.str (by simp)
          · rcases List.mem_cons.mp hd with rfl | hd
            · exact g1
            · cases hd
        · cases hd
      · cases hd
  have e48 := form_48 (G := G) (F := F) (n := n) (μ := μ) H.h23 h42 h43 h44 h45 h46 h47 h48 gc.g34 gc.g35 gc.g36 gc.g37 gc.g38 gc.g39 gc.g40 gc.g41 (.gd hg)
  rw [many_form hm m0 m1] at e48
  have e1 : run G F (n + 14) (152 + LB) [rec [([97], x)], .tup [], .fn 1000188 [mvD wMany [97] [.int most], .fn 151 []]] μ = .ok (rec [([97], .tup [.str wLst, x, .int most])]) μ := by
    have a1 := chg_151 (G := noLam G) (F := F) (n := n + 9) (μ := μ) H.h131 H.h134 H.h151 (w := wMany) (told := [.int most]) (pre := []) (post := []) (nm := [97]) (x := x) (y := .tup [.str wLst, x, .int most]) (by simp) (by simp) (fun μ => many_ch H gc.no hm (n + 5) μ)
    have a2 := lam_188 (G := noLam G) (F := F) (μ := μ) H.l188 a1
    have a3 := rec_152 (G := noLam G) (F := F) (μ := μ) (n := n + 11) H.h130 H.h152 a2
    rw [callL_run H.n152 hG]
    exact (congrArg (within μ) a3).trans (within_ok hg.1)
  have e0 := worded_153 (G := G) (F := F) (n := n + 13) (μ := μ) H (most := most)
  have m30 := must_130 (G := G) (n := n + 13) (μ := μ) H.h130
  unfold mvD at e0 e1 ⊢
  generalize rec [([97], .tup [.str wLst, x, .int most])] = r1 at e48 e1 ⊢
  generalize rec [([97], x)] = r0 at e1 ⊢
  have hlb : 152 + LB = 1000152 := rfl
  refine wp_to (run_wp H.h154 rfl rfl ?_)
  show (exSs G (run G F (n + 14)) b154 [some r0, some (.tup [.str wMany, .tup [], .str [97], .int most]), none, none] μ).wp _ _ _ _
  unfold b154
  have t1 := fun d => tg126 (w := wMany) (d := d) (.inr (.inr (.inl rfl)))
  have t2 := fun d => tg125 (w := wMany) (d := d) (.inr (.inr (.inl rfl)))
  refine ss_step ?_; intro K hK
  solve_by_elim [evW, e0, m30]
  simp only [hK]
  clear hK
  refine ss_step ?_; intro K hK
  solve_by_elim [evW, strOf_str, t1, t2]
  simp only [hK]
  clear hK
  refine ss_step ?_; intro K hK
  solve_by_elim [evW, cap_c, cap_n, e1]
  simp only [hK]
  clear hK
  refine ss_step ?_; intro K hK
  solve_by_elim [evW, e48, m30]
  simp only [hK]
  solve_by_elim [evW]
  try exact ⟨rfl, trivial⟩
end

local macro_rules | `(tactic| solve_by_elim [evV_o_mult, $[$xs:term],*]) => `(tactic| (try simp only [ss_n, ss_c, s_e, s_r, s_rN, s_a, s_i, s_x, s_p, s_b, s_c, s_f, s_w, v_var, v_con, v_glo, v_bin, v_neg, v_cmp, v_cmp2, v_and, v_or, v_not, v_ite, v_tup, v_lstT, v_lstF, v_cat, v_idx, v_lrep, v_slc, v_call, v_bi, v_me, v_comp, turnC_wp, c_n, c_s, es_n, es_c, eo_n, eo_s, t_var, t_con, t_cm, t_cm2, t_an, t_or', t_no, t_bi, t_call, t_idx, v_dictP, v_dictL, v_mlst, v_zipL, v_fnv, v_tget, v_callv, fnAt_fn, v_callL, cap_n, cap_c, s_sl, t_callv, v_new, v_fld, v_meth, s_sf, s_af, t_fld, t_meth, put_nm, put_tp, putL_n, putL_c, Option.bind_some, ofo_some, ofo_none, ofoE_some, ofoE_none, ofo_ite, ofo_map, ofo_bind, o_add, o_adds, o_addt, o_addl, o_sub, o_mul, o_muls, l_rep, c_is, c_nis, is_bl, o_fdiv, o_mod, c_lt, c_le, c_gt, c_ge, c_eq, c_ne, c_in, c_nin, q_int, q_strd, tr_bl, x_tup, x_lst, intOf_int, b_isin, k_ii, k_bi, k_si, k_ss, k_is, k_tt, k_ti, k_ts, o_pow, i_r1, i_r2, i_tup, i_lst, i_en, b_len, b_lenl, b_tup, tup_lst, b_lst, b_int, b_inti, b_trg, b_lrg, b_min, atZ0, atZ1, atZ2, ixZ0, ixZ1, ixZ2, List.length_set, wp_ok, List.getElem?_cons_zero, List.getElem?_cons_succ, List.set_cons_zero, List.set_cons_succ, wipeR, List.length_cons, List.length_nil, List.map_cons, List.map_nil, List.replicate_succ, List.replicate_zero, List.cons_append, List.nil_append, decide_eq_true_eq, beq_iff_eq, Bool.not_eq_true', Bool.true_eq_false, and_self, Nat.zero_le, lim1, lim2, lim3, lim4, lim5, decide_true, decide_false, Bool.not_true, Bool.not_false, ite_true, ite_false, if_true, if_false, Bool.false_eq_true, $[$xs:term],*]))
/-! lists of one thing -/
theorem eq_self {μ : Mu} {a : D} (h : a.flat = true) (hd : a.depth ≤ 64) : eqD μ a a = some true := by
  rw [eq_flat h h hd, eqv_refl a h]
theorem Tk.items {k : Nat} {μ : Mu} {t : D} {l : List D} (h : Tk k μ t l) : ∃ g, itemsD .seq μ [t] = some (l, g) ∧ stays μ g = true := by
  rcases h with rfl | ⟨j, rfl, _, hg⟩
  · exact ⟨[], rfl, rfl⟩
  · refine ⟨[(j, l)], i_loc hg, ?_⟩
    show (decide (μ[j]? = some (.lst l)) && true) = true
    rw [decide_eq_true hg]
    rfl
theorem lf_eq {μ : Mu} {a b : D} (ha : Lf a) (hb : Lf b) : ∃ c, eqD μ a b = some c := ⟨_, eq_flat ha.flat hb.flat (by rw [hb.depth]; omega)⟩
section
variable {G : Nat → Option D} {F : Nat → Option Fn} {n : Nat} {μ : Mu} {x : D} {T : List (D × D)}
theorem many_198 (H : Mv F) (h182 : F 182 = some f182) (h198 : F 198 = some f198) (h42 : F 42 = some f42) (h43 : F 43 = some f43) (h44 : F 44 = some f44) (h45 : F 45 = some f45) (h46 : F 46 = some f46) (h47 : F 47 = some f47) (h48 : F 48 = some f48) (hG : (G LK).isSome = true) (gc : GC G) (hm : TabX x T) {k : Nat} {μ1 : Mu} (h : Sk k μ μ1) {t : D} (ht : Tk k μ1 t (T.map pr)) :
    (run G F (n + 16) 198 [.loc k, x, t] μ1).wp fun d μ' => d = .bl true ∧ Sk k μ μ' := by
  refine run_wp h198 rfl rfl ?_
  show (exSs G (run G F (n + 15)) b198 [some (.loc k), some x, some t, none, none, none, none, none, none] μ1).wp _ _ _ _
  unfold b198
  refine ss_step ?_; intro K hK
  solve_by_elim [evW]
  refine Res.wp_mono (draw_182 (n := n + 14) h182 h (by omega) (by decide)) fun d μ2 hd => ?_
  obtain ⟨q, rfl, hq0, hq1, h2⟩ := hd
  obtain ⟨most, hmost⟩ : ∃ most : Int, 1 + q = most := ⟨_, rfl⟩
  have m0 : 1 ≤ most := by omega
  have m1 : most ≤ 4 := by omega
  solve_by_elim [evW, hmost]
  simp only [hK]
  clear hK
  have e154 := behind_154 (G := G) (n := n) (μ := μ2) H h42 h43 h44 h45 h46 h47 h48 hG gc hm m0 m1
  have eself : eqD μ2 (rec [([97], .tup [.str wLst, x, .int most])]) (rec [([97], .tup [.str wLst, x, .int most])]) = some true := eq_self (rec_flat (by simp [list_flat hm.gd.1])) (by
    have := hm.dep
    simp [rec, fm, D.depth, D.depthL]
    omega)
  have e179 := fun t ht => many_forth (G := G) (n := n + 4) (μ := μ2) (most := most) (t := t) H hG gc hm ht
  have e180 := fun ts h h' => many_back (G := G) (n := n + 4) (μ := μ2) (most := most) (ts := ts) H hG gc hm h h'
  have ht2 := ht.mv h h2
  have hshow : ∀ y, rec [([97], y)] = .tup [.str wR, .tup [.tup [.str [97], y]]] := fun _ => rfl
  rw [hshow, hshow] at e154
  rw [hshow] at eself
  simp only [hshow] at e179 e180
  refine ss_step ?_; intro K hK
  solve_by_elim [evW]
  simp only [hK]
  clear hK
  refine ss_step ?_; intro K hK
  solve_by_elim [evW]
  simp only [hK]
  clear hK
  unfold mvD at e154 e179 e180
  generalize hM : D.tup [.str wMany, .tup [], .str [97], .int most] = M at e154 e179 e180 ⊢
  generalize hR : D.tup [.str wR, .tup [.tup [.str [97], x]]] = R at e154 e179 e180 ⊢
  refine ss_step ?_; intro K hK
  solve_by_elim [evW, e154, eself]
  simp only [hK]
  clear hK
  refine ss_step ?_; intro K hK
  obtain ⟨g, hg, hs⟩ := ht2.items
  solve_by_elim [evW, hg]
  refine for_wp _ (fun i ρ μ' => μ' = μ2 ∧ ∃ x0 x1 x2 x6 x7 x8, ρ = [x0, x1, x2, some (.int most), some M, some R, x6, x7, x8]) 0 _ _ ⟨rfl, _, _, _, _, _, _, rfl⟩ (fun _ _ _ hI => by rw [hI.1]; exact hs) ?_ ?_
  · rintro i d ρ μ' hd ⟨rfl, x0, x1, x2, x6, x7, x8, rfl⟩
    obtain ⟨p, hp, rfl⟩ := List.mem_map.mp (List.mem_of_getElem? hd)
    obtain ⟨l1, l2, hne⟩ := hm.lf p hp
    unfold pr
    simp only [put_nm, put_tp, putL_n, putL_c, Option.bind_some, wipeR, List.set_cons_zero, List.set_cons_succ]
    obtain ⟨c, hc⟩ := lf_eq (μ := μ') l2 l1
    generalize hp1 : p.1 = u at l1 hne hc ⊢
    generalize p.2 = v at l2 hc ⊢
    have f1 := e179 u l1.flat
    have f2 := e180 [u] (by simp) (by simp [l1.flat])
    rw [show rowR [] [] (manyR [u]) = .tup [u] from rowR_some hne] at f2
    have q1 : eqD μ' (.tup [.tup [u]]) (.tup [.tup [u]]) = some true := eq_self (by simp [D.flat, D.flatL, l1.flat]) (by simp [D.depth, D.depthL, l1.depth])
    have q2 : eqD μ' (.tup [u]) (.tup [u]) = some true := eq_self (by simp [D.flat, D.flatL, l1.flat]) (by simp [D.depth, D.depthL, l1.depth])
    cases c with
    | false =>
      solve_by_elim [evW, hc]
      exact ⟨by trivial, _, _, _, _, _, _, rfl⟩
    | true =>
      have hmul : ∀ j : Int, (j = 0 ∨ j = 2 ∨ j = 3 ∨ j = 4) → ∃ ts, binD .mul μ' (.tup [u]) (.int j) = some (.tup ts) ∧ run G F (n + 15) 180 [R, .tup [M], .tup [.tup ts]] μ' = .ok .non μ' := fun j hj => by
        have fl : ∀ m : Nat, ∀ d ∈ (List.replicate m [u]).flatten, d.flat = true := fun m d hd => by
          obtain ⟨l, hl, hd⟩ := List.mem_flatten.mp hd
          rw [(List.mem_replicate.mp hl).2] at hd
          have : d = u := by simpa using hd
          rw [this]; exact l1.flat
        refine ⟨(List.replicate j.toNat [u]).flatten, by rw [o_mult, if_pos ⟨by omega, by omega, by simp⟩], ?_⟩
        rw [e180 _ (by rcases hj with rfl | rfl | rfl | rfl <;> simp) (fl _)]
        rcases hj with rfl | rfl | rfl | rfl <;> rfl
      clear e179 e180
      solve_by_elim [evW, hc, f1, f2, q1, q2]
      refine for_wp _ (fun i ρ μ2 => μ2 = μ' ∧ ∃ x0 x1 x2 x7 x8, ρ = [x0, x1, x2, some (.int most), some M, some R, some u, x7, x8]) 0 _ _ ⟨rfl, _, _, _, _, _, rfl⟩ (fun _ _ _ _ => rfl) ?_ ?_
      · rintro i2 d ρ μ2 hd ⟨rfl, x0, x1, x2, x7, x8, rfl⟩
        obtain ⟨j, rfl, hj⟩ : ∃ j : Int, d = .int j ∧ (j = 0 ∨ j = 2 ∨ j = 3 ∨ j = 4) := by
          have := List.mem_of_getElem? hd
          simp only [List.mem_cons, List.not_mem_nil, or_false] at this
          rcases this with rfl | rfl | rfl | rfl
          · exact ⟨_, rfl, .inl rfl⟩
          · exact ⟨_, rfl, .inr (.inl rfl)⟩
          · exact ⟨_, rfl, .inr (.inr (.inl rfl))⟩
          · exact ⟨_, rfl, .inr (.inr (.inr rfl))⟩
        obtain ⟨ts, g1, g2⟩ := hmul j hj
        have nn : isD D.non .non = some true := rfl
        by_cases hle : j ≤ most
        · solve_by_elim [evV_o_mult, hle, g1, g2, nn]
          exact ⟨by trivial, _, _, _, _, _, rfl⟩
        · solve_by_elim [evW, hle]
          exact ⟨by trivial, _, _, _, _, _, rfl⟩
      · rintro ρ μ2 ⟨rfl, x0, x1, x2, x7, x8, rfl⟩
        (try simp only [wipeR, List.set_cons_zero, List.set_cons_succ])
        solve_by_elim [evW]
        exact ⟨by trivial, _, _, _, _, _, _, rfl⟩
  · rintro ρ μ' ⟨rfl, x0, x1, x2, x6, x7, x8, rfl⟩
    (try simp only [wipeR, List.set_cons_zero, List.set_cons_succ])
    simp only [hK]
    solve_by_elim [evW]
    exact ⟨by trivial, h2⟩
end

local macro_rules | `(tactic| solve_by_elim [evV_b_len_b_lenl, $[$xs:term],*]) => `(tactic| (try simp only [ss_n, ss_c, s_e, s_r, s_rN, s_a, s_i, s_x, s_p, s_b, s_c, s_f, s_w, v_var, v_con, v_glo, v_bin, v_neg, v_cmp, v_cmp2, v_and, v_or, v_not, v_ite, v_tup, v_lstT, v_lstF, v_cat, v_idx, v_lrep, v_slc, v_call, v_bi, v_me, v_comp, turnC_wp, c_n, c_s, es_n, es_c, eo_n, eo_s, t_var, t_con, t_cm, t_cm2, t_an, t_or', t_no, t_bi, t_call, t_idx, v_dictP, v_dictL, v_mlst, v_zipL, v_fnv, v_tget, v_callv, fnAt_fn, v_callL, cap_n, cap_c, s_sl, t_callv, v_new, v_fld, v_meth, s_sf, s_af, t_fld, t_meth, put_nm, put_tp, putL_n, putL_c, Option.bind_some, ofo_some, ofo_none, ofoE_some, ofoE_none, ofo_ite, ofo_map, ofo_bind, o_add, o_adds, o_addt, o_addl, o_sub, o_mul, o_muls, o_mult, l_rep, c_is, c_nis, is_bl, o_fdiv, o_mod, c_lt, c_le, c_gt, c_ge, c_eq, c_ne, c_in, c_nin, q_int, q_strd, tr_bl, x_tup, x_lst, intOf_int, b_isin, k_ii, k_bi, k_si, k_ss, k_is, k_tt, k_ti, k_ts, o_pow, i_r1, i_r2, i_tup, i_lst, i_en, b_tup, tup_lst, b_lst, b_int, b_inti, b_trg, b_lrg, b_min, atZ0, atZ1, atZ2, ixZ0, ixZ1, ixZ2, List.length_set, wp_ok, List.getElem?_cons_zero, List.getElem?_cons_succ, List.set_cons_zero, List.set_cons_succ, wipeR, List.length_cons, List.length_nil, List.map_cons, List.map_nil, List.replicate_succ, List.replicate_zero, List.cons_append, List.nil_append, decide_eq_true_eq, beq_iff_eq, Bool.not_eq_true', Bool.true_eq_false, and_self, Nat.zero_le, lim1, lim2, lim3, lim4, lim5, decide_true, decide_false, Bool.not_true, Bool.not_false, ite_true, ite_false, if_true, if_false, Bool.false_eq_true, $[$xs:term],*]))
/-! lists of things -/
theorem non_in {μ : Mu} {l : List D} (h : ∀ d ∈ l, Lf d) : inD μ .non (.lst l) = some (decide (D.non ∈ l)) := by
  unfold inD
  have hfl : D.flatL l = true := (flatL_all _).mpr fun d hd => (h d hd).flat
  show (if D.non.flat && D.flatL l && decide (D.non.depth ≤ 64) then some (l.any fun x => x.eqv .non) else none) = _
  rw [hfl, if_pos (show (D.non.flat && true && decide (D.non.depth ≤ 64)) = true from rfl)]
  congr 1
  rw [Bool.eq_iff_iff, List.any_eq_true, decide_eq_true_iff]
  constructor
  · rintro ⟨d, hd, he⟩
    cases d with
    | non => exact hd
    | _ => simp [D.eqv] at he
  · exact fun h => ⟨_, h, rfl⟩
theorem lf_dep {l : List D} (h : ∀ d ∈ l, Lf d) : D.depthL l = 0 := Nat.le_zero.mp (depthL_le fun d hd => by rw [(h d hd).depth]; exact Nat.le_refl _)
theorem lf_fl {l : List D} (h : ∀ d ∈ l, Lf d) : D.flatL l = true := (flatL_all _).mpr fun d hd => (h d hd).flat
theorem due_eq {μ : Mu} {l : List D} (h : ∀ d ∈ l, Lf d) {i : Int} : eqD μ (rowR [.int i] [] (allR l)) (rowR [.int i] [] (allR l)) = some true := by
  by_cases hn : D.non ∈ l
  · rw [allR, if_pos hn]; rfl
  · rw [allR, if_neg hn, rowR_some (by intro e; cases e)]
    refine eq_self ?_ ?_
    · simp [D.flat, D.flatL, lf_fl h]
    · simp [D.depth, D.depthL, lf_dep h]
theorem due_if {l : List D} {i : Int} : rowR [.int i] [] (allR l) = if D.non ∈ l then .non else .tup [.int i, .tup l] := by
  by_cases hn : D.non ∈ l
  · rw [allR, if_pos hn, if_pos hn]; rfl
  · rw [allR, if_neg hn, if_neg hn, rowR_some (by intro e; cases e)]; rfl
section
variable {G : Nat → Option D} {F : Nat → Option Fn} {n : Nat} {μ : Mu} {x : D} {w : Txt} {told : List D} {T : List (D × D)}
theorem list_197 (H : Mv F) (h182 : F 182 = some f182) (h197 : F 197 = some f197) (hG : (G LK).isSome = true) (gc : GC G) (hm : MvT F x w told T) {k : Nat} {μ1 : Mu} (h : Sk k μ μ1) {t : D} (ht : Tk k μ1 t (T.map pr)) {most : Int} (m0 : 1 ≤ most) (m1 : most ≤ 4) :
    (run G F (n + 12) 197 [.loc k, x, mvD w [97] told, t, .int most] μ1).wp fun d μ' => d = .bl true ∧ Sk k μ μ' := by
  refine run_wp h197 rfl rfl ?_
  show (exSs G (run G F (n + 11)) b197 [some (.loc k), some x, some (mvD w [97] told), some t, some (.int most), none, none, none, none, none, none, none] μ1).wp _ _ _ _
  unfold b197
  have e180 := fun μ (ps : List (D × D)) h h' => list_back (G := G) (F := F) (n := n) (μ := μ) (most := most) (i := 2) (ps := ps) H hG gc hm h h'
  have e179 := fun μ (ps : List (D × D)) h h' => list_forth (G := G) (F := F) (n := n) (μ := μ) (most := most) (i := 1) (ps := ps) H hG gc hm h h'
  have hshow : lrec x most = .tup [.str wR, .tup [.tup [.str [98], .tup [.str wNum, .int 3]], .tup [.str [97], .tup [.str wLst, x, .int most]]]] := rfl
  rw [hshow] at e179 e180
  refine ss_step ?_; intro K hK
  solve_by_elim [evW]
  simp only [hK]
  clear hK
  generalize D.tup [.str wR, .tup [.tup [.str [98], .tup [.str wNum, .int 3]], .tup [.str [97], .tup [.str wLst, x, .int most]]]] = R at e179 e180 ⊢
  generalize mvD w [97] told = M at e179 e180 ⊢
  refine ss_step ?_; intro K hK
  solve_by_elim [evW]
  rw [if_pos (by omega)]
  refine for_wp _ (fun i ρ μ' => Sk k μ μ' ∧ ∃ x5 x6 x7 x8 x9 x10 x11, ρ = [some (.loc k), some R, some M, some t, some (.int most), x5, x6, x7, x8, x9, x10, x11]) 0 _ _ ⟨h, _, _, _, _, _, _, _, rfl⟩ (fun _ _ _ _ => rfl) ?_ ?_
  · rintro i d ρ μ2 hd ⟨h2, x5, x6, x7, x8, x9, x10, x11, rfl⟩
    simp only [put_nm, put_tp, putL_n, putL_c, Option.bind_some, wipeR, List.set_cons_zero, List.set_cons_succ]
    have ht2 := ht.mv h h2
    refine ss_step ?_; intro K2 hK2
    solve_by_elim [evW]
    refine Res.wp_mono (draw_182 (n := n + 10) h182 h2 (by omega) (by omega)) fun d μ3 hd => ?_
    obtain ⟨q, rfl, hq0, hq1, h3⟩ := hd
    solve_by_elim [evW]
    rw [if_pos (by omega)]
    refine comp_wp _ (fun i acc μ' => i ≤ 4 ∧ ∃ ps : List (D × D), acc = ps.map pr ∧ ps.length = i ∧ (∀ p ∈ ps, p ∈ T) ∧ Sk k μ μ') 0 _ _ ⟨by omega, [], rfl, rfl, by simp, h3⟩ (fun i acc μ' hI => ⟨rfl, fun _ => ?_⟩) ?_ ?_
    · obtain ⟨hi8, ps, rfl, hps, _⟩ := hI
      rw [List.length_map, lim_val]; omega
    · rintro i d acc μ4 hd ⟨hi8, ps, rfl, hps, hall, h4⟩
      obtain ⟨rfl, hi⟩ := rngL_get hd
      have hlen := (ht.mv h h4).len
      rw [List.length_map] at hlen
      obtain ⟨len0, len1⟩ := hm.len
      solve_by_elim [evV_b_len_b_lenl, hlen]
      refine Res.wp_mono (draw_182 (n := n + 10) h182 h4 (by omega) (by omega)) fun d μ5 hd => ?_
      obtain ⟨z, rfl, hz0, hz1, h5⟩ := hd
      have hidx := (ht.mv h h5).idx (i := z)
      obtain ⟨p, hp, ep⟩ : ∃ p ∈ T, atZ (T.map pr) z = some (pr p) := by
        obtain ⟨a, e, h⟩ := atZ_int (l := T.map pr) hz0 (by rw [List.length_map]; exact hz1)
        obtain ⟨p, hp, rfl⟩ := List.mem_map.mp (List.mem_of_getElem? h)
        exact ⟨p, hp, e⟩
      rw [ep] at hidx
      solve_by_elim [evW, hidx]
      refine ⟨by omega, ps ++ [p], by rw [List.map_append]; rfl, by rw [List.length_append, hps]; rfl, fun y hy => ?_, h5⟩
      rcases List.mem_append.mp hy with hy | hy
      · exact hall y hy
      · have : y = p := by simpa using hy
        rw [this]; exact hp
    rintro acc μ4 ⟨hi8, ps, rfl, hps, hall, h4⟩
    rw [rngL_len] at hps hi8
    solve_by_elim [evW]
    simp only [hK2]
    clear hK2
    have hl : ps.length ≤ 4 := by omega
    have lf1 : ∀ d ∈ ps.map Prod.fst, Lf d := fun d hd => by
      obtain ⟨p, hp, rfl⟩ := List.mem_map.mp hd
      exact (hm.lf p (hall p hp)).1
    have lf2 : ∀ d ∈ ps.map Prod.snd, Lf d := fun d hd => by
      obtain ⟨p, hp, rfl⟩ := List.mem_map.mp hd
      exact (hm.lf p (hall p hp)).2.1
    have b180 := e180 μ4 ps (by omega) hall
    have b179 := e179 μ4 (ps.filter fun p => p.2.eqv p.1) (Nat.le_trans (List.length_filter_le _ _) (by omega)) (fun p hp => hall p ((List.mem_filter.mp hp).1))
    have lf3 : ∀ d ∈ (ps.filter fun p => p.2.eqv p.1).map Prod.fst, Lf d := fun d hd => by
      obtain ⟨p, hp, rfl⟩ := List.mem_map.mp hd
      exact (hm.lf p (hall p ((List.mem_filter.mp hp).1))).1
    have qd := due_eq (μ := μ4) lf2 (i := 2)
    have hdue := due_if (l := ps.map Prod.snd) (i := 2)
    have hin := non_in (μ := μ4) lf2
    have fm1 : (ps.map pr).filterMap (fun d => match d with | .tup [a, b] => some b | _ => none) = ps.map Prod.snd := by
      rw [List.filterMap_map, ← List.filterMap_eq_map]; rfl
    have fm2 : (ps.map pr).filterMap (fun d => match d with | .tup [a, b] => some a | _ => none) = ps.map Prod.fst := by
      rw [List.filterMap_map, ← List.filterMap_eq_map]; rfl
    have fm3 : (ps.map pr).filterMap (fun d => match d with | .tup [a, b] => if b.eqv a then some a else none | _ => none) = (ps.filter fun p => p.2.eqv p.1).map Prod.fst := by
      clear hps hall hl lf1 lf2 b180 b179 lf3 qd hdue hin fm1 fm2 e180 e179
      induction ps with
      | nil => rfl
      | cons p r ih =>
        rw [List.map_cons, List.filterMap_cons, List.filter_cons, ih]
        cases hc : p.2.eqv p.1 with
        | true => simp only [pr, hc, if_true, List.map_cons]
        | false => simp only [pr, hc, Bool.false_eq_true, if_false]
    have hpl : (ps.map pr).length ≤ 4 := by rw [List.length_map]; exact hl
    have hget : ∀ d ∈ ps.map pr, ∃ a b, d = .tup [a, b] ∧ Lf a ∧ Lf b := fun d hd => by
      obtain ⟨p, hp, rfl⟩ := List.mem_map.mp hd
      have := hm.lf p (hall p hp)
      exact ⟨_, _, rfl, this.1, this.2.1⟩
    have q1 : eqD μ4 (.tup [.int 1, .tup ((ps.filter fun p => p.2.eqv p.1).map Prod.fst)]) (.tup [.int 1, .tup ((ps.filter fun p => p.2.eqv p.1).map Prod.fst)]) = some true := eq_self (by simp only [D.flat, D.flatL, lf_fl lf3, Bool.and_self]) (by simp only [D.depth, D.depthL, lf_dep lf3]; decide)
    generalize ps.map pr = L at fm1 fm2 fm3 hpl hget ⊢
    generalize ps.map Prod.snd = L2 at *
    generalize ps.map Prod.fst = L1 at *
    generalize (ps.filter fun p => p.2.eqv p.1).map Prod.fst = L3 at *
    generalize hrow : rowR [.int 2] [] (allR L2) = due at b180 qd hdue
    have cp : ∀ (ρ : Rho) (e : E) (c : Option E) (f : D → Option D) (r : List D), (∀ d ∈ L, turnC G (run G F (n + 11)) [10, 11] e (.tp [.nm 10, .nm 11]) c ρ d μ4 = .ok (f d) μ4) → L.filterMap f = r → compL [] (turnC G (run G F (n + 11)) [10, 11] e (.tp [.nm 10, .nm 11]) c ρ) L [] μ4 = .ok r μ4 := fun ρ e c f r h1 h2 => by
      rw [comp_pure (f := f) L [] rfl (by rw [List.length_nil, lim_val]; omega) h1, List.nil_append, h2]
    refine ss_step ?_; intro K2 hK2
    solve_by_elim [evW]
    rw [cp _ _ _ _ _ (fun d hd => by
      obtain ⟨a, b, rfl, _⟩ := hget d hd
      refine wp_to ?_
      solve_by_elim [evW, turnC_wp]
      try exact ⟨rfl, trivial⟩) fm1]
    solve_by_elim [evW]
    simp only [hK2]
    clear hK2
    have rest : ∀ y5 y8 y9, (exSs G (run G F (n + 11)) [.if_ (.cmp .ne (.call 180 [.var 1, .tup [.var 2], .tup [.con (.int 2), .bi .tuple [.comp false [10, 11] (.var 10) (.tp [.nm 10, .nm 11]) .seq [.var 6] none]]]) (.var 7)) [.ret (.con (.bl false))] [], .asg (.nm 8) (.bi .tuple [.comp false [10, 11] (.var 10) (.tp [.nm 10, .nm 11]) .seq [.var 6] (some (.cmp .eq (.var 11) (.var 10)))]), .if_ (.cmp .ne (.call 179 [.var 1, .tup [.var 2], .tup [.con (.int 1), .var 8]]) (.tup [.con (.int 1), .var 8])) [.ret (.con (.bl false))] []] [some (.loc k), some R, some M, some t, some (.int most), y5, some (.lst L), some due, y8, y9, x10, x11] μ4).wp (fun ρ μ' => Sk k μ μ' ∧ ∃ x5 x6 x7 x8 x9 x10 x11, ρ = [some (.loc k), some R, some M, some t, some (.int most), x5, x6, x7, x8, x9, x10, x11]) (fun d μ' => d = .bl true ∧ Sk k μ μ') (fun _ _ => False) (fun ρ μ' => Sk k μ μ' ∧ ∃ x5 x6 x7 x8 x9 x10 x11, ρ = [some (.loc k), some R, some M, some t, some (.int most), x5, x6, x7, x8, x9, x10, x11]) := fun y5 y8 y9 => by
      refine ss_step ?_; intro K2 hK2
      solve_by_elim [evW]
      rw [cp _ _ _ _ _ (fun d hd => by
        obtain ⟨a, b, rfl, _⟩ := hget d hd
        refine wp_to ?_
        solve_by_elim [evW, turnC_wp]
        try exact ⟨rfl, trivial⟩) fm2]
      solve_by_elim [evW, b180, qd]
      simp only [hK2]
      clear hK2
      refine ss_step ?_; intro K2 hK2
      solve_by_elim [evW]
      rw [cp _ _ _ _ _ (fun d hd => by
        obtain ⟨a, b, rfl, la, lb⟩ := hget d hd
        refine wp_to ?_
        have hq : eqD μ4 b a = some (b.eqv a) := eq_flat lb.flat la.flat (by rw [la.depth]; omega)
        cases hc : b.eqv a with
        | true =>
          rw [hc] at hq
          solve_by_elim [evW, turnC_wp, hq, hc]
          try exact ⟨rfl, trivial⟩
        | false =>
          rw [hc] at hq
          solve_by_elim [evW, turnC_wp, hq, hc]
          try exact ⟨rfl, trivial⟩) fm3]
      solve_by_elim [evW]
      simp only [hK2]
      clear hK2
      refine ss_step ?_; intro K2 hK2
      solve_by_elim [evW, b179, q1]
      simp only [hK2]
      solve_by_elim [evW]
      exact ⟨h4, _, _, _, _, _, _, _, rfl⟩
    refine ss_step ?_; intro K2 hK2
    by_cases hn : D.non ∈ L2
    · rw [decide_eq_true hn] at hin
      rw [if_pos hn] at hdue
      rw [hdue] at rest
      solve_by_elim [evW, hin]
      simp only [hK2]
      exact Out.wp_mono (rest _ _ _) (fun _ _ h => h) (fun _ _ h => h) (fun _ _ h => h.elim) (fun _ _ h => h)
    · rw [decide_eq_false hn] at hin
      rw [if_neg hn] at hdue
      rw [hdue] at rest
      solve_by_elim [evW, hin]
      simp only [hK2]
      exact Out.wp_mono (rest _ _ _) (fun _ _ h => h) (fun _ _ h => h) (fun _ _ h => h.elim) (fun _ _ h => h)
  · rintro ρ μ' ⟨h2, x5, x6, x7, x8, x9, x10, x11, rfl⟩
    (try simp only [wipeR, List.set_cons_zero, List.set_cons_succ])
    simp only [hK]
    solve_by_elim [evW]
    exact ⟨by trivial, h2⟩
end

local macro_rules | `(tactic| solve_by_elim [evV_b_len_b_lenl_x_lst, $[$xs:term],*]) => `(tactic| (try simp only [ss_n, ss_c, s_e, s_r, s_rN, s_a, s_i, s_x, s_p, s_b, s_c, s_f, s_w, v_var, v_con, v_glo, v_bin, v_neg, v_cmp, v_cmp2, v_and, v_or, v_not, v_ite, v_tup, v_lstT, v_lstF, v_cat, v_idx, v_lrep, v_slc, v_call, v_bi, v_me, v_comp, turnC_wp, c_n, c_s, es_n, es_c, eo_n, eo_s, t_var, t_con, t_cm, t_cm2, t_an, t_or', t_no, t_bi, t_call, t_idx, v_dictP, v_dictL, v_mlst, v_zipL, v_fnv, v_tget, v_callv, fnAt_fn, v_callL, cap_n, cap_c, s_sl, t_callv, v_new, v_fld, v_meth, s_sf, s_af, t_fld, t_meth, put_nm, put_tp, putL_n, putL_c, Option.bind_some, ofo_some, ofo_none, ofoE_some, ofoE_none, ofo_ite, ofo_map, ofo_bind, o_add, o_adds, o_addt, o_addl, o_sub, o_mul, o_muls, o_mult, l_rep, c_is, c_nis, is_bl, o_fdiv, o_mod, c_lt, c_le, c_gt, c_ge, c_eq, c_ne, c_in, c_nin, q_int, q_strd, tr_bl, x_tup, intOf_int, b_isin, k_ii, k_bi, k_si, k_ss, k_is, k_tt, k_ti, k_ts, o_pow, i_r1, i_r2, i_tup, i_lst, i_en, b_tup, tup_lst, b_lst, b_int, b_inti, b_trg, b_lrg, b_min, atZ0, atZ1, atZ2, ixZ0, ixZ1, ixZ2, List.length_set, wp_ok, List.getElem?_cons_zero, List.getElem?_cons_succ, List.set_cons_zero, List.set_cons_succ, wipeR, List.length_cons, List.length_nil, List.map_cons, List.map_nil, List.replicate_succ, List.replicate_zero, List.cons_append, List.nil_append, decide_eq_true_eq, beq_iff_eq, Bool.not_eq_true', Bool.true_eq_false, and_self, Nat.zero_le, lim1, lim2, lim3, lim4, lim5, decide_true, decide_false, Bool.not_true, Bool.not_false, ite_true, ite_false, if_true, if_false, Bool.false_eq_true, $[$xs:term],*]))
/-! the law -/
def turnsM (l : Int) : Int := if (if 8 < l then 8 else l) > 1 then (if 8 < l then 8 else l) else 1
theorem turnsM_le (l : Int) : 1 ≤ turnsM l ∧ turnsM l ≤ 8 := by unfold turnsM; split <;> split at * <;> omega
theorem turns_max {μ : Mu} {l : Int} : biD .max2 μ [.int 1, .int (if 8 < l then 8 else l)] = some (.int (turnsM l)) := rfl
section
variable {G : Nat → Option D} {F : Nat → Option Fn} {n : Nat} {μ : Mu}
theorem cell_3 (h3 : F 3 = some f3) (ns : List Int) {i : Int} (hi : 0 ≤ i) : (run G F (n + 1) 3 [.lst (ns.map .int), .int i] μ).wp fun d μ' => ∃ c, d = .int c ∧ μ' = μ := by
  refine run_wp h3 rfl rfl ?_
  show (exSs G (run G F n) b3 [some (.lst (ns.map .int)), some (.int i)] μ).wp _ _ _ _
  unfold b3
  have hlen : biD .len μ [.lst (ns.map .int)] = some (.int ns.length) := by
    show some (D.int ((ns.map D.int).length : Nat)) = _
    rw [List.length_map]
  refine ss_step ?_; intro K hK
  by_cases hc : i < ns.length
  · obtain ⟨a, e, h⟩ := atZ_int (l := ns.map D.int) hi (by rw [List.length_map]; exact hc)
    obtain ⟨c, _, rfl⟩ := List.mem_map.mp (List.mem_of_getElem? h)
    have hix : idxD μ (.lst (ns.map .int)) (.int i) = some (.int c) := e
    generalize (ns.length : Int) = ll at hlen hc
    solve_by_elim [evV_b_len_b_lenl_x_lst, hlen, hc, hix]
    exact ⟨c, rfl, trivial⟩
  · generalize (ns.length : Int) = ll at hlen hc
    solve_by_elim [evV_b_len_b_lenl_x_lst, hlen, hc]
    simp only [hK]
    solve_by_elim [evW]
    exact ⟨0, rfl, trivial⟩
theorem num_tab {m : Int} (h0 : 1 ≤ m) (h1 : m ≤ 24) : TabX (.tup [.str wNum, .int m]) ((rngL 0 m.toNat).map fun d => (d, d)) := by
  refine { hd := ⟨_, _, rfl, .inl rfl⟩, gd := Gd.tup (by simp) ?_, pl := ?_, dep := by simp [D.depth, D.depthL], lf := ?_, len := ?_ }
  · intro d hd
    rcases List.mem_cons.mp hd with rfl | hd
    · exact Gd.str (by decide)
    · rcases List.mem_cons.mp hd with rfl | hd
      · exact gd_int _
      · cases hd
  · show (if isW wNum (.str wNum) then wholeB 1 240 (.int m) else if isW wTxt (.str wNum) then wholeB 0 20 (.int m) else isW wCho (.str wNum) && chosB (.int m)) = true
    rw [if_pos (by decide)]
    exact wholeI h0 (by omega)
  · intro p hp
    obtain ⟨d, hd, rfl⟩ := List.mem_map.mp hp
    obtain ⟨i, hi⟩ := List.getElem?_of_mem hd
    obtain ⟨rfl, _⟩ := rngL_get hi
    exact ⟨.int, .int, fun e => by cases e⟩
  · rw [List.length_map, rngL_len]
    omega
end
theorem law_true (ns : List Int) (h : ns.length ≤ 63) (G : Nat → Option D) (F : Nat → Option Fn) (h3 : F 3 = some f3) (h23 : F 23 = some f23) (h42 : F 42 = some f42) (h43 : F 43 = some f43) (h44 : F 44 = some f44) (h45 : F 45 = some f45) (h46 : F 46 = some f46) (h47 : F 47 = some f47) (h48 : F 48 = some f48)
    (h130 : F 130 = some f130) (h131 : F 131 = some f131) (h132 : F 132 = some f132) (h133 : F 133 = some f133) (h134 : F 134 = some f134) (h148 : F 148 = some f148) (h149 : F 149 = some f149) (h150 : F 150 = some f150) (h151 : F 151 = some f151) (h152 : F 152 = some f152) (h153 : F 153 = some f153) (h154 : F 154 = some f154) (h155 : F 155 = some f155) (h159 : F 159 = some f159) (h161 : F 161 = some f161) (h162 : F 162 = some f162) (h163 : F 163 = some f163)
    (h176 : F 176 = some f176) (h177 : F 177 = some f177) (h178 : F 178 = some f178) (h179 : F 179 = some f179) (h180 : F 180 = some f180) (h181 : F 181 = some f181) (h182 : F 182 = some f182) (h192 : F 192 = some f192) (h193 : F 193 = some f193) (h194 : F 194 = some f194) (h196 : F 196 = some f196) (h197 : F 197 = some f197) (h198 : F 198 = some f198) (h200 : F 200 = some f200) (h201 : F 201 = some f201)
    (l188 : F 1000188 = some f1000188) (l189 : F 1000189 = some f1000189) (l190 : F 1000190 = some f1000190) (l191 : F 1000191 = some f1000191) (n152 : F 1000152 = none) (n178 : F 1000178 = none)
    (g34 : G 34 = some (.str az)) (g35 : G 35 = some (.int 8)) (g36 : G 36 = some (.int 240)) (g37 : G 37 = some (.int 6)) (g38 : G 38 = some (.int 20)) (g39 : G 39 = some (.int 4)) (g40 : G 40 = some (.int 8)) (g41 : G 41 = some (.int 3)) (g121 : G 121 = some (.int 1000000000)) (g122 : G 122 = some (.tup [.str wNum, .str wCho, .str wTxt])) (gl : G 999999 = some .non) :
    ∃ μ, run G F 110 201 [.lst (ns.map .int)] [] = .ok (.bl true) μ := by
  have H : Mv F := ⟨h23, h130, h131, h132, h133, h134, h148, h149, h150, h151, h152, h153, h154, h155, h159, h161, h162, h163, h176, h177, h178, h179, h180, l188, l189, l190, l191, n152, n178⟩
  have hG : (G LK).isSome = true := by
    have : G LK = some .non := gl
    rw [this]; rfl
  have gc : GC G := ⟨g34, g35, g36, g37, g38, g39, g40, g41, g121, g122⟩
  clear h23 h130 h131 h132 h133 h134 h148 h149 h150 h151 h152 h153 h154 h155 h159 h161 h162 h163 h176 h177 h178 h179 h180 l188 l189 l190 l191 n152 n178 g34 g35 g36 g37 g38 g39 g40 g41 g121 g122 gl
  have key : (run G F 110 201 [.lst (ns.map .int)] []).wp fun d _ => d = .bl true := by
    refine run_wpz (n := 109) h201 rfl rfl ?_
    show (exSs G (run G F 109) b201 [some (.lst (ns.map .int)), none, none, none, none, none, none, none, none, none, none] []).wp _ _ _ _
    unfold b201
    have hlen : biD .len [] [.lst (ns.map .int)] = some (.int ns.length) := by
      show some (D.int ((ns.map D.int).length : Nat)) = _
      rw [List.length_map]
    have hcell := fun (i : Int) (hi : 0 ≤ i) (μ : Mu) => cell_3 (G := G) (F := F) (n := 108) (μ := μ) h3 ns hi
    generalize hll : (ns.length : Int) = ll at hlen
    generalize ns.map D.int = args at hlen hcell ⊢
    refine ss_step ?_; intro K hK
    solve_by_elim [evV_b_len_b_lenl, hlen, turns_max]
    obtain ⟨t0, t1⟩ := turnsM_le ll
    rw [if_pos (by omega)]
    refine for_wp _ (fun i ρ μ' => ∃ x1 x2 x3 x4 x5 x6 x7 x8 x9 x10, ρ = [some (.lst args), x1, x2, x3, x4, x5, x6, x7, x8, x9, x10]) 0 _ _ ⟨_, _, _, _, _, _, _, _, _, _, rfl⟩ (fun _ _ _ _ => rfl) ?_ ?_
    · rintro i d ρ μ' hd ⟨x1, x2, x3, x4, x5, x6, x7, x8, x9, x10, rfl⟩
      obtain ⟨rfl, hi⟩ := rngL_get hd
      obtain ⟨ii, hii⟩ : ∃ ii : Int, (0 : Int) + i = ii := ⟨_, rfl⟩
      rw [hii]
      simp only [put_nm, put_tp, putL_n, putL_c, Option.bind_some, wipeR, List.set_cons_zero, List.set_cons_succ]
      refine ss_step ?_; intro K1 hK1
      solve_by_elim [evW]
      refine Res.wp_mono (hcell ii (by omega) μ') fun d μ2 hd => ?_
      obtain ⟨c, rfl, rfl⟩ := hd
      solve_by_elim [evW]
      refine Res.wp_mono (begin_181 (n := 108) h181 c) fun d μ3 hd => ?_
      obtain ⟨rfl, a, b, rfl, ha, hb0, hb1⟩ := hd
      solve_by_elim [evW]
      simp only [hK1]
      clear hK1
      have hSk : Sk μ2.length (μ2 ++ [.lst [.int a, .int b]]) (μ2 ++ [.lst [.int a, .int b]]) := ⟨by rw [List.length_append, List.length_singleton]; omega, a, b, (set_idM push_get).symm, ha, hb0, hb1⟩
      have hBl : (μ2 ++ [Cell.lst [.int a, .int b]]).length = μ2.length + 1 := by rw [List.length_append]; rfl
      generalize μ2.length = k at *
      generalize μ2 ++ [Cell.lst [.int a, .int b]] = B0 at *
      refine ss_step ?_; intro K1 hK1
      solve_by_elim [evW]
      refine Res.wp_mono (longer_200 (n := 106) H h182 h194 h200 hSk) fun d μ4 hd => ?_
      obtain ⟨xa, ta, Ta, μ5, rfl, hma, rfl, hS5⟩ := hd
      solve_by_elim [evW]
      refine Res.wp_mono (more_196 (n := 105) H h182 h192 h193 h196 (hS5.push [Cell.lst (Ta.map pr)])) fun d μ6 hd => ?_
      obtain ⟨xb, tb, Tb, rfl, hmb, hS6⟩ := hd
      have htab : ∀ d ∈ [D.tup [xa, mvD wLonger [97] ta, .loc B0.length], .tup [xb, mvD wMore [97] tb, .lst (Tb.map pr)]], ∃ x w told T t, d = .tup [x, mvD w [97] told, t] ∧ MvT F x w told T ∧ Tk k (B0 ++ [Cell.lst (Ta.map pr)]) t (T.map pr) := fun d hd => by
        rcases List.mem_cons.mp hd with rfl | hd
        · exact ⟨_, _, _, _, _, rfl, hma, .inr ⟨_, rfl, by omega, push_get⟩⟩
        · rcases List.mem_cons.mp hd with rfl | hd
          · exact ⟨_, _, _, _, _, rfl, hmb, .inl rfl⟩
          · cases hd
      have hB : Sk k (B0 ++ [Cell.lst (Ta.map pr)]) (B0 ++ [Cell.lst (Ta.map pr)]) := hSk.push _
      clear hma hmb hS5 hSk
      generalize B0 ++ [Cell.lst (Ta.map pr)] = B at *
      generalize hL : [D.tup [xa, mvD wLonger [97] ta, .loc B0.length], .tup [xb, mvD wMore [97] tb, .lst (Tb.map pr)]] = L at htab ⊢
      solve_by_elim [evW, hL]
      refine for_wp _ (fun i ρ μ' => Sk k B μ' ∧ ∃ x1 x3 x4 x5 x6 x7 x8 x9 x10, ρ = [some (.lst args), x1, some (.loc k), x3, x4, x5, x6, x7, x8, x9, x10]) 0 _ _ ⟨hS6, _, _, _, _, _, _, _, _, _, rfl⟩ (fun _ _ _ _ => rfl) ?_ ?_
      · rintro i2 d ρ μ7 hd ⟨h7, x1, x3, x4, x5, x6, x7, x8, x9, x10, rfl⟩
        obtain ⟨x, w, told, T, t, rfl, hm, ht⟩ := htab d (List.mem_of_getElem? hd)
        have e180 := fun μ (p : D × D) (hp : p ∈ T) => lone_back (G := G) (F := F) (n := 98) (μ := μ) H hG gc hm hp
        have e179 := fun μ (p : D × D) (hp : p ∈ T) => lone_forth (G := G) (F := F) (n := 98) (μ := μ) H hG gc hm hp
        have hshow : rec [([97], x), ([98], .tup [.str wTxt, .int 0])] = .tup [.str wR, .tup [.tup [.str [97], x], .tup [.str [98], .tup [.str wTxt, .int 0]]]] := rfl
        rw [hshow] at e180 e179
        have e197 := fun {μ1 : Mu} (h : Sk k B μ1) {most : Int} m0 m1 => list_197 (n := 97) H h182 h197 hG gc hm h (ht.mv hB h) (most := most) m0 m1
        have e198 := fun {μ1 : Mu} (h : Sk k B μ1) => many_198 (n := 93) H h182 h198 h42 h43 h44 h45 h46 h47 h48 hG gc hm.toTabX h (ht.mv hB h)
        generalize mvD w [97] told = M at *
        simp only [put_nm, put_tp, putL_n, putL_c, Option.bind_some, wipeR, List.set_cons_zero, List.set_cons_succ]
        refine ss_step ?_; intro K2 hK2
        solve_by_elim [evW]
        simp only [hK2]
        clear hK2
        generalize D.tup [.str wR, .tup [.tup [.str [97], x], .tup [.str [98], .tup [.str wTxt, .int 0]]]] = R at e180 e179 ⊢
        refine ss_step ?_; intro K2 hK2
        obtain ⟨g, hg, hs⟩ := (ht.mv hB h7).items
        solve_by_elim [evW, hg]
        refine for_wp _ (fun i ρ μ' => μ' = μ7 ∧ ∃ x1 x3 x8 x9 x10, ρ = [some (.lst args), x1, some (.loc k), x3, some x, some M, some t, some R, x8, x9, x10]) 0 _ _ ⟨rfl, _, _, _, _, _, rfl⟩ (fun _ _ _ hI => by rw [hI.1]; exact hs) ?_ ?_
        · rintro i3 d ρ μ8 hd ⟨rfl, x1, x3, x8, x9, x10, rfl⟩
          obtain ⟨p, hp, rfl⟩ := List.mem_map.mp (List.mem_of_getElem? hd)
          obtain ⟨l1, l2, hne⟩ := hm.lf p hp
          obtain ⟨c, hc⟩ := lf_eq (μ := μ8) l2 l1
          have f1 := e180 μ8 p hp
          have f2 := e179 μ8 p hp
          unfold pr
          simp only [put_nm, put_tp, putL_n, putL_c, Option.bind_some, wipeR, List.set_cons_zero, List.set_cons_succ]
          generalize p.1 = u at *
          generalize p.2 = v at *
          have q2 : eqD μ8 (.tup [u, .str []]) (.tup [u, .str []]) = some true := eq_self (by simp [D.flat, D.flatL, l1.flat]) (by simp [D.depth, D.depthL, l1.depth])
          have q3 : eqD μ8 (.tup [v, .str []]) (.tup [v, .str []]) = some true := eq_self (by simp [D.flat, D.flatL, l2.flat]) (by simp [D.depth, D.depthL, l2.depth])
          have q4 : eqD μ8 .non .non = some true := rfl
          have step2 : (exSs G (run G F 109) [.if_ (.and_ (.cmp .eq (.var 9) (.var 8)) (.cmp .ne (.call 179 [.var 7, .tup [.var 5], .tup [.var 8, .con (.str [])]]) (.tup [.var 8, .con (.str [])]))) [.ret (.con (.bl false))] []] [some (.lst args), none, some (.loc k), none, some x, some M, some t, some R, some u, some v, x10] μ8).wp (fun ρ μ' => μ' = μ8 ∧ ∃ x1 x3 x8 x9 x10, ρ = [some (.lst args), x1, some (.loc k), x3, some x, some M, some t, some R, x8, x9, x10]) (fun _ _ => False) (fun _ _ => False) (fun _ _ => False) := by
            cases c with
            | true =>
              solve_by_elim [evW, hc, f2, q2]
              exact ⟨by trivial, _, _, _, _, _, rfl⟩
            | false =>
              solve_by_elim [evW, hc]
              exact ⟨by trivial, _, _, _, _, _, rfl⟩
          refine ss_step ?_; intro K3 hK3
          by_cases hv : v = .non
          · subst hv
            rw [rowR_non] at f1
            solve_by_elim [evW, f1, isN, q4]
            simp only [hK3]
            exact Out.wp_mono step2 (fun _ _ h => h) (fun _ _ h => h.elim) (fun _ _ h => h.elim) (fun _ _ h => h.elim)
          · rw [rowR_some hv] at f1
            solve_by_elim [evW, f1, isN, hv, q3]
            simp only [hK3]
            exact Out.wp_mono step2 (fun _ _ h => h) (fun _ _ h => h.elim) (fun _ _ h => h.elim) (fun _ _ h => h.elim)
        · rintro ρ μ8 ⟨rfl, x1, x3, x8, x9, x10, rfl⟩
          (try simp only [wipeR, List.set_cons_zero, List.set_cons_succ])
          simp only [hK2]
          clear hK2
          refine ss_step ?_; intro K2 hK2
          solve_by_elim [evW]
          refine Res.wp_mono (draw_182 (n := 108) h182 h7 (by omega) (by decide)) fun d μ9 hd => ?_
          obtain ⟨q, rfl, hq0, hq1, h9⟩ := hd
          obtain ⟨most, hmost⟩ : ∃ most : Int, 1 + q = most := ⟨_, rfl⟩
          solve_by_elim [evW, hmost]
          refine Res.wp_mono (e197 h9 (by omega) (by omega)) fun d μ10 hd => ?_
          obtain ⟨rfl, h10⟩ := hd
          solve_by_elim [evW]
          simp only [hK2]
          clear hK2
          solve_by_elim [evW]
          refine Res.wp_mono (e198 h10) fun d μ11 hd => ?_
          obtain ⟨rfl, h11⟩ := hd
          solve_by_elim [evW]
          exact ⟨h11, _, _, _, _, _, _, _, _, _, rfl⟩
      · rintro ρ μ7 ⟨h7, x1, x3, x4, x5, x6, x7, x8, x9, x10, rfl⟩
        (try simp only [wipeR, List.set_cons_zero, List.set_cons_succ])
        simp only [hK1]
        clear hK1
        refine ss_step ?_; intro K2 hK2
        solve_by_elim [evW]
        refine Res.wp_mono (draw_182 (n := 108) h182 h7 (by omega) (by decide)) fun d μ9 hd => ?_
        obtain ⟨q, rfl, hq0, hq1, h9⟩ := hd
        obtain ⟨m, hmm⟩ : ∃ m : Int, 1 + q = m := ⟨_, rfl⟩
        solve_by_elim [evW, hmm]
        simp only [hK2]
        clear hK2
        solve_by_elim [evW]
        rw [if_pos (by omega)]
        have hfm : (rngL 0 m.toNat).filterMap (fun d => some (D.tup [d, d])) = ((rngL 0 m.toNat).map fun d => (d, d)).map pr := by
          rw [List.map_map, ← List.filterMap_eq_map]; rfl
        have hturn : ∀ x1 x4 x5 x6 x7 x8 x9 x10, ∀ d ∈ rngL 0 m.toNat, turnC G (run G F 109) [10] (.tup [.var 10, .var 10]) (.nm 10) none [some (.lst args), x1, some (.loc k), some (.int m), x4, x5, x6, x7, x8, x9, x10] d μ9 = .ok (some (.tup [d, d])) μ9 := fun _ _ _ _ _ _ _ _ d hd => by
          refine wp_to ?_
          solve_by_elim [evW, turnC_wp]
          try exact ⟨rfl, trivial⟩
        rw [comp_pure (f := fun d => some (D.tup [d, d])) _ _ rfl (by rw [List.length_nil, rngL_len, lim_val]; omega) (hturn _ _ _ _ _ _ _ _), List.nil_append, hfm]
        solve_by_elim [evW]
        refine Res.wp_mono (many_198 (n := 93) H h182 h198 h42 h43 h44 h45 h46 h47 h48 hG gc (num_tab (m := m) (by omega) (by omega)) h9 (t := .lst (((rngL 0 m.toNat).map fun d => (d, d)).map pr)) (.inl rfl)) fun d μ11 hd => ?_
        obtain ⟨rfl, h11⟩ := hd
        solve_by_elim [evW]
        exact ⟨_, _, _, _, _, _, _, _, _, _, rfl⟩
    · rintro ρ μ' ⟨x1, x2, x3, x4, x5, x6, x7, x8, x9, x10, rfl⟩
      (try simp only [wipeR, List.set_cons_zero, List.set_cons_succ])
      simp only [hK]
      solve_by_elim [evW]
      exact fin_end rfl fun _ => rfl
  obtain ⟨d, μ, e, rfl⟩ := wp_eq key
  exact ⟨μ, e⟩


end LawX
set_option Elab.async false
set_option linter.all false
set_option maxRecDepth 100000
set_option maxHeartbeats 0
namespace LawX
open PySem PySem.Spec PyProof.Rows L2 Ev
theorem gHBinds : BindAll (gH.map HD.d) := trivial
abbrev gF : Nat → Option Fn := fnOfL gD gX.ls
abbrev gG : Nat → Option D := gOf gC gX
theorem gb42 : BindE d42 := fun _ _ _ _ _ _ us hl => match us, hl with | [_], _ => rfl
theorem gb23 : BindE d23 := fun _ _ _ _ _ _ us hl => match us, hl with | [_, _, _], _ => rfl
theorem gb43 : BindE d43 := fun _ _ _ _ _ _ us hl => match us, hl with | [_], _ => rfl
theorem gb44 : BindE d44 := fun _ _ _ _ _ _ us hl => match us, hl with | [_], _ => rfl
theorem gb45 : BindE d45 := fun _ _ _ _ _ _ us hl => match us, hl with | [_, _], _ => rfl
theorem gb46 : BindE d46 := fun _ _ _ _ _ _ us hl => match us, hl with | [_, _], _ => rfl
theorem gb47 : BindE d47 := fun _ _ _ _ _ _ us hl => match us, hl with | [_, _], _ => rfl
theorem gb48 : BindE d48 := fun _ _ _ _ _ _ us hl => match us, hl with | [_], _ => rfl
theorem gb24 : BindE d24 := fun _ _ _ _ _ _ us hl => match us, hl with | [_, _], _ => rfl
theorem gb25 : BindE d25 := fun _ _ _ _ _ _ us hl => match us, hl with | [_, _], _ => rfl
theorem gb26 : BindE d26 := fun _ _ _ _ _ _ us hl => match us, hl with | [_, _], _ => rfl
theorem gb130 : BindE d130 := fun _ _ _ _ _ _ us hl => match us, hl with | [_], _ => rfl
theorem gb131 : BindE d131 := fun _ _ _ _ _ _ us hl => match us, hl with | [_, _], _ => rfl
theorem gb132 : BindE d132 := fun _ _ _ _ _ _ us hl => match us, hl with | [_, _], _ => rfl
theorem gb133 : BindE d133 := fun _ _ _ _ _ _ us hl => match us, hl with | [_, _, _], _ => rfl
theorem gb134 : BindE d134 := fun _ _ _ _ _ _ us hl => match us, hl with | [_, _, _], _ => rfl
theorem gb135 : BindE d135 := fun _ _ _ _ _ _ us hl => match us, hl with | [_, _], _ => rfl
theorem gb136 : BindE d136 := fun _ _ _ _ _ _ us hl => match us, hl with | [_, _], _ => rfl
theorem gb137 : BindE d137 := fun _ _ _ _ _ _ us hl => match us, hl with | [_, _], _ => rfl
theorem gb138 : BindE d138 := fun _ _ _ _ _ _ us hl => match us, hl with | [_, _], _ => rfl
theorem gb139 : BindE d139 := fun _ _ _ _ _ _ us hl => match us, hl with | [_, _], _ => rfl
theorem gb140 : BindE d140 := fun _ _ _ _ _ _ us hl => match us, hl with | [_, _], _ => rfl
theorem gb141 : BindE d141 := fun _ _ _ _ _ _ us hl => match us, hl with | [_, _], _ => rfl
theorem gb142 : BindE d142 := fun _ _ _ _ _ _ us hl => match us, hl with | [_, _], _ => rfl
theorem gb143 : BindE d143 := fun _ _ _ _ _ _ us hl => match us, hl with | [_, _], _ => rfl
theorem gb144 : BindE d144 := fun _ _ _ _ _ _ us hl => match us, hl with | [_], _ => rfl
theorem gb145 : BindE d145 := fun _ _ _ _ _ _ us hl => match us, hl with | [_, _], _ => rfl
theorem gb146 : BindE d146 := fun _ _ _ _ _ _ us hl => match us, hl with | [_, _], _ => rfl
theorem gb147 : BindE d147 := fun _ _ _ _ _ _ us hl => match us, hl with | [_, _], _ => rfl
theorem gb148 : BindE d148 := fun _ _ _ _ _ _ us hl => match us, hl with | [_, _], _ => rfl
theorem gb149 : BindE d149 := fun _ _ _ _ _ _ us hl => match us, hl with | [_, _], _ => rfl
theorem gb150 : BindE d150 := fun _ _ _ _ _ _ us hl => match us, hl with | [_, _, _], _ => rfl
theorem gb151 : BindE d151 := fun _ _ _ _ _ _ us hl => match us, hl with | [_, _], _ => rfl
theorem gb152 : BindE d152 := fun _ _ _ _ _ _ us hl => match us, hl with | [_, _, _], _ => rfl
theorem gb153 : BindE d153 := fun _ _ _ _ _ _ us hl => match us, hl with | [_], _ => rfl
theorem gb154 : BindE d154 := fun _ _ _ _ _ _ us hl => match us, hl with | [_, _], _ => rfl
theorem gb155 : BindE d155 := fun _ _ _ _ _ _ us hl => match us, hl with | [_, _], _ => rfl
theorem gb156 : BindE d156 := fun _ _ _ _ _ _ us hl => match us, hl with | [_, _], _ => rfl
theorem gb157 : BindE d157 := fun _ _ _ _ _ _ us hl => match us, hl with | [_, _], _ => rfl
theorem gb158 : BindE d158 := fun _ _ _ _ _ _ us hl => match us, hl with | [_, _], _ => rfl
theorem gb159 : BindE d159 := fun _ _ _ _ _ _ us hl => match us, hl with | [_, _], _ => rfl
theorem gb160 : BindE d160 := fun _ _ _ _ _ _ us hl => match us, hl with | [_, _, _], _ => rfl
theorem gb161 : BindE d161 := fun _ _ _ _ _ _ us hl => match us, hl with | [_, _, _], _ => rfl
theorem gb162 : BindE d162 := fun _ _ _ _ _ _ us hl => match us, hl with | [_, _, _], _ => rfl
theorem gb163 : BindE d163 := fun _ _ _ _ _ _ us hl => match us, hl with | [_, _, _], _ => rfl
theorem gb164 : BindE d164 := fun _ _ _ _ _ _ us hl => match us, hl with | [_, _, _], _ => rfl
theorem gb165 : BindE d165 := fun _ _ _ _ _ _ us hl => match us, hl with | [_, _, _], _ => rfl
theorem gb166 : BindE d166 := fun _ _ _ _ _ _ us hl => match us, hl with | [_, _, _], _ => rfl
theorem gb167 : BindE d167 := fun _ _ _ _ _ _ us hl => match us, hl with | [_, _, _], _ => rfl
theorem gb168 : BindE d168 := fun _ _ _ _ _ _ us hl => match us, hl with | [_, _, _], _ => rfl
theorem gb169 : BindE d169 := fun _ _ _ _ _ _ us hl => match us, hl with | [_, _, _], _ => rfl
theorem gb170 : BindE d170 := fun _ _ _ _ _ _ us hl => match us, hl with | [_, _, _], _ => rfl
theorem gb171 : BindE d171 := fun _ _ _ _ _ _ us hl => match us, hl with | [_, _, _], _ => rfl
theorem gb172 : BindE d172 := fun _ _ _ _ _ _ us hl => match us, hl with | [_, _, _], _ => rfl
theorem gb173 : BindE d173 := fun _ _ _ _ _ _ us hl => match us, hl with | [_, _, _], _ => rfl
theorem gb174 : BindE d174 := fun _ _ _ _ _ _ us hl => match us, hl with | [_, _, _], _ => rfl
theorem gb175 : BindE d175 := fun _ _ _ _ _ _ us hl => match us, hl with | [_, _, _], _ => rfl
theorem gb176 : BindE d176 := fun _ _ _ _ _ _ us hl => match us, hl with | [_, _, _], _ => rfl
theorem gb177 : BindE d177 := fun _ _ _ _ _ _ us hl => match us, hl with | [_, _, _], _ => rfl
theorem gb178 : BindE d178 := fun _ _ _ _ _ _ us hl => match us, hl with | [_, _, _, _], _ => rfl
theorem gb179 : BindE d179 := fun _ _ _ _ _ _ us hl => match us, hl with | [_, _, _], _ => rfl
theorem gb180 : BindE d180 := fun _ _ _ _ _ _ us hl => match us, hl with | [_, _, _], _ => rfl
theorem gb3 : BindE d3 := fun _ _ _ _ _ _ us hl => match us, hl with | [_, _], _ => rfl
theorem gb181 : BindE d181 := fun _ _ _ _ _ _ us hl => match us, hl with | [_], _ => rfl
theorem gb182 : BindE d182 := fun _ _ _ _ _ _ us hl => match us, hl with | [_, _], _ => rfl
theorem gb192 : BindE d192 := fun _ _ _ _ _ _ us hl => match us, hl with | [_, _], _ => rfl
theorem gb193 : BindE d193 := fun _ _ _ _ _ _ us hl => match us, hl with | [_, _], _ => rfl
theorem gb194 : BindE d194 := fun _ _ _ _ _ _ us hl => match us, hl with | [_, _], _ => rfl
theorem gb200 : BindE d200 := fun _ _ _ _ _ _ us hl => match us, hl with | [_], _ => rfl
theorem gb196 : BindE d196 := fun _ _ _ _ _ _ us hl => match us, hl with | [_], _ => rfl
theorem gb197 : BindE d197 := fun _ _ _ _ _ _ us hl => match us, hl with | [_, _, _, _, _], _ => rfl
theorem gb198 : BindE d198 := fun _ _ _ _ _ _ us hl => match us, hl with | [_, _, _], _ => rfl
theorem gb201 : BindE d201 := fun _ _ _ _ _ _ us hl => match us, hl with | [_], _ => rfl
theorem gBinds : BindAll gD := ⟨gb42, gb23, gb43, gb44, gb45, gb46, gb47, gb48, gb24, gb25, gb26, gb130, gb131, gb132, gb133, gb134, gb135, gb136, gb137, gb138, gb139, gb140, gb141, gb142, gb143, gb144, gb145, gb146, gb147, gb148, gb149, gb150, gb151, gb152, gb153, gb154, gb155, gb156, gb157, gb158, gb159, gb160, gb161, gb162, gb163, gb164, gb165, gb166, gb167, gb168, gb169, gb170, gb171, gb172, gb173, gb174, gb175, gb176, gb177, gb178, gb179, gb180, gb3, gb181, gb182, gb192, gb193, gb194, gb200, gb196, gb197, gb198, gb201, trivial⟩
theorem gChk : chkAll gD gH gC gB gK gX = true := by decide +kernel
theorem gKok : gK.ok gD = true := by decide +kernel
theorem law_fin (ns : List Int) (h : ns.length ≤ 63) : ∃ μ, run gG gF 110 201 [.lst (ns.map .int)] [] = .ok (.bl true) μ := law_true ns h gG gF (by rfl) (by rfl) (by rfl) (by rfl) (by rfl) (by rfl) (by rfl) (by rfl) (by rfl) (by rfl) (by rfl) (by rfl) (by rfl) (by rfl) (by rfl) (by rfl) (by rfl) (by rfl) (by rfl) (by rfl) (by rfl) (by rfl) (by rfl) (by rfl) (by rfl) (by rfl) (by rfl) (by rfl) (by rfl) (by rfl) (by rfl) (by rfl) (by rfl) (by rfl) (by rfl) (by rfl) (by rfl) (by rfl) (by rfl) (by rfl) (by rfl) (by rfl) (by rfl) (by rfl) (by rfl) (by rfl) (by rfl) (by rfl) (by rfl) (by rfl) (by rfl) (by rfl) (by rfl) (by rfl) (by rfl) (by rfl) (by rfl) (by rfl)
end LawX
open PySem PySem.W PySem.Calls PyProof.Rows
theorem PySem.Challenge.cw_everreader_k17_texts_choices_lists_back_holds : PySem.Challenge.rw_everreader_k17_texts_choices_lists_back.Holds := by
  w_on; o_law
  refine HandSHeadRun.head_any (r := OpenLaw.row PySem.Challenge.rw_everreader_k17_texts_choices_lists_back) (q := view (OpenLaw.row PySem.Challenge.rw_everreader_k17_texts_choices_lists_back).prog [98]) (H := LawX.hk) (ob := LawX.ob) (M := 6000) (loose := LawX.gLoose) (d := HandSHeadRun.topDef (OpenLaw.row PySem.Challenge.rw_everreader_k17_texts_choices_lists_back).prog 98) (kwd := []) LawX.ob_eq
    (by kernel_rfl) (fun s => by kernel_rfl) LawX.gRun (by kernel_rfl) (by kernel_rfl) (by kernel_rfl) (by rfl) (by first | assumption | decide +kernel) (by decide +kernel) ⟨rfl, rfl, rfl, rfl, rfl, by decide +kernel⟩ ?hw ?hc
  case hw => w_witness2
  case hc =>
    refine LamX.walk_ofTsE (l := PySem.Challenge.rw_everreader_k17_texts_choices_lists_back) (n := 63) (k := 2 * 110) (x := "_law_script") (CX := fun _ => L2.CX0) rfl (by decide) (by kernel_rfl) ⟨rfl, by decide, by decide⟩ ?F (fun _ _ _ _ _ z => z)
    intro w mg fa h Y G hmg0
    obtain ⟨K, KX, c⟩ := Y
    have hmg : mg ("law" : PySem.Str) = some (.ref fa) := by
      have e : (HandSHeadRun.topDef (OpenLaw.row PySem.Challenge.rw_everreader_k17_texts_choices_lists_back).prog 98).name = ("law" : PySem.Str) := by kernel_rfl
      rw [← e]
      exact hmg0
    exact ⟨K, KX, Ev.ev_end (l := PySem.Challenge.rw_everreader_k17_texts_choices_lists_back) (w := w) (li := 201) (k := 110) (m := 63) (dl := LawX.d201) (z := "_law_script") (ds := LawX.gD) (hs := LawX.gH) (cs := LawX.gC) (bf := LawX.gB) (t := LawX.gK) (xt := LawX.gX) LawX.gChk LawX.gKok (by rfl) LawX.gBinds LawX.gHBinds KX G c (by rfl) rfl (by rfl) hmg (fun ns hn => LawX.law_fin ns hn)⟩
