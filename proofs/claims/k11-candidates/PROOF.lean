import PyProof.Rows.All
import KE.SortData
import KE.DataEq
import HandS.ForMost
import HandS.ForExc
import HandS.IsInst
import HandS.Strs
import HandS.SetFor
import HandS.TupAny
import HandS.TupMul
import HandS.Conv
import HandS.Zip
import HandS.Style
import KE.DataCmp
import KE.DataMinMax
import KE.DataAny
import HandS.SortInts
import KE.KIndexOf
import HandS.Flow
import HandS.ExcIs
import HandS.ExcOwn
import HandS.WordsExc
import KE.GoesNew
import HandS.TryMany
import HandS.Defaults
import HandS.Ends
import HandS.HeadEnd
import HandS.HeadHook1
import HandS.HeadHook2
import KE.KStateDown
import HandS.Head0
import HandS.Head1
import HandS.Head2
import PySem.Challenge.RW_tamecolors_k11_whole_candidates
import Lean
/-! DlA: the small language: its terms, and what they are worth. Plain Lean. -/
namespace TC
open PySem

abbrev D := PyData

/-- an answer: a value, an exception of the class c, or no word -/
inductive R (α : Type) where
  | ok (a : α)
  | exc (c : Str)
  | stuck

namespace R
def bind {α β : Type} : R α → (α → R β) → R β
  | .ok a, f => f a
  | .exc c, _ => .exc c
  | .stuck, _ => .stuck
@[simp] theorem ok_bind {α β : Type} (a : α) (f : α → R β) : (R.ok a).bind f = f a := rfl
@[simp] theorem exc_bind {α β : Type} (c : Str) (f : α → R β) : (R.exc c : R α).bind f = .exc c := rfl
@[simp] theorem stuck_bind {α β : Type} (f : α → R β) : (R.stuck : R α).bind f = .stuck := rfl
def guard (b : Bool) : R Unit := if b then .ok () else .stuck
@[simp] theorem guard_true : guard true = .ok () := rfl
@[simp] theorem guard_false : guard false = .stuck := rfl
end R

def lim : Nat := 16777216

/-- what a local name holds: nothing, a value that stays, a list or a dict under way -/
inductive Sl where
  | no
  | v (d : D)
  | own (xs : List D)
  | tab (kvs : List (List Int × D))
abbrev Env := List Sl

/-- targets -/
inductive Tg where
  | nm (i : Nat)
  | tp (r : Tg)
  | nl
  | cn (a r : Tg)

inductive E where
  | var (i : Nat)
  | int (n : Int) | str (s : Str) | non | bl (b : Bool)
  | glo (x : Str) (d : D)
  | neg (a : E) | not (a : E)
  | bin (o : Operator) (a b : E)
  | cmp (o : CmpOp) (a b : E)
  | chain (o p : CmpOp) (a b c : E)
  | one (a : E) | and (a b : E) | or (a b : E)
  | ife (c a b : E)
  | nil | cons (a r : E)
  | tup (xs : E) | lst (xs : E)
  | sub (a i : E)
  | slcL (a : E) (lo : E) | slcH (a : E) (hi : E)
  | rev (a : E)
  | call (f : Str) (args : E)
  | blt (f : Str) (args : E)
  | lsr (a : E) | tpr (a : E)
  | isi (a : E) (t : Str)
  | lens (a : E) | srts (a : E)
  | mth (m : Str) (a args : E)
  | lc (elt : E) (t : Tg) (it : E)
  | lcf (elt : E) (t : Tg) (it : E) (c : E)
  | lc2 (elt : E) (t : Tg) (it : E) (t1 : Tg) (it1 : E)
  | subO (i : Nat) (a : E)
  | lenO (i : Nat)
  | inO (neg : Bool) (a : E) (i : Nat)
  | revO (i : Nat)
  | bor (i : Nat) (a : E)
  | itr (a : E) | rng (a : E) | rng2 (a b : E) | zip (a b : E) | enu (a : E) | keyO (i : Nat)

/-! ### operations -/
def ixN (n : Nat) (i : Int) : Option Nat := if 0 ≤ i then (if i < n then some i.toNat else none) else if -(n : Int) ≤ i then some (i + n).toNat else none
def atI {α : Type} (xs : List α) (i : Int) : Option α := (ixN xs.length i).bind fun j => xs[j]?
def ofOpt {α : Type} : Option α → R α
  | some a => .ok a
  | none => .stuck
@[simp] theorem ofOpt_some {α : Type} (a : α) : ofOpt (some a) = .ok a := rfl
@[simp] theorem ofOpt_none {α : Type} : ofOpt (none : Option α) = .stuck := rfl

def okLen (n : Nat) : Bool := decide (n ≤ lim)

def addD : D → D → R D
  | .int a, .int b => .ok (.int (a + b))
  | .str a, .str b => (R.guard (okLen (a.length + b.length))).bind fun _ => .ok (.str (a ++ b))
  | .list a, .list b => (R.guard (okLen (a.length + b.length))).bind fun _ => .ok (.list (a ++ b))
  | .tuple a, .tuple b => (R.guard (okLen (a.length + b.length))).bind fun _ => .ok (.tuple (a ++ b))
  | _, _ => .stuck
def rep {α : Type} (xs : List α) (n : Nat) : List α := (List.replicate n xs).flatten
def small64 (a : Int) : Bool := decide (-(2 ^ 64) < a) && decide (a < 2 ^ 64)
def mulD : D → D → R D
  | .int a, .int b => (R.guard (small64 a || small64 b)).bind fun _ => .ok (.int (a * b))
  | .list a, .int k => (R.guard (decide (0 ≤ k) && okLen k.toNat && okLen (a.length * k.toNat))).bind fun _ => .ok (.list (rep a k.toNat))
  | .tuple a, .int k => (R.guard (!a.isEmpty && decide (2 ≤ k) && decide (k ≤ 1000) && decide (a.length ≤ 1000))).bind fun _ => .ok (.tuple (rep a k.toNat))
  | _, _ => .stuck
def binD (o : Operator) (a b : D) : R D :=
  match o with
  | .Add => addD a b
  | .Mult => mulD a b
  | .Sub => match a, b with | .int x, .int y => .ok (.int (x - y)) | _, _ => .stuck
  | .Mod => match a, b with | .int x, .int y => (R.guard (decide (0 < y))).bind fun _ => .ok (.int (x % y)) | _, _ => .stuck
  | .FloorDiv => match a, b with | .int x, .int y => (R.guard (decide (0 < y) && decide (y < 1073741824))).bind fun _ => .ok (.int (x / y)) | _, _ => .stuck
  | .Pow => match a, b with | .int x, .int y => (R.guard (decide (0 ≤ y) && decide (y ≤ 1000) && small64 x)).bind fun _ => .ok (.int (x ^ y.toNat)) | _, _ => .stuck
  | _ => .stuck

def isNone : D → Bool
  | .none => true
  | _ => false
def isDict : D → Bool
  | .dict _ => true
  | _ => false
def deepOk (a b : D) : Bool := decide (min a.depth b.depth ≤ 100)
def eqD (a b : D) : R Bool := (R.guard (!isDict a && !isDict b && deepOk a b)).bind fun _ => .ok (PyData.eqv a b)
def ltD (a b : D) : R Bool :=
  match a, b with
  | .int x, .int y => .ok (decide (x < y))
  | .tuple _, .tuple _ => (R.guard (W.alike a b && deepOk a b)).bind fun _ => .ok (W.dataLt a b)
  | _, _ => .stuck
def signIn (c : Str) (s : Str) : R Bool :=
  match c.cps.toList with
  | [k] => .ok (s.cps.toList.contains k)
  | _ => .stuck
def inD (x c : D) : R Bool :=
  match c with
  | .list ys => (R.guard (!isDict x && decide (min (PyData.depthAll ys) x.depth ≤ 100))).bind fun _ => .ok (ys.any fun y => PyData.eqv y x)
  | .tuple ys => (R.guard (!isDict x && decide (min (PyData.depthAll ys) x.depth ≤ 100))).bind fun _ => .ok (ys.any fun y => PyData.eqv y x)
  | .str s => match x with | .str k => signIn k s | _ => .stuck
  | _ => .stuck
def mapB (f : Bool → Bool) (r : R Bool) : R D := r.bind fun b => .ok (.bool (f b))
def cmpD (o : CmpOp) (a b : D) : R D :=
  match o with
  | .Eq => mapB id (eqD a b)
  | .NotEq => mapB Bool.not (eqD a b)
  | .Lt => mapB id (ltD a b)
  | .Gt => mapB id (ltD b a)
  | .LtE => mapB Bool.not (ltD b a)
  | .GtE => mapB Bool.not (ltD a b)
  | .In => mapB id (inD a b)
  | .NotIn => mapB Bool.not (inD a b)
  | .Is => match b with | .none => .ok (.bool (isNone a)) | _ => .stuck
  | .IsNot => match b with | .none => .ok (.bool (!isNone a)) | _ => .stuck

def truD : D → R Bool
  | .none => .ok false
  | .bool b => .ok b
  | .int i => .ok (i != 0)
  | .str s => (R.guard (okLen s.length)).bind fun _ => .ok ((s.length : Int) != 0)
  | .list xs => .ok (!xs.isEmpty)
  | .tuple xs => .ok (!xs.isEmpty)
  | .dict _ => .stuck

def boolD : D → R Bool
  | .bool b => .ok b
  | _ => .stuck
@[simp] theorem boolD_bool (b : Bool) : boolD (.bool b) = .ok b := rfl
def toInts : List D → Option (List Int)
  | [] => some []
  | .int i :: r => (toInts r).map (i :: ·)
  | _ :: _ => none
def keyOf : D → Option (List Int)
  | .tuple xs => toInts xs
  | _ => none
def getT : List (D × D) → List Int → Option D
  | [], _ => none
  | (k, v) :: r, q => if keyOf k = some q then some v else getT r q
def putT (q : List Int) (v : D) (kvs : List (List Int × D)) : List (List Int × D) :=
  if (kvs.any fun kv => decide (kv.1 = q)) = true then kvs.map (fun kv => if kv.1 = q then (kv.1, v) else kv) else kvs ++ [(q, v)]
def tabD (kvs : List (List Int × D)) : List (D × D) := kvs.map fun p => (.tuple (p.1.map .int), p.2)

/-- the script, as a value that is read alone -/
def scrD (ns : List Int) : List (D × D) := [(.none, .list (ns.map .int))]
def scrOf : List (D × D) → Option (List D)
  | [(.none, .list xs)] => some xs
  | _ => none
def subD : D → D → R D
  | .list xs, .int k => ofOpt (atI xs k)
  | .tuple xs, .int k => ofOpt (atI xs k)
  | .str s, .int k => (R.guard (okLen s.length)).bind fun _ => (ofOpt (atI s.cps.toList k)).bind fun c => .ok (.str ⟨#[c]⟩)
  | .dict kvs, .int k => (ofOpt (scrOf kvs)).bind fun xs => ofOpt (atI xs k)
  | .dict kvs, k => (ofOpt (keyOf k)).bind fun q => ofOpt (getT kvs q)
  | _, _ => .stuck

def sIx (n d : Nat) : Option Int → Nat
  | none => d
  | some v => if v < 0 then (v + n).toNat else min v.toNat n
def cut {α : Type} (xs : List α) (lo hi : Option Int) : List α := (xs.drop (sIx xs.length 0 lo)).take (sIx xs.length xs.length hi - sIx xs.length 0 lo)
def bndD : D → R Int
  | .int i => .ok i
  | _ => .stuck
def slcD (a : D) (lo hi : Option Int) : R D :=
  match a with
  | .list xs => .ok (.list (cut xs lo hi))
  | .tuple xs => .ok (.tuple (cut xs lo hi))
  | .str s => (R.guard (okLen s.length)).bind fun _ => .ok (.str ⟨(cut s.cps.toList lo hi).toArray⟩)
  | _ => .stuck
def revD : D → R D
  | .list xs => .ok (.list xs.reverse)
  | _ => .stuck

/-! ### sorting: ints, and tuples of ints -/
def ins {α : Type} (le : α → α → Bool) (x : α) : List α → List α
  | [] => [x]
  | y :: r => if le x y then x :: y :: r else y :: ins le x r
def isort {α : Type} (le : α → α → Bool) : List α → List α
  | [] => []
  | x :: r => ins le x (isort le r)
def leI (a b : Int) : Bool := decide (a ≤ b)
def leL (a b : List Int) : Bool := !decide (b < a)
def ddup {α : Type} [DecidableEq α] : List α → List α
  | [] => []
  | x :: r => if x ∈ r then ddup r else x :: ddup r
def toRows : List D → Option (List (List Int))
  | [] => some []
  | .tuple xs :: r => (toInts xs).bind fun a => (toRows r).map (a :: ·)
  | _ :: _ => none
def rowD (l : List Int) : D := .tuple (l.map .int)
def sortD (xs : List D) : R D :=
  match toInts xs with
  | some ns => .ok (.list ((isort leI ns).map .int))
  | none => match toRows xs with
    | some ls => (R.guard (ls.all fun l => !l.isEmpty)).bind fun _ => .ok (.list ((isort leL ls).map rowD))
    | none => .stuck
def seqD : D → R (List D)
  | .list xs => .ok xs
  | .tuple xs => .ok xs
  | _ => .stuck
def lenSetD (xs : List D) : R D := (ofOpt (toInts xs)).bind fun ns => (R.guard (decide (ns.length ≤ 1000))).bind fun _ => .ok (.int (ddup ns).length)
def srtSetD (xs : List D) : R D := (ofOpt (toInts xs)).bind fun ns => (R.guard (decide (ns.length ≤ 60))).bind fun _ => .ok (.list ((isort leI (ddup ns)).map .int))

def allAlike (xs : List D) : Bool := xs.all fun x => xs.all fun y => W.alike x y
def minL (x : D) (xs : List D) : D := xs.foldl (fun a y => if W.dataLt y a then y else a) x
def maxL (x : D) (xs : List D) : D := xs.foldl (fun a y => if W.dataLt a y then y else a) x
def mostD (f : D → List D → D) (xs : List D) : R D :=
  match xs with
  | [] => .stuck
  | x :: r => (R.guard (allAlike xs && (xs.all fun y => !isNone y) && decide (PyData.depthAll xs ≤ 100))).bind fun _ => .ok (f x r)
def strI (i : Int) : Str := toString i
def lenB : List D → R D
  | [.list xs] => .ok (.int xs.length)
  | [.tuple xs] => .ok (.int xs.length)
  | [.str s] => (R.guard (okLen s.length)).bind fun _ => .ok (.int s.length)
  | [.dict kvs] => (ofOpt (scrOf kvs)).bind fun xs => .ok (.int xs.length)
  | _ => .stuck
def listB : List D → R D
  | [a] => (seqD a).bind fun xs => .ok (.list xs)
  | _ => .stuck
def tupB : List D → R D
  | [a] => (seqD a).bind fun xs => .ok (.tuple xs)
  | _ => .stuck
def sortB : List D → R D
  | [.list xs] => sortD xs
  | _ => .stuck
def minB : List D → R D
  | [.int a, .int b] => .ok (.int (if b < a then b else a))
  | [a] => (seqD a).bind (mostD minL)
  | _ => .stuck
def maxB : List D → R D
  | [.int a, .int b] => .ok (.int (if b > a then b else a))
  | [a] => (seqD a).bind (mostD maxL)
  | _ => .stuck
def intB : List D → R D
  | [.int a] => .ok (.int a)
  | [.bool b] => .ok (.int (if b then 1 else 0))
  | _ => .stuck
def strB : List D → R D
  | [.int a] => (R.guard (small64 a)).bind fun _ => .ok (.str (strI a))
  | _ => .stuck
def bltD (f : Str) (args : List D) : R D :=
  if f = ("len" : Str) then lenB args
  else if f = ("list" : Str) then listB args
  else if f = ("tuple" : Str) then tupB args
  else if f = ("sorted" : Str) then sortB args
  else if f = ("min" : Str) then minB args
  else if f = ("max" : Str) then maxB args
  else if f = ("int" : Str) then intB args
  else if f = ("str" : Str) then strB args
  else .stuck

def isiD (a : D) (t : Str) : R Bool :=
  if isDict a = true then .stuck
  else if t = ("int" : Str) then .ok (match a with | .int _ => true | .bool _ => true | _ => false)
  else if t = ("bool" : Str) then .ok (match a with | .bool _ => true | _ => false)
  else if t = ("tuple" : Str) then .ok (match a with | .tuple _ => true | _ => false)
  else if t = ("list" : Str) then .ok (match a with | .list _ => true | _ => false)
  else if t = ("str" : Str) then .ok (match a with | .str _ => true | _ => false)
  else .stuck

/-- the first place of x -/
def firstAt (x : D) : List D → Option Nat
  | [] => none
  | y :: r => if PyData.eqv y x then some 0 else (firstAt x r).map (· + 1)
def toStrs : List D → Option (List Str)
  | [] => some []
  | .str s :: r => (toStrs r).map (s :: ·)
  | _ :: _ => none
def splitL (c : Nat) : List Nat → List (List Nat)
  | [] => [[]]
  | x :: r => if x = c then [] :: splitL c r else match splitL c r with
    | [] => [[x]]
    | w :: ws => (x :: w) :: ws
def idxOk (x : D) (xs : List D) : Bool := !isDict x && decide (min (PyData.depthAll xs) x.depth ≤ 100)
def indexM (a : D) : List D → R D
  | [x] => match a with
    | .list xs => (R.guard (idxOk x xs)).bind fun _ => (ofOpt (firstAt x xs)).bind fun k => .ok (.int (k : Nat))
    | _ => .stuck
  | _ => .stuck
def countM (a : D) : List D → R D
  | [.int k] => match a with
    | .list xs => (ofOpt (toInts xs)).bind fun ns => .ok (.int (ns.count k : Nat))
    | _ => .stuck
  | _ => .stuck
def joinM (a : D) : List D → R D
  | [.list xs] => match a with
    | .str sep => (ofOpt (toStrs xs)).bind fun ss => (R.guard (decide ((ss.map Str.length).sum + ss.length * sep.length ≤ 16777216))).bind fun _ => .ok (.str (Str.join sep ss))
    | _ => .stuck
  | _ => .stuck
def mthTy (m : Str) : D → Bool
  | .list _ => decide (m = ("index" : Str)) || decide (m = ("count" : Str))
  | .str _ => decide (m = ("join" : Str))
  | _ => false
def scal : D → R D
  | .int i => .ok (.int i)
  | .bool b => .ok (.bool b)
  | .str s => .ok (.str s)
  | .none => .ok .none
  | _ => .stuck
def mthD (m : Str) (a : D) (args : List D) : R D :=
  if m = ("index" : Str) then indexM a args
  else if m = ("count" : Str) then countM a args
  else if m = ("join" : Str) then joinM a args
  else .stuck

/-! ### facts of sorting -/
theorem ins_perm {α : Type} (le : α → α → Bool) (x : α) : ∀ l : List α, (ins le x l).Perm (x :: l)
  | [] => List.Perm.refl _
  | y :: r => by
    unfold ins
    split
    · exact List.Perm.refl _
    · exact ((ins_perm le x r).cons y).trans (List.Perm.swap x y r)
theorem isort_perm {α : Type} (le : α → α → Bool) : ∀ l : List α, (isort le l).Perm l
  | [] => List.Perm.refl _
  | x :: r => (ins_perm le x _).trans ((isort_perm le r).cons x)
theorem ins_sorted {α : Type} {le : α → α → Bool} (tot : ∀ a b, le a b = true ∨ le b a = true) (tr : ∀ a b c, le a b = true → le b c = true → le a c = true) (x : α) :
    ∀ l : List α, l.Pairwise (fun a b => le a b = true) → (ins le x l).Pairwise (fun a b => le a b = true)
  | [], _ => List.pairwise_singleton _ _
  | y :: r, h => by
    unfold ins
    have h1 := List.pairwise_cons.mp h
    split
    · rename_i hxy
      exact List.pairwise_cons.mpr ⟨fun z hz => by
        rcases List.mem_cons.mp hz with e | hz
        · rw [e]; exact hxy
        · exact tr _ _ _ hxy (h1.1 z hz), h⟩
    · rename_i hxy
      have hyx : le y x = true := (tot x y).resolve_left hxy
      refine List.pairwise_cons.mpr ⟨fun z hz => ?_, ins_sorted tot tr x r h1.2⟩
      rcases List.mem_cons.mp ((ins_perm le x r).subset hz) with e | hz
      · rw [e]; exact hyx
      · exact h1.1 z hz
theorem isort_sorted {α : Type} {le : α → α → Bool} (tot : ∀ a b, le a b = true ∨ le b a = true) (tr : ∀ a b c, le a b = true → le b c = true → le a c = true) :
    ∀ l : List α, (isort le l).Pairwise (fun a b => le a b = true)
  | [] => List.Pairwise.nil
  | x :: r => ins_sorted tot tr x _ (isort_sorted tot tr r)
theorem leI_tot (a b : Int) : leI a b = true ∨ leI b a = true := by
  unfold leI; simp only [decide_eq_true_eq]; omega
theorem leI_tr (a b c : Int) (h : leI a b = true) (h' : leI b c = true) : leI a c = true := by
  unfold leI at *; simp only [decide_eq_true_eq] at *; omega
theorem leI_as (a b : Int) (h : leI a b = true) (h' : leI b a = true) : a = b := by
  unfold leI at *; simp only [decide_eq_true_eq] at *; omega
theorem leL_iff (a b : List Int) : leL a b = true ↔ a ≤ b := by
  unfold leL
  simp only [Bool.not_eq_true', decide_eq_false_iff_not]
  exact List.not_lt
theorem leL_tot (a b : List Int) : leL a b = true ∨ leL b a = true := by
  rw [leL_iff, leL_iff]; exact List.le_total a b
theorem leL_tr (a b c : List Int) (h : leL a b = true) (h' : leL b c = true) : leL a c = true := by
  rw [leL_iff] at *; exact List.le_trans h h'
theorem leL_as (a b : List Int) (h : leL a b = true) (h' : leL b a = true) : a = b := by
  rw [leL_iff] at *; exact List.le_antisymm h h'
theorem isortI_one {l m : List Int} (p : m.Perm l) (s : m.Pairwise (fun a b => leI a b = true)) : m = isort leI l :=
  List.Perm.eq_of_pairwise (fun a b _ _ h1 h2 => leI_as a b h1 h2) s (isort_sorted leI_tot leI_tr l) (p.trans (isort_perm leI l).symm)
theorem isortL_one {l m : List (List Int)} (p : m.Perm l) (s : m.Pairwise (fun a b => leL a b = true)) : m = isort leL l :=
  List.Perm.eq_of_pairwise (fun a b _ _ h1 h2 => leL_as a b h1 h2) s (isort_sorted leL_tot leL_tr l) (p.trans (isort_perm leL l).symm)
theorem mem_ddup {α : Type} [DecidableEq α] {x : α} : ∀ {l : List α}, x ∈ ddup l ↔ x ∈ l
  | [] => Iff.rfl
  | y :: r => by
    unfold ddup
    split
    · rename_i h
      rw [mem_ddup (l := r), List.mem_cons]
      exact ⟨.inr, fun z => z.elim (fun e => e ▸ h) id⟩
    · rw [List.mem_cons, List.mem_cons, mem_ddup (l := r)]
theorem ddup_nodup {α : Type} [DecidableEq α] : ∀ l : List α, (ddup l).Nodup
  | [] => List.nodup_nil
  | y :: r => by
    unfold ddup
    split
    · exact ddup_nodup r
    · rename_i h
      exact List.nodup_cons.mpr ⟨fun z => h (mem_ddup.mp z), ddup_nodup r⟩
theorem ddup_len {α : Type} [DecidableEq α] : ∀ l : List α, (ddup l).length ≤ l.length
  | [] => Nat.le_refl _
  | y :: r => by
    unfold ddup
    split
    · exact Nat.le_succ_of_le (ddup_len r)
    · exact Nat.succ_le_succ (ddup_len r)

/-! ### targets, names -/
def setE (i : Nat) (x : Sl) (e : Env) : Env := e.set i x
def getE (i : Nat) (e : Env) : R D :=
  match e[i]? with
  | some (.v d) => .ok d
  | _ => .stuck
mutual
def asg : Tg → D → Env → R Env
  | .nm i, d, e => .ok (e.set i (.v d))
  | .tp r, d, e => match d with
    | .tuple xs => asgs r xs e
    | .list xs => asgs r xs e
    | _ => .stuck
  | .nl, _, _ => .stuck
  | .cn _ _, _, _ => .stuck
def asgs : Tg → List D → Env → R Env
  | .nl, [], e => .ok e
  | .cn a r, x :: xs, e => (asg a x e).bind fun e1 => asgs r xs e1
  | _, _, _ => .stuck
end
def slots : Tg → List Nat
  | .nm i => [i]
  | .tp r => slots r
  | .nl => []
  | .cn a r => slots a ++ slots r
def wipeE (e : Env) : List Nat → Env
  | [] => e
  | v :: vs => (wipeE e vs).set v .no

/-! ### comprehensions -/
def lcG (f : Env → R D) (c : Env → R Bool) (t : Tg) (e : Env) : List D → R (List D)
  | [] => .ok []
  | x :: xs => (asg t x e).bind fun e1 => (c e1).bind fun b =>
    if b then (f e1).bind fun y => (lcG f c t e xs).bind fun ys => .ok (y :: ys) else lcG f c t e xs
def lcG2 (g : Env → R (List D)) (t : Tg) (e : Env) : List D → R (List D)
  | [] => .ok []
  | x :: xs => (asg t x e).bind fun e1 => (g e1).bind fun ys => (lcG2 g t e xs).bind fun zs => .ok (ys ++ zs)
def listD : R D → R (List D)
  | .ok (.list xs) => .ok xs
  | .ok _ => .stuck
  | .exc c => .exc c
  | .stuck => .stuck
@[simp] theorem listD_ok (xs : List D) : listD (.ok (.list xs)) = .ok xs := rfl
/-- an exception within a comprehension has no word here -/
def calm {α : Type} : R α → R α
  | .exc _ => .stuck
  | r => r
@[simp] theorem calm_ok {α : Type} (a : α) : calm (R.ok a) = .ok a := rfl
@[simp] theorem calm_stuck {α : Type} : calm (R.stuck : R α) = .stuck := rfl

def chars (s : Str) : List D := s.cps.toList.map fun c => .str ⟨#[c]⟩
def itrD : D → R D
  | .list xs => .ok (.list xs)
  | .tuple xs => .ok (.list xs)
  | .str s => .ok (.list (chars s))
  | _ => .stuck
def rngL (lo : Int) (n : Nat) : List D := (List.range n).map fun k => .int (lo + (k : Nat))
def okI (a : Int) : Bool := decide (-16777216 ≤ a) && decide (a ≤ 16777216)
def rngD (a b : D) : R D :=
  match a, b with
  | .int i, .int j => (R.guard (okI i && okI j)).bind fun _ => .ok (.list (rngL i (j - i).toNat))
  | _, _ => .stuck
def zipL : List D → List D → List D
  | x :: xs, y :: ys => .tuple [x, y] :: zipL xs ys
  | _, _ => []
def enuL (k : Nat) : List D → List D
  | [] => []
  | x :: xs => .tuple [.int k, x] :: enuL (k + 1) xs
def getO (i : Nat) (e : Env) : R (List D) :=
  match e[i]? with
  | some (.own xs) => .ok xs
  | _ => .stuck
def getTb (i : Nat) (e : Env) : R (List (List Int × D)) :=
  match e[i]? with
  | some (.tab kvs) => .ok kvs
  | _ => .stuck

def ownSl : Option Sl → Bool
  | some (.own _) => true
  | some (.tab _) => true
  | _ => false
def subOD (s : Option Sl) (k : D) : R D :=
  match s with
  | some (.own xs) => match k with
    | .int i => ofOpt (atI xs i)
    | _ => .stuck
  | some (.tab kvs) => (ofOpt (keyOf k)).bind fun q => ofOpt (kvs.lookup q)
  | _ => .stuck

def rgGuard (ds : List D) : R D := (R.guard (okLen ds.length)).bind fun _ => .ok (.list ds)
/-- what a display may hold -/
def seqOk (ds : List D) : Bool := (ds.all fun d => !isDict d) && okLen ds.length
abbrev Fns := Str → List D → R D

def ev (F : Fns) : E → Env → R D
  | .var i, e => getE i e
  | .int n, _ => .ok (.int n)
  | .str s, _ => .ok (.str s)
  | .non, _ => .ok .none
  | .bl b, _ => .ok (.bool b)
  | .glo _ d, _ => .ok d
  | .neg a, e => (ev F a e).bind fun x => match x with | .int i => .ok (.int (-i)) | _ => .stuck
  | .not a, e => (ev F a e).bind fun x => (truD x).bind fun b => .ok (.bool (!b))
  | .bin o a b, e => (ev F a e).bind fun x => (ev F b e).bind fun y => binD o x y
  | .cmp o a b, e => (ev F a e).bind fun x => (ev F b e).bind fun y => cmpD o x y
  | .chain o p a b c, e => (ev F a e).bind fun x => (ev F b e).bind fun y => (cmpD o x y).bind fun r => (boolD r).bind fun k =>
      if k then (ev F c e).bind fun z => cmpD p y z else .ok (.bool false)
  | .one a, e => ev F a e
  | .and a b, e => (ev F a e).bind fun x => (boolD x).bind fun k => if k then ev F b e else .ok (.bool false)
  | .or a b, e => (ev F a e).bind fun x => (boolD x).bind fun k => if k then .ok (.bool true) else ev F b e
  | .ife c a b, e => (ev F c e).bind fun x => (truD x).bind fun k => if k then ev F a e else ev F b e
  | .nil, _ => .ok (.list [])
  | .cons a r, e => (ev F a e).bind fun x => (listD (ev F r e)).bind fun xs => .ok (.list (x :: xs))
  | .tup a, e => (listD (ev F a e)).bind fun xs => (R.guard (seqOk xs)).bind fun _ => .ok (.tuple xs)
  | .lst a, e => (listD (ev F a e)).bind fun xs => (R.guard (seqOk xs)).bind fun _ => .ok (.list xs)
  | .sub a i, e => (ev F a e).bind fun x => (ev F i e).bind fun y => subD x y
  | .slcL a lo, e => (ev F a e).bind fun x => (ev F lo e).bind fun l => (bndD l).bind fun l' => slcD x (some l') none
  | .slcH a hi, e => (ev F a e).bind fun x => (ev F hi e).bind fun l => (bndD l).bind fun l' => slcD x none (some l')
  | .rev a, e => (ev F a e).bind revD
  | .call f a, e => (listD (ev F a e)).bind fun xs => F f xs
  | .blt f a, e => (listD (ev F a e)).bind fun xs => bltD f xs
  | .lsr a, e => (listD (ev F a e)).bind rgGuard
  | .tpr a, e => (listD (ev F a e)).bind fun xs => (rgGuard xs).bind fun _ => .ok (.tuple xs)
  | .isi a t, e => (ev F a e).bind fun x => (isiD x t).bind fun b => .ok (.bool b)
  | .lens a, e => (ev F a e).bind fun x => (seqD x).bind lenSetD
  | .srts a, e => (ev F a e).bind fun x => (seqD x).bind srtSetD
  | .mth m a r, e => (ev F a e).bind fun x => (R.guard (mthTy m x)).bind fun _ => (listD (ev F r e)).bind fun xs => mthD m x xs
  | .bor i a, e => (getO i e).bind fun ys => (ev F a (e.set i (.v (.list ys)))).bind scal
  | .lc elt t it, e => (listD (ev F it e)).bind fun xs => (calm (lcG (ev F elt) (fun _ => .ok true) t (wipeE e (slots t)) xs)).bind fun ys => (R.guard (seqOk ys)).bind fun _ => .ok (.list ys)
  | .lcf elt t it c, e => (listD (ev F it e)).bind fun xs => (calm (lcG (ev F elt) (fun e1 => (ev F c e1).bind truD) t (wipeE e (slots t)) xs)).bind fun ys => (R.guard (seqOk ys)).bind fun _ => .ok (.list ys)
  | .lc2 elt t it t1 it1, e => (listD (ev F it e)).bind fun xs =>
      (calm (lcG2 (fun e1 => (listD (ev F it1 e1)).bind fun zs => lcG (ev F elt) (fun _ => .ok true) t1 (wipeE e1 (slots t1)) zs) t (wipeE e (slots t ++ slots t1)) xs)).bind fun ys =>
        (R.guard (seqOk ys)).bind fun _ => .ok (.list ys)
  | .subO i a, e => (R.guard (ownSl e[i]?)).bind fun _ => (ev F a e).bind fun k => subOD e[i]? k
  | .lenO i, e => (getO i e).bind fun xs => .ok (.int xs.length)
  | .inO neg a i, e => (ev F a e).bind fun x => (ofOpt (keyOf x)).bind fun q => (getTb i e).bind fun kvs => .ok (.bool ((kvs.lookup q).isSome != neg))
  | .revO i, e => (getO i e).bind fun xs => .ok (.list xs.reverse)
  | .itr a, e => (ev F a e).bind itrD
  | .rng a, e => (ev F a e).bind fun x => rngD (.int 0) x
  | .rng2 a b, e => (ev F a e).bind fun x => (ev F b e).bind fun y => rngD x y
  | .zip a b, e => (ev F a e).bind fun x => (ev F b e).bind fun y => (seqD x).bind fun xs => (seqD y).bind fun ys => .ok (.list (zipL xs ys))
  | .enu a, e => (ev F a e).bind fun x => (seqD x).bind fun xs => .ok (.list (enuL 0 xs))
  | .keyO i, e => (getTb i e).bind fun kvs => .ok (.list (kvs.map fun p => rowD p.1))

/-! ### statements -/
inductive Fl where
  | nx (e : Env)
  | rt (d : D)
  | bk (e : Env)
  | ct (e : Env)

/-- an except clause: the class, and «return yes if isinstance(e, one) and not isinstance(e, other) else no» -/
structure Hd where
  cls : Str
  other : Str
  yes : Str
  no : Str

inductive S where
  | nil | cons (a r : S)
  | pass
  | ex (e : E)
  | set (t : Tg) (e : E)
  | par (i j : Nat) (a b : E)
  | par3 (i j k : Nat) (a b c : E)
  | aug (i : Nat) (e : E)
  | ret (e : E)
  | ife (c : E) (a b : S)
  | for (t : Tg) (it : E) (b : S)
  | whl (n : Nat) (c : E) (b : S)
  | rai (c : Str)
  | frz (i : Nat)
  | own (i : Nat) (xs : E)
  | tab (i : Nat)
  | tab1 (i : Nat) (k v : E)
  | app (i : Nat) (e : E)
  | ext (i : Nat) (e : E)
  | put (i : Nat) (k v : E)
  | putL (i : Nat) (k v : E)
  | pop (j i : Nat) (k : E)
  | try (i : Nat) (ks : List Str) (b : S) (hs : List Hd)
  | tryK (i j : Nat) (ks : List Str) (a : E) (g : List Str) (gs : List (List Str))
  | nev

def forG (t : Tg) (b : Env → R Fl) : List D → Env → R Fl
  | [], e => .ok (.nx e)
  | x :: xs, e => (asg t x e).bind fun e1 => (b e1).bind fun f => match f with
    | .nx e2 => forG t b xs e2
    | .ct e2 => forG t b xs e2
    | .bk e2 => .ok (.nx e2)
    | .rt d => .ok (.rt d)
def whlG (c : Env → R Bool) (b : Env → R Fl) : Nat → Env → R Fl
  | 0, _ => .stuck
  | n + 1, e => (c e).bind fun k => if k then (b e).bind fun f => match f with
    | .nx e2 => whlG c b n e2
    | .ct e2 => whlG c b n e2
    | .bk e2 => .ok (.nx e2)
    | .rt d => .ok (.rt d)
    else .ok (.nx e)
def hand (hs : List Hd) (c : Str) : R Fl :=
  match hs with
  | [] => .exc c
  | h :: r => if c = h.cls then .ok (.rt (.str (if c = h.other then h.no else h.yes))) else hand r c
def frzE (i : Nat) (e : Env) : R Env :=
  match e[i]? with
  | some (.own xs) => .ok (e.set i (.v (.list xs)))
  | some (.tab kvs) => .ok (e.set i (.v (.dict (tabD kvs))))
  | _ => .stuck

def exS (F : Fns) : S → Env → R Fl
  | .nil, e => .ok (.nx e)
  | .cons a r, e => (exS F a e).bind fun f => match f with
    | .nx e1 => exS F r e1
    | g => .ok g
  | .pass, e => .ok (.nx e)
  | .ex a, e => (ev F a e).bind fun _ => .ok (.nx e)
  | .set t a, e => (ev F a e).bind fun d => (asg t d e).bind fun e1 => .ok (.nx e1)
  | .par i j a b, e => (ev F a e).bind fun x => (ev F b e).bind fun y => .ok (.nx ((e.set i (.v x)).set j (.v y)))
  | .par3 i j k a b c, e => (ev F a e).bind fun x => (ev F b e).bind fun y => (ev F c e).bind fun z => .ok (.nx (((e.set i (.v x)).set j (.v y)).set k (.v z)))
  | .aug i a, e => (getE i e).bind fun x => (ev F a e).bind fun y => match x, y with
    | .int m, .int n => .ok (.nx (e.set i (.v (.int (m + n)))))
    | _, _ => .stuck
  | .ret a, e => (ev F a e).bind fun d => .ok (.rt d)
  | .ife c a b, e => (ev F c e).bind fun x => (truD x).bind fun k => if k then exS F a e else exS F b e
  | .for t it b, e => (listD (ev F it e)).bind fun xs => forG t (exS F b) xs e
  | .whl n c b, e => whlG (fun e1 => (ev F c e1).bind truD) (exS F b) n e
  | .rai c, _ => .exc c
  | .frz i, e => (frzE i e).bind fun e1 => .ok (.nx e1)
  | .own i a, e => (listD (ev F a e)).bind fun xs => (R.guard (seqOk xs)).bind fun _ => .ok (.nx (e.set i (.own xs)))
  | .tab i, e => .ok (.nx (e.set i (.tab [])))
  | .tab1 i k v, e => (ev F k e).bind fun x => (ev F v e).bind fun y => (ofOpt (keyOf x)).bind fun q => (R.guard (!isDict y)).bind fun _ => .ok (.nx (e.set i (.tab [(q, y)])))
  | .app i a, e => (getO i e).bind fun xs => (ev F a e).bind fun x => (R.guard (okLen (xs.length + 1) && !isDict x)).bind fun _ => .ok (.nx (e.set i (.own (xs ++ [x]))))
  | .ext i a, e => (getO i e).bind fun xs => (ev F a e).bind fun x => (listD (.ok x)).bind fun ys => (R.guard (okLen (xs.length + ys.length))).bind fun _ => .ok (.nx (e.set i (.own (xs ++ ys))))
  | .put i k v, e => (ev F v e).bind fun y => (getTb i e).bind fun kvs => (ev F k e).bind fun x => (ofOpt (keyOf x)).bind fun q => (R.guard (okLen (kvs.length + 1) && !isDict y)).bind fun _ => .ok (.nx (e.set i (.tab (putT q y kvs))))
  | .putL i k v, e => (ev F v e).bind fun y => (getO i e).bind fun xs => (ev F k e).bind fun x => match x with
    | .int m => (R.guard (!isDict y)).bind fun _ => (ofOpt (ixN xs.length m)).bind fun j => .ok (.nx (e.set i (.own (xs.set j y))))
    | _ => .stuck
  | .pop j i k, e => (getO i e).bind fun xs => (ev F k e).bind fun x => match x with
    | .int m => (ofOpt (ixN xs.length m)).bind fun p => (ofOpt xs[p]?).bind fun y => .ok (.nx ((e.set i (.own (xs.eraseIdx p))).set j (.v y)))
    | _ => .stuck
  | .try _ ks b hs, e => match exS F b e with
    | .exc c => if c ∈ ks then hand hs c else .stuck
    | r => r
  | .tryK i j ks a g gs, e => match ev F a e with
    | .ok _ => .ok (.nx e)
    | .exc c => if c ∈ ks then .ok (.nx (((e.set i .no).set j (.v (.list ((g ++ gs.flatten).map fun y => .bool (decide (c = y)))))).set i .no)) else .stuck
    | .stuck => .stuck
  | .nev, _ => .stuck

/-- a def: its number of names, its body -/
def runS (F : Fns) (n : Nat) (b : S) (args : List D) : R D :=
  (exS F b (args.map .v ++ List.replicate (n - args.length) .no)).bind fun f => match f with
    | .nx _ => .ok .none
    | .rt d => .ok d
    | _ => .stuck
end TC
set_option Elab.async false
set_option linter.all false
set_option maxRecDepth 100000
set_option autoImplicit false
/-! DlB: the relation between the small language's values and the heap. -/
namespace TC
open PySem PySem.Spec PyProof.Rows L2

/-! ### values that stay -/
mutual
inductive Dq (G : Hp) : V → D → Prop
  | non : Dq G .non .none
  | bl (b : Bool) : Dq G (.bl b) (.bool b)
  | int (i : Int) : Dq G (.int i) (.int i)
  | str (x : Str) : Dq G (.str x) (.str x)
  | lst {a : Addr} {xs : List V} {ds : List D} : G a = some (.lst xs) → DqAll G xs ds → Dq G (.ref a) (.list ds)
  | tup {a : Addr} {xs : List V} {ds : List D} : G a = some (.tup xs) → DqAll G xs ds → Dq G (.ref a) (.tuple ds)
inductive DqAll (G : Hp) : List V → List D → Prop
  | nil : DqAll G [] []
  | cons {v : V} {vs : List V} {d : D} {ds : List D} : Dq G v d → DqAll G vs ds → DqAll G (v :: vs) (d :: ds)
end
mutual
theorem Dq.dp {K : W.Frag} {G : Hp} : ∀ {v : V} {d : D}, Dq G v d → Dp K G v d
  | _, _, .non => .non
  | _, _, .bl b => .bl b
  | _, _, .int i => .int i
  | _, _, .str s => .str s
  | _, _, .lst h r => .lst (SqL.of h) (DqAll.dp r)
  | _, _, .tup h r => .tup (SqT.of h) (DqAll.dp r)
theorem DqAll.dp {K : W.Frag} {G : Hp} : ∀ {vs : List V} {ds : List D}, DqAll G vs ds → DpAll K G vs ds
  | _, _, .nil => .nil
  | _, _, .cons h r => .cons (Dq.dp h) (DqAll.dp r)
end
def RowOk (G : Hp) (p : List Key × V) (r : List Int × D) : Prop := p.1 = r.1.map Sum.inl ∧ Dq G p.2 r.2
def Rp (G : Hp) (v : V) (d : D) : Prop :=
  match d with
  | .dict kvs => ∃ a, v = .ref a ∧ ((∃ ks rs, G a = some (.dT ks) ∧ kvs = tabD rs ∧ Paired (RowOk G) ks rs) ∨ ∃ ns : List Int, kvs = scrD ns ∧ Rd G a (.lst (ns.map V.int)))
  | d => Dq G v d
abbrev RpAll (G : Hp) : List V → List D → Prop := Paired (Rp G)

theorem rd_same {G G' : Hp} {a : Addr} {u : HO} (e : Same G G') (h : Rd G a u) : Rd G' a u := by
  rcases h with h | ⟨o, h⟩
  · exact .inl (e _ _ h)
  · exact .inr ⟨o, e _ _ h⟩
mutual
theorem dp_same {G G' : Hp} (e : Same G G') : ∀ {v : V} {d : D}, Dq G v d → Dq G' v d
  | _, _, .non => .non
  | _, _, .bl b => .bl b
  | _, _, .int i => .int i
  | _, _, .str s => .str s
  | _, _, .lst h r => .lst (e _ _ h) (dpAll_same e r)
  | _, _, .tup h r => .tup (e _ _ h) (dpAll_same e r)
theorem dpAll_same {G G' : Hp} (e : Same G G') : ∀ {vs : List V} {ds : List D}, DqAll G vs ds → DqAll G' vs ds
  | _, _, .nil => .nil
  | _, _, .cons h r => .cons (dp_same e h) (dpAll_same e r)
end
theorem rows_same {G G' : Hp} (e : Same G G') {ks : List (List Key × V)} {rs : List (List Int × D)} (h : Paired (RowOk G) ks rs) : Paired (RowOk G') ks rs :=
  Paired.mapP h fun _ _ z => ⟨z.1, dp_same e z.2⟩
theorem Rp.same {G G' : Hp} {v : V} {d : D} (h : Rp G v d) (e : Same G G') : Rp G' v d := by
  cases d with
  | dict kvs =>
    obtain ⟨a, h1, ⟨ks, rs, h2, h3, h4⟩ | ⟨ns, h2, h3⟩⟩ := h
    · exact ⟨a, h1, .inl ⟨ks, rs, e _ _ h2, h3, rows_same e h4⟩⟩
    · exact ⟨a, h1, .inr ⟨ns, h2, rd_same e h3⟩⟩
  | none => exact dp_same e h
  | bool b => exact dp_same e h
  | int i => exact dp_same e h
  | str s => exact dp_same e h
  | list xs => exact dp_same e h
  | tuple xs => exact dp_same e h
theorem Rp.dp {G : Hp} {v : V} {d : D} (h : Rp G v d) (n : isDict d = false) : Dq G v d := by
  cases d <;> first | exact h | cases n
theorem Rp.of {G : Hp} {v : V} {d : D} (h : Dq G v d) : Rp G v d := by
  cases d <;> first | exact h | cases h
theorem dpAll_pair {G : Hp} : ∀ {vs : List V} {ds : List D}, DqAll G vs ds → Paired (Dq G) vs ds
  | _, _, .nil => .nil
  | _, _, .cons h r => .cons h (dpAll_pair r)
theorem pair_dpAll {G : Hp} : ∀ {vs : List V} {ds : List D}, Paired (Dq G) vs ds → DqAll G vs ds
  | _, _, .nil => .nil
  | _, _, .cons h r => .cons h (pair_dpAll r)
theorem dpAll_len {G : Hp} : ∀ {vs : List V} {ds : List D}, DqAll G vs ds → vs.length = ds.length
  | _, _, .nil => rfl
  | _, _, .cons _ r => by rw [List.length_cons, List.length_cons, dpAll_len r]
theorem dpAll_get {G : Hp} : ∀ {vs : List V} {ds : List D} {i : Nat} {d : D}, DqAll G vs ds → ds[i]? = some d → ∃ v, vs[i]? = some v ∧ Dq G v d
  | _, _, _, _, .nil, e => by simp at e
  | _, _, 0, _, .cons h _, e => by
    simp only [List.getElem?_cons_zero, Option.some.injEq] at e
    subst e
    exact ⟨_, rfl, h⟩
  | _, _, i + 1, d, .cons _ r, e => by
    simp only [List.getElem?_cons_succ] at e
    obtain ⟨v, h1, h2⟩ := dpAll_get (i := i) r e
    exact ⟨v, by simpa using h1, h2⟩
theorem dpAll_app {G : Hp} : ∀ {vs ws : List V} {ds es : List D}, DqAll G vs ds → DqAll G ws es → DqAll G (vs ++ ws) (ds ++ es)
  | _, _, _, _, .nil, s => s
  | _, _, _, _, .cons h r, s => .cons h (dpAll_app r s)
theorem dpAll_take {G : Hp} : ∀ {vs : List V} {ds : List D} (n : Nat), DqAll G vs ds → DqAll G (vs.take n) (ds.take n)
  | _, _, 0, _ => .nil
  | _, _, _ + 1, .nil => .nil
  | _, _, n + 1, .cons h r => .cons h (dpAll_take n r)
theorem dpAll_drop {G : Hp} : ∀ {vs : List V} {ds : List D} (n : Nat), DqAll G vs ds → DqAll G (vs.drop n) (ds.drop n)
  | _, _, 0, r => r
  | _, _, _ + 1, .nil => .nil
  | _, _, n + 1, .cons _ r => dpAll_drop n r
theorem dpAll_rev {G : Hp} : ∀ {vs : List V} {ds : List D}, DqAll G vs ds → DqAll G vs.reverse ds.reverse
  | _, _, .nil => .nil
  | _, _, .cons h r => by
    rw [List.reverse_cons, List.reverse_cons]
    exact dpAll_app (dpAll_rev r) (.cons h .nil)
theorem dpAll_set {G : Hp} {v : V} {d : D} (h : Dq G v d) : ∀ {vs : List V} {ds : List D} (i : Nat), DqAll G vs ds → DqAll G (vs.set i v) (ds.set i d)
  | _, _, _, .nil => .nil
  | _, _, 0, .cons _ r => .cons h r
  | _, _, i + 1, .cons q r => .cons q (dpAll_set h i r)
theorem dpAll_erase {G : Hp} : ∀ {vs : List V} {ds : List D} (i : Nat), DqAll G vs ds → DqAll G (vs.eraseIdx i) (ds.eraseIdx i)
  | _, _, _, .nil => .nil
  | _, _, 0, .cons _ r => r
  | _, _, i + 1, .cons q r => .cons q (dpAll_erase i r)

/-! inversions -/
theorem rp_int {G : Hp} {v : V} {i : Int} (h : Rp G v (.int i)) : v = .int i := by
  have h' : Dq G v (.int i) := h
  cases h'; rfl
theorem rp_bool {G : Hp} {v : V} {b : Bool} (h : Rp G v (.bool b)) : v = .bl b := by
  have h' : Dq G v (.bool b) := h
  cases h'; rfl
theorem rp_str {G : Hp} {v : V} {s : Str} (h : Rp G v (.str s)) : v = .str s := by
  have h' : Dq G v (.str s) := h
  cases h'; rfl
theorem rp_none {G : Hp} {v : V} (h : Rp G v .none) : v = .non := by
  have h' : Dq G v .none := h
  cases h'; rfl
theorem rp_list {G : Hp} {v : V} {ds : List D} (h : Rp G v (.list ds)) : ∃ a vs, v = .ref a ∧ G a = some (.lst vs) ∧ DqAll G vs ds := by
  have h' : Dq G v (.list ds) := h
  cases h' with
  | lst h1 h2 => exact ⟨_, _, rfl, h1, h2⟩
theorem rp_tuple {G : Hp} {v : V} {ds : List D} (h : Rp G v (.tuple ds)) : ∃ a vs, v = .ref a ∧ G a = some (.tup vs) ∧ DqAll G vs ds := by
  have h' : Dq G v (.tuple ds) := h
  cases h' with
  | tup h1 h2 => exact ⟨_, _, rfl, h1, h2⟩
theorem rp_non {G : Hp} {v : V} {d : D} (h : Rp G v d) : decide (v = .non) = isNone d := by
  cases d with
  | none => rw [rp_none h]; rfl
  | bool b => rw [rp_bool h]; rfl
  | int i => rw [rp_int h]; rfl
  | str s => rw [rp_str h]; rfl
  | list xs => obtain ⟨a, _, e, _⟩ := rp_list h; rw [e]; rfl
  | tuple xs => obtain ⟨a, _, e, _⟩ := rp_tuple h; rw [e]; rfl
  | dict kvs => obtain ⟨a, e, _⟩ := h; rw [e]; rfl
mutual
theorem plain_dp {G : Hp} : ∀ {v : V} {d : D}, Dq G v d → d.plain = true
  | _, _, .non => rfl
  | _, _, .bl _ => rfl
  | _, _, .int _ => rfl
  | _, _, .str _ => rfl
  | _, _, .lst _ r => by simpa [PyData.plain] using plain_dpAll r
  | _, _, .tup _ r => by simpa [PyData.plain] using plain_dpAll r
theorem plain_dpAll {G : Hp} : ∀ {vs : List V} {ds : List D}, DqAll G vs ds → PyData.plainAll ds = true
  | _, _, .nil => rfl
  | _, _, .cons h r => by simp [PyData.plainAll, plain_dp h, plain_dpAll r]
end

/-! ### growth -/
structure Gw (G H G' H' : Hp) : Prop where
  gg : Same G G'
  hh : Same H H'
  gh : Same G' H'
  nw : ∀ a, H a ≠ none → G' a = G a
theorem Gw.refl {G H : Hp} (h : Same G H) : Gw G H G H := ⟨Same.refl _, Same.refl _, h, fun _ _ => rfl⟩
theorem Gw.trans {G H G1 H1 G2 H2 : Hp} (a : Gw G H G1 H1) (b : Gw G1 H1 G2 H2) : Gw G H G2 H2 :=
  ⟨a.gg.trans b.gg, a.hh.trans b.hh, b.gh, fun x hx => by
    have h1 : H1 x ≠ none := fun z => by
      cases q : H x with
      | none => exact hx q
      | some o => rw [a.hh x o q] at z; cases z
    rw [b.nw x h1, a.nw x hx]⟩
theorem free_of {G H : Hp} {p : Addr} (s : Same G H) (h : H p = none) : G p = none := s.free h
theorem same_upd {H : Hp} {p : Addr} {o : HO} (h : H p = none) : Same H (upd H p o) := fun b x e => by
  rw [upd_ne (ne_of_none e h)]
  exact e
theorem Gw.new {G H : Hp} {p : Addr} {o : HO} (s : Same G H) (h : H p = none) : Gw G H (upd G p o) (upd H p o) :=
  ⟨same_upd (free_of s h), same_upd h, fun b x e => by
    by_cases hb : b = p
    · subst hb; rw [upd_same] at e ⊢; exact e
    · rw [upd_ne hb] at e ⊢; exact s b x e, fun a ha => by
    have : a ≠ p := fun e => ha (by rw [e]; exact h)
    rw [upd_ne this]⟩
/-- the heap grows, what stays is as it was -/
theorem Gw.more {G H H' : Hp} (s : Same G H) (h : Same H H') : Gw G H G H' := ⟨Same.refl _, h, s.trans h, fun _ _ => rfl⟩

/-! ### the state -/
structure Bs where
  K : W.Frag
  mg : Str → Option Value
  G0 : Hp
  Ke : Hp
  Dm : Addr → Prop

def SlOk (B : Bs) (G H : Hp) (ov : Option (Option V)) : Sl → Prop
  | .no => True
  | .v d => ∃ v, ov = some (some v) ∧ Rp G v d
  | .own xs => ∃ a vs, ov = some (some (.ref a)) ∧ H a = some (.lst vs) ∧ DqAll G vs xs ∧ G a = none ∧ B.Ke a = none ∧ ¬ B.Dm a
  | .tab kvs => ∃ a ks, ov = some (some (.ref a)) ∧ H a = some (.dT ks) ∧ Paired (RowOk G) ks kvs ∧ G a = none ∧ B.Ke a = none ∧ ¬ B.Dm a
def isOwn : Sl → Bool
  | .own _ => true
  | .tab _ => true
  | _ => false
structure OkG (B : Bs) (G : Hp) (σ : L2.St) (H : Hp) (env : Env) : Prop where
  g0 : Same B.G0 G
  gH : Same G H
  kH : Same B.Ke H
  dm : ∀ a, B.Dm a → H a ≠ none
  gd : ∀ a, B.Dm a → G a = B.G0 a
  len : σ.length = env.length
  sl : ∀ (i : Nat) (s : Sl), env[i]? = some s → SlOk B G H σ[i]? s
  ap : ∀ (i j : Nat) (s u : Sl) (a : Addr), i ≠ j → env[i]? = some s → env[j]? = some u → isOwn s = true → isOwn u = true → σ[i]? = some (some (.ref a)) → σ[j]? = some (some (.ref a)) → False

section
variable {B : Bs} {G G' H H' : Hp} {σ : L2.St} {env : Env}
theorem SlOk.grow {ov : Option (Option V)} {s : Sl} (h : SlOk B G H ov s) (g : Gw G H G' H') : SlOk B G' H' ov s := by
  cases s with
  | no => exact h
  | v d =>
    obtain ⟨v, h1, h2⟩ := h
    exact ⟨v, h1, h2.same g.gg⟩
  | own xs =>
    obtain ⟨a, vs, h1, h2, h3, h4, h5⟩ := h
    exact ⟨a, vs, h1, g.hh _ _ h2, dpAll_same g.gg h3, by rw [g.nw a (by rw [h2]; exact fun z => nomatch z)]; exact h4, h5⟩
  | tab kvs =>
    obtain ⟨a, ks, h1, h2, h3, h4, h5⟩ := h
    exact ⟨a, ks, h1, g.hh _ _ h2, rows_same g.gg h3, by rw [g.nw a (by rw [h2]; exact fun z => nomatch z)]; exact h4, h5⟩
theorem OkG.grow (o : OkG B G σ H env) (g : Gw G H G' H') : OkG B G' σ H' env where
  g0 := o.g0.trans g.gg
  gH := g.gh
  kH := o.kH.trans g.hh
  dm := fun a ha z => by
    cases q : H a with
    | none => exact o.dm a ha q
    | some x => rw [g.hh a x q] at z; cases z
  gd := fun a ha => by rw [g.nw a (o.dm a ha)]; exact o.gd a ha
  len := o.len
  sl := fun i s e => (o.sl i s e).grow g
  ap := o.ap
theorem OkG.val (o : OkG B G σ H env) {i : Nat} {d : D} (e : env[i]? = some (.v d)) : ∃ v, σ[i]? = some (some v) ∧ Rp G v d := o.sl i _ e
/-- a value is stored -/
theorem OkG.setV (o : OkG B G σ H env) {i : Nat} {v : V} {d : D} (r : Rp G v d) : OkG B G (σ.set i (some v)) H (env.set i (.v d)) where
  g0 := o.g0
  gH := o.gH
  kH := o.kH
  dm := o.dm
  gd := o.gd
  len := by rw [List.length_set, List.length_set]; exact o.len
  sl := fun j s e => by
    by_cases hj : i = j
    · subst hj
      by_cases hl : i < env.length
      · rw [List.getElem?_set_self hl] at e
        cases e
        exact ⟨v, List.getElem?_set_self (by rw [o.len]; exact hl), r⟩
      · rw [List.getElem?_eq_none (by rw [List.length_set]; omega)] at e; cases e
    · rw [List.getElem?_set_ne hj] at e ⊢
      exact o.sl j s e
  ap := fun j k s u a hjk e1 e2 h1 h2 e3 e4 => by
    have nj : i ≠ j := fun z => by
      subst z
      by_cases hl : i < env.length
      · rw [List.getElem?_set_self hl] at e1; cases e1; cases h1
      · rw [List.getElem?_eq_none (by rw [List.length_set]; omega)] at e1; cases e1
    have nk : i ≠ k := fun z => by
      subst z
      by_cases hl : i < env.length
      · rw [List.getElem?_set_self hl] at e2; cases e2; cases h2
      · rw [List.getElem?_eq_none (by rw [List.length_set]; omega)] at e2; cases e2
    rw [List.getElem?_set_ne nj] at e1 e3
    rw [List.getElem?_set_ne nk] at e2 e4
    exact o.ap j k s u a hjk e1 e2 h1 h2 e3 e4
/-- a slot is forgotten, by the proof or by both -/
theorem OkG.setN (o : OkG B G σ H env) (i : Nat) (ov : Option V) : OkG B G (σ.set i ov) H (env.set i .no) where
  g0 := o.g0
  gH := o.gH
  kH := o.kH
  dm := o.dm
  gd := o.gd
  len := by rw [List.length_set, List.length_set]; exact o.len
  sl := fun j s e => by
    by_cases hj : i = j
    · subst hj
      by_cases hl : i < env.length
      · rw [List.getElem?_set_self hl] at e
        cases e
        exact trivial
      · rw [List.getElem?_eq_none (by rw [List.length_set]; omega)] at e; cases e
    · rw [List.getElem?_set_ne hj] at e ⊢
      exact o.sl j s e
  ap := fun j k s u a hjk e1 e2 h1 h2 e3 e4 => by
    have nj : i ≠ j := fun z => by
      subst z
      by_cases hl : i < env.length
      · rw [List.getElem?_set_self hl] at e1; cases e1; cases h1
      · rw [List.getElem?_eq_none (by rw [List.length_set]; omega)] at e1; cases e1
    have nk : i ≠ k := fun z => by
      subst z
      by_cases hl : i < env.length
      · rw [List.getElem?_set_self hl] at e2; cases e2; cases h2
      · rw [List.getElem?_eq_none (by rw [List.length_set]; omega)] at e2; cases e2
    rw [List.getElem?_set_ne nj] at e1 e3
    rw [List.getElem?_set_ne nk] at e2 e4
    exact o.ap j k s u a hjk e1 e2 h1 h2 e3 e4
theorem OkG.wipe (o : OkG B G σ H env) : ∀ vs : List Nat, OkG B G (L2.wipe σ vs) H (wipeE env vs)
  | [] => o
  | v :: vs => by
    unfold L2.wipe wipeE
    exact (OkG.wipe o vs).setN v none
end

/-! ### readings -/
/-- what is wanted behind an expression -/
def Pst {α : Type} (B : Bs) (W : WX) (G : Hp) (σ : L2.St) (H : Hp) (ok : α → Prop) : R α → Prop
  | .ok d => ok d
  | .exc c => ∀ G' H', Gw G H G' H' → ∀ cls, B.mg c = some cls → W cls none σ H'
  | .stuck => False
def tD (B : Bs) (W : WX) (m : Env → R D) : TE := fun σ H Q => ∃ G env, OkG B G σ H env ∧
  Pst B W G σ H (fun d => ∀ v G' H', Gw G H G' H' → Rp G' v d → Q v H') (m env)
def tB1 (B : Bs) (W : WX) (m : Env → R Bool) : TT := fun σ H Q => ∃ G env, OkG B G σ H env ∧
  Pst B W G σ H (fun b => ∀ G' H', Gw G H G' H' → Q b H') (m env)
def tA1 (B : Bs) (W : WX) (m : Env → R D) : TA := fun σ H Q => ∃ G env, OkG B G σ H env ∧
  Pst B W G σ H (fun ds => ∀ vs G' H', Gw G H G' H' → RpAll G' vs ds → Q vs H') (listD (m env))

theorem PE.weak {X : Cx} {e : Expr} {t t' : TE} (h : PE X e t) (w : ∀ σ H Q, t' σ H Q → t σ H Q) : PE X e t' := ⟨fun pins s σ H Q I hw => h.run pins s σ H Q I (w σ H Q hw)⟩
theorem PT.weak {X : Cx} {e : Expr} {t t' : TT} (h : PT X e t) (w : ∀ σ H Q, t' σ H Q → t σ H Q) : PT X e t' := ⟨fun pins s σ H Q I hw => h.run pins s σ H Q I (w σ H Q hw)⟩
theorem PW.weak {X : Cx} {e : Expr} {t t' : TT} (h : PW X e t) (w : ∀ σ H Q, t' σ H Q → t σ H Q) : PW X e t' := ⟨fun wh pins s σ H Q I hw => h.run wh pins s σ H Q I (w σ H Q hw)⟩
theorem PA.weak {X : Cx} {e : List Expr} {t t' : TA} (h : PA X e t) (w : ∀ σ H Q, t' σ H Q → t σ H Q) : PA X e t' := ⟨fun pos pins s σ H Q I hw => h.run pos pins s σ H Q I (w σ H Q hw)⟩
theorem PS.weak {X : Cx} {e : Stmt} {t t' : TS} (h : PS X e t) (w : ∀ D σ H, t' D σ H → t D σ H) : PS X e t' := ⟨fun pins s σ H D I hw => h.run pins s σ H D I (w D σ H hw)⟩
theorem PSs.weak {X : Cx} {e : List Stmt} {t t' : TS} (h : PSs X e t) (w : ∀ D σ H, t' D σ H → t D σ H) : PSs X e t' := ⟨fun pins s σ H D I hw => h.run pins s σ H D I (w D σ H hw)⟩
theorem PI.weak {X : Cx} {tg e : Expr} {t t' : TI} (h : PI X tg e t) (w : ∀ σ H Q, t' σ H Q → t σ H Q) : PI X tg e t' := ⟨fun pins s σ H Q I hw => h.run pins s σ H Q I (w σ H Q hw)⟩
theorem PG.weak {X : Cx} {e : Expr} {t t' : TG} (h : PG X e t) (w : ∀ v σ H Q, t' v σ H Q → t v σ H Q) : PG X e t' := ⟨fun pins s σ H v u Q I r hw => h.run pins s σ H v u Q I r (w v σ H Q hw)⟩

section
variable {B : Bs} {W : WX} {G H G1 H1 : Hp} {σ : L2.St} {env : Env}
/-- an exception's wish, further on -/
theorem Pst.exc {α β : Type} {ok : α → Prop} {ok' : β → Prop} {c : Str} (h : Pst B W G σ H ok (R.exc c)) (g : Gw G H G1 H1) : Pst B W G1 σ H1 ok' (R.exc c) := fun G' H' g' cls e => h G' H' (g.trans g') cls e
/-- one part evaluated, then the rest -/
theorem Pst.step {α β : Type} {ok : β → Prop} {ok' : α → Prop} {r : R α} {f : α → R β} (h : Pst B W G σ H ok (r.bind f)) (g : Gw G H G1 H1)
    (hs : ∀ d, r = .ok d → Pst B W G σ H ok (f d) → ok' d) : Pst B W G1 σ H1 ok' r := by
  cases r with
  | ok d => exact hs d rfl h
  | exc c => exact Pst.exc h g
  | stuck => exact h.elim
/-- an expression first -/
theorem tD_bind {m : Env → R D} {α : Type} {ok : α → Prop} {f : D → R α} {Q : VK} (o : OkG B G σ H env) (h : Pst B W G σ H ok ((m env).bind f))
    (hs : ∀ d, m env = .ok d → Pst B W G σ H ok (f d) → ∀ v G' H', Gw G H G' H' → Rp G' v d → Q v H') : tD B W m σ H Q :=
  ⟨G, env, o, Pst.step h (Gw.refl o.gH) hs⟩
theorem tA_bind {m : Env → R D} {α : Type} {ok : α → Prop} {f : List D → R α} {Q : List V → Hp → Prop} (o : OkG B G σ H env) (h : Pst B W G σ H ok ((listD (m env)).bind f))
    (hs : ∀ ds, listD (m env) = .ok ds → Pst B W G σ H ok (f ds) → ∀ vs G' H', Gw G H G' H' → RpAll G' vs ds → Q vs H') : tA1 B W m σ H Q :=
  ⟨G, env, o, Pst.step h (Gw.refl o.gH) hs⟩
theorem tB_bind {m : Env → R Bool} {α : Type} {ok : α → Prop} {f : Bool → R α} {Q : Bool → Hp → Prop} (o : OkG B G σ H env) (h : Pst B W G σ H ok ((m env).bind f))
    (hs : ∀ d, m env = .ok d → Pst B W G σ H ok (f d) → ∀ G' H', Gw G H G' H' → Q d H') : tB1 B W m σ H Q :=
  ⟨G, env, o, Pst.step h (Gw.refl o.gH) hs⟩
theorem Pst.grow {α : Type} {ok ok' : α → Prop} {r : R α} (h : Pst B W G σ H ok r) (g : Gw G H G1 H1) (hs : ∀ d, ok d → ok' d) : Pst B W G1 σ H1 ok' r := by
  cases r with
  | ok d => exact hs d h
  | exc c => exact Pst.exc h g
  | stuck => exact h.elim
end
end TC
set_option Elab.async false
set_option linter.all false
set_option maxRecDepth 100000
set_option autoImplicit false
/-! DlC: the operations over the heap. -/
namespace TC
open PySem PySem.Spec PyProof.Rows L2

theorem guard_ok {α : Type} {b : Bool} {f : Unit → R α} {d : α} (h : (R.guard b).bind f = .ok d) : b = true ∧ f () = .ok d := by
  cases b with
  | true => exact ⟨rfl, h⟩
  | false => cases h
theorem bind_ok {α β : Type} {r : R α} {f : α → R β} {d : β} (h : r.bind f = .ok d) : ∃ a, r = .ok a ∧ f a = .ok d := by
  cases r with
  | ok a => exact ⟨a, rfl, h⟩
  | exc c => cases h
  | stuck => cases h
theorem ofOpt_ok {α : Type} {o : Option α} {d : α} (h : ofOpt o = .ok d) : o = some d := by
  cases o with
  | none => cases h
  | some a => cases h; rfl
theorem okLen_le {n : Nat} (h : okLen n = true) : n ≤ sizeLine := by
  have := of_decide_eq_true h
  unfold lim at this
  rw [sizeLine_eq]
  exact this
theorem atI_eq {α : Type} (xs : List α) (i : Int) : L2.atI xs i = TC.atI xs i := rfl
theorem dpAll_at {G : Hp} {vs : List V} {ds : List D} {i : Int} {d : D} (r : DqAll G vs ds) (h : TC.atI ds i = some d) : ∃ v, L2.atI vs i = some v ∧ Dq G v d := by
  rw [atI_eq]
  unfold TC.atI at h ⊢
  rw [dpAll_len r]
  cases e : TC.ixN ds.length i with
  | none => rw [e] at h; cases h
  | some j =>
    rw [e] at h
    exact dpAll_get r h
theorem mkL {G : Hp} {p : Addr} {vs : List V} {ds : List D} (h : G p = none) (r : DqAll G vs ds) : Rp (upd G p (.lst vs)) (.ref p) (.list ds) := Rp.of (.lst upd_same (dpAll_same (same_upd h) r))
theorem mkT {G : Hp} {p : Addr} {vs : List V} {ds : List D} (h : G p = none) (r : DqAll G vs ds) : Rp (upd G p (.tup vs)) (.ref p) (.tuple ds) := Rp.of (.tup upd_same (dpAll_same (same_upd h) r))
theorem dpAll_rep {G : Hp} {vs : List V} {ds : List D} (r : DqAll G vs ds) : ∀ n : Nat, DqAll G (List.replicate n vs).flatten (List.replicate n ds).flatten
  | 0 => .nil
  | n + 1 => by
    rw [List.replicate_succ, List.replicate_succ, List.flatten_cons, List.flatten_cons]
    exact dpAll_app r (dpAll_rep r n)

/-! readings of operations -/
def rD2 (f : D → D → R D) : R2 := fun x y H Q => ∃ G a b d, Same G H ∧ Rp G x a ∧ Rp G y b ∧ f a b = .ok d ∧ ∀ v G' H', Gw G H G' H' → Rp G' v d → Q v H'
def rD1 (f : D → R D) : V → Hp → VK → Prop := fun x H Q => ∃ G a d, Same G H ∧ Rp G x a ∧ f a = .ok d ∧ ∀ v G' H', Gw G H G' H' → Rp G' v d → Q v H'
def rDn (f : List D → R D) : List V → Hp → VK → Prop := fun xs H Q => ∃ G ds d, Same G H ∧ RpAll G xs ds ∧ f ds = .ok d ∧ ∀ v G' H', Gw G H G' H' → Rp G' v d → Q v H'
def rDm (f : D → List D → R D) : V → List V → Hp → VK → Prop := fun x xs H Q => ∃ G a ds d, Same G H ∧ Rp G x a ∧ RpAll G xs ds ∧ f a ds = .ok d ∧ ∀ v G' H', Gw G H G' H' → Rp G' v d → Q v H'

section
variable {X : Cx}
theorem or_add : OpR X (binaryOp .Add) (rD2 addD) := by
  intro pins s σ H x y v u Q I rx ry h
  obtain ⟨G, a, b, d, sm, ra, rb, e, q⟩ := h
  unfold addD at e
  split at e
  · cases e
    cases rp_int ra; cases rp_int rb
    exact op_add pins s σ H _ _ v u Q I rx ry ⟨_, _, rfl, rfl, q _ G H (Gw.refl sm) (Rp.of (.int _))⟩
  · obtain ⟨hl, e⟩ := guard_ok e
    cases e
    cases rp_str ra; cases rp_str rb
    exact op_add_str pins s σ H _ _ v u Q I rx ry ⟨_, _, rfl, rfl, okLen_le hl, q _ G H (Gw.refl sm) (Rp.of (.str _))⟩
  · obtain ⟨hl, e⟩ := guard_ok e
    cases e
    obtain ⟨a1, vs, rfl, h1, r1⟩ := rp_list ra
    obtain ⟨a2, ws, rfl, h2, r2⟩ := rp_list rb
    refine op_cat pins s σ H _ _ v u Q I rx ry ⟨a1, a2, vs, ws, rfl, rfl, sm _ _ h1, sm _ _ h2, ?_, fun p hp => q _ _ _ (Gw.new sm hp) (mkL (free_of sm hp) (dpAll_app r1 r2))⟩
    rw [dpAll_len r1, dpAll_len r2]
    exact okLen_le hl
  · obtain ⟨hl, e⟩ := guard_ok e
    cases e
    obtain ⟨a1, vs, rfl, h1, r1⟩ := rp_tuple ra
    obtain ⟨a2, ws, rfl, h2, r2⟩ := rp_tuple rb
    refine op_catA pins s σ H _ _ v u Q I rx ry ⟨a1, a2, vs, ws, rfl, rfl, SqT.of (sm _ _ h1), SqT.of (sm _ _ h2), ?_, fun z => ?_, fun _ z => ?_, fun _ _ p hp => q _ _ _ (Gw.new sm hp) (mkT (free_of sm hp) (dpAll_app r1 r2))⟩
    · rw [dpAll_len r1, dpAll_len r2]
      exact okLen_le hl
    · subst z
      cases r1
      exact q _ G H (Gw.refl sm) rb
    · subst z
      cases r2
      rw [List.append_nil] at q
      exact q _ G H (Gw.refl sm) ra
  · cases e

theorem small_iff {a : Int} (h : small64 a = true) : -(2 ^ 64) < a ∧ a < 2 ^ 64 := by
  unfold small64 at h
  rw [Bool.and_eq_true] at h
  exact ⟨of_decide_eq_true h.1, of_decide_eq_true h.2⟩
theorem or_sub : OpR X (binaryOp .Sub) (rD2 (binD .Sub)) := by
  intro pins s σ H x y v u Q I rx ry h
  obtain ⟨G, a, b, d, sm, ra, rb, e, q⟩ := h
  simp only [binD] at e
  split at e
  · cases e
    cases rp_int ra; cases rp_int rb
    exact op_sub pins s σ H _ _ v u Q I rx ry ⟨_, _, rfl, rfl, q _ G H (Gw.refl sm) (Rp.of (.int _))⟩
  · cases e
theorem or_mod : OpR X (binaryOp .Mod) (rD2 (binD .Mod)) := by
  intro pins s σ H x y v u Q I rx ry h
  obtain ⟨G, a, b, d, sm, ra, rb, e, q⟩ := h
  simp only [binD] at e
  split at e
  · obtain ⟨hl, e⟩ := guard_ok e
    cases e
    cases rp_int ra; cases rp_int rb
    exact op_mod pins s σ H _ _ v u Q I rx ry ⟨_, _, rfl, rfl, of_decide_eq_true hl, q _ G H (Gw.refl sm) (Rp.of (.int _))⟩
  · cases e
theorem or_fdiv : OpR X (binaryOp .FloorDiv) (rD2 (binD .FloorDiv)) := by
  intro pins s σ H x y v u Q I rx ry h
  obtain ⟨G, a, b, d, sm, ra, rb, e, q⟩ := h
  simp only [binD] at e
  split at e
  · obtain ⟨hl, e⟩ := guard_ok e
    cases e
    cases rp_int ra; cases rp_int rb
    rw [Bool.and_eq_true] at hl
    exact op_fdiv pins s σ H _ _ v u Q I rx ry ⟨_, _, rfl, rfl, ⟨of_decide_eq_true hl.1, of_decide_eq_true hl.2⟩, q _ G H (Gw.refl sm) (Rp.of (.int _))⟩
  · cases e
theorem or_pow : OpR X (binaryOp .Pow) (rD2 (binD .Pow)) := by
  intro pins s σ H x y v u Q I rx ry h
  obtain ⟨G, a, b, d, sm, ra, rb, e, q⟩ := h
  simp only [binD] at e
  split at e
  · obtain ⟨hl, e⟩ := guard_ok e
    cases e
    cases rp_int ra; cases rp_int rb
    rw [Bool.and_eq_true, Bool.and_eq_true] at hl
    have h1 := of_decide_eq_true hl.1.1
    have h2 := of_decide_eq_true hl.1.2
    have h3 := small_iff hl.2
    exact op_pow pins s σ H _ _ v u Q I rx ry ⟨_, _, rfl, rfl, ⟨h1, by omega, by omega⟩, q _ G H (Gw.refl sm) (Rp.of (.int _))⟩
  · cases e
end
end TC
set_option Elab.async false
set_option linter.all false
set_option maxRecDepth 100000
set_option autoImplicit false
namespace TC
open PySem PySem.Spec PyProof.Rows L2
section
variable {X : Cx}
theorem or_mul : OpR X (binaryOp .Mult) (rD2 mulD) := by
  intro pins s σ H x y v u Q I rx ry h
  obtain ⟨G, a, b, d, sm, ra, rb, e, q⟩ := h
  unfold mulD at e
  split at e
  · obtain ⟨hl, e⟩ := guard_ok e
    cases e
    cases rp_int ra; cases rp_int rb
    rw [Bool.or_eq_true] at hl
    exact op_mul pins s σ H _ _ v u Q I rx ry ⟨_, _, rfl, rfl, hl.imp small_iff small_iff, q _ G H (Gw.refl sm) (Rp.of (.int _))⟩
  · obtain ⟨hl, e⟩ := guard_ok e
    cases e
    cases rp_int rb
    obtain ⟨a1, vs, rfl, h1, r1⟩ := rp_list ra
    simp only [Bool.and_eq_true, decide_eq_true_eq] at hl
    obtain ⟨⟨k0, k1⟩, k2⟩ := hl
    have k1' := okLen_le k1
    rw [sizeLine_eq] at k1'
    refine op_rep pins s σ H _ _ v u Q I rx ry ⟨a1, _, vs, rfl, rfl, sm _ _ h1, by omega, by omega, ?_, fun p hp => q _ _ _ (Gw.new sm hp) (mkL (free_of sm hp) (dpAll_rep r1 _))⟩
    rw [dpAll_len r1]
    exact okLen_le k2
  · obtain ⟨hl, e⟩ := guard_ok e
    cases e
    cases rp_int rb
    obtain ⟨a1, vs, rfl, h1, r1⟩ := rp_tuple ra
    simp only [Bool.and_eq_true, decide_eq_true_eq] at hl
    obtain ⟨⟨⟨k0, k1⟩, k2⟩, k3⟩ := hl
    refine op_repT pins s σ H _ _ v u Q I rx ry ⟨a1, _, vs, rfl, rfl, SqT.of (sm _ _ h1), fun z => ?_, k1, k2, ?_, fun p hp => q _ _ _ (Gw.new sm hp) (mkT (free_of sm hp) (dpAll_rep r1 _))⟩
    · subst z
      cases r1
      cases k0
    · rw [dpAll_len r1]
      exact k3
  · cases e
theorem or_bin (o : Operator) : OpR X (binaryOp o) (rD2 (binD o)) := by
  cases o with
  | Add => exact or_add
  | Mult => exact or_mul
  | Sub => exact or_sub
  | Mod => exact or_mod
  | FloorDiv => exact or_fdiv
  | Pow => exact or_pow
  | _ => (intro pins s σ H x y v u Q I rx ry h; obtain ⟨G, a, b, d, sm, ra, rb, e, q⟩ := h; cases e)

/-! ### comparisons -/
theorem reads_of {pins : List (Addr × Obj)} {σ : L2.St} {G H : Hp} {s : Shared} {x : V} {u : Value} {a : D} (I : Inv X pins σ H s) (sm : Same G H) (r : Rp G x a) (n : isDict a = false) (rx : RelV x u) : ∃ as, Reads s.heap u a as :=
  Dp.reads I a x u (Dq.dp (dp_same sm (r.dp n))) rx
theorem plain_of {G : Hp} {x : V} {a : D} (r : Rp G x a) (n : isDict a = false) : a.plain = true := plain_dp (r.dp n)
theorem bl_end {pins : List (Addr × Obj)} {σ : L2.St} {G H : Hp} {s : Shared} {Q : VK} {b : Bool} (I : Inv X pins σ H s) (sm : Same G H) (q : ∀ v G' H', Gw G H G' H' → Rp G' v (.bool b) → Q v H') : EP X pins σ Q (.bool b) s :=
  ⟨.bl b, H, I, rfl, q _ G H (Gw.refl sm) (Rp.of (.bl _))⟩
theorem mapB_ok {f : Bool → Bool} {r : R Bool} {d : D} (h : mapB f r = .ok d) : ∃ b, r = .ok b ∧ d = .bool (f b) := by
  obtain ⟨b, h1, h2⟩ := bind_ok h
  cases h2
  exact ⟨b, h1, rfl⟩
theorem eqD_ok {a b : D} {k : Bool} (h : eqD a b = .ok k) : isDict a = false ∧ isDict b = false ∧ min a.depth b.depth ≤ 100 ∧ k = PyData.eqv a b := by
  obtain ⟨h1, h2⟩ := guard_ok h
  cases h2
  simp only [Bool.and_eq_true, Bool.not_eq_true'] at h1
  exact ⟨h1.1.1, h1.1.2, of_decide_eq_true h1.2, rfl⟩
theorem or_eq {k : Nat} (hr : Room k X.A) : OpR X (compareOp .Eq) (rD2 (cmpD .Eq)) := by
  intro pins s σ H x y v u Q I rx ry h
  obtain ⟨G, a, b, d, sm, ra, rb, e, q⟩ := h
  obtain ⟨c, e1, rfl⟩ := mapB_ok e
  obtain ⟨n1, n2, hd, rfl⟩ := eqD_ok e1
  obtain ⟨as, r1⟩ := reads_of I sm ra n1 rx
  obtain ⟨bs, r2⟩ := reads_of I sm rb n2 ry
  have := hr.un
  exact SeqAt.eq_plain r1 r2 (plain_of ra n1) (plain_of rb n2) (by omega) (bl_end I sm q)
theorem or_ne {k : Nat} (hr : Room k X.A) : OpR X (compareOp .NotEq) (rD2 (cmpD .NotEq)) := by
  intro pins s σ H x y v u Q I rx ry h
  obtain ⟨G, a, b, d, sm, ra, rb, e, q⟩ := h
  obtain ⟨c, e1, rfl⟩ := mapB_ok e
  obtain ⟨n1, n2, hd, rfl⟩ := eqD_ok e1
  obtain ⟨as, r1⟩ := reads_of I sm ra n1 rx
  obtain ⟨bs, r2⟩ := reads_of I sm rb n2 ry
  have := hr.un
  exact SeqAt.ne_plain r1 r2 (plain_of ra n1) (plain_of rb n2) (by omega) (bl_end I sm q)

theorem ltD_ok {a b : D} {k : Bool} (h : ltD a b = .ok k) : isDict a = false ∧ isDict b = false ∧ a ≠ .none ∧ b ≠ .none ∧ W.alike a b = true ∧ min a.depth b.depth ≤ 100 ∧ k = W.dataLt a b := by
  unfold ltD at h
  split at h
  · rename_i x y
    cases h
    refine ⟨rfl, rfl, (by intro z; cases z), (by intro z; cases z), rfl, by simp [PyData.depth], ?_⟩
    unfold W.dataLt
    simp only [W.keyToks, PyProof.Rows.lexLt]
    by_cases h : x < y
    · simp [h, show x ≠ y by omega, itemLt]
    · simp [h, itemLt]
  · obtain ⟨h1, h2⟩ := guard_ok h
    cases h2
    rw [Bool.and_eq_true] at h1
    exact ⟨rfl, rfl, (by intro z; cases z), (by intro z; cases z), h1.1, of_decide_eq_true h1.2, rfl⟩
  · cases h
theorem or_lt {k : Nat} (hr : Room k X.A) : OpR X (compareOp .Lt) (rD2 (cmpD .Lt)) := by
  intro pins s σ H x y v u Q I rx ry h
  obtain ⟨G, a, b, d, sm, ra, rb, e, q⟩ := h
  obtain ⟨c, e1, rfl⟩ := mapB_ok e
  obtain ⟨n1, n2, z1, z2, al, hd, rfl⟩ := ltD_ok e1
  obtain ⟨as, r1⟩ := reads_of I sm ra n1 rx
  obtain ⟨bs, r2⟩ := reads_of I sm rb n2 ry
  have := hr.un
  exact W.lt_data r1 r2 al z1 (by omega) (bl_end I sm q)
theorem or_gt {k : Nat} (hr : Room k X.A) : OpR X (compareOp .Gt) (rD2 (cmpD .Gt)) := by
  intro pins s σ H x y v u Q I rx ry h
  obtain ⟨G, a, b, d, sm, ra, rb, e, q⟩ := h
  obtain ⟨c, e1, rfl⟩ := mapB_ok e
  obtain ⟨n1, n2, z1, z2, al, hd, rfl⟩ := ltD_ok e1
  obtain ⟨as, r1⟩ := reads_of I sm ra n2 rx
  obtain ⟨bs, r2⟩ := reads_of I sm rb n1 ry
  have := hr.un
  rw [W.alike_comm] at al
  exact W.gt_data r1 r2 al z2 (by omega) (bl_end I sm q)
theorem or_le {k : Nat} (hr : Room k X.A) : OpR X (compareOp .LtE) (rD2 (cmpD .LtE)) := by
  intro pins s σ H x y v u Q I rx ry h
  obtain ⟨G, a, b, d, sm, ra, rb, e, q⟩ := h
  obtain ⟨c, e1, rfl⟩ := mapB_ok e
  obtain ⟨n1, n2, z1, z2, al, hd, rfl⟩ := ltD_ok e1
  obtain ⟨as, r1⟩ := reads_of I sm ra n2 rx
  obtain ⟨bs, r2⟩ := reads_of I sm rb n1 ry
  have := hr.un
  rw [W.alike_comm] at al
  exact W.le_data r1 r2 al z2 (by omega) (bl_end I sm q)
theorem or_ge {k : Nat} (hr : Room k X.A) : OpR X (compareOp .GtE) (rD2 (cmpD .GtE)) := by
  intro pins s σ H x y v u Q I rx ry h
  obtain ⟨G, a, b, d, sm, ra, rb, e, q⟩ := h
  obtain ⟨c, e1, rfl⟩ := mapB_ok e
  obtain ⟨n1, n2, z1, z2, al, hd, rfl⟩ := ltD_ok e1
  obtain ⟨as, r1⟩ := reads_of I sm ra n1 rx
  obtain ⟨bs, r2⟩ := reads_of I sm rb n2 ry
  have := hr.un
  exact W.ge_data r1 r2 al z1 (by omega) (bl_end I sm q)
theorem plainL_of {G : Hp} {x : V} {ys : List D} (r : Rp G x (.list ys)) : PyData.plainAll ys = true := by
  have := plain_of r rfl
  simpa [PyData.plain] using this
theorem plainT_of {G : Hp} {x : V} {ys : List D} (r : Rp G x (.tuple ys)) : PyData.plainAll ys = true := by
  have := plain_of r rfl
  simpa [PyData.plain] using this
theorem signIn_ok {c s : Str} {k : Bool} (h : signIn c s = .ok k) : ∃ n, c = ⟨#[n]⟩ ∧ k = decide (n ∈ s.cps.toList) := by
  unfold signIn at h
  split at h
  · rename_i n hn
    cases h
    refine ⟨n, ?_, by rw [List.contains_eq_mem]⟩
    obtain ⟨⟨l⟩⟩ := c
    simp only at hn
    rw [hn]
  · cases h
theorem or_in {k : Nat} (hr : Room k X.A) : OpR X (compareOp .In) (rD2 (cmpD .In)) := by
  intro pins s σ H x y v u Q I rx ry h
  obtain ⟨G, a, b, d, sm, ra, rb, e, q⟩ := h
  obtain ⟨c, e1, rfl⟩ := mapB_ok e
  have hun := hr.un
  unfold inD at e1
  split at e1
  · obtain ⟨h1, h2⟩ := guard_ok e1
    cases h2
    rw [Bool.and_eq_true, Bool.not_eq_true'] at h1
    have hd := of_decide_eq_true h1.2
    obtain ⟨as, r1⟩ := reads_of I sm ra h1.1 rx
    obtain ⟨bs, r2⟩ := reads_of I sm rb rfl ry
    exact SeqAt.in_list_data r2 r1 (plainL_of rb) (plain_of ra h1.1) (by omega) (bl_end I sm q)
  · obtain ⟨h1, h2⟩ := guard_ok e1
    cases h2
    rw [Bool.and_eq_true, Bool.not_eq_true'] at h1
    have hd := of_decide_eq_true h1.2
    obtain ⟨as, r1⟩ := reads_of I sm ra h1.1 rx
    obtain ⟨bs, r2⟩ := reads_of I sm rb rfl ry
    exact SeqAt.in_tuple_data r2 r1 (plainT_of rb) (plain_of ra h1.1) (by omega) (bl_end I sm q)
  · split at e1
    · obtain ⟨n, rfl, rfl⟩ := signIn_ok e1
      cases rp_str ra; cases rp_str rb
      exact op_in_sign pins s σ H _ _ v u Q I rx ry ⟨_, _, rfl, rfl, q _ G H (Gw.refl sm) (Rp.of (.bl _))⟩
    · cases e1
  · cases e1
theorem or_notin {k : Nat} (hr : Room k X.A) : OpR X (compareOp .NotIn) (rD2 (cmpD .NotIn)) := by
  intro pins s σ H x y v u Q I rx ry h
  obtain ⟨G, a, b, d, sm, ra, rb, e, q⟩ := h
  obtain ⟨c, e1, rfl⟩ := mapB_ok e
  have hun := hr.un
  unfold inD at e1
  split at e1
  · obtain ⟨h1, h2⟩ := guard_ok e1
    cases h2
    rw [Bool.and_eq_true, Bool.not_eq_true'] at h1
    have hd := of_decide_eq_true h1.2
    obtain ⟨as, r1⟩ := reads_of I sm ra h1.1 rx
    obtain ⟨bs, r2⟩ := reads_of I sm rb rfl ry
    exact SeqAt.notIn_list_data r2 r1 (plainL_of rb) (plain_of ra h1.1) (by omega) (bl_end I sm q)
  · obtain ⟨h1, h2⟩ := guard_ok e1
    cases h2
    rw [Bool.and_eq_true, Bool.not_eq_true'] at h1
    have hd := of_decide_eq_true h1.2
    obtain ⟨as, r1⟩ := reads_of I sm ra h1.1 rx
    obtain ⟨bs, r2⟩ := reads_of I sm rb rfl ry
    exact SeqAt.notIn_tuple_data r2 r1 (plainT_of rb) (plain_of ra h1.1) (by omega) (bl_end I sm q)
  · split at e1
    · obtain ⟨n, rfl, rfl⟩ := signIn_ok e1
      cases rp_str ra; cases rp_str rb
      exact op_notIn_sign pins s σ H _ _ v u Q I rx ry ⟨_, _, rfl, rfl, q _ G H (Gw.refl sm) (Rp.of (.bl _))⟩
    · cases e1
  · cases e1
theorem or_cmp {k : Nat} (hr : Room k X.A) (o : CmpOp) : OpR X (compareOp o) (rD2 (cmpD o)) := by
  cases o with
  | Eq => exact or_eq hr
  | NotEq => exact or_ne hr
  | Lt => exact or_lt hr
  | LtE => exact or_le hr
  | Gt => exact or_gt hr
  | GtE => exact or_ge hr
  | In => exact or_in hr
  | NotIn => exact or_notin hr
  | Is =>
    intro pins s σ H x y v u Q I rx ry h
    obtain ⟨G, a, b, d, sm, ra, rb, e, q⟩ := h
    simp only [cmpD] at e
    split at e
    · cases e
      cases rp_none rb
      refine op_isN pins s σ H _ _ v u Q I rx ry ⟨rfl, ?_⟩
      rw [rp_non ra]
      exact q _ G H (Gw.refl sm) (Rp.of (.bl _))
    · cases e
  | IsNot =>
    intro pins s σ H x y v u Q I rx ry h
    obtain ⟨G, a, b, d, sm, ra, rb, e, q⟩ := h
    simp only [cmpD] at e
    split at e
    · cases e
      cases rp_none rb
      refine op_notN pins s σ H _ _ v u Q I rx ry ⟨rfl, ?_⟩
      rw [rp_non ra]
      exact q _ G H (Gw.refl sm) (Rp.of (.bl _))
    · cases e
end
end TC
set_option Elab.async false
set_option linter.all false
set_option maxRecDepth 100000
set_option autoImplicit false
namespace TC
open PySem PySem.Spec PyProof.Rows L2
section
variable {X : Cx}
/-! ### truth -/
theorem tru_D {G H : Hp} {x : V} {a : D} {b : Bool} (sm : Same G H) (r : Rp G x a) (e : truD a = .ok b) : TruV X.K x H b := by
  cases a with
  | none => cases e; cases rp_none r; rfl
  | bool c => cases e; cases rp_bool r; rfl
  | int i => cases e; cases rp_int r; rfl
  | str z =>
    obtain ⟨h, e⟩ := guard_ok e
    cases e
    cases rp_str r
    exact ⟨okLen_le h, rfl⟩
  | list xs =>
    cases e
    obtain ⟨p, vs, rfl, h1, h2⟩ := rp_list r
    refine .inl ⟨vs, SqL.of (sm _ _ h1), ?_⟩
    cases h2 <;> rfl
  | tuple xs =>
    cases e
    obtain ⟨p, vs, rfl, h1, h2⟩ := rp_tuple r
    refine .inr (.inl ⟨vs, SqT.of (sm _ _ h1), ?_⟩)
    cases h2 <;> rfl
  | dict kvs => cases e
theorem truD_exc {a : D} {c : Str} : truD a ≠ .exc c := by
  cases a <;> simp [truD]
  rename_i s
  cases okLen s.length <;> simp [R.guard, R.bind]

/-! ### subscripts -/
theorem ints_vs {G : Hp} : ∀ {vs : List V} {q : List Int}, DqAll G vs (q.map .int) → vs = q.map V.int
  | _, [], .nil => rfl
  | _, i :: q, .cons h r => by
    cases h
    rw [ints_vs r]
    rfl
theorem toInts_some : ∀ {xs : List D} {q : List Int}, toInts xs = some q → xs = q.map .int
  | [], q, h => by cases h; rfl
  | .int i :: r, q, h => by
    unfold toInts at h
    cases e : toInts r with
    | none => rw [e] at h; cases h
    | some q' =>
      rw [e] at h
      cases h
      rw [toInts_some e]
      rfl
  | .none :: r, q, h => by cases h
  | .bool _ :: r, q, h => by cases h
  | .str _ :: r, q, h => by cases h
  | .list _ :: r, q, h => by cases h
  | .tuple _ :: r, q, h => by cases h
  | .dict _ :: r, q, h => by cases h
theorem toInts_map : ∀ q : List Int, toInts (q.map .int) = some q
  | [] => rfl
  | i :: q => by
    show (toInts (q.map .int)).map (i :: ·) = _
    rw [toInts_map q]
    rfl
theorem keyOf_some {x : D} {q : List Int} (h : keyOf x = some q) : x = .tuple (q.map .int) := by
  cases x <;> first | cases h | skip
  rename_i xs
  rw [toInts_some (show toInts xs = some q from h)]
/-- a key of ints -/
theorem key_at {G : Hp} {y : V} {k : D} {q : List Int} (r : Rp G y k) (h : keyOf k = some q) : ∃ b, y = .ref b ∧ G b = some (.tup ((q.map Sum.inl).map kV)) := by
  have := keyOf_some h
  subst this
  obtain ⟨b, vs, rfl, h1, h2⟩ := rp_tuple r
  have := ints_vs h2
  subst this
  refine ⟨b, rfl, ?_⟩
  rw [List.map_map]
  exact h1
theorem inl_inj : ∀ {p q : List Int}, (p.map Sum.inl : List Key) = q.map Sum.inl → p = q
  | [], [], _ => rfl
  | [], _ :: _, h => by cases h
  | _ :: _, [], h => by cases h
  | a :: p, b :: q, h => by
    simp only [List.map_cons, List.cons.injEq, Sum.inl.injEq] at h
    rw [h.1, inl_inj h.2]
theorem val_row {G : Hp} {q : List Int} : ∀ {ks : List (List Key × V)} {rs : List (List Int × D)}, Paired (RowOk G) ks rs → ∀ {d : D}, rs.lookup q = some d → ∃ v, valV ks (q.map Sum.inl) = some v ∧ Dq G v d
  | _, _, .nil, d, h => by cases h
  | p :: ks, r :: rs, .cons h t, d, e => by
    obtain ⟨h1, h2⟩ := h
    obtain ⟨rk, rv⟩ := r
    rw [List.lookup_cons] at e
    cases hq : q == rk with
    | true =>
      rw [hq] at e
      simp only [Option.some.injEq] at e
      subst e
      have hq' : q = rk := by simpa using hq
      exact ⟨p.2, valV_pos (by rw [h1, hq']), h2⟩
    | false =>
      rw [hq] at e
      have hq' : q ≠ rk := by simpa using hq
      obtain ⟨v, h3, h4⟩ := val_row t e
      exact ⟨v, by rw [valV_neg (fun z => hq' (inl_inj (z.symm.trans h1)))]; exact h3, h4⟩
theorem val_none {G : Hp} {q : List Int} : ∀ {ks : List (List Key × V)} {rs : List (List Int × D)}, Paired (RowOk G) ks rs → rs.lookup q = none → valV ks (q.map Sum.inl) = none
  | _, _, .nil, h => rfl
  | p :: ks, r :: rs, .cons h t, e => by
    obtain ⟨h1, h2⟩ := h
    obtain ⟨rk, rv⟩ := r
    rw [List.lookup_cons] at e
    cases hq : q == rk with
    | true => rw [hq] at e; cases e
    | false =>
      rw [hq] at e
      have hq' : q ≠ rk := by simpa using hq
      rw [valV_neg (fun z => hq' (inl_inj (z.symm.trans h1)))]
      exact val_none t e
theorem getT_tab (q : List Int) : ∀ rs : List (List Int × D), getT (tabD rs) q = rs.lookup q
  | [] => rfl
  | (k, v) :: rs => by
    show (if keyOf (.tuple (k.map .int)) = some q then some v else getT (tabD rs) q) = _
    rw [List.lookup_cons, getT_tab q rs]
    have e : keyOf (.tuple (k.map .int)) = some k := toInts_map k
    rw [e]
    by_cases h : k = q
    · subst h; simp
    · have : (q == k) = false := by simpa using fun z => h z.symm
      rw [this, if_neg (by simpa using h)]
theorem scrOf_tab {rs : List (List Int × D)} : scrOf (tabD rs) = none := by
  cases rs with
  | nil => rfl
  | cons r rs => cases rs <;> rfl
theorem scr_get {ns : List Int} {q : List Int} : getT (scrD ns) q = none := rfl
theorem atI_map {α β : Type} (f : α → β) (xs : List α) (i : Int) : L2.atI (xs.map f) i = (L2.atI xs i).map f := by
  unfold L2.atI
  rw [List.length_map]
  cases L2.ixN xs.length i with
  | none => rfl
  | some j => simp
theorem ix_dict {k : Nat} (hr : Room k X.A) : IxR X (fun x y H Q => ∃ a v, x = .ref a ∧ DGet H a y (some v) ∧ Q v H) := by
  intro value slice pins s σ H x y v u Q I rx ry h hs
  obtain ⟨a, z, rfl, g, q⟩ := h
  cases rx
  have := hr.un
  exact tail_any (dict_typeIs I g) PySem.F.slot_dict_getitem.lookup (d_getItem (by omega) I g ry fun w' s3 I3 rw' => ⟨z, H, I3, rw', q⟩) hs
theorem ix_D {k : Nat} (hr : Room k X.A) : IxR X (rD2 subD) := by
  intro value slice pins s σ H x y v u Q I rx ry h hs
  obtain ⟨G, a, b, d, sm, ra, rb, e, q⟩ := h
  unfold subD at e
  split at e
  · cases rp_int rb
    obtain ⟨p, vs, rfl, h1, r1⟩ := rp_list ra
    obtain ⟨z, h3, h4⟩ := dpAll_at r1 (ofOpt_ok e)
    exact ix_list value slice pins s σ H _ _ v u Q I rx ry ⟨p, vs, _, z, rfl, rfl, SqL.of (sm _ _ h1), h3, q _ G H (Gw.refl sm) (Rp.of h4)⟩ hs
  · cases rp_int rb
    obtain ⟨p, vs, rfl, h1, r1⟩ := rp_tuple ra
    obtain ⟨z, h3, h4⟩ := dpAll_at r1 (ofOpt_ok e)
    exact ix_tup value slice pins s σ H _ _ v u Q I rx ry ⟨p, vs, _, z, rfl, rfl, SqT.of (sm _ _ h1), h3, q _ G H (Gw.refl sm) (Rp.of h4)⟩ hs
  · cases rp_int rb
    cases rp_str ra
    obtain ⟨hl, e⟩ := guard_ok e
    obtain ⟨c, e1, e2⟩ := bind_ok e
    cases e2
    exact ix_str value slice pins s σ H _ _ v u Q I rx ry ⟨_, _, c, rfl, rfl, okLen_le hl, ofOpt_ok e1, q _ G H (Gw.refl sm) (Rp.of (.str _))⟩ hs
  · cases rp_int rb
    obtain ⟨xs, e1, e2⟩ := bind_ok e
    obtain ⟨p, rfl, ⟨ks, rs, h1, rfl, h3⟩ | ⟨ns, rfl, h2⟩⟩ := ra
    · rw [scrOf_tab] at e1; cases e1
    · have e1' : xs = ns.map .int := by
        have := ofOpt_ok e1
        exact (Option.some.inj this).symm
      subst e1'
      have e3 := ofOpt_ok e2
      rw [← atI_eq, atI_map] at e3
      cases ez : L2.atI ns _ with
      | none => rw [ez] at e3; cases e3
      | some z =>
        rw [ez] at e3
        cases e3
        exact ix_list value slice pins s σ H _ _ v u Q I rx ry ⟨p, ns.map V.int, _, .int z, rfl, rfl, .inl (rd_same sm h2), by rw [atI_map, ez]; rfl, q _ G H (Gw.refl sm) (Rp.of (.int z))⟩ hs
  · obtain ⟨qk, e1, e2⟩ := bind_ok e
    obtain ⟨b, rfl, hb⟩ := key_at rb (ofOpt_ok e1)
    obtain ⟨p, rfl, ⟨ks, rs, h1, rfl, h3⟩ | ⟨ns, rfl, h2⟩⟩ := ra
    · have e3 := ofOpt_ok e2
      rw [getT_tab] at e3
      obtain ⟨z, h4, h5⟩ := val_row h3 e3
      refine ix_dict hr value slice pins s σ H _ _ v u Q I rx ry ⟨p, z, rfl, ?_, q _ G H (Gw.refl sm) (Rp.of h5)⟩ hs
      rw [← h4]
      exact DGet.t (sm _ _ h1) (sm _ _ hb)
    · have e3 := ofOpt_ok e2
      rw [scr_get] at e3
      cases e3
  · cases e

/-! ### slices -/
theorem sIx_eq (n d : Nat) (o : Option Int) : HT.sIx n d o = TC.sIx n d o := by cases o <;> rfl
theorem cutV_eq (xs : List V) (lo hi : Option Int) : cutV xs lo hi = cut xs lo hi := by
  unfold cutV cut
  rw [sIx_eq, sIx_eq]
theorem dpAll_cut {G : Hp} {vs : List V} {ds : List D} (r : DqAll G vs ds) (lo hi : Option Int) : DqAll G (cut vs lo hi) (cut ds lo hi) := by
  unfold cut
  rw [dpAll_len r]
  exact dpAll_take _ (dpAll_drop _ r)
def rDs (f : D → Option Int → Option Int → R D) : V → Option Int → Option Int → Hp → VK → Prop := fun x lo hi H Q => ∃ G a d, Same G H ∧ Rp G x a ∧ f a lo hi = .ok d ∧ ∀ v G' H', Gw G H G' H' → Rp G' v d → Q v H'
theorem sl_D : SlR X (rDs slcD) := by
  intro pins s σ H x v vl vu lo hi sl Q I rx hs pl pu h
  obtain ⟨G, a, d, sm, ra, e, q⟩ := h
  unfold slcD at e
  split at e
  · cases e
    obtain ⟨p, vs, rfl, h1, r1⟩ := rp_list ra
    exact sl_list pins s σ H _ v vl vu lo hi sl Q I rx hs pl pu ⟨p, vs, rfl, SqL.of (sm _ _ h1), fun p' hp => q _ _ _ (Gw.new sm hp) (mkL (free_of sm hp) (by rw [cutV_eq]; exact dpAll_cut r1 lo hi))⟩
  · cases e
    obtain ⟨p, vs, rfl, h1, r1⟩ := rp_tuple ra
    refine sl_tupA pins s σ H _ v vl vu lo hi sl Q I rx hs pl pu ⟨p, vs, rfl, SqT.of (sm _ _ h1), fun z => ?_, fun _ p' hp => q _ _ _ (Gw.new sm hp) (mkT (free_of sm hp) (by rw [cutV_eq]; exact dpAll_cut r1 lo hi))⟩
    rw [sIx_eq, sIx_eq, dpAll_len r1] at z
    have ec : ∀ ys : List D, TC.sIx ys.length 0 lo = 0 ∧ TC.sIx ys.length ys.length hi = ys.length → cut ys lo hi = ys := fun ys z => by
      unfold cut
      rw [z.1, z.2]
      simp
    rw [ec _ z] at q
    exact q _ G H (Gw.refl sm) ra
  · obtain ⟨hl, e⟩ := guard_ok e
    cases e
    cases rp_str ra
    refine sl_str pins s σ H _ v vl vu lo hi sl Q I rx hs pl pu ⟨_, rfl, okLen_le hl, ?_⟩
    refine q _ G H (Gw.refl sm) (Rp.of ?_)
    unfold cutS cut
    rw [sIx_eq, sIx_eq]
    exact .str _
  · cases e
end
end TC
set_option Elab.async false
set_option linter.all false
set_option maxRecDepth 100000
set_option autoImplicit false
namespace TC
open PySem PySem.Spec PyProof.Rows L2
section
variable {X : Cx}
theorem rpAll1 {G : Hp} {vs : List V} {d : D} (h : RpAll G vs [d]) : ∃ v, vs = [v] ∧ Rp G v d := by
  cases h with
  | cons h t => cases t; exact ⟨_, rfl, h⟩
theorem rpAll2 {G : Hp} {vs : List V} {d e : D} (h : RpAll G vs [d, e]) : ∃ v w, vs = [v, w] ∧ Rp G v d ∧ Rp G w e := by
  cases h with
  | cons h t =>
    obtain ⟨w, rfl, h2⟩ := rpAll1 t
    exact ⟨_, w, rfl, h, h2⟩
theorem seqD_ok {a : D} {ys : List D} (h : seqD a = .ok ys) : a = .list ys ∨ a = .tuple ys := by
  cases a <;> first | (cases h; exact .inl rfl) | (cases h; exact .inr rfl) | cases h
theorem cr_len : CallR X (.builtin "len") (rDn lenB) := by
  intro pins s σ H xs us Q I r h
  obtain ⟨G, ds, d, sm, ra, e, q⟩ := h
  unfold lenB at e
  split at e
  · cases e
    obtain ⟨v, rfl, h⟩ := rpAll1 ra
    obtain ⟨p, vs, rfl, h1, r1⟩ := rp_list h
    refine call_len pins s σ H _ us Q I r ⟨_, _, rfl, .inl ⟨vs, SqL.of (sm _ _ h1), rfl⟩, ?_⟩
    rw [dpAll_len r1]
    exact q _ G H (Gw.refl sm) (Rp.of (.int _))
  · cases e
    obtain ⟨v, rfl, h⟩ := rpAll1 ra
    obtain ⟨p, vs, rfl, h1, r1⟩ := rp_tuple h
    refine call_len pins s σ H _ us Q I r ⟨_, _, rfl, .inr ⟨vs, SqT.of (sm _ _ h1), rfl⟩, ?_⟩
    rw [dpAll_len r1]
    exact q _ G H (Gw.refl sm) (Rp.of (.int _))
  · obtain ⟨hl, e⟩ := guard_ok e
    cases e
    obtain ⟨v, rfl, h⟩ := rpAll1 ra
    cases rp_str h
    exact call_len pins s σ H _ us Q I r ⟨_, _, rfl, ⟨okLen_le hl, rfl⟩, q _ G H (Gw.refl sm) (Rp.of (.int _))⟩
  · obtain ⟨xs, e1, e2⟩ := bind_ok e
    cases e2
    obtain ⟨v, rfl, h⟩ := rpAll1 ra
    obtain ⟨p, rfl, ⟨ks, rs, h1, rfl, h3⟩ | ⟨ns, rfl, h2⟩⟩ := h
    · rw [scrOf_tab] at e1; cases e1
    · have e1' : xs = ns.map .int := (Option.some.inj (ofOpt_ok e1)).symm
      subst e1'
      refine call_len pins s σ H _ us Q I r ⟨_, _, rfl, .inl ⟨ns.map V.int, .inl (rd_same sm h2), rfl⟩, ?_⟩
      rw [List.length_map, ← List.length_map (f := PyData.int)]
      exact q _ G H (Gw.refl sm) (Rp.of (.int _))
  · cases e
theorem cr_list : CallR X (.type "list") (rDn listB) := by
  intro pins s σ H xs us Q I r h
  obtain ⟨G, ds, d, sm, ra, e, q⟩ := h
  unfold listB at e
  split at e
  · obtain ⟨v, rfl, h⟩ := rpAll1 ra
    obtain ⟨ys, e1, e2⟩ := bind_ok e
    cases e2
    rcases seqD_ok e1 with rfl | rfl
    · obtain ⟨p, vs, rfl, h1, r1⟩ := rp_list h
      exact call_list_of pins s σ H _ us Q I r ⟨p, vs, rfl, .inl (SqL.of (sm _ _ h1)), fun l hl => q _ _ _ (Gw.new sm hl) (mkL (free_of sm hl) r1)⟩
    · obtain ⟨p, vs, rfl, h1, r1⟩ := rp_tuple h
      exact call_list_of pins s σ H _ us Q I r ⟨p, vs, rfl, .inr (SqT.of (sm _ _ h1)), fun l hl => q _ _ _ (Gw.new sm hl) (mkL (free_of sm hl) r1)⟩
  · cases e
theorem cr_tuple : CallR X (.type "tuple") (rDn tupB) := by
  intro pins s σ H xs us Q I r h
  obtain ⟨G, ds, d, sm, ra, e, q⟩ := h
  unfold tupB at e
  split at e
  · obtain ⟨v, rfl, h⟩ := rpAll1 ra
    obtain ⟨ys, e1, e2⟩ := bind_ok e
    cases e2
    rcases seqD_ok e1 with rfl | rfl
    · obtain ⟨p, vs, rfl, h1, r1⟩ := rp_list h
      exact call_tuple_of pins s σ H _ us Q I r ⟨p, vs, rfl, .inl ⟨SqL.of (sm _ _ h1), fun l hl => q _ _ _ (Gw.new sm hl) (mkT (free_of sm hl) r1)⟩⟩
    · obtain ⟨p, vs, rfl, h1, r1⟩ := rp_tuple h
      exact call_tuple_of pins s σ H _ us Q I r ⟨p, vs, rfl, .inr ⟨SqT.of (sm _ _ h1), q _ G H (Gw.refl sm) h⟩⟩
  · cases e
theorem cr_int : CallR X (.type "int") (rDn intB) := by
  intro pins s σ H xs us Q I r h
  obtain ⟨G, ds, d, sm, ra, e, q⟩ := h
  unfold intB at e
  split at e
  · cases e
    obtain ⟨v, rfl, h⟩ := rpAll1 ra
    cases rp_int h
    exact call_int1 pins s σ H _ us Q I r (.inl ⟨_, rfl, q _ G H (Gw.refl sm) (Rp.of (.int _))⟩)
  · cases e
    obtain ⟨v, rfl, h⟩ := rpAll1 ra
    cases rp_bool h
    exact call_int1 pins s σ H _ us Q I r (.inr ⟨_, rfl, q _ G H (Gw.refl sm) (Rp.of (.int _))⟩)
  · cases e
theorem log_small {a : Int} (h : small64 a = true) : a.natAbs.log2 < 1920 := by
  obtain ⟨h1, h2⟩ := small_iff h
  have h3 : a.natAbs < 2 ^ 64 := by omega
  by_cases h0 : a.natAbs = 0
  · rw [h0]; decide
  · have : a.natAbs.log2 < 64 := (Nat.log2_lt h0).mpr h3
    omega
theorem cr_str : CallR X (.type "str") (rDn strB) := by
  intro pins s σ H xs us Q I r h
  obtain ⟨G, ds, d, sm, ra, e, q⟩ := h
  unfold strB at e
  split at e
  · obtain ⟨hl, e⟩ := guard_ok e
    cases e
    obtain ⟨v, rfl, h⟩ := rpAll1 ra
    cases rp_int h
    exact call_str_int pins s σ H _ us Q I r ⟨_, rfl, log_small hl, q _ G H (Gw.refl sm) (Rp.of (.str _))⟩
  · cases e

/-! ### least and greatest -/
theorem most_ok {f : D → List D → D} {ds : List D} {d : D} (h : mostD f ds = .ok d) : ∃ x r, ds = x :: r ∧ W.AlikeAll (x :: r) ∧ PyData.depthAll (x :: r) ≤ 100 ∧ d = f x r := by
  cases ds with
  | nil => cases h
  | cons x r =>
    obtain ⟨h1, h2⟩ := guard_ok h
    cases h2
    simp only [Bool.and_eq_true, decide_eq_true_eq, List.all_eq_true, allAlike] at h1
    obtain ⟨⟨h1, h3⟩, h4⟩ := h1
    refine ⟨x, r, rfl, ⟨fun a ha b hb => h1 a ha b hb, fun a ha z => ?_⟩, h4, rfl⟩
    have := h3 a ha
    rw [z] at this
    cases this
theorem vals_at {vs : List V} {its : List Value} {i : Nat} {u : Value} : ∀ (r : Vals vs its), its.toArray[i]? = some u → ∃ v, vs[i]? = some v ∧ RelV v u := by
  intro r h
  have h' : its[i]? = some u := by simpa using h
  induction r generalizing i with
  | nil => simp at h'
  | cons a t ih =>
    cases i with
    | zero =>
      simp only [List.getElem?_cons_zero, Option.some.injEq] at h'
      subst h'
      exact ⟨_, rfl, a⟩
    | succ i =>
      simp only [List.getElem?_cons_succ] at h'
      obtain ⟨v, h1, h2⟩ := ih (by simpa using h') h'
      exact ⟨v, by simpa using h1, h2⟩
theorem dpAll_idx {G : Hp} : ∀ {vs : List V} {ds : List D} {i : Nat} {v : V}, DqAll G vs ds → vs[i]? = some v → ∃ d, ds[i]? = some d ∧ Dq G v d
  | _, _, _, _, .nil, e => by simp at e
  | _, _, 0, _, .cons h _, e => by
    simp only [List.getElem?_cons_zero, Option.some.injEq] at e
    subst e
    exact ⟨_, rfl, h⟩
  | _, _, i + 1, v, .cons _ r, e => by
    simp only [List.getElem?_cons_succ] at e
    obtain ⟨d, h1, h2⟩ := dpAll_idx (i := i) r e
    exact ⟨d, by simpa using h1, h2⟩
/-- the chosen one of a list's values -/
theorem chosen {pins : List (Addr × Obj)} {σ : L2.St} {G H : Hp} {s : Shared} {Q : VK} {vs : List V} {ds : List D} {its : List Value} {d : D} {i : Nat} {u : Value} {h' : Heap} {tk : Nat} {bs : List Addr} (I : Inv X pins σ H s) (sm : Same G H) (r1 : DqAll G vs ds)
    (rv : Vals vs its) (hi : its.toArray[i]? = some u) (rd : Reads h' u d bs) (kp : ∀ b o, s.heap.get? b = some o → h'.get? b = some o) (q : ∀ v G' H', Gw G H G' H' → Rp G' v d → Q v H') : EP X pins σ Q u { s with heap := h', toks := tk } := by
  obtain ⟨v, h1, h2⟩ := vals_at rv hi
  obtain ⟨d', h3, h4⟩ := dpAll_idx r1 h1
  obtain ⟨as, h5⟩ := Dp.reads I d' v u (Dq.dp (dp_same sm h4)) h2
  have e := SeqAt.plain_unique d' d u as bs (plain_dp h4) (W.reads_keeps kp h5) rd
  subst e
  exact ⟨v, H, I.kept kp, h2, q _ G H (Gw.refl sm) (Rp.of h4)⟩
theorem cr_min {k : Nat} (hr : Room k X.A) (hc : X.calm = true) : CallR X (.builtin "min") (rDn minB) := by
  intro pins s σ H xs us Q I r h
  obtain ⟨G, ds, d, sm, ra, e, q⟩ := h
  have hun := hr.un
  unfold minB at e
  split at e
  · cases e
    obtain ⟨v, w, rfl, h1, h2⟩ := rpAll2 ra
    cases rp_int h1; cases rp_int h2
    exact call_min2 hc pins s σ H _ us Q I r ⟨_, _, rfl, q _ G H (Gw.refl sm) (Rp.of (.int _))⟩
  · obtain ⟨v, rfl, h⟩ := rpAll1 ra
    obtain ⟨ys, e1, e2⟩ := bind_ok e
    obtain ⟨x, t, rfl, al, hd, rfl⟩ := most_ok e2
    rcases seqD_ok e1 with rfl | rfl
    · obtain ⟨p, vs, rfl, h1, r1⟩ := rp_list h
      obtain ⟨u, rfl, ru⟩ := vals1 r
      cases ru
      obtain ⟨its, rv, pl, hz⟩ := I.list (SqL.of (sm _ _ h1) : SqL X.K H p vs)
      obtain ⟨as, rd⟩ := Dp.readsAll I _ vs its (DqAll.dp (dpAll_same sm r1)) rv
      refine W.min_list_data (A := X.A) (I.ok.hd hc) pl.isList (by simpa using rd) al (by omega) fun i u h' tk bs hi hrd kp => ?_
      exact chosen I sm r1 rv hi hrd kp q
    · obtain ⟨p, vs, rfl, h1, r1⟩ := rp_tuple h
      obtain ⟨u, rfl, ru⟩ := vals1 r
      cases ru
      obtain ⟨its, rv, pl, hz⟩ := I.tuple (SqT.of (sm _ _ h1) : SqT X.K H p vs)
      obtain ⟨as, rd⟩ := Dp.readsAll I _ vs its (DqAll.dp (dpAll_same sm r1)) rv
      refine W.min_tuple_data (A := X.A) (I.ok.hd hc) pl (by simpa using rd) al (by omega) fun i u h' tk bs hi hrd kp => ?_
      exact chosen I sm r1 rv hi hrd kp q
  · cases e
theorem cr_max {k : Nat} (hr : Room k X.A) (hc : X.calm = true) : CallR X (.builtin "max") (rDn maxB) := by
  intro pins s σ H xs us Q I r h
  obtain ⟨G, ds, d, sm, ra, e, q⟩ := h
  have hun := hr.un
  unfold maxB at e
  split at e
  · cases e
    obtain ⟨v, w, rfl, h1, h2⟩ := rpAll2 ra
    cases rp_int h1; cases rp_int h2
    exact call_max2 hc pins s σ H _ us Q I r ⟨_, _, rfl, q _ G H (Gw.refl sm) (Rp.of (.int _))⟩
  · obtain ⟨v, rfl, h⟩ := rpAll1 ra
    obtain ⟨ys, e1, e2⟩ := bind_ok e
    obtain ⟨x, t, rfl, al, hd, rfl⟩ := most_ok e2
    rcases seqD_ok e1 with rfl | rfl
    · obtain ⟨p, vs, rfl, h1, r1⟩ := rp_list h
      obtain ⟨u, rfl, ru⟩ := vals1 r
      cases ru
      obtain ⟨its, rv, pl, hz⟩ := I.list (SqL.of (sm _ _ h1) : SqL X.K H p vs)
      obtain ⟨as, rd⟩ := Dp.readsAll I _ vs its (DqAll.dp (dpAll_same sm r1)) rv
      refine W.max_list_data (A := X.A) (I.ok.hd hc) pl.isList (by simpa using rd) al (by omega) fun i u h' tk bs hi hrd kp => ?_
      exact chosen I sm r1 rv hi hrd kp q
    · obtain ⟨p, vs, rfl, h1, r1⟩ := rp_tuple h
      obtain ⟨u, rfl, ru⟩ := vals1 r
      cases ru
      obtain ⟨its, rv, pl, hz⟩ := I.tuple (SqT.of (sm _ _ h1) : SqT X.K H p vs)
      obtain ⟨as, rd⟩ := Dp.readsAll I _ vs its (DqAll.dp (dpAll_same sm r1)) rv
      refine W.max_tuple_data (A := X.A) (I.ok.hd hc) pl (by simpa using rd) al (by omega) fun i u h' tk bs hi hrd kp => ?_
      exact chosen I sm r1 rv hi hrd kp q
  · cases e
end
end TC
set_option Elab.async false
set_option linter.all false
set_option maxRecDepth 100000
set_option autoImplicit false
namespace TC
open PySem PySem.Spec PyProof.Rows L2
section
variable {P : Program} {w : World} {A : Around} {E : Value → Shared → Prop} {s : Shared}
set_option maxHeartbeats 3200000 in
theorem call_set_lstI {l : Addr} {its : Array Value} (ms : List Int) {Q : Value → Shared → Prop} (zh : A.handled = none) (hl : s.heap.IsList l its) (zit : IntsAre its.toList ms) (zb : ms.length + 1 < scanBound)
    (h : ∀ (h' : Heap) (tt c : Nat), SetR w h' s.heap.objs.size (fun j => decide (j ∈ ms)) c → c ≤ ms.length → (∀ b o, s.heap.get? b = some o → h'.get? b = some o) → Q (.ref s.heap.objs.size) { s with heap := h', toks := tt }) :
    wpAny (model P w) A (call (.type "set") [.ref l]) Q E s := by
  have zsz : its.size = ms.length := by
    have q := IntsAre.length zit
    rw [Array.length_toList] at q
    exact q
  obtain ⟨c, tl, zmro⟩ := F.called_set.mro
  have zmade := F.called_set.made
  have zsub := F.called_set.sub
  refine wpAny_call (codeAny_of_tree ?_)
  show wpAny _ _ (callAny (.type "set") _) _ _ _
  refine wpAny_pure ⟨Code.quiet_builtin _ (by decide +kernel), codeAny_builtin F.entry_type_call ?_⟩
  rw [Around.under_plain (weight_type_call_type "set" [.ref l] []) rfl]
  have w1 := F.called_set.notType
  have w2 := F.called_set.canCreate
  have zct := F.typeCall_set_1 (.ref l)
  repeat (any_goals (first | assumption | wp_step))

  refine codeAny_mono (code_set_led1 (.ref l) (E := E) (Q₁ := fun obj s₁ => obj = .ref s.heap.objs.size ∧ s₁ = { s with heap := s.heap.push { cls := .type "set", dict := none, data := .set #[] 0 (.fresh 0 0 (!w.params.followText "set-order")) } }) ⟨rfl, rfl⟩) fun r s₁ zr => ?_
  cases r with
  | error e => exact zr
  | ok fl =>
    cases fl with
    | ret obj =>
      obtain ⟨rfl, rfl⟩ := zr
      have zS : (s.heap.push { cls := .type "set", dict := none, data := .set #[] 0 (.fresh 0 0 (!w.params.followText "set-order")) }).get? s.heap.objs.size = some { cls := .type "set", dict := none, data := .set #[] 0 (.fresh 0 0 (!w.params.followText "set-order")) } := Heap.get?_push_size _ rfl
      have zT : Shared.TypeIs { s with heap := s.heap.push { cls := .type "set", dict := none, data := .set #[] 0 (.fresh 0 0 (!w.params.followText "set-order")) } } (.ref s.heap.objs.size) "set" := ⟨_, zS, rfl⟩
      have zli := F.called_set.init.lookup
      have zbi := F.called_set.init.bind (.ref s.heap.objs.size)
      repeat (any_goals (first | assumption | wp_step))

      refine codeAny_mono (codeAny_call_builtin (R := wants (fun r s₂ => r = .none ∧ ∃ h' tt c, s₂ = { s with heap := h', toks := tt } ∧ SetR w h' s.heap.objs.size (fun j => decide (j ∈ ms)) c ∧ c ≤ ms.length ∧
          (∀ b o, s.heap.get? b = some o → h'.get? b = some o)) E) F.called_set.init.plain F.entry_set_init (check_set_init_1 zT ?_)) fun r₂ s₂ zr₂ => ?_
      · obtain ⟨ol, zol, zcl, nl, zdl⟩ := hl
        obtain ⟨kcls, kdict, kdata, kslots⟩ := ol
        simp only at zcl zdl
        subst zcl; subst zdl
        have zol' : (s.heap.push { cls := .type "set", dict := none, data := .set #[] 0 (.fresh 0 0 (!w.params.followText "set-order")) }).get? l = some { cls := .type "list", dict := kdict, data := .seq its nl, slots := kslots } := Heap.get?_push_of_some _ zol
        have zsls := F.sub_list_set
        have zslf := F.sub_list_frozenset
        have zne : (Value.type "list" == Value.type "dict") = false := by decide
        have zl1 : (s.heap.push { cls := .type "set", dict := none, data := .set #[] 0 (.fresh 0 0 (!w.params.followText "set-order")) }).IsList l its := ⟨_, zol', rfl, nl, rfl⟩
        unfold Builtin.«set.__init__» noKeywords Builtin.Frozenset.updateFrom
        generalize zPI : pyIter = YI
        wp_walk
        subst zPI

        refine wpAny_pyIter_list zl1 ?_
        refine wpAny_bind (wpAny_runValue ?_)
        have zlS : l < s.heap.objs.size := Heap.lt_size zol
        have zh3 : A.in1.in1.in1.handled = none := by simp [zh]
        have zz1 : (s.heap.push { cls := .type "set", dict := none, data := .set #[] 0 (.fresh 0 0 (!w.params.followText "set-order")) }).objs.size = s.heap.objs.size + 1 := Heap.size_push ..
        have zneI : l ≠ (s.heap.push { cls := .type "set", dict := none, data := .set #[] 0 (.fresh 0 0 (!w.params.followText "set-order")) }).objs.size := by
          rw [Heap.size_push]; exact Nat.ne_of_lt (Nat.lt_succ_of_lt zlS)
        have zSf : s.heap.objs.size ∉ [(s.heap.push { cls := .type "set", dict := none, data := .set #[] 0 (.fresh 0 0 (!w.params.followText "set-order")) }).objs.size, l] := by
          rw [Heap.size_push]; simp only [List.mem_cons, List.mem_singleton, List.not_mem_nil, or_false, not_or]
          exact ⟨Nat.ne_of_lt (Nat.lt_succ_self _), Nat.ne_of_gt zlS⟩
        have zval : ∀ (i : Nat) (v : Value), its[i]? = some v → ∃ k t, ms[i]? = some k ∧ v = .int k t := fun i v zv => by
          have zi : i < ms.length := by rw [← zsz]; exact (Array.getElem?_eq_some_iff.mp zv).1
          obtain ⟨t, e⟩ := PyProof.Rows.IntsAre.int_at zit i v (by rw [Array.getElem?_toList]; exact zv)
          refine ⟨ms[i], t, List.getElem?_eq_getElem zi, ?_⟩
          rw [e, List.getD_eq_getElem?_getD, List.getElem?_eq_getElem zi] <;> rfl
        refine set_update_ints ((Walks.list zh3 _ l zneI its).toS) s.heap.objs.size
          zSf ms zsz zb zval (its.size - 0) 0 _ (by omega) (Nat.zero_le _)
          ⟨⟨_, Heap.get?_push_size _ rfl, rfl, rfl⟩, (zl1.push _)⟩ ?hS0 ?hR
        case hS0 =>
          have zget : ((s.heap.push { cls := .type "set", dict := none, data := .set #[] 0 (.fresh 0 0 (!w.params.followText "set-order")) }).push { cls := .type "list_iterator", data := .fields #[.ref l, .int 0 0] }).get? s.heap.objs.size
              = some { cls := .type "set", dict := none, data := .set #[] 0 (.fresh 0 0 (!w.params.followText "set-order")) } := Heap.get?_push_of_some _ zS
          exact ⟨0, Nat.le_refl 0, setR_new_at zget⟩
        case hR =>
          intro s' c' zm zc' zS'
          obtain ⟨h', g2, d', tk', os'⟩ := s'
          have eg : g2 = s.gens := zm.gens
          have ed : d' = s.drawn := zm.drawn
          have eo : os' = s.os := zm.os
          subst eg; subst ed; subst eo
          show wpAny _ _ _ _ _ _
          refine wpAny_pure ?_
          show wpAny _ _ (ret Value.none) _ _ _
          rw [zsz] at zc'
          refine wpAny_pure ⟨rfl, h', tk', c', rfl, zS', zc', fun b o e => ?_⟩
          have zb0 : b < s.heap.objs.size := Heap.lt_size e
          have zb1 : b ≠ s.heap.objs.size := Nat.ne_of_lt zb0
          have zb2 : b ≠ (s.heap.push { cls := .type "set", dict := none, data := .set #[] 0 (.fresh 0 0 (!w.params.followText "set-order")) }).objs.size := by
            rw [Heap.size_push]; exact Nat.ne_of_lt (Nat.lt_succ_of_lt zb0)
          exact zm.heap b o (by simp only [List.mem_cons, List.mem_singleton, List.not_mem_nil, or_false, not_or]; exact ⟨zb1, zb2⟩) (Heap.get?_push_of_some _ (Heap.get?_push_of_some _ e))

      · cases r₂ with
        | error e => exact zr₂
        | ok fl₂ =>
          cases fl₂ with
          | ret r =>
            obtain ⟨rfl, h', tt, c', rfl, zS', zc', zk'⟩ := zr₂
            repeat (any_goals (first | assumption | wp_step))
            exact h _ _ _ zS' zc' zk'
          | _ => exact zr₂.elim
    | _ => exact zr.elim
end
end TC
set_option Elab.async false
set_option linter.all false
set_option maxRecDepth 100000
set_option autoImplicit false
namespace TC
open PySem PySem.Spec PyProof.Rows L2
section
variable {X : Cx}
/-! ### sorted -/
theorem each_zip {G : Hp} : ∀ {vs : List V} {ds : List D} {its : List Value}, DqAll G vs ds → Vals vs its → W.EachIs (fun u (b : V × D) => RelV b.1 u ∧ Dq G b.1 b.2) its (vs.zip ds)
  | _, _, _, .nil, .nil => .nil
  | _, _, _, .cons h r, .cons q t => .cons ⟨q, h⟩ (each_zip r t)
theorem zip_snd {G : Hp} : ∀ {vs : List V} {ds : List D}, DqAll G vs ds → (vs.zip ds).map Prod.snd = ds
  | _, _, .nil => rfl
  | _, _, .cons h r => by rw [List.zip_cons_cons, List.map_cons, zip_snd r]
theorem each_out {G : Hp} : ∀ {out : List Value} {bs : List (V × D)}, W.EachIs (fun u (b : V × D) => RelV b.1 u ∧ Dq G b.1 b.2) out bs → Vals (bs.map Prod.fst) out ∧ DqAll G (bs.map Prod.fst) (bs.map Prod.snd)
  | _, _, .nil => ⟨.nil, .nil⟩
  | _, _, .cons h t => ⟨.cons h.1 (each_out t).1, .cons h.2 (each_out t).2⟩
/-- a list of data, sorted -/
theorem sorted_list {k : Nat} (hr : Room k X.A) {pins : List (Addr × Obj)} {s : Shared} {σ : L2.St} {G H : Hp} {Q : VK} {p : Addr} {vs : List V} {ds ds' : List D} (I : Inv X pins σ H s) (sm : Same G H) (h1 : G p = some (.lst vs)) (r1 : DqAll G vs ds)
    (hal : W.AllAlike ds) (hk : W.Sortable ds) (hd : ∀ d ∈ ds, d.depth ≤ 100) (he : ((vs.zip ds).mergeSort (W.dataLe false Prod.snd)).map Prod.snd = ds')
    (q : ∀ v G' H', Gw G H G' H' → Rp G' v (.list ds') → Q v H') : wpAny (model X.prog X.w) X.A (call (.builtin "sorted") [.ref p]) (EP X pins σ Q) X.xe s := by
  obtain ⟨its, rv, pl, hz⟩ := I.list (SqL.of (sm _ _ h1) : SqL X.K H p vs)
  have hun := hr.un
  have ez := zip_snd r1
  have e1 := each_zip r1 rv
  have hlen : (vs.zip ds).length = vs.length := by rw [List.length_zip, dpAll_len r1, Nat.min_self]
  refine W.sorted_data (R := fun u (b : V × D) => RelV b.1 u ∧ Dq G b.1 b.2) (enc := Prod.snd) (bs := vs.zip ds) pl.isList e1 (e1.mono fun u b h => Dp.reads I b.2 b.1 u (Dq.dp (dp_same sm h.2)) h.1)
    (by rw [ez]; exact hal) (by rw [ez]; exact hk) (by rw [hlen]; exact hz) (fun b hb => ?_) fun out hl each => ?_
  · have : b.2 ∈ ds := by rw [← ez]; exact List.mem_map_of_mem hb
    have := hd _ this
    omega
  · obtain ⟨o1, o2⟩ := each_out each
    obtain ⟨ep, he'⟩ := PyProof.Rows.sortedAll_at s.heap its out.toArray
    have hf : H (s.heap.objs.size + 1) = none := I.hok.fresh (Nat.le_succ _)
    have hsz : (((vs.zip ds).mergeSort (W.dataLe false Prod.snd)).map Prod.fst).length ≤ sizeLine := by
      rw [List.length_map, List.length_mergeSort, hlen]
      exact hz
    refine ⟨.ref _, upd H (s.heap.objs.size + 1) (.lst (((vs.zip ds).mergeSort (W.dataLe false Prod.snd)).map Prod.fst)), I.laid (t' := s.toks) (fun _ _ => PyProof.Rows.sortedAll_old) (Nat.le_succ _) ⟨hsz, out, ep, o1, he'⟩, rfl, ?_⟩
    rw [he] at o2
    exact q _ _ _ (Gw.new sm hf) (mkL (free_of sm hf) o2)
theorem dataLe_snd (a b : V × D) : W.dataLe false Prod.snd a b = !W.dataLt b.2 a.2 := rfl
theorem lt_ints (x y : Int) : W.dataLt (.int x) (.int y) = decide (x < y) := by
  obtain ⟨_, _, _, _, _, _, h⟩ := ltD_ok (a := .int x) (b := .int y) rfl
  exact h.symm
theorem lt_rows (x y : List Int) : W.dataLt (rowD x) (rowD y) = decide (x < y) := W.dataLt_ints x y
def unI : D → Int
  | .int i => i
  | _ => 0
def unR : D → List Int
  | .tuple xs => (toInts xs).getD []
  | _ => []
theorem unR_row (l : List Int) : unR (rowD l) = l := by
  show (toInts (l.map .int)).getD [] = l
  rw [toInts_map]
  rfl
theorem toRows_some : ∀ {xs : List D} {ls : List (List Int)}, toRows xs = some ls → xs = ls.map rowD
  | [], ls, h => by cases h; rfl
  | .tuple ys :: r, ls, h => by
    unfold toRows at h
    cases e : toInts ys with
    | none => rw [e] at h; cases h
    | some a =>
      rw [e] at h
      cases e2 : toRows r with
      | none => rw [e2] at h; cases h
      | some l2 =>
        rw [e2] at h
        cases h
        rw [toRows_some e2, toInts_some e]
        rfl
  | .none :: r, q, h => by cases h
  | .bool _ :: r, q, h => by cases h
  | .int _ :: r, q, h => by cases h
  | .str _ :: r, q, h => by cases h
  | .list _ :: r, q, h => by cases h
  | .dict _ :: r, q, h => by cases h
theorem sort_ints {bs : List (V × D)} {ns : List Int} (h : bs.map Prod.snd = ns.map .int) : (bs.mergeSort (W.dataLe false Prod.snd)).map Prod.snd = (isort leI ns).map .int := by
  have hp := List.mergeSort_perm bs (W.dataLe false Prod.snd)
  have hs := W.sort_pairwise (W.sortLe_total (listOrd itemOrd) false fun b : V × D => W.keyToks b.2) bs
  have hm : ∀ b ∈ bs.mergeSort (W.dataLe false Prod.snd), ∃ i, b.2 = .int i := fun b hb => by
    have : b.2 ∈ bs.map Prod.snd := List.mem_map_of_mem (hp.subset hb)
    rw [h] at this
    obtain ⟨i, _, e⟩ := List.mem_map.mp this
    exact ⟨i, e.symm⟩
  have e1 : (bs.mergeSort (W.dataLe false Prod.snd)).map Prod.snd = ((bs.mergeSort (W.dataLe false Prod.snd)).map fun b => unI b.2).map .int := by
    rw [List.map_map]
    refine List.map_congr_left fun b hb => ?_
    obtain ⟨i, e⟩ := hm b hb
    simp [e, unI]
  rw [e1]
  congr 1
  refine isortI_one ?_ ?_
  · have p2 := hp.map fun b => unI b.2
    have e2 : (bs.map fun b => unI b.2) = ns := by
      have : (bs.map fun b => unI b.2) = (bs.map Prod.snd).map unI := by rw [List.map_map]; rfl
      rw [this, h, List.map_map]
      exact (List.map_congr_left fun _ _ => rfl).trans (List.map_id ns)
    rw [e2] at p2
    exact p2
  · rw [List.pairwise_map]
    refine hs.imp_of_mem fun {a b} ha hb hab => ?_
    obtain ⟨i, ei⟩ := hm a ha
    obtain ⟨j, ej⟩ := hm b hb
    have hab' : W.dataLe false Prod.snd a b = true := hab
    rw [dataLe_snd, ei, ej, lt_ints] at hab'
    rw [ei, ej]
    unfold leI unI
    simp only [Bool.not_eq_true', decide_eq_false_iff_not, decide_eq_true_eq] at hab' ⊢
    omega
theorem sort_rows {bs : List (V × D)} {ls : List (List Int)} (h : bs.map Prod.snd = ls.map rowD) : (bs.mergeSort (W.dataLe false Prod.snd)).map Prod.snd = (isort leL ls).map rowD := by
  have hp := List.mergeSort_perm bs (W.dataLe false Prod.snd)
  have hs := W.sort_pairwise (W.sortLe_total (listOrd itemOrd) false fun b : V × D => W.keyToks b.2) bs
  have hm : ∀ b ∈ bs.mergeSort (W.dataLe false Prod.snd), ∃ i, b.2 = rowD i := fun b hb => by
    have : b.2 ∈ bs.map Prod.snd := List.mem_map_of_mem (hp.subset hb)
    rw [h] at this
    obtain ⟨i, _, e⟩ := List.mem_map.mp this
    exact ⟨i, e.symm⟩
  have e1 : (bs.mergeSort (W.dataLe false Prod.snd)).map Prod.snd = ((bs.mergeSort (W.dataLe false Prod.snd)).map fun b => unR b.2).map rowD := by
    rw [List.map_map]
    refine List.map_congr_left fun b hb => ?_
    obtain ⟨i, e⟩ := hm b hb
    simp [e, unR_row]
  rw [e1]
  congr 1
  refine isortL_one ?_ ?_
  · have p2 := hp.map fun b => unR b.2
    have e2 : (bs.map fun b => unR b.2) = ls := by
      have : (bs.map fun b => unR b.2) = (bs.map Prod.snd).map unR := by rw [List.map_map]; rfl
      rw [this, h, List.map_map]
      exact (List.map_congr_left fun l _ => unR_row l).trans (List.map_id ls)
    rw [e2] at p2
    exact p2
  · rw [List.pairwise_map]
    refine hs.imp_of_mem fun {a b} ha hb hab => ?_
    obtain ⟨i, ei⟩ := hm a ha
    obtain ⟨j, ej⟩ := hm b hb
    have hab' : W.dataLe false Prod.snd a b = true := hab
    rw [dataLe_snd, ei, ej, lt_rows] at hab'
    rw [ei, ej, unR_row, unR_row]
    exact hab'
theorem cr_sortedD {k : Nat} (hr : Room k X.A) : CallR X (.builtin "sorted") (rDn sortB) := by
  intro pins s σ H xs us Q I r h
  obtain ⟨G, ds, d, sm, ra, e, q⟩ := h
  unfold sortB at e
  split at e
  · rename_i ys
    obtain ⟨v, rfl, h⟩ := rpAll1 ra
    obtain ⟨p, vs, rfl, h1, r1⟩ := rp_list h
    obtain ⟨u, rfl, ru⟩ := vals1 r
    cases ru
    unfold sortD at e
    split at e
    · rename_i ns hns
      cases e
      have := toInts_some hns
      subst this
      refine sorted_list hr I sm h1 r1 ?_ ?_ ?_ (sort_ints (zip_snd r1)) q
      · exact W.AllAlike.of (enc := PyData.int) fun _ _ => rfl
      · exact W.Sortable.others fun _ => ⟨(by intro z; cases z), fun _ => (by intro z; cases z)⟩
      · intro d hd
        obtain ⟨i, _, rfl⟩ := List.mem_map.mp hd
        exact Nat.zero_le _
    · split at e
      · rename_i ls hls
        obtain ⟨hg, e⟩ := guard_ok e
        cases e
        have := toRows_some hls
        subst this
        refine sorted_list hr I sm h1 r1 ?_ ?_ ?_ (sort_rows (zip_snd r1)) q
        · exact W.AllAlike.of (enc := rowD) fun a b => W.alike_ints a b
        · refine .inl fun d hd => ?_
          obtain ⟨l, hl, rfl⟩ := List.mem_map.mp hd
          have := List.all_eq_true.mp hg l hl
          cases l with
          | nil => cases this
          | cons i l => exact ⟨.int i, l.map .int, rfl⟩
        · intro d hd
          obtain ⟨l, _, rfl⟩ := List.mem_map.mp hd
          show PyData.depthAll (l.map .int) + 1 ≤ 100
          rw [W.depth_ints]
          omega
      · cases e
  · cases e

/-! ### sets of ints -/
theorem rel_ints {vs : List V} {its : List Value} {ns : List Int} (e : vs = ns.map V.int) (r : Vals vs its) : IntsAre its ns := by
  subst e
  exact r.ints
theorem set_count {w : World} {h : Heap} {a : Addr} {ns : List Int} {c : Nat} (R : SetR w h a (fun j => decide (j ∈ ns)) c) : c = (ddup ns).length := by
  obtain ⟨o, es, ep, t, _, _, _, _, nd, hS, _, _, hc, _⟩ := R
  have p : (es.toList.map L2.keyOf).Perm (ddup ns) := (List.perm_ext_iff_of_nodup nd (ddup_nodup ns)).mpr fun k => by
    rw [mem_ddup, ← hS k]
    simp
  rw [← p.length_eq, List.length_map, ← hc]
  simp
/-- set(xs), a list or a tuple of ints -/
theorem call_setI {pins : List (Addr × Obj)} {s : Shared} {σ : L2.St} {G H : Hp} {Q : VK} {v : V} {u : Value} {a : D} {ys : List D} {ns : List Int} (hc : X.calm = true) (I : Inv X pins σ H s) (sm : Same G H) (ra : Rp G v a) (hs : seqD a = .ok ys) (hi : toInts ys = some ns)
    (hl : ns.length ≤ 1000) (ru : RelV v u) (q : ∀ p c, H p = none → c = (ddup ns).length → Q (.ref p) (upd H p (SetO X.w p (fun j => decide (j ∈ ns)) c))) : wpAny (model X.prog X.w) X.A (call (.type "set") [u]) (EP X pins σ Q) X.xe s := by
  have hys := toInts_some hi
  subst hys
  have hb : ns.length + 1 < scanBound := by
    have : scanBound = 4096 := rfl
    omega
  have fin : ∀ (h' : Heap) (tk c : Nat), SetR X.w h' s.heap.objs.size (fun j => decide (j ∈ ns)) c → c ≤ ns.length → (∀ b o, s.heap.get? b = some o → h'.get? b = some o) → EP X pins σ Q (.ref s.heap.objs.size) { s with heap := h', toks := tk } := fun h' tk c R _ kp =>
    ⟨.ref _, _, I.laid kp (Nat.le_refl _) (setO_new R), rfl, q _ c I.fresh (set_count R)⟩
  rcases seqD_ok hs with rfl | rfl
  · obtain ⟨p, vs, rfl, h1, r1⟩ := rp_list ra
    cases ru
    obtain ⟨its, rv, pl, hz⟩ := I.list (SqL.of (sm _ _ h1) : SqL X.K H p vs)
    exact call_set_lstI ns (I.ok.hd hc) pl.isList (rel_ints (ints_vs r1) rv) hb fin
  · obtain ⟨p, vs, rfl, h1, r1⟩ := rp_tuple ra
    cases ru
    obtain ⟨its, rv, pl, hz⟩ := I.tuple (SqT.of (sm _ _ h1) : SqT X.K H p vs)
    exact call_set_tupI ns (I.ok.hd hc) pl (rel_ints (ints_vs r1) rv) hb fin
def rSetA : List V → Hp → VK → Prop := fun xs H Q => ∃ G a ys ns, Same G H ∧ (∃ v, xs = [v] ∧ Rp G v a) ∧ seqD a = .ok ys ∧ toInts ys = some ns ∧ ns.length ≤ 1000 ∧
  ∀ p c, H p = none → c = (ddup ns).length → Q (.ref p) (upd H p (SetO X.w p (fun j => decide (j ∈ ns)) c))
theorem cr_set (hc : X.calm = true) : CallR X (.type "set") (rSetA (X := X)) := by
  intro pins s σ H xs us Q I r h
  obtain ⟨G, a, ys, ns, sm, ⟨v, rfl, ra⟩, hs, hi, hl, q⟩ := h
  obtain ⟨u, rfl, ru⟩ := vals1 r
  exact call_setI hc I sm ra hs hi hl ru q
theorem cr_lenSet : CallR X (.builtin "len") (fun xs H Q => ∃ p S c, xs = [.ref p] ∧ H p = some (SetO X.w p S c) ∧ Q (.int c) H) := by
  intro pins s σ H xs us Q I r h
  obtain ⟨p, S, c, rfl, hp, q⟩ := h
  obtain ⟨u, rfl, ru⟩ := vals1 r
  cases ru
  obtain ⟨o, es, ep, t, ho, hex, hd, _, _, _, hb, hf, hc, _⟩ := setO_get I hp
  refine call_len_set ho hex hd hf ?_ ⟨.int _, H, I.tok _, ⟨_, rfl⟩, by rw [hc]; exact q⟩
  have : scanBound = 4096 := rfl
  omega

/-! ### methods -/
theorem first_idx (x : D) : ∀ (ds : List D) (j : Nat), firstAt x ds = some j → (ds.map fun y => PyData.eqv y x).idxOf true = j ∧ true ∈ (ds.map fun y => PyData.eqv y x)
  | [], j, h => by cases h
  | y :: r, j, h => by
    unfold firstAt at h
    cases e : PyData.eqv y x with
    | true =>
      rw [e, if_pos rfl] at h
      cases h
      simp [e]
    | false =>
      rw [e, if_neg (by decide)] at h
      cases e2 : firstAt x r with
      | none => rw [e2] at h; cases h
      | some i =>
        rw [e2] at h
        cases h
        obtain ⟨h1, h2⟩ := first_idx x r i e2
        constructor
        · rw [List.map_cons, e, List.idxOf_cons, h1]
          rfl
        · rw [List.map_cons]
          exact List.mem_cons_of_mem _ h2
theorem items_each {A : Around} {s : Shared} {u : Value} {x : D} {bs : List Addr} (h2 : Reads s.heap u x bs) (p2 : x.plain = true) (hu : A.units + 100 < cLine) : ∀ (its : List Value) (ds : List D) (as : List Addr), ReadsAll s.heap its ds as → PyData.plainAll ds = true → min (PyData.depthAll ds) x.depth ≤ 100 →
    its.length = ds.length ∧ ∀ j (h1 : j < its.length) (h2 : j < ds.length), SeqAt.EqAt A s its[j] u (PyData.eqv ds[j] x)
  | [], ds, as, hr, _, _ => by
    cases hr
    exact ⟨rfl, fun j h => absurd h (by simp)⟩
  | v :: its, ds, as, hr, hp, hd => by
    cases hr with
    | cons ha ht =>
      simp only [PyData.plainAll, Bool.and_eq_true] at hp
      simp only [PyData.depthAll] at hd
      obtain ⟨i1, i2⟩ := items_each h2 p2 hu its _ _ ht hp.2 (by omega)
      refine ⟨by simp [i1], fun j h1 h3 => ?_⟩
      cases j with
      | zero =>
        simp only [List.getElem_cons_zero]
        exact SeqAt.eqAt_plain _ _ _ _ _ _ _ _ ha h2 hp.1 p2 (by omega)
      | succ j => exact i2 j (by simpa using h1) (by simpa using h3)
theorem items_eq {A : Around} (hu : A.units + 101 < cLine) {s : Shared} {its : List Value} {ds : List D} {as bs : List Addr} {u : Value} {x : D} (h1 : ReadsAll s.heap its ds as) (h2 : Reads s.heap u x bs) (p1 : PyData.plainAll ds = true) (p2 : x.plain = true)
    (hd : min (PyData.depthAll ds) x.depth ≤ 100) : SeqAt.ItemsEq A.in1 s its (ds.map fun y => PyData.eqv y x) u true := by
  obtain ⟨i1, i2⟩ := items_each (A := A.in1) h2 p2 (by show A.units + 1 + 100 < cLine; omega) its ds as h1 p1 hd
  refine ⟨by rw [List.length_map]; exact i1, fun j h3 h4 => ?_⟩
  have := i2 j h3 (by simpa using h4)
  simpa using this
theorem idxOk_ok {x : D} {xs : List D} (h : idxOk x xs = true) : isDict x = false ∧ min (PyData.depthAll xs) x.depth ≤ 100 := by
  unfold idxOk at h
  simp only [Bool.and_eq_true, Bool.not_eq_true', decide_eq_true_eq] at h
  exact h
theorem mt_listIndex {k : Nat} (hr : Room k X.A) : MtR X "list.index" (fun x xs H Q => (∃ p vs, x = .ref p ∧ H p = some (.lst vs)) ∧ rDm indexM x xs H Q) := by
  intro pins s σ H x xs v us Q I rx rxs h
  obtain ⟨⟨p0, vs0, rfl, hp0⟩, G, a, ds, d, sm, ra, rb, e, q⟩ := h
  have hun := hr.un
  unfold indexM at e
  split at e
  · obtain ⟨y, rfl, hy⟩ := rpAll1 rb
    obtain ⟨u, rfl, ru⟩ := vals1 rxs
    split at e
    · obtain ⟨hg, e⟩ := guard_ok e
      obtain ⟨j, e1, e2⟩ := bind_ok e
      cases e2
      obtain ⟨n1, n2⟩ := idxOk_ok hg
      obtain ⟨p, vs, ep, h1, r1⟩ := rp_list ra
      cases ep
      cases rx
      obtain ⟨its, rv, pl, hz⟩ := I.list (SqL.of (sm _ _ h1) : SqL X.K H p0 vs)
      obtain ⟨as, rd⟩ := Dp.readsAll I _ vs its (DqAll.dp (dpAll_same sm r1)) rv
      obtain ⟨bs, re⟩ := reads_of I sm hy n1 ru
      obtain ⟨f1, f2⟩ := first_idx _ _ _ (ofOpt_ok e1)
      refine SeqAt.call_list_index pl.isList (items_eq (by omega) rd re (plain_dpAll r1) (plain_of hy n1) n2) (by rw [List.length_map, ← dpAll_len r1]; exact hz) f2 ?_
      rw [f1]
      exact ⟨.int _, H, I.tok _, ⟨_, rfl⟩, q _ G H (Gw.refl sm) (Rp.of (.int _))⟩
    · cases e
  · cases e
theorem mt_countD : MtR X "list.count" (rDm countM) := by
  intro pins s σ H x xs v us Q I rx rxs h
  obtain ⟨G, a, ds, d, sm, ra, rb, e, q⟩ := h
  unfold countM at e
  split at e
  · obtain ⟨y, rfl, hy⟩ := rpAll1 rb
    cases rp_int hy
    split at e
    · obtain ⟨ns, e1, e2⟩ := bind_ok e
      cases e2
      have := toInts_some (ofOpt_ok e1)
      subst this
      obtain ⟨p, vs, rfl, h1, r1⟩ := rp_list ra
      have := ints_vs r1
      subst this
      exact mt_lcount pins s σ H _ _ v us Q I rx rxs ⟨p, ns, _, rfl, rfl, SqL.of (sm _ _ h1), q _ G H (Gw.refl sm) (Rp.of (.int _))⟩
    · cases e
  · cases e
theorem toStrs_some : ∀ {xs : List D} {q : List Str}, toStrs xs = some q → xs = q.map .str
  | [], q, h => by cases h; rfl
  | .str i :: r, q, h => by
    unfold toStrs at h
    cases e : toStrs r with
    | none => rw [e] at h; cases h
    | some q' =>
      rw [e] at h
      cases h
      rw [toStrs_some e]
      rfl
  | .none :: r, q, h => by cases h
  | .bool _ :: r, q, h => by cases h
  | .int _ :: r, q, h => by cases h
  | .list _ :: r, q, h => by cases h
  | .tuple _ :: r, q, h => by cases h
  | .dict _ :: r, q, h => by cases h
theorem strs_vs {G : Hp} : ∀ {vs : List V} {q : List Str}, DqAll G vs (q.map .str) → vs = q.map V.str
  | _, [], .nil => rfl
  | _, i :: q, .cons h r => by
    cases h
    rw [strs_vs r]
    rfl
theorem mt_joinD : MtR X "str.join" (rDm joinM) := by
  intro pins s σ H x xs v us Q I rx rxs h
  obtain ⟨G, a, ds, d, sm, ra, rb, e, q⟩ := h
  unfold joinM at e
  split at e
  · obtain ⟨y, rfl, hy⟩ := rpAll1 rb
    split at e
    · obtain ⟨ss, e1, e2⟩ := bind_ok e
      obtain ⟨hg, e2⟩ := guard_ok e2
      cases e2
      have := toStrs_some (ofOpt_ok e1)
      subst this
      obtain ⟨p, vs, rfl, h1, r1⟩ := rp_list hy
      have := strs_vs r1
      subst this
      cases rp_str ra
      refine mt_join pins s σ H _ _ v us Q I rx rxs ⟨_, p, ss, rfl, rfl, .inl (SqL.of (sm _ _ h1)), of_decide_eq_true hg, ?_⟩
      rw [TL.join_eq]
      exact q _ G H (Gw.refl sm) (Rp.of (.str _))
    · cases e
  · cases e

/-! ### isinstance, with a built-in class -/
def tyN : D → String
  | .none => "NoneType"
  | .bool _ => "bool"
  | .int _ => "int"
  | .str _ => "str"
  | .list _ => "list"
  | .tuple _ => "tuple"
  | .dict _ => "dict"
theorem ty_of {G H : Hp} {x : V} {a : D} (sm : Same G H) (r : Rp G x a) (n : isDict a = false) : TyX X.K H x (.type (tyN a)) := by
  cases a with
  | none => cases rp_none r; exact .base .non
  | bool c => cases rp_bool r; exact .base (.bl _)
  | int i => cases rp_int r; exact .base (.int _)
  | str z => cases rp_str r; exact .base (.str _)
  | list xs =>
    obtain ⟨p, vs, rfl, h1, h2⟩ := rp_list r
    exact .base (.lst (sm _ _ h1))
  | tuple xs =>
    obtain ⟨p, vs, rfl, h1, h2⟩ := rp_tuple r
    exact .base (.tup (sm _ _ h1))
  | dict kvs => cases n
theorem kt_NoneType_int : kitB "NoneType" "int" = some false := by decide +kernel
theorem kt_NoneType_bool : kitB "NoneType" "bool" = some false := by decide +kernel
theorem kt_NoneType_tuple : kitB "NoneType" "tuple" = some false := by decide +kernel
theorem kt_NoneType_list : kitB "NoneType" "list" = some false := by decide +kernel
theorem kt_NoneType_str : kitB "NoneType" "str" = some false := by decide +kernel
theorem kt_bool_int : kitB "bool" "int" = some true := by decide +kernel
theorem kt_bool_bool : kitB "bool" "bool" = some true := by decide +kernel
theorem kt_bool_tuple : kitB "bool" "tuple" = some false := by decide +kernel
theorem kt_bool_list : kitB "bool" "list" = some false := by decide +kernel
theorem kt_bool_str : kitB "bool" "str" = some false := by decide +kernel
theorem kt_int_int : kitB "int" "int" = some true := by decide +kernel
theorem kt_int_bool : kitB "int" "bool" = some false := by decide +kernel
theorem kt_int_tuple : kitB "int" "tuple" = some false := by decide +kernel
theorem kt_int_list : kitB "int" "list" = some false := by decide +kernel
theorem kt_int_str : kitB "int" "str" = some false := by decide +kernel
theorem kt_str_int : kitB "str" "int" = some false := by decide +kernel
theorem kt_str_bool : kitB "str" "bool" = some false := by decide +kernel
theorem kt_str_tuple : kitB "str" "tuple" = some false := by decide +kernel
theorem kt_str_list : kitB "str" "list" = some false := by decide +kernel
theorem kt_str_str : kitB "str" "str" = some true := by decide +kernel
theorem kt_list_int : kitB "list" "int" = some false := by decide +kernel
theorem kt_list_bool : kitB "list" "bool" = some false := by decide +kernel
theorem kt_list_tuple : kitB "list" "tuple" = some false := by decide +kernel
theorem kt_list_list : kitB "list" "list" = some true := by decide +kernel
theorem kt_list_str : kitB "list" "str" = some false := by decide +kernel
theorem kt_tuple_int : kitB "tuple" "int" = some false := by decide +kernel
theorem kt_tuple_bool : kitB "tuple" "bool" = some false := by decide +kernel
theorem kt_tuple_tuple : kitB "tuple" "tuple" = some true := by decide +kernel
theorem kt_tuple_list : kitB "tuple" "list" = some false := by decide +kernel
theorem kt_tuple_str : kitB "tuple" "str" = some false := by decide +kernel
def isiTy : Str → Option String := fun t =>
  if t = ("int" : Str) then some "int" else if t = ("bool" : Str) then some "bool" else if t = ("tuple" : Str) then some "tuple" else if t = ("list" : Str) then some "list" else if t = ("str" : Str) then some "str" else none
theorem isi_kit {a : D} {t : Str} {b : Bool} (h : isiD a t = .ok b) : isDict a = false ∧ ∃ n, isiTy t = some n ∧ kitB (tyN a) n = some b := by
  unfold isiD at h
  split at h
  · cases h
  · rename_i hd
    have hd' : isDict a = false := by simpa using hd
    refine ⟨hd', ?_⟩
    unfold isiTy
    by_cases h1 : t = ("int" : Str)
    · rw [if_pos h1] at h ⊢
      cases h
      exact ⟨_, rfl, by cases a <;> first | exact kt_NoneType_int | exact kt_bool_int | exact kt_int_int | exact kt_str_int | exact kt_list_int | exact kt_tuple_int | cases hd'⟩
    · rw [if_neg h1] at h ⊢
      by_cases h2 : t = ("bool" : Str)
      · rw [if_pos h2] at h ⊢
        cases h
        exact ⟨_, rfl, by cases a <;> first | exact kt_NoneType_bool | exact kt_bool_bool | exact kt_int_bool | exact kt_str_bool | exact kt_list_bool | exact kt_tuple_bool | cases hd'⟩
      · rw [if_neg h2] at h ⊢
        by_cases h3 : t = ("tuple" : Str)
        · rw [if_pos h3] at h ⊢
          cases h
          exact ⟨_, rfl, by cases a <;> first | exact kt_NoneType_tuple | exact kt_bool_tuple | exact kt_int_tuple | exact kt_str_tuple | exact kt_list_tuple | exact kt_tuple_tuple | cases hd'⟩
        · rw [if_neg h3] at h ⊢
          by_cases h4 : t = ("list" : Str)
          · rw [if_pos h4] at h ⊢
            cases h
            exact ⟨_, rfl, by cases a <;> first | exact kt_NoneType_list | exact kt_bool_list | exact kt_int_list | exact kt_str_list | exact kt_list_list | exact kt_tuple_list | cases hd'⟩
          · rw [if_neg h4] at h ⊢
            by_cases h5 : t = ("str" : Str)
            · rw [if_pos h5] at h ⊢
              cases h
              exact ⟨_, rfl, by cases a <;> first | exact kt_NoneType_str | exact kt_bool_str | exact kt_int_str | exact kt_str_str | exact kt_list_str | exact kt_tuple_str | cases hd'⟩
            · rw [if_neg h5] at h
              cases h
end
end TC
set_option Elab.async false
set_option linter.all false
set_option maxRecDepth 100000
set_option autoImplicit false
/-! DlD: when a term of the small language is one of Python's. -/
namespace TC
open PySem PySem.Spec PyProof.Rows L2

def seq (x y : Str) : Bool := decide (x.cps.toList = y.cps.toList)
theorem seq_eq {x y : Str} (h : seq x y = true) : x = y := by
  have := of_decide_eq_true h
  obtain ⟨⟨a⟩⟩ := x
  obtain ⟨⟨b⟩⟩ := y
  simp only at this
  rw [this]

structure Sx where
  sc : Scope
  fn : Str → Bool
structure Ct where
  N : List Str
  fs : List (Str × Nat)
  gl : List (Str × D)
  xs : List Str

def lk (x : Str) : List (Str × NameKind) → Option NameKind
  | [] => none
  | (y, k) :: r => if seq x y then some k else lk x r
theorem lk_eq (x : Str) : ∀ l : List (Str × NameKind), lk x l = l.lookup x
  | [] => rfl
  | (y, k) :: r => by
    unfold lk
    rw [List.lookup_cons, lk_eq x r]
    cases e : seq x y with
    | true =>
      have := seq_eq e
      subst this
      simp
    | false =>
      have : x ≠ y := fun z => by
        subst z
        have : seq x x = true := decide_eq_true rfl
        rw [this] at e
        cases e
      have h : (x == y) = false := by simpa using this
      rw [h]
      rfl
def isVis (S : Sx) (x : Str) : Bool := match lk x S.sc.names with
  | some .local => true
  | some .cell => true
  | some .free => true
  | _ => false
def isGl (S : Sx) (x : Str) : Bool := match lk x S.sc.names with
  | some .globalImplicit => true
  | _ => false
def isTgt (S : Sx) (x : Str) : Bool := match lk x S.sc.names with
  | some .local => true
  | some .cell => S.fn x
  | _ => false
def isPlainN (x : Str) : Bool := !seq x "__debug__" && !seq x "__classdict__" && !seq x "__name__"
def nAt (C : Ct) (i : Nat) (x : Str) : Bool := match C.N[i]? with
  | some y => seq y x
  | none => false
def noStar : Expr → Bool
  | .Starred _ _ => false
  | _ => true
def noComp : Expr → Bool
  | .ListComp .. => false
  | .SetComp .. => false
  | .DictComp .. => false
  | _ => true
def noSet : Expr → Bool
  | .Set .. => false
  | _ => true
def noSlice : Expr → Bool
  | .Slice .. => false
  | _ => true
def noCall : Expr → Bool
  | .Call _ [] _ _ => false
  | _ => true
/-- its truth is asked by its value -/
def valTest : Expr → Bool
  | .UnaryOp .Not .. => false
  | .BoolOp .. => false
  | .IfExp .. => false
  | .Compare .. => false
  | _ => true
mutual
def tstOk : Expr → Bool
  | .UnaryOp .Not x _ => tstOk x
  | .BoolOp _ xs _ => tstOks xs
  | .IfExp .. => false
  | _ => true
def tstOks : List Expr → Bool
  | [] => true
  | x :: xs => tstOk x && tstOks xs
end
def sameC : D → D → Bool
  | .int a, .int b => decide (a = b)
  | .str a, .str b => seq a b
  | _, _ => false
def glHas (C : Ct) (x : Str) (d : D) : Bool := C.gl.any fun p => seq p.1 x && sameC p.2 d
def fnHas (C : Ct) (x : Str) (n : Nat) : Bool := C.fs.any fun p => seq p.1 x && decide (p.2 = n)
def bltTy : Str → Option String := fun x =>
  if seq x "list" then some "list" else if seq x "tuple" then some "tuple" else if seq x "int" then some "int" else if seq x "str" then some "str" else none
def bltFn : Str → Option String := fun x =>
  if seq x "len" then some "len" else if seq x "sorted" then some "sorted" else if seq x "min" then some "min" else if seq x "max" then some "max" else none

mutual
def chkT (C : Ct) (S : Sx) : Tg → Expr → Bool
  | .nm i, .Name x _ => nAt C i x && isTgt S x
  | .tp r, .Tuple es _ _ => chkTs C S r es
  | _, _ => false
def chkTs (C : Ct) (S : Sx) : Tg → List Expr → Bool
  | .nl, [] => true
  | .cn a r, e :: es => chkT C S a e && noStar e && chkTs C S r es
  | _, _ => false
end
def ownOf (C : Ct) (t : Tg) : List (Str × Nat) := (slots t).map fun i => (C.N.getD i "", i)
def blk (S : Sx) (scope : Scope) : Sx := ⟨relS scope S.sc, fun x => scope.names.lookup x == some .cell⟩

mutual
def chk (C : Ct) (S : Sx) : E → Expr → Bool
  | .var i, .Name x _ => nAt C i x && isVis S x && isPlainN x
  | .int n, .Constant (.int m) _ _ => decide (n = m)
  | .str s, .Constant (.str t) _ _ => seq s t
  | .non, .Constant .none _ _ => true
  | .bl b, .Constant (.bool c) _ _ => b == c
  | .glo x d, .Name y _ => seq x y && isGl S x && isPlainN x && glHas C x d
  | .neg a, .UnaryOp .USub e _ => chk C S a e
  | .not a, .UnaryOp .Not e _ => chk C S a e
  | .bin o a b, .BinOp x p y _ => decide (o = p) && chk C S a x && chk C S b y
  | .cmp o a b, .Compare x [p] [y] _ => decide (o = p) && chk C S a x && chk C S b y && noSet y
  | .chain o p a b c, .Compare x [o', p'] [y, z] _ => decide (o = o') && decide (p = p') && chk C S a x && chk C S b y && chk C S c z && noSet y && noSet z
  | .one a, .BoolOp _ [x] _ => chk C S a x
  | .and a b, .BoolOp .And (x :: y :: r) p => chk C S a x && chk C S b (.BoolOp .And (y :: r) p)
  | .or a b, .BoolOp .Or (x :: y :: r) p => chk C S a x && chk C S b (.BoolOp .Or (y :: r) p)
  | .ife c a b, .IfExp x y z _ => tstOk x && chk C S c x && chk C S a y && chk C S b z
  | .tup a, .Tuple es _ _ => chks C S a es
  | .lst a, .List es _ => chks C S a es
  | .sub a i, .Subscript x y _ => chk C S a x && chk C S i y && noSlice y
  | .slcL a lo, .Subscript x (.Slice (some l) none none _) _ => chk C S a x && chk C S lo l
  | .slcH a hi, .Subscript x (.Slice none (some h) none _) _ => chk C S a x && chk C S hi h
  | .rev a, .Subscript x (.Slice none none (some (.UnaryOp .USub (.Constant (.int m) _ _) _)) _) _ => decide (m = 1) && chk C S a x
  | .call f a, .Call (.Name g _) (e :: es) [] _ => seq f g && isGl S f && isPlainN f && fnHas C f (es.length + 1) && chks C S a (e :: es)
  | .blt f a, .Call (.Name g _) (e :: es) [] _ => seq f g && isGl S f && ((bltTy f).isSome || (bltFn f).isSome) && chks C S a (e :: es)
  | .lsr a, .Call (.Name g _) [e] [] _ => seq g "list" && isGl S g && chkR C S a e
  | .tpr a, .Call (.Name g _) [e] [] _ => seq g "tuple" && isGl S g && chkR C S a e
  | .isi a t, .Call (.Name g _) [x, .Name u _] [] _ => seq g "isinstance" && isGl S g && seq t u && isGl S t && (isiTy t).isSome && noStar x && chk C S a x
  | .lens a, .Call (.Name g _) [.Call (.Name h _) [x] [] _] [] _ => seq g "len" && isGl S g && seq h "set" && isGl S h && noStar x && chk C S a x
  | .srts a, .Call (.Name g _) [.Call (.Name h _) [x] [] _] [] _ => seq g "sorted" && isGl S g && seq h "set" && isGl S h && noStar x && chk C S a x
  | .mth m a r, .Call (.Attribute o n ap) (e :: es) [] cp => seq m n && (seq m "index" || seq m "count" || seq m "join") && noCall o && (ap.endLine == cp.line) && decide (es.length < 20) && chk C S a o && chks C S r (e :: es)
  | .lc elt t it, .ListComp e [⟨tg, iter, [], z⟩] scope _ => decide (z = 0) && noSet iter && blkC C.N S.sc scope (ownOf C t) && chkT C (blk S scope) t tg && chkI C S it tg iter && chk C (blk S scope) elt e
  | .lcf elt t it c, .ListComp e [⟨tg, iter, [i], z⟩] scope _ => decide (z = 0) && noSet iter && blkC C.N S.sc scope (ownOf C t) && chkT C (blk S scope) t tg && chkI C S it tg iter && tstOk i && chk C (blk S scope) c i && chk C (blk S scope) elt e
  | .lc2 elt t it t1 it1, .ListComp e [⟨tg, iter, [], z⟩, ⟨tg1, iter1, [], z1⟩] scope _ => decide (z = 0) && decide (z1 = 0) && noSet iter && noSet iter1 && blkC C.N S.sc scope (ownOf C t ++ ownOf C t1) && chkT C (blk S scope) t tg && chkT C (blk S scope) t1 tg1 && chkI C S it tg iter && chkI C (blk S scope) it1 tg1 iter1 && chk C (blk S scope) elt e
  | .bor _ a, e => chk C S a e
  | .subO i a, .Subscript (.Name x _) y _ => nAt C i x && isVis S x && isPlainN x && chk C S a y && noSlice y
  | .lenO i, .Call (.Name g _) [.Name x _] [] _ => seq g "len" && isGl S g && nAt C i x && isVis S x && isPlainN x
  | .inO neg a i, .Compare x [p] [.Name y _] _ => decide (p = if neg then .NotIn else .In) && chk C S a x && nAt C i y && isVis S y && isPlainN y
  | .revO i, .Subscript (.Name x _) (.Slice none none (some (.UnaryOp .USub (.Constant (.int m) _ _) _)) _) _ => decide (m = 1) && nAt C i x && isVis S x && isPlainN x
  | _, _ => false
def chks (C : Ct) (S : Sx) : E → List Expr → Bool
  | .nil, [] => true
  | .cons a r, e :: es => chk C S a e && noStar e && chks C S r es
  | _, _ => false
def chkR (C : Ct) (S : Sx) : E → Expr → Bool
  | .rng a, .Call (.Name g _) [x] [] _ => seq g "range" && isGl S g && noStar x && chk C S a x
  | .rng2 a b, .Call (.Name g _) [x, y] [] _ => seq g "range" && isGl S g && noStar x && noStar y && chk C S a x && chk C S b y
  | _, _ => false
def chkI (C : Ct) (S : Sx) : E → Expr → Expr → Bool
  | .itr a, _, e => chk C S a e
  | .rng a, _, .Call (.Name g _) [x] [] _ => seq g "range" && isGl S g && noStar x && chk C S a x
  | .rng2 a b, _, .Call (.Name g _) [x, y] [] _ => seq g "range" && isGl S g && noStar x && noStar y && chk C S a x && chk C S b y
  | .zip a b, .Tuple .., .Call (.Name g _) [x, y] [] _ => seq g "zip" && isGl S g && noStar x && noStar y && chk C S a x && chk C S b y
  | .enu a, .Tuple .., .Call (.Name g _) [x] [] _ => seq g "enumerate" && isGl S g && noStar x && chk C S a x
  | _, _, _ => false
end
end TC
set_option Elab.async false
set_option linter.all false
set_option maxRecDepth 100000
set_option autoImplicit false
/-! DlE: contexts; the parts of an expression. -/
namespace TC
open PySem PySem.Spec PyProof.Rows L2

/-- a def's promise: what its function tells -/
def spD (mg : Str → Option Value) (n : Nat) (F : List D → R D) : Sp := fun vs H Q E => vs.length = n ∧ ∃ G ds, Same G H ∧ RpAll G vs ds ∧
  match F ds with
  | .ok d => ∀ v G' H', Gw G H G' H' → Rp G' v d → Q v H'
  | .exc c => ∀ G' H', Gw G H G' H' → ∀ cls, mg c = some cls → E cls none H'
  | .stuck => False

/-- the exception classes: each raised as it is, none under another, all under ColorError -/
structure XcOk (K : W.Frag) (mg : Str → Option Value) (bm : List Value) (nw : String) (xs : List Str) : Prop where
  one : ∀ c ∈ xs, ∃ A, mg c = some (.ref A) ∧ W.excIn K A bm nw = true ∧ W.keepIn K (.ref A) = true ∧ W.subIn K (.ref A) (.type "BaseException") = some true ∧ W.typeIn K (.ref A) = some (.type "type") ∧ ExcC K A
  two : ∀ c ∈ xs, ∀ d ∈ xs, ∀ A A', mg c = some (.ref A) → mg d = some (.ref A') → W.exmOne K (.ref A) (.ref A') = some (decide (c = d)) ∧ W.kitOne K (.ref A) (.ref A') = some (decide (c = d))
  top : ∃ A0, mg "ColorError" = some (.ref A0) ∧ W.keepIn K (.ref A0) = true ∧ ∀ c ∈ xs, ∀ A, mg c = some (.ref A) → W.kitOne K (.ref A) (.ref A0) = some true ∧ W.exmOne K (.ref A) (.ref A0) = some true
/-- what holds of the program behind its top, for a body at level k -/
structure Pk (P : Program) (w : World) (K : W.Frag) (mg : Str → Option Value) (base : Heap) (F : Fns) (C : Ct) (k : Nat) : Prop where
  nd : C.N.Nodup
  fns : ∀ x ∈ C.fs, ∃ f fd ps, ps.length = x.2 ∧ mg x.1 = some (.ref f) ∧ W.keepIn K (.ref f) = true ∧ Binds K fd ps [] ∧ FnOk P w K mg base (L2.CX P w) k f fd ps (spD mg ps.length (F x.1))
  gls : ∀ p ∈ C.gl, (∃ i t, p.2 = .int i ∧ mg p.1 = some (.int i t)) ∨ ∃ s t, p.2 = .str s ∧ mg p.1 = some (.str s t)
  frs : ∀ x ∈ (["len", "sorted", "min", "max", "list", "tuple", "int", "str", "bool", "set", "range", "zip", "enumerate", "isinstance"] : List Str), mg x = none
  xcs : C.xs ≠ [] → ∃ Bx nw it bm, ExcBaseFacts Bx nw it bm ∧ XcOk K mg bm nw C.xs

structure Cok (P : Program) (w : World) (base : Heap) (B : Bs) (F : Fns) (C : Ct) (k : Nat) (X : Cx) (W : WX) (S : Sx) : Prop where
  pk : Pk P w B.K B.mg base F C k
  eP : X.prog = P
  ew : X.w = w
  eK : X.K = B.K
  em : X.mg = B.mg
  eb : X.base = base
  eN : X.N = C.N
  es : X.env.scope = S.sc
  ef : X.fn = S.fn
  calm : X.calm = true
  room : Room k X.A
  tk : Takes X W

section
variable {P : Program} {w : World} {base : Heap} {B : Bs} {F : Fns} {C : Ct} {k : Nat} {X : Cx} {W : WX} {S : Sx}

theorem Cok.free (c : Cok P w base B F C k X W S) {x : Str} (h : x ∈ (["len", "sorted", "min", "max", "list", "tuple", "int", "str", "bool", "set", "range", "zip", "enumerate", "isinstance"] : List Str)) : X.mg x = none := by
  rw [c.em]; exact c.pk.frs x h
theorem vis_of (c : Cok P w base B F C k X W S) {x : Str} (h : isVis S x = true) : Vis X.env.scope x := by
  unfold isVis at h
  rw [lk_eq] at h
  unfold Vis
  rw [c.es]
  split at h
  · exact .inl (by assumption)
  · exact .inr (.inl (by assumption))
  · exact .inr (.inr (by assumption))
  · cases h
theorem gl_of (c : Cok P w base B F C k X W S) {x : Str} (h : isGl S x = true) : Gl X x := by
  unfold isGl at h
  rw [lk_eq] at h
  show X.env.scope.names.lookup x = _
  rw [c.es]
  split at h
  · assumption
  · cases h
theorem n_of (c : Cok P w base B F C k X W S) {i : Nat} {x : Str} (h : nAt C i x = true) : X.N[i]? = some x := by
  unfold nAt at h
  rw [c.eN]
  cases e : C.N[i]? with
  | none => rw [e] at h; cases h
  | some y => rw [e] at h; rw [seq_eq h]
theorem sneq {x y : Str} (h : (!seq x y) = true) : (x == y) = false := by
  cases e : (x == y) with
  | false => rfl
  | true =>
    have : x = y := by simpa using e
    subst this
    have : seq x x = true := decide_eq_true rfl
    rw [this] at h
    cases h
theorem plainN_of {x : Str} (h : isPlainN x = true) : (x == ("__debug__" : Str)) = false ∧ (x == ("__classdict__" : Str)) = false ∧ x ≠ "__name__" := by
  unfold isPlainN at h
  rw [Bool.and_eq_true, Bool.and_eq_true] at h
  refine ⟨sneq h.1.1, sneq h.1.2, fun z => ?_⟩
  have := sneq h.2
  rw [z] at this
  simp at this
theorem star_of {e : Expr} {es : List Expr} {env : PySem.Env} (h : noStar e = true) : starEach (e :: es) env = (false, eval e env) :: starEach es env := by
  cases e <;> first | rfl | cases h
theorem swap_of {e : Expr} {t : Option Expr} {l : Nat} {env : PySem.Env} (h : noComp e = true) : swapsWith e t l env = pure false := by
  cases e <;> first | rfl | cases h
theorem fset_of {e : Expr} (h : noSet e = true) (env : PySem.Env) (x : Value) : foldedSetIterable e env x = pure x := by
  cases e <;> first | rfl | cases h
theorem mark_of {o : CmpOp} {e : Expr} (h : noSet e = true) : behindInMarks o e = false := by
  cases e <;> first | rfl | cases h
theorem ix_of {e : Expr} (h : noSlice e = true) : PlainIx e := by
  intro o i
  cases e <;> first | rfl | cases h
theorem test_of {e : Expr} {env : PySem.Env} (h : valTest e = true) : ∀ whole, isTrue e env whole = (do let v ← whole; standAt e.pos; holding [v] (truthy v)) := by
  intro whole
  cases e <;> first | rfl | skip
  case UnaryOp op x p => cases op <;> first | rfl | cases h
  all_goals cases h
theorem noStars {C : Ct} {S : Sx} : ∀ (e : E) (es : List Expr) (env : PySem.Env) (pos : Pos), chks C S e es = true → (backTo pos (starEach es env)).any (·.1) = false
  | .nil, [], env, pos, _ => rfl
  | .cons a r, e :: es, env, pos, h => by
    unfold chks at h
    rw [Bool.and_eq_true, Bool.and_eq_true] at h
    rw [star_of h.1.2]
    show (false || (backTo pos (starEach es env)).any (·.1)) = false
    rw [Bool.false_or]
    exact noStars r es env pos h.2
  | .nil, _ :: _, _, _, h => by cases h
  | .cons _ _, [], _, _, h => by cases h
  | .var _, _, _, _, h => by cases h
  | .int _, _, _, _, h => by cases h
  | .str _, _, _, _, h => by cases h
  | .non, _, _, _, h => by cases h
  | .bl _, _, _, _, h => by cases h
  | .glo _ _, _, _, _, h => by cases h
  | .neg _, _, _, _, h => by cases h
  | .not _, _, _, _, h => by cases h
  | .bin _ _ _, _, _, _, h => by cases h
  | .cmp _ _ _, _, _, _, h => by cases h
  | .chain _ _ _ _ _, _, _, _, h => by cases h
  | .one _, _, _, _, h => by cases h
  | .and _ _, _, _, _, h => by cases h
  | .or _ _, _, _, _, h => by cases h
  | .ife _ _ _, _, _, _, h => by cases h
  | .tup _, _, _, _, h => by cases h
  | .lst _, _, _, _, h => by cases h
  | .sub _ _, _, _, _, h => by cases h
  | .slcL _ _, _, _, _, h => by cases h
  | .slcH _ _, _, _, _, h => by cases h
  | .rev _, _, _, _, h => by cases h
  | .call _ _, _, _, _, h => by cases h
  | .blt _ _, _, _, _, h => by cases h
  | .lsr _, _, _, _, h => by cases h
  | .tpr _, _, _, _, h => by cases h
  | .isi _ _, _, _, _, h => by cases h
  | .lens _, _, _, _, h => by cases h
  | .srts _, _, _, _, h => by cases h
  | .mth _ _ _, _, _, _, h => by cases h
  | .lc _ _ _, _, _, _, h => by cases h
  | .lcf _ _ _ _, _, _, _, h => by cases h
  | .lc2 _ _ _ _ _, _, _, _, h => by cases h
  | .subO _ _, _, _, _, h => by cases h
  | .lenO _, _, _, _, h => by cases h
  | .inO _ _ _, _, _, _, h => by cases h
  | .revO _, _, _, _, h => by cases h
  | .bor _ _, _, _, _, h => by cases h
  | .itr _, _, _, _, h => by cases h
  | .rng _, _, _, _, h => by cases h
  | .rng2 _ _, _, _, _, h => by cases h
  | .zip _ _, _, _, _, h => by cases h
  | .enu _, _, _, _, h => by cases h
  | .keyO _, _, _, _, h => by cases h

/-! ### generic steps -/
variable {ma mb : Env → R D}
/-- nothing is evaluated -/
theorem tD_const {G H : Hp} {σ : L2.St} {env : Env} {Q : VK} {d : D} {v : V} (o : OkG B G σ H env) (h : Pst B W G σ H (fun d => ∀ v G' H', Gw G H G' H' → Rp G' v d → Q v H') (.ok d)) (r : Dq G v d) : Q v H := h v G H (Gw.refl o.gH) (Rp.of r)
theorem one_D {x : Expr} {ta : TE} {f : D → R D} {r : V → Hp → VK → Prop} (hx : ∀ a c, f a ≠ .exc c) (h : PE X x (tUn r (tD B W ma))) (hr : ∀ a d, f a = .ok d → ∀ G H v Q, Same G H → Rp G v a → (∀ v G' H', Gw G H G' H' → Rp G' v d → Q v H') → r v H Q) :
    PE X x (tD B W fun e => (ma e).bind f) := by
  refine PE.weak h fun σ H Q ⟨G, env, o, p⟩ => ?_
  refine tD_bind o p fun a ea pa v G' H' g rv => ?_
  cases e : f a with
  | ok d =>
    rw [e] at pa
    exact hr a d e G' H' v Q g.gh rv fun v2 G2 H2 g2 r2 => pa v2 G2 H2 (g.trans g2) r2
  | exc c => exact absurd e (hx a c)
  | stuck => rw [e] at pa; exact pa.elim
theorem two_D {x : Expr} {f : D → D → R D} {r : R2} (hx : ∀ a b c, f a b ≠ .exc c) (h : PE X x (tOp r (tD B W ma) (tD B W mb))) (hr : ∀ x y H Q, rD2 f x y H Q → r x y H Q) :
    PE X x (tD B W fun e => (ma e).bind fun a => (mb e).bind fun b => f a b) := by
  refine PE.weak h fun σ H Q ⟨G, env, o, p⟩ => ?_
  refine tD_bind o p fun a ea pa v G1 H1 g1 rv => ?_
  refine tD_bind (o.grow g1) (pa.grow g1 fun d hd => hd) fun b eb pb u G2 H2 g2 ru => ?_
  cases e : f a b with
  | ok d =>
    rw [e] at pb
    exact hr _ _ _ _ ⟨G2, a, b, d, g2.gh, rv.same g2.gg, ru, e, fun v3 G3 H3 g3 r3 => pb v3 G3 H3 ((g1.trans g2).trans g3) r3⟩
  | exc c => exact absurd e (hx a b c)
  | stuck => rw [e] at pb; exact pb.elim
theorem args_D {x : Expr} {f : List D → R D} {r : List V → Hp → VK → Prop} (hx : ∀ a c, f a ≠ .exc c) (h : PE X x (tCB r (tA1 B W ma))) (hr : ∀ xs H Q, rDn f xs H Q → r xs H Q) :
    PE X x (tD B W fun e => (listD (ma e)).bind f) := by
  refine PE.weak h fun σ H Q ⟨G, env, o, p⟩ => ?_
  refine tA_bind o p fun a ea pa v G1 H1 g1 rv => ?_
  cases e : f a with
  | ok d =>
    rw [e] at pa
    exact hr _ _ _ ⟨G1, a, d, g1.gh, rv, e, fun v3 G3 H3 g3 r3 => pa v3 G3 H3 (g1.trans g3) r3⟩
  | exc c => exact absurd e (hx a c)
  | stuck => rw [e] at pa; exact pa.elim
end
end TC
set_option Elab.async false
set_option linter.all false
set_option maxRecDepth 100000
set_option autoImplicit false
/-! DlF: the operations raise nothing by themselves. -/
namespace TC
open PySem

def NX {α : Type} (r : R α) : Prop := ∀ c, r ≠ .exc c
theorem nx_ok {α : Type} {a : α} : NX (R.ok a) := fun _ h => nomatch h
theorem nx_stuck {α : Type} : NX (R.stuck : R α) := fun _ h => nomatch h
theorem nx_bind {α β : Type} {r : R α} {f : α → R β} (h : NX r) (g : ∀ a, NX (f a)) : NX (r.bind f) := by
  cases r with
  | ok a => exact g a
  | exc c => exact absurd rfl (h c)
  | stuck => exact nx_stuck
theorem nx_guard {b : Bool} : NX (R.guard b) := by cases b <;> first | exact nx_ok | exact nx_stuck
theorem nx_opt {α : Type} {o : Option α} : NX (ofOpt o) := by cases o <;> first | exact nx_ok | exact nx_stuck
theorem nx_add (a b : D) : NX (addD a b) := by
  unfold addD
  split <;> first | exact nx_ok | exact nx_stuck | exact nx_bind nx_guard fun _ => nx_ok
theorem nx_mul (a b : D) : NX (mulD a b) := by
  unfold mulD
  split <;> first | exact nx_ok | exact nx_stuck | exact nx_bind nx_guard fun _ => nx_ok
theorem nx_bin (o : Operator) (a b : D) : NX (binD o a b) := by
  cases o <;> simp only [binD] <;> first | exact nx_add a b | exact nx_mul a b | exact nx_stuck | (split <;> first | exact nx_ok | exact nx_stuck | exact nx_bind nx_guard fun _ => nx_ok)
theorem nx_eq (a b : D) : NX (eqD a b) := nx_bind nx_guard fun _ => nx_ok
theorem nx_lt (a b : D) : NX (ltD a b) := by
  unfold ltD
  split <;> first | exact nx_ok | exact nx_stuck | exact nx_bind nx_guard fun _ => nx_ok
theorem nx_sign (c s : Str) : NX (signIn c s) := by
  unfold signIn
  split <;> first | exact nx_ok | exact nx_stuck
theorem nx_in (a b : D) : NX (inD a b) := by
  unfold inD
  split <;> first | exact nx_stuck | exact nx_bind nx_guard fun _ => nx_ok | (split <;> first | exact nx_sign _ _ | exact nx_stuck)
theorem nx_map {f : Bool → Bool} {r : R Bool} (h : NX r) : NX (mapB f r) := nx_bind h fun _ => nx_ok
theorem nx_cmp (o : CmpOp) (a b : D) : NX (cmpD o a b) := by
  cases o <;> simp only [cmpD] <;> first | exact nx_map (nx_eq _ _) | exact nx_map (nx_lt _ _) | exact nx_map (nx_in _ _) | (split <;> first | exact nx_ok | exact nx_stuck)
theorem nx_tru (a : D) : NX (truD a) := fun c => truD_exc
theorem nx_boolD (a : D) : NX (boolD a) := by cases a <;> first | exact nx_ok | exact nx_stuck
theorem nx_sub (a b : D) : NX (subD a b) := by
  unfold subD
  split <;> first | exact nx_stuck | exact nx_opt | exact nx_bind nx_opt fun _ => nx_opt | exact nx_bind nx_guard fun _ => nx_bind nx_opt fun _ => nx_ok
theorem nx_slc (a : D) (l h : Option Int) : NX (slcD a l h) := by
  unfold slcD
  split <;> first | exact nx_ok | exact nx_stuck | exact nx_bind nx_guard fun _ => nx_ok
theorem nx_bnd (a : D) : NX (bndD a) := by cases a <;> first | exact nx_ok | exact nx_stuck
theorem nx_rev (a : D) : NX (revD a) := by cases a <;> first | exact nx_ok | exact nx_stuck
theorem nx_seq (a : D) : NX (seqD a) := by cases a <;> first | exact nx_ok | exact nx_stuck
theorem nx_sort (a : List D) : NX (sortD a) := by
  unfold sortD
  split
  · exact nx_ok
  · split <;> first | exact nx_stuck | exact nx_bind nx_guard fun _ => nx_ok
theorem nx_most (f : D → List D → D) (a : List D) : NX (mostD f a) := by
  cases a with
  | nil => exact nx_stuck
  | cons x r => exact nx_bind nx_guard fun _ => nx_ok
theorem nx_lens (a : List D) : NX (lenSetD a) := nx_bind nx_opt fun _ => nx_bind nx_guard fun _ => nx_ok
theorem nx_srts (a : List D) : NX (srtSetD a) := nx_bind nx_opt fun _ => nx_bind nx_guard fun _ => nx_ok
theorem nx_lenB (a : List D) : NX (lenB a) := by
  unfold lenB
  split <;> first | exact nx_ok | exact nx_stuck | exact nx_bind nx_guard fun _ => nx_ok | exact nx_bind nx_opt fun _ => nx_ok
theorem nx_listB (a : List D) : NX (listB a) := by
  unfold listB
  split <;> first | exact nx_stuck | exact nx_bind (nx_seq _) fun _ => nx_ok
theorem nx_tupB (a : List D) : NX (tupB a) := by
  unfold tupB
  split <;> first | exact nx_stuck | exact nx_bind (nx_seq _) fun _ => nx_ok
theorem nx_sortB (a : List D) : NX (sortB a) := by
  unfold sortB
  split <;> first | exact nx_stuck | exact nx_sort _
theorem nx_minB (a : List D) : NX (minB a) := by
  unfold minB
  split <;> first | exact nx_ok | exact nx_stuck | exact nx_bind (nx_seq _) fun _ => nx_most _ _
theorem nx_maxB (a : List D) : NX (maxB a) := by
  unfold maxB
  split <;> first | exact nx_ok | exact nx_stuck | exact nx_bind (nx_seq _) fun _ => nx_most _ _
theorem nx_intB (a : List D) : NX (intB a) := by
  unfold intB
  split <;> first | exact nx_ok | exact nx_stuck
theorem nx_strB (a : List D) : NX (strB a) := by
  unfold strB
  split <;> first | exact nx_stuck | exact nx_bind nx_guard fun _ => nx_ok
theorem nx_isi (a : D) (t : Str) : NX (isiD a t) := by
  unfold isiD
  repeat' split
  all_goals first | exact nx_ok | exact nx_stuck
theorem nx_indexM (a : D) (l : List D) : NX (indexM a l) := by
  unfold indexM
  split
  · split <;> first | exact nx_stuck | exact nx_bind nx_guard fun _ => nx_bind nx_opt fun _ => nx_ok
  · exact nx_stuck
theorem nx_countM (a : D) (l : List D) : NX (countM a l) := by
  unfold countM
  split
  · split <;> first | exact nx_stuck | exact nx_bind nx_opt fun _ => nx_ok
  · exact nx_stuck
theorem nx_joinM (a : D) (l : List D) : NX (joinM a l) := by
  unfold joinM
  split
  · split <;> first | exact nx_stuck | exact nx_bind nx_opt fun _ => nx_bind nx_guard fun _ => nx_ok
  · exact nx_stuck
theorem nx_itr (a : D) : NX (itrD a) := by cases a <;> first | exact nx_ok | exact nx_stuck
theorem nx_rng (a b : D) : NX (rngD a b) := by
  unfold rngD
  split <;> first | exact nx_stuck | exact nx_bind nx_guard fun _ => nx_ok
mutual
theorem nx_asg : ∀ (t : Tg) (d : D) (e : Env), NX (asg t d e)
  | .nm i, d, e => by unfold asg; exact nx_ok
  | .tp r, d, e => by
    unfold asg
    split <;> first | exact nx_asgs r _ e | exact nx_stuck
  | .nl, _, _ => by unfold asg; exact nx_stuck
  | .cn _ _, _, _ => by unfold asg; exact nx_stuck
theorem nx_asgs : ∀ (t : Tg) (d : List D) (e : Env), NX (asgs t d e)
  | .nl, [], e => by unfold asgs; exact nx_ok
  | .cn a r, x :: xs, e => by unfold asgs; exact nx_bind (nx_asg a x e) fun e1 => nx_asgs r xs e1
  | .nl, _ :: _, _ => by unfold asgs; exact nx_stuck
  | .cn _ _, [], _ => by unfold asgs; exact nx_stuck
  | .nm _, _, _ => by unfold asgs; exact nx_stuck
  | .tp _, _, _ => by unfold asgs; exact nx_stuck
end
end TC
set_option Elab.async false
set_option linter.all false
set_option maxRecDepth 100000
set_option autoImplicit false
/-! DlI: what is walked. -/
namespace TC
open PySem PySem.Spec PyProof.Rows L2

/-- the iterator J gives out the values ds, one after another, while what stands in G stands -/
def ItOk (G : Hp) (J : It) (ds : List D) : Prop := ∀ G1 H1, Same G G1 → Same G1 H1 → ∀ i : Nat, (∀ d, ds[i]? = some d → J.go i H1 ∧ ∀ x H2, J.yld i H1 x H2 → ∃ G2, Gw G1 H1 G2 H2 ∧ Rp G2 x d) ∧ (i = ds.length → J.stop i H1)
def tI1 (B : Bs) (W : WX) (m : Env → R D) : TI := fun σ H R => ∃ G env, OkG B G σ H env ∧ Pst B W G σ H (fun ds => ∀ J G' H', Gw G H G' H' → ItOk G' J ds → R J H') (listD (m env))

section
variable {X : Cx} {tg : Expr}
theorem itok_list {K : W.Frag} {G : Hp} {a : Addr} {vs : List V} {ds : List D} (h : G a = some (.lst vs)) (r : DqAll G vs ds) : ItOk G (Itl K a) ds := by
  intro G1 H1 g1 g2 i
  have hH : H1 a = some (.lst vs) := g2 _ _ (g1 _ _ h)
  refine ⟨fun d hd => ?_, fun hi => ⟨vs, SqL.of hH, by rw [dpAll_len r, hi]; exact Nat.le_refl _⟩⟩
  obtain ⟨v, hv, rv⟩ := dpAll_get r hd
  refine ⟨⟨vs, v, SqL.of hH, hv⟩, fun x H2 hy => ?_⟩
  obtain ⟨e, hy⟩ := hy
  subst e
  have hx := hy vs (SqL.of hH)
  rw [hv] at hx
  cases hx
  exact ⟨G1, Gw.refl g2, Rp.of (dp_same g1 rv)⟩
theorem itok_tup {K : W.Frag} {G : Hp} {a : Addr} {vs : List V} {ds : List D} (h : G a = some (.tup vs)) (r : DqAll G vs ds) : ItOk G (Itt K a) ds := by
  intro G1 H1 g1 g2 i
  have hH : H1 a = some (.tup vs) := g2 _ _ (g1 _ _ h)
  refine ⟨fun d hd => ?_, fun hi => ⟨vs, SqT.of hH, by rw [dpAll_len r, hi]; exact Nat.le_refl _⟩⟩
  obtain ⟨v, hv, rv⟩ := dpAll_get r hd
  refine ⟨⟨vs, v, SqT.of hH, hv⟩, fun x H2 hy => ?_⟩
  obtain ⟨e, hy⟩ := hy
  subst e
  have hx := hy vs (SqT.of hH)
  rw [hv] at hx
  cases hx
  exact ⟨G1, Gw.refl g2, Rp.of (dp_same g1 rv)⟩
theorem itok_str {G : Hp} {x : Str} : ItOk G (Its x) (chars x) := by
  intro G1 H1 g1 g2 i
  refine ⟨fun d hd => ?_, fun hi => ?_⟩
  · unfold chars at hd
    rw [List.getElem?_map] at hd
    cases e : x.cps.toList[i]? with
    | none => rw [e] at hd; cases hd
    | some c =>
      rw [e] at hd
      cases hd
      have hc : x.cps[i]? = some c := by simpa using e
      refine ⟨(Array.getElem?_eq_some_iff.mp hc).1, fun y H2 hy => ?_⟩
      obtain ⟨e1, c', e2, e3⟩ := hy
      subst e1
      rw [hc] at e2
      cases e2
      subst e3
      exact ⟨G1, Gw.refl g2, Rp.of (.str _)⟩
  · show x.cps.size ≤ i
    rw [hi]
    unfold chars
    simp
theorem itok_rng {G : Hp} {lo : Int} {n : Nat} : ItOk G (Itr lo n) (rngL lo n) := by
  intro G1 H1 g1 g2 i
  refine ⟨fun d hd => ?_, fun hi => ?_⟩
  · unfold rngL at hd
    rw [List.getElem?_map] at hd
    cases e : (List.range n)[i]? with
    | none => rw [e] at hd; cases hd
    | some c =>
      rw [e] at hd
      cases hd
      obtain ⟨h1, h2⟩ := List.getElem?_eq_some_iff.mp e
      rw [List.getElem_range] at h2
      rw [List.length_range] at h1
      subst h2
      refine ⟨h1, fun y H2 hy => ?_⟩
      obtain ⟨e1, e2⟩ := hy
      subst e1 e2
      exact ⟨G1, Gw.refl g2, Rp.of (.int _)⟩
  · show n ≤ i
    rw [hi]
    unfold rngL
    simp
/-- a list, a tuple, a text is asked for its iterator -/
theorem iter_list {pins : List (Addr × Obj)} {σ : L2.St} {H : Hp} {s : Shared} {R : It → Hp → Prop} {E : Value → Shared → Prop} {a : Addr} {vs : List V} (I : Inv X pins σ H s) (h : H a = some (.lst vs)) (q : R (Itl X.K a) H) :
    wpAny (model X.prog X.w) X.A (pyIter (.ref a)) (PIE X pins σ tg R) E s := by
  obtain ⟨us, ru, pl, _⟩ := I.list (SqL.of h : SqL X.K H a vs)
  refine wpAny_pyIter_list pl.isList ?_
  have hn : ∀ b ∈ [s.heap.objs.size], FpOk X pins H b := fun b hb => by
    rw [List.mem_singleton.mp hb]
    exact I.fpOk (Nat.le_refl _) I.fresh
  exact ⟨_, [s.heap.objs.size], _, _, H, rfl, I.kept (t' := s.toks) fun _ _ e => Heap.get?_push_of_some _ e, turn_list a _, ⟨_, Heap.get?_push_size _ rfl, rfl, rfl⟩, hn, q⟩
theorem iter_tup {pins : List (Addr × Obj)} {σ : L2.St} {H : Hp} {s : Shared} {R : It → Hp → Prop} {E : Value → Shared → Prop} {a : Addr} {vs : List V} (I : Inv X pins σ H s) (h : H a = some (.tup vs)) (q : R (Itt X.K a) H) :
    wpAny (model X.prog X.w) X.A (pyIter (.ref a)) (PIE X pins σ tg R) E s := by
  obtain ⟨us, ru, pl, _⟩ := I.tuple (SqT.of h : SqT X.K H a vs)
  refine wpAny_pyIter_tuple (show s.heap.IsTuple a us.toArray from pl) ?_
  have hn : ∀ b ∈ [s.heap.objs.size], FpOk X pins H b := fun b hb => by
    rw [List.mem_singleton.mp hb]
    exact I.fpOk (Nat.le_refl _) I.fresh
  exact ⟨_, [s.heap.objs.size], _, _, H, rfl, I.kept (t' := s.toks) fun _ _ e => Heap.get?_push_of_some _ e, turn_tuple a _, ⟨_, Heap.get?_push_size _ rfl, rfl, rfl⟩, hn, q⟩
theorem iter_str {pins : List (Addr × Obj)} {σ : L2.St} {H : Hp} {s : Shared} {R : It → Hp → Prop} {E : Value → Shared → Prop} {x : Str} {t : Tok} (I : Inv X pins σ H s) (q : R (Its x) H) :
    wpAny (model X.prog X.w) X.A (pyIter (.str x t)) (PIE X pins σ tg R) E s := by
  cases ha : x.cps.all (· < 128)
  · exact wpAny_pyIter_wide ha (pi_one (tk := s.toks) I _ (turn_str _ x t "str_iterator" (.inr rfl)) ⟨_, Heap.get?_push_size _ rfl, rfl, rfl⟩ q)
  · exact wpAny_pyIter_ascii ha (pi_one (tk := s.toks) I _ (turn_str _ x t "str_ascii_iterator" (.inl rfl)) ⟨_, Heap.get?_push_size _ rfl, rfl, rfl⟩ q)
theorem itr_ok {a : D} {l : D} (h : itrD a = .ok l) : ∃ ds, l = .list ds ∧ (a = .list ds ∨ a = .tuple ds ∨ ∃ s, a = .str s ∧ ds = chars s) := by
  cases a <;> first | cases h | skip
  · exact ⟨_, rfl, .inr (.inr ⟨_, rfl, rfl⟩)⟩
  · exact ⟨_, rfl, .inl rfl⟩
  · exact ⟨_, rfl, .inr (.inl rfl)⟩
theorem pi_D {B : Bs} {W : WX} {m : Env → R D} {x : Expr} (eK : X.K = B.K) (h : PE X x (tD B W m)) : PI X tg x (tI1 B W fun e => (m e).bind itrD) := by
  refine ⟨fun pins s σ H R I hw => ?_⟩
  obtain ⟨G, env, o, p⟩ := hw
  dsimp only at p
  refine thn (h.run pins s σ H (fun x H1 => ∃ G1 d ds, Gw G H G1 H1 ∧ Rp G1 x d ∧ itrD d = .ok (.list ds) ∧ ∀ J G' H', Gw G H G' H' → ItOk G' J ds → R J H') I ⟨G, env, o, ?_⟩) fun v s1 ⟨y, H1, I1, r1, G1, d, ds, g1, ry, e, q⟩ => ?_
  · cases e : m env with
    | ok d =>
      rw [e] at p
      have p' : Pst B W G σ H _ (listD (itrD d)) := p
      cases e2 : itrD d with
      | ok l =>
        obtain ⟨ds, rfl, _⟩ := itr_ok e2
        rw [e2] at p'
        exact fun v G' H' g r => ⟨G', d, ds, g, r, e2, p'⟩
      | exc c => exact absurd e2 (nx_itr d c)
      | stuck => rw [e2] at p'; exact p'.elim
    | exc c => rw [e] at p; exact p
    | stuck => rw [e] at p; exact p.elim
  · obtain ⟨ds', e1, h1 | h1 | ⟨z, h1, h2⟩⟩ := itr_ok e
    · cases e1
      subst h1
      obtain ⟨a, vs, rfl, ha, rv⟩ := rp_list ry
      cases r1
      exact iter_list I1 (g1.gh _ _ ha) (q _ G1 H1 g1 (itok_list ha rv))
    · cases e1
      subst h1
      obtain ⟨a, vs, rfl, ha, rv⟩ := rp_tuple ry
      cases r1
      exact iter_tup I1 (g1.gh _ _ ha) (q _ G1 H1 g1 (itok_tup ha rv))
    · cases e1
      subst h1 h2
      cases rp_str ry
      obtain ⟨t, rfl⟩ := r1
      exact iter_str I1 (q _ G1 H1 g1 itok_str)
end
end TC
set_option Elab.async false
set_option linter.all false
set_option maxRecDepth 100000
set_option autoImplicit false
/-! DlZ: zip of two sequences, enumerate of a list. -/
namespace TC
open PySem PySem.Spec PyProof.Rows L2
inductive Kd where
  | L | T
def hoK : Kd → List V → HO
  | .L, vs => .lst vs
  | .T, vs => .tup vs
def itK : Kd → Heap → Addr → Addr → Nat → Prop
  | .L, h, it, a, i => h.IsListIter it a i
  | .T, h, it, a, i => h.IsTupleIter it a i
def sqK : Kd → Heap → Addr → Array Value → Prop
  | .L, h, a, xs => h.IsList a xs
  | .T, h, a, xs => h.IsTuple a xs
def itObj : Kd → Addr → Obj
  | .L, a => { cls := .type "list_iterator", data := .fields #[.ref a, .int 0 0] }
  | .T, a => { cls := .type "tuple_iterator", data := .fields #[.ref a, .int 0 0] }
theorem itK_at {k : Kd} {h h' : Heap} {it a : Addr} {i : Nat} (x : itK k h it a i) (e : ∀ o, h.get? it = some o → h'.get? it = some o) : itK k h' it a i := by
  cases k with
  | L => exact Heap.IsListIter.at x e
  | T => exact Heap.IsTupleIter.at x e
theorem itK_ob {k : Kd} {h : Heap} {it a : Addr} {i : Nat} (x : itK k h it a i) : ∃ o, h.get? it = some o ∧ ∀ v, o.data ≠ .cell v := by
  cases k with
  | L => obtain ⟨o, e, _, d⟩ := x; exact ⟨o, e, fun v z => by rw [d] at z; cases z⟩
  | T => obtain ⟨o, e, _, d⟩ := x; exact ⟨o, e, fun v z => by rw [d] at z; cases z⟩
theorem itK_new {k : Kd} {h : Heap} {it a : Addr} (e : h.get? it = some (itObj k a)) : itK k h it a 0 := by
  cases k with
  | L => exact ⟨_, e, rfl, rfl⟩
  | T => exact ⟨_, e, rfl, rfl⟩
theorem drawsK {prog : Program} {w : World} {A : Around} (hh : A.handled = none) (k : Kd) (it a : Addr) (hne : a ≠ it) (xs : Array Value) :
    Draws prog w A it [it, a] xs.size (fun i v => xs[i]? = some v) (fun i h => itK k h it a i ∧ sqK k h a xs) := by
  cases k with
  | L => exact Draws.list hh it a hne xs
  | T => exact Draws.tuple hh it a hne xs
theorem beginsK (k : Kd) (a : Addr) (xs : Array Value) : Begins (.ref a) (itObj k a) fun h => sqK k h a xs := by
  cases k with
  | L => exact begins_list a xs
  | T => exact begins_tuple a xs
theorem inv_seqK {X : Cx} {pins : List (Addr × Obj)} {σ : L2.St} {H : Hp} {s : Shared} {k : Kd} {a : Addr} {vs : List V} (I : Inv X pins σ H s) (h : H a = some (hoK k vs)) : ∃ its : List Value, Vals vs its ∧ sqK k s.heap a its.toArray ∧ a < s.heap.objs.size := by
  cases k with
  | L =>
    obtain ⟨its, rv, pl, _⟩ := I.list (SqL.of h : SqL X.K H a vs)
    exact ⟨its, rv, pl.isList, I.hok.lt h⟩
  | T =>
    obtain ⟨its, rv, pl, _⟩ := I.tuple (SqT.of h : SqT X.K H a vs)
    exact ⟨its, rv, pl, I.hok.lt h⟩
/-- pairs of the items of two sequences that stand still -/
def ItZ (k1 k2 : Kd) (a b : Addr) (vs ws : List V) : It :=
  ⟨fun i H => H a = some (hoK k1 vs) ∧ H b = some (hoK k2 ws) ∧ i < vs.length ∧ i < ws.length,
    fun i H v H' => ∃ T x y, v = .ref T ∧ H T = none ∧ H' = upd H T (.tup [x, y]) ∧ vs[i]? = some x ∧ ws[i]? = some y,
    fun i H => H a = some (hoK k1 vs) ∧ H b = some (hoK k2 ws) ∧ i = min vs.length ws.length⟩
theorem turn_zipK {P : Program} {w : World} {K : W.Frag} {elts : List Expr} {kk : Nat} {tpos : Pos} {k1 k2 : Kd} {a b z TI TO i1 i2 : Addr} {vs ws : List V} (S : ZipSep2 z TI TO i1 i2 [i1, a] [i2, b]) (n1 : a ≠ i1) (n2 : b ≠ i2) :
    Turn P w K (.Tuple elts kk tpos) (ItZ k1 k2 a b vs ws) [z, TI, TO, i1, i2] z (fun i h => IsZip h z TI TO .none ∧ IsTupOf2 h TI (.ref i1) (.ref i2) ∧ (∃ x y, IsTupOf2 h TO x y) ∧ itK k1 h i1 a i ∧ itK k2 h i2 b i) where
  mem := by simp
  obj := fun i h st c hc => by
    obtain ⟨hz, hTI, ⟨x, y, hTO⟩, h1, h2⟩ := st
    have e' : c = z ∨ c = TI ∨ c = TO ∨ c = i1 ∨ c = i2 := by simpa using hc
    rcases e' with q | q | q | q | q
    · subst q; exact ⟨_, hz, fun v q => nomatch q⟩
    · subst q; exact ⟨_, hTI, fun v q => nomatch q⟩
    · subst q; exact ⟨_, hTO, fun v q => nomatch q⟩
    · subst q; exact itK_ob h1
    · subst q; exact itK_ob h2
  keep := fun i h h' st k => by
    obtain ⟨hz, hTI, ⟨x, y, hTO⟩, h1, h2⟩ := st
    exact ⟨k z (by simp) _ hz, k TI (by simp) _ hTI, ⟨x, y, k TO (by simp) _ hTO⟩, itK_at h1 fun o q => k i1 (by simp) o q, itK_at h2 fun o q => k i2 (by simp) o q⟩
  item := by
    intro X hP hw hK hc i pins s σ H E I hf st hg
    subst hP hw hK
    obtain ⟨hz, hTI, ⟨x0, y0, hTO⟩, h1, h2⟩ := st
    obtain ⟨ga, gb, l1, l2⟩ := hg
    obtain ⟨us, ru, sa, _⟩ := inv_seqK I ga
    obtain ⟨us2, ru2, sb, _⟩ := inv_seqK I gb
    have Z := GoesN.zip2 (A := X.A) (elts := elts) (x1 := kk) (pos := tpos) S (drawsK (prog := X.prog) (w := X.w) (A := X.A.in1) (I.ok.hd hc) k1 i1 a n1 us.toArray) (drawsK (prog := X.prog) (w := X.w) (A := X.A.in1) (I.ok.hd hc) k2 i2 b n2 us2.toArray)
    have e1 := ru.length
    have e2 := ru2.length
    refine wpAny_mono (Z.goes i s (fun u s2 => ∃ x H', Inv X pins σ H' s2 ∧ RelV x u ∧ (ItZ k1 k2 a b vs ws).yld i H x H' ∧ (IsZip s2.heap z TI TO .none ∧ IsTupOf2 s2.heap TI (.ref i1) (.ref i2) ∧ (∃ x y, IsTupOf2 s2.heap TO x y) ∧ itK k1 s2.heap i1 a (i + 1) ∧ itK k2 s2.heap i2 b (i + 1)) ∧ ∀ c ∈ [z, TI, TO, i1, i2], H' c = none) E
      (by simp; omega) ⟨hz, hTI, ⟨x0, y0, hTO⟩, ⟨h1, sa⟩, ⟨h2, sb⟩⟩ fun v h' tk hY st' kp htk => ?_) (fun r s1 hq => hq) (fun _ _ hq => hq)
    obtain ⟨T, x, y, rfl, hT, px, py, hIs⟩ := hY
    obtain ⟨z', TI', TO', ⟨h1', _⟩, ⟨h2', _⟩⟩ := st'
    obtain ⟨vx, hvx, rx⟩ := vals_at ru px
    obtain ⟨vy, hvy, ry⟩ := vals_at ru2 py
    have new : ObjOk X.prog X.w (upd H T (.tup [vx, vy])) h' T (.tup [vx, vy]) := ⟨by show 2 ≤ sizeLine; decide, [x, y], .cons rx (.cons ry .nil), hIs⟩
    have sub4 : ∀ c, c ∉ [z, TI, TO, i1, i2] → c ∉ [z, TO, i1, i2] := fun c hc hm => hc (by
      simp only [List.mem_cons, List.not_mem_nil, or_false] at hm ⊢
      rcases hm with q | q | q | q
      · exact .inl q
      · exact .inr (.inr (.inl q))
      · exact .inr (.inr (.inr (.inl q)))
      · exact .inr (.inr (.inr (.inr q))))
    refine ⟨.ref T, _, I.turnedNew (t' := tk) (ch := [z, TI, TO, i1, i2]) (fun c o hc q => kp c o (sub4 c hc) q) hf hT new, rfl, ⟨T, vx, vy, rfl, I.hok.fresh hT, rfl, hvx, hvy⟩, ⟨z', TI', TO', h1', h2'⟩, fun c hcm => ?_⟩
    have hlt : c < s.heap.objs.size := by
      have e' : c = z ∨ c = TI ∨ c = TO ∨ c = i1 ∨ c = i2 := by simpa using hcm
      rcases e' with q | q | q | q | q
      · subst q; exact Heap.lt_size hz
      · subst q; exact Heap.lt_size hTI
      · subst q; exact Heap.lt_size hTO
      · subst q; obtain ⟨_, e1, _⟩ := itK_ob h1; exact Heap.lt_size e1
      · subst q; obtain ⟨_, e2, _⟩ := itK_ob h2; exact Heap.lt_size e2
    rw [upd_ne (Nat.ne_of_lt (Nat.lt_of_lt_of_le hlt hT))]
    exact (hf c hcm).1
  done := by
    intro X hP hw hK hc i pins s σ H E I hf st hg
    subst hP hw hK
    obtain ⟨hz, hTI, ⟨x0, y0, hTO⟩, h1, h2⟩ := st
    obtain ⟨ga, gb, l1⟩ := hg
    obtain ⟨us, ru, sa, _⟩ := inv_seqK I ga
    obtain ⟨us2, ru2, sb, _⟩ := inv_seqK I gb
    have Z := GoesN.zip2 (A := X.A) (elts := elts) (x1 := kk) (pos := tpos) S (drawsK (prog := X.prog) (w := X.w) (A := X.A.in1) (I.ok.hd hc) k1 i1 a n1 us.toArray) (drawsK (prog := X.prog) (w := X.w) (A := X.A.in1) (I.ok.hd hc) k2 i2 b n2 us2.toArray)
    have e1 := ru.length
    have e2 := ru2.length
    have en : min us.toArray.size us2.toArray.size = i := by simp; omega
    refine Z.stops s (fun s1 => Inv X pins σ H s1) E (by rw [en]; exact ⟨hz, hTI, ⟨x0, y0, hTO⟩, ⟨h1, sa⟩, ⟨h2, sb⟩⟩) fun h' tk kp htk => ?_
    have sub4 : ∀ c, c ∉ [z, TI, TO, i1, i2] → c ∉ [z, TO, i1, i2] := fun c hc hm => hc (by
      simp only [List.mem_cons, List.not_mem_nil, or_false] at hm ⊢
      rcases hm with q | q | q | q
      · exact .inl q
      · exact .inr (.inr (.inl q))
      · exact .inr (.inr (.inr (.inl q)))
      · exact .inr (.inr (.inr (.inr q))))
    refine I.step (g' := s.gens) (d' := s.drawn) (ch := [z, TI, TO, i1, i2]) (fun c hc => ⟨(hf c hc).2.2.2.1, (hf c hc).2.1, (hf c hc).2.2.2.2.1, (hf c hc).2.2.2.2.2⟩) (fun c o _ _ hc q _ => kp c o (sub4 c hc) q) (fun c o _ _ hc q _ => ⟨o.slots, kp c o (sub4 c hc) q⟩)
      (fun _ _ _ _ n => n) (fun c o hc q => ⟨o, kp c o (sub4 c hc) q⟩) (fun _ _ q => q) (fun _ _ _ q => q) (fun c ps q => ⟨#[], by rw [q]; simp⟩) (fun m hm => ?_) (fun c u q => ?_) I.bare
    · obtain ⟨o, es, ep, ho, r⟩ := hm
      exact ⟨o, es, ep, kp _ o (sub4 _ fun hm => (hf _ hm).2.1 rfl) ho, r⟩
    · refine (I.hok c u q).stay (fun c' v' hc' q' => kp c' v' (sub4 c' fun hm => ?_) q') (fun _ q => q) fun _ _ q => q
      have := (hf c' hm).1
      rcases hc' with e | e
      · rw [e, q] at this; cases this
      · rw [e] at this; cases this
  self := fun A i s Q E st h => wpAny_pyIter_zip st.1 h
theorem zipL_len : ∀ xs ys : List D, (zipL xs ys).length = min xs.length ys.length
  | [], ys => by simp [zipL]
  | x :: xs, [] => by simp [zipL]
  | x :: xs, y :: ys => by
    simp only [zipL, List.length_cons, zipL_len xs ys]
    omega
theorem zipL_get : ∀ {xs ys : List D} {i : Nat} {d : D}, (zipL xs ys)[i]? = some d → ∃ x y, xs[i]? = some x ∧ ys[i]? = some y ∧ d = .tuple [x, y]
  | [], ys, i, d, h => by simp [zipL] at h
  | x :: xs, [], i, d, h => by simp [zipL] at h
  | x :: xs, y :: ys, 0, d, h => by
    simp only [zipL, List.getElem?_cons_zero, Option.some.injEq] at h
    exact ⟨x, y, rfl, rfl, h.symm⟩
  | x :: xs, y :: ys, i + 1, d, h => by
    simp only [zipL, List.getElem?_cons_succ] at h
    obtain ⟨u, v, h1, h2, h3⟩ := zipL_get h
    exact ⟨u, v, by simpa using h1, by simpa using h2, h3⟩
theorem mkPair {G : Hp} {T : Addr} {x y : V} {a b : D} (n : G T = none) (h1 : Dq G x a) (h2 : Dq G y b) : Rp (upd G T (.tup [x, y])) (.ref T) (.tuple [a, b]) := mkT n (.cons h1 (.cons h2 .nil))
theorem itok_zip {G : Hp} {k1 k2 : Kd} {a b : Addr} {vs ws : List V} {ds es : List D} (ha : G a = some (hoK k1 vs)) (hb : G b = some (hoK k2 ws)) (r1 : DqAll G vs ds) (r2 : DqAll G ws es) : ItOk G (ItZ k1 k2 a b vs ws) (zipL ds es) := by
  intro G1 H1 g1 g2 i
  have hA : H1 a = some (hoK k1 vs) := g2 _ _ (g1 _ _ ha)
  have hB : H1 b = some (hoK k2 ws) := g2 _ _ (g1 _ _ hb)
  refine ⟨fun d hd => ?_, fun hi => ⟨hA, hB, by rw [hi, zipL_len, dpAll_len r1, dpAll_len r2]⟩⟩
  obtain ⟨x, y, e1, e2, rfl⟩ := zipL_get hd
  obtain ⟨v, hv, rv⟩ := dpAll_get r1 e1
  obtain ⟨u, hu, ru⟩ := dpAll_get r2 e2
  refine ⟨⟨hA, hB, (List.getElem?_eq_some_iff.mp hv).1, (List.getElem?_eq_some_iff.mp hu).1⟩, fun p H2 hy => ?_⟩
  obtain ⟨T, x', y', rfl, hT, rfl, q1, q2⟩ := hy
  rw [hv] at q1
  rw [hu] at q2
  cases q1
  cases q2
  exact ⟨_, Gw.new g2 hT, mkPair (free_of g2 hT) (dp_same g1 rv) (dp_same g1 ru)⟩
theorem enuL_get : ∀ {xs : List D} {k i : Nat} {d : D}, (enuL k xs)[i]? = some d → ∃ x, xs[i]? = some x ∧ d = .tuple [.int ((k + i : Nat) : Int), x]
  | [], k, i, d, h => by simp [enuL] at h
  | x :: xs, k, 0, d, h => by
    simp only [enuL, List.getElem?_cons_zero, Option.some.injEq] at h
    exact ⟨x, rfl, h.symm⟩
  | x :: xs, k, i + 1, d, h => by
    simp only [enuL, List.getElem?_cons_succ] at h
    obtain ⟨u, h1, h2⟩ := enuL_get h
    exact ⟨u, by simpa using h1, by rw [h2, show k + 1 + i = k + (i + 1) by omega]⟩
theorem enuL_len : ∀ (xs : List D) (k : Nat), (enuL k xs).length = xs.length
  | [], _ => rfl
  | x :: xs, k => by simp only [enuL, List.length_cons, enuL_len xs]
theorem itok_enum {K : W.Frag} {G : Hp} {a : Addr} {vs : List V} {ds : List D} (h : G a = some (.lst vs)) (r : DqAll G vs ds) : ItOk G (Ite K a) (enuL 0 ds) := by
  intro G1 H1 g1 g2 i
  have hH : H1 a = some (.lst vs) := g2 _ _ (g1 _ _ h)
  refine ⟨fun d hd => ?_, fun hi => ⟨vs, SqL.of hH, by rw [dpAll_len r, hi, enuL_len]; exact Nat.le_refl _⟩⟩
  obtain ⟨x, e1, rfl⟩ := enuL_get hd
  obtain ⟨v, hv, rv⟩ := dpAll_get r e1
  refine ⟨⟨vs, v, SqL.of hH, hv⟩, fun p H2 hy => ?_⟩
  obtain ⟨T, y, rfl, hT, rfl, q⟩ := hy
  have hx := q vs (SqL.of hH)
  rw [hv] at hx
  cases hx
  refine ⟨_, Gw.new g2 hT, ?_⟩
  rw [Nat.zero_add]
  exact mkPair (free_of g2 hT) (.int _) (dp_same g1 rv)

/-- two parts, from the left -/
theorem tA_two {B : Bs} {W : WX} {G H : Hp} {σ : L2.St} {env : Env} {ma mb : Env → R D} {Q : List V → Hp → Prop} {α : Type} {ok : α → Prop} {f : D → D → R α} (o : OkG B G σ H env) (p : Pst B W G σ H ok ((ma env).bind fun a => (mb env).bind fun b => f a b))
    (hs : ∀ a b, ma env = .ok a → mb env = .ok b → Pst B W G σ H ok (f a b) → ∀ v u G' H', Gw G H G' H' → Rp G' v a → Rp G' u b → Q [v, u] H') : tCons (tD B W ma) (tCons (tD B W mb) tNil) σ H Q := by
  refine tD_bind o p fun a ea pa v G1 H1 g1 rv => ?_
  refine tD_bind (o.grow g1) (pa.grow g1 fun d hd => hd) fun b eb pb u G2 H2 g2 ru => ?_
  exact hs a b ea eb (by
    rw [eb] at pa
    exact pa) v u G2 H2 (g1.trans g2) (rv.same g2.gg) ru
theorem seqK {G : Hp} {v : V} {a : D} {ds : List D} (h : seqD a = .ok ds) (r : Rp G v a) : ∃ k p vs, v = .ref p ∧ G p = some (hoK k vs) ∧ DqAll G vs ds := by
  rcases seqD_ok h with rfl | rfl
  · obtain ⟨p, vs, e, h1, h2⟩ := rp_list r
    exact ⟨.L, p, vs, e, h1, h2⟩
  · obtain ⟨p, vs, e, h1, h2⟩ := rp_tuple r
    exact ⟨.T, p, vs, e, h1, h2⟩
theorem pi_zipD {X : Cx} {B : Bs} {W : WX} {ma mb : Env → R D} {x y : Expr} {p pos tpos : Pos} {elts : List Expr} {kk : Nat} (hg : Gl X "zip") (hm : X.mg "zip" = none) (ha : PE X x (tD B W ma)) (hb : PE X y (tD B W mb)) (s1 : noStar x = true) (s2 : noStar y = true) :
    PI X (.Tuple elts kk tpos) (.Call (.Name "zip" p) [x, y] [] pos) (tI1 B W fun e => (ma e).bind fun a => (mb e).bind fun b => (seqD a).bind fun xs => (seqD b).bind fun ys => .ok (.list (zipL xs ys))) := by
  have hst : starEach [x, y] X.env = (false, eval x X.env) :: starEach [y] X.env := star_of s1
  have hst2 : starEach [y] X.env = (false, eval y X.env) :: starEach [] X.env := star_of s2
  refine ⟨fun pins s σ H R I hw => ?_⟩
  obtain ⟨G, env, o, pp⟩ := hw
  dsimp only at pp
  have pp' : Pst B W G σ H (fun ds => ∀ J G' H', Gw G H G' H' → ItOk G' J ds → R J H') ((ma env).bind fun a => (mb env).bind fun b => (seqD a).bind fun xs => (seqD b).bind fun ys => .ok (zipL xs ys)) := by
    cases e1 : ma env with
    | exc c => rw [e1] at pp; exact pp
    | stuck => rw [e1] at pp; exact pp
    | ok a =>
      rw [e1] at pp
      cases e2 : mb env with
      | exc c => rw [e2] at pp; exact pp
      | stuck => rw [e2] at pp; exact pp
      | ok b =>
        rw [e2] at pp
        simp only [TC.R.ok_bind] at pp ⊢
        cases e3 : seqD a with
        | exc c => exact absurd e3 (nx_seq a c)
        | stuck => rw [e3] at pp; exact pp
        | ok xs =>
          rw [e3] at pp
          simp only [TC.R.ok_bind] at pp ⊢
          cases e4 : seqD b with
          | exc c => exact absurd e4 (nx_seq b c)
          | stuck => rw [e4] at pp; exact pp
          | ok ys => rw [e4] at pp; exact pp
  refine Call_ (ld_blt I hg hm PyProof.Rows.boot_zip (PyProof.Rows.callWith_type1 (thn ((pa_cons ha (pa_cons hb pa_nil hst2) hst).run pos pins s σ H (fun vs H1 => ∃ G1 xs ys v u, vs = [v, u] ∧ Gw G H G1 H1 ∧ (∃ a, seqD a = .ok xs ∧ Rp G1 v a) ∧ (∃ b, seqD b = .ok ys ∧ Rp G1 u b) ∧
    ∀ J G' H', Gw G H G' H' → ItOk G' J (zipL xs ys) → R J H') I (tA_two o pp' fun a b ea eb pf v u G' H' g rv ru => ?_)) fun us s1 ⟨vs, H1, I1, r1, G1, xs, ys, v, u, ev, g, ⟨a, h1, rv⟩, ⟨b, h2, ru⟩, q⟩ => ?_) hst (by rw [hst2]; rfl)))
  · cases e3 : seqD a with
    | exc c => exact absurd e3 (nx_seq a c)
    | stuck => rw [e3] at pf; exact pf.elim
    | ok xs =>
      rw [e3] at pf
      simp only [TC.R.ok_bind] at pf
      cases e4 : seqD b with
      | exc c => exact absurd e4 (nx_seq b c)
      | stuck => rw [e4] at pf; exact pf.elim
      | ok ys =>
        rw [e4] at pf
        exact ⟨G', xs, ys, v, u, rfl, g, ⟨a, e3, rv⟩, ⟨b, e4, ru⟩, pf⟩
  · subst ev
    obtain ⟨k1, a1, vs1, rfl, ha1, rr1⟩ := seqK h1 rv
    obtain ⟨k2, a2, vs2, rfl, ha2, rr2⟩ := seqK h2 ru
    obtain ⟨w1, w2, rfl, q1, q2⟩ := vals2 r1
    cases q1
    cases q2
    obtain ⟨us, _, sa, la⟩ := inv_seqK I1 (g.gh _ _ ha1)
    obtain ⟨us2, _, sb, lb⟩ := inv_seqK I1 (g.gh _ _ ha2)
    refine zip_begins2 (beginsK k1 a1 us.toArray) (beginsK k2 a2 us2.toArray) sa sb fun h' hz hTI hTO h1 h2 hsz hk => wpAny_pyIter_zip hz ?_
    have I2 : Inv X pins σ H1 { s1 with heap := h' } := I1.kept (t' := s1.toks) hk
    refine ⟨s1.heap.objs.size + 4, [s1.heap.objs.size + 4, s1.heap.objs.size + 2, s1.heap.objs.size + 3, s1.heap.objs.size, s1.heap.objs.size + 1], _, _, H1, rfl, I2,
      turn_zipK (k1 := k1) (k2 := k2) (vs := vs1) (ws := vs2) (zip_sep2 (fp1 := [a1]) (fp2 := [a2]) (fun c hc => by rw [List.mem_singleton.mp hc]; exact la) (fun c hc => by rw [List.mem_singleton.mp hc]; exact lb)) (Nat.ne_of_lt la) (Nat.ne_of_lt (Nat.lt_succ_of_lt lb)),
      ⟨hz, hTI, ⟨_, _, hTO⟩, itK_new h1, itK_new h2⟩, fun c hcm => ?_, q _ G1 H1 g (itok_zip ha1 ha2 rr1 rr2)⟩
    have hle : s1.heap.objs.size ≤ c := by
      have e' : c = s1.heap.objs.size + 4 ∨ c = s1.heap.objs.size + 2 ∨ c = s1.heap.objs.size + 3 ∨ c = s1.heap.objs.size ∨ c = s1.heap.objs.size + 1 := by simpa using hcm
      rcases e' with z | z | z | z | z <;> (rw [z]; first | exact Nat.le_add_right _ _ | exact Nat.le_refl _)
    exact I1.fpOk hle (I1.hok.fresh hle)
end TC
set_option Elab.async false
set_option linter.all false
set_option maxRecDepth 100000
set_option autoImplicit false
/-! DlZ2: enumerate of a list or a tuple. -/
namespace TC
open PySem PySem.Spec PyProof.Rows L2
open AutoSeq1 (wpAny_loadPart')
set_option maxHeartbeats 1000000 in
theorem meets_enum1 {v : Value} {o : Obj} {H : Heap → Prop} (B : Begins v o H) :
    Meets (Builtin.«enumerate.__new__» ⟨[.type "enumerate", v], []⟩) (fun _ R s => H s.heap ∧
      R (.ok (.ret (.ref (s.heap.push o).objs.size))) { s with heap := (s.heap.push o).push { cls := .type "enumerate", data := .fields #[.none, .bool false, .ref s.heap.objs.size, rawInt 0, .none, .none] } }) :=
  .of_wp fun prog w A R s hyp => by
    obtain ⟨hp, g, d, tk, os⟩ := s
    obtain ⟨here, fin⟩ := hyp
    have hsub := sub_enumerate
    have go : ∀ {A' : Around} {E : Value → Shared → Prop} {Q : Value → Shared → Prop}, Q (.ref hp.objs.size) ⟨hp.push o, g, d, tk, os⟩ → wpAny (model prog w) A' (pyIter v) Q E ⟨hp, g, d, tk, os⟩ :=
      fun q => B.iter prog w _ _ ⟨hp, g, d, tk, os⟩ _ here q
    wp_walk using go
    refine wpAny_stack_any fun st => wpAny_pure ?_
    split
    · rename_i c _ _ _ _ _
      cases (c == Value.type "enumerate") <;> (wp_walk using go; exact ⟨_, rfl, fin⟩)
    · wp_walk using go
      exact ⟨_, rfl, fin⟩
theorem call_enum1 {prog : Program} {w : World} {A : Around} {E : Value → Shared → Prop} {s : Shared} {v : Value} {o : Obj} {H : Heap → Prop} {Q : Value → Shared → Prop} (B : Begins v o H) (here : H s.heap)
    (fin : ∀ h', IsEnum h' (s.heap.objs.size + 1) s.heap.objs.size 0 .none → h'.get? s.heap.objs.size = some o → (∀ b o, s.heap.get? b = some o → h'.get? b = some o) → Q (.ref (s.heap.objs.size + 1)) { s with heap := h' }) :
    wpAny (model prog w) A (call (.type "enumerate") [v]) Q E s := by
  refine callType_new F.called_enumerate (by decide) (F.typeCall_enumerate_1 _) (F.newCall_enumerate_1 _) (fun obj => F.args_object_init_2 obj _) F.entry_enumerate_new (meets_enum1 B) ⟨here, ?_⟩
  have hz : (s.heap.push o).objs.size = s.heap.objs.size + 1 := Heap.size_push ..
  show _ ∧ _
  rw [hz]
  have he : ((s.heap.push o).push { cls := .type "enumerate", data := .fields #[.none, .bool false, .ref s.heap.objs.size, rawInt 0, .none, .none] }).get? (s.heap.objs.size + 1) = some { cls := .type "enumerate", data := .fields #[.none, .bool false, .ref s.heap.objs.size, rawInt 0, .none, .none] } := by
    rw [← hz]
    exact Heap.get?_push_size _ rfl
  exact ⟨⟨_, he, rfl⟩, fin _ he (Heap.get?_push_of_some _ (Heap.get?_push_size _ B.free)) fun b u x => Heap.get?_push_of_some _ (Heap.get?_push_of_some _ x)⟩
def ItN (k : Kd) (a : Addr) (vs : List V) : It :=
  ⟨fun i H => H a = some (hoK k vs) ∧ i < vs.length, fun i H v H' => ∃ T x, v = .ref T ∧ H T = none ∧ H' = upd H T (.tup [.int (i : Nat), x]) ∧ vs[i]? = some x, fun i H => H a = some (hoK k vs) ∧ i = vs.length⟩
theorem turn_enumK {P : Program} {w : World} {K : W.Frag} {elts : List Expr} {kk : Nat} {tpos : Pos} {k : Kd} {a e it : Addr} {vs : List V} (n1 : a ≠ it) (n2 : e ≠ it) (n3 : e ≠ a) :
    Turn P w K (.Tuple elts kk tpos) (ItN k a vs) [e, it] e (fun i h => (∃ old, IsEnum h e it (0 + (i : Int)) old) ∧ itK k h it a i) where
  mem := by simp
  obj := fun i h st c hc => by
    obtain ⟨⟨old, he⟩, h1⟩ := st
    have e' : c = e ∨ c = it := by simpa using hc
    rcases e' with q | q
    · subst q; exact ⟨_, he, fun v q => nomatch q⟩
    · subst q; exact itK_ob h1
  keep := fun i h h' st kp => by
    obtain ⟨⟨old, he⟩, h1⟩ := st
    exact ⟨⟨old, kp e (by simp) _ he⟩, itK_at h1 fun o q => kp it (by simp) o q⟩
  item := by
    intro X hP hw hK hc i pins s σ H E I hf st hg
    subst hP hw hK
    obtain ⟨ga, l1⟩ := hg
    obtain ⟨us, ru, sa, _⟩ := inv_seqK I ga
    have Z := GoesN.enumFrom (A := X.A) (elts := elts) (x1 := kk) (pos := tpos) 0 (drawsK (prog := X.prog) (w := X.w) (A := X.A.in1) (I.ok.hd hc) k it a n1 us.toArray) e n2 (by simp [n2, n3]) (by simp)
    have e1 := ru.length
    refine wpAny_mono (Z.goes i s (fun u s2 => ∃ x H', Inv X pins σ H' s2 ∧ RelV x u ∧ (ItN k a vs).yld i H x H' ∧ ((∃ old, IsEnum s2.heap e it (0 + ((i + 1 : Nat) : Int)) old) ∧ itK k s2.heap it a (i + 1)) ∧ ∀ c ∈ [e, it], H' c = none) E
      (by simp; omega) ⟨st.1, st.2, sa⟩ fun v h' tk hY st' kp htk => ?_) (fun r s1 hq => hq) (fun _ _ hq => hq)
    obtain ⟨T, t, x, rfl, hT, px, hIs⟩ := hY
    obtain ⟨vx, hvx, rx⟩ := vals_at ru px
    have ei : (0 : Int) + (i : Nat) = (i : Nat) := by omega
    rw [ei] at hIs
    have new : ObjOk X.prog X.w (upd H T (.tup [.int (i : Nat), vx])) h' T (.tup [.int (i : Nat), vx]) := ⟨by show 2 ≤ sizeLine; decide, [.int (i : Nat) t, x], .cons ⟨_, rfl⟩ (.cons rx .nil), hIs⟩
    refine ⟨.ref T, _, I.turnedNew (t' := tk) (ch := [e, it]) (fun c o hc q => kp c o hc q) hf hT new, rfl, ⟨T, vx, rfl, I.hok.fresh hT, rfl, hvx⟩, ⟨st'.1, st'.2.1⟩, fun c hcm => ?_⟩
    have hlt : c < s.heap.objs.size := by
      have e' : c = e ∨ c = it := by simpa using hcm
      rcases e' with q | q
      · subst q; obtain ⟨_, z⟩ := st.1; exact Heap.lt_size z
      · subst q; obtain ⟨_, z, _⟩ := itK_ob st.2; exact Heap.lt_size z
    rw [upd_ne (Nat.ne_of_lt (Nat.lt_of_lt_of_le hlt hT))]
    exact (hf c hcm).1
  done := by
    intro X hP hw hK hc i pins s σ H E I hf st hg
    subst hP hw hK
    obtain ⟨ga, l1⟩ := hg
    obtain ⟨us, ru, sa, _⟩ := inv_seqK I ga
    have Z := GoesN.enumFrom (A := X.A) (elts := elts) (x1 := kk) (pos := tpos) 0 (drawsK (prog := X.prog) (w := X.w) (A := X.A.in1) (I.ok.hd hc) k it a n1 us.toArray) e n2 (by simp [n2, n3]) (by simp)
    have e1 := ru.length
    have en : us.toArray.size = i := by simp; omega
    refine Z.stops s (fun s1 => Inv X pins σ H s1) E (by rw [en]; exact ⟨st.1, st.2, by exact sa⟩) fun h' tk kp htk => ?_
    refine I.step (g' := s.gens) (d' := s.drawn) (ch := [e, it]) (fun c hc => ⟨(hf c hc).2.2.2.1, (hf c hc).2.1, (hf c hc).2.2.2.2.1, (hf c hc).2.2.2.2.2⟩) (fun c o _ _ hc q _ => kp c o hc q) (fun c o _ _ hc q _ => ⟨o.slots, kp c o hc q⟩)
      (fun _ _ _ _ n => n) (fun c o hc q => ⟨o, kp c o hc q⟩) (fun _ _ q => q) (fun _ _ _ q => q) (fun c ps q => ⟨#[], by rw [q]; simp⟩) (fun m hm => ?_) (fun c u q => ?_) I.bare
    · obtain ⟨o, es, ep, ho, r⟩ := hm
      exact ⟨o, es, ep, kp _ o (fun hm => (hf _ hm).2.1 rfl) ho, r⟩
    · refine (I.hok c u q).stay (fun c' v' hc' q' => kp c' v' (fun hm => ?_) q') (fun _ q => q) fun _ _ q => q
      have := (hf c' hm).1
      rcases hc' with z | z
      · rw [z, q] at this; cases this
      · rw [z] at this; cases this
  self := fun A i s Q E st h => by
    obtain ⟨⟨old, he⟩, _⟩ := st
    exact wpAny_pyIter_enum he h
theorem itok_enu {G : Hp} {k : Kd} {a : Addr} {vs : List V} {ds : List D} (h : G a = some (hoK k vs)) (r : DqAll G vs ds) : ItOk G (ItN k a vs) (enuL 0 ds) := by
  intro G1 H1 g1 g2 i
  have hH : H1 a = some (hoK k vs) := g2 _ _ (g1 _ _ h)
  refine ⟨fun d hd => ?_, fun hi => ⟨hH, by rw [hi, enuL_len, dpAll_len r]⟩⟩
  obtain ⟨x, e1, rfl⟩ := enuL_get hd
  obtain ⟨v, hv, rv⟩ := dpAll_get r e1
  refine ⟨⟨hH, (List.getElem?_eq_some_iff.mp hv).1⟩, fun p H2 hy => ?_⟩
  obtain ⟨T, y, rfl, hT, rfl, q⟩ := hy
  rw [hv] at q
  cases q
  refine ⟨_, Gw.new g2 hT, ?_⟩
  rw [Nat.zero_add]
  exact mkPair (free_of g2 hT) (.int _) (dp_same g1 rv)
theorem pi_enuD {X : Cx} {B : Bs} {W : WX} {ma : Env → R D} {x : Expr} {p pos tpos : Pos} {elts : List Expr} {kk : Nat} (hg : Gl X "enumerate") (hm : X.mg "enumerate" = none) (ha : PE X x (tD B W ma)) (s1 : noStar x = true) :
    PI X (.Tuple elts kk tpos) (.Call (.Name "enumerate" p) [x] [] pos) (tI1 B W fun e => (ma e).bind fun a => (seqD a).bind fun xs => .ok (.list (enuL 0 xs))) := by
  have hst : starEach [x] X.env = (false, eval x X.env) :: starEach [] X.env := star_of s1
  refine ⟨fun pins s σ H R I hw => ?_⟩
  obtain ⟨G, env, o, pp⟩ := hw
  dsimp only at pp
  have pp' : Pst B W G σ H (fun ds => ∀ J G' H', Gw G H G' H' → ItOk G' J (enuL 0 ds) → R J H') ((ma env).bind seqD) := by
    cases e1 : ma env with
    | exc c => rw [e1] at pp; exact pp
    | stuck => rw [e1] at pp; exact pp
    | ok a =>
      rw [e1] at pp
      simp only [TC.R.ok_bind] at pp ⊢
      cases e3 : seqD a with
      | exc c => exact absurd e3 (nx_seq a c)
      | stuck => rw [e3] at pp; exact pp
      | ok xs => rw [e3] at pp; exact pp
  refine Call_ (ld_blt I hg hm boot_enumerate (PyProof.Rows.callWith_type1 (thn ((pa_cons ha pa_nil hst).run pos pins s σ H (fun vs H1 => ∃ G1 xs v, vs = [v] ∧ Gw G H G1 H1 ∧ (∃ a, seqD a = .ok xs ∧ Rp G1 v a) ∧
    ∀ J G' H', Gw G H G' H' → ItOk G' J (enuL 0 xs) → R J H') I (tD_bind o pp' fun a ea pf v G' H' g rv => ?_)) fun us s1 ⟨vs, H1, I1, r1, G1, xs, v, ev, g, ⟨a, h1, rv⟩, q⟩ => ?_) hst rfl))
  · cases e3 : seqD a with
    | exc c => exact absurd e3 (nx_seq a c)
    | stuck => rw [e3] at pf; exact pf.elim
    | ok xs =>
      rw [e3] at pf
      exact ⟨G', xs, v, rfl, g, ⟨a, e3, rv⟩, pf⟩
  · subst ev
    obtain ⟨k1, a1, vs1, rfl, ha1, rr1⟩ := seqK h1 rv
    obtain ⟨w1, rfl, q1⟩ := vals1 r1
    cases q1
    obtain ⟨us, _, sa, la⟩ := inv_seqK I1 (g.gh _ _ ha1)
    refine call_enum1 (beginsK k1 a1 us.toArray) sa fun h' he hit hk => wpAny_pyIter_enum he ?_
    have I2 : Inv X pins σ H1 { s1 with heap := h' } := I1.kept (t' := s1.toks) hk
    refine ⟨s1.heap.objs.size + 1, [s1.heap.objs.size + 1, s1.heap.objs.size], _, _, H1, rfl, I2, turn_enumK (k := k1) (vs := vs1) (Nat.ne_of_lt la) (Nat.succ_ne_self _) (Nat.ne_of_gt (Nat.lt_succ_of_lt la)), ⟨⟨.none, he⟩, itK_new hit⟩, fun c hcm => ?_, q _ G1 H1 g (itok_enu ha1 rr1)⟩
    have hle : s1.heap.objs.size ≤ c := by
      have e' : c = s1.heap.objs.size + 1 ∨ c = s1.heap.objs.size := by simpa using hcm
      rcases e' with z | z <;> (rw [z]; first | exact Nat.le_add_right _ _ | exact Nat.le_refl _)
    exact I1.fpOk hle (I1.hok.fresh hle)
end TC
set_option Elab.async false
set_option linter.all false
set_option maxRecDepth 100000
set_option autoImplicit false
/-! DlG: an expression, part by part. -/
namespace TC
open PySem PySem.Spec PyProof.Rows L2
section
variable {P : Program} {w : World} {base : Heap} {B : Bs} {F : Fns} {C : Ct} {k : Nat} {X : Cx} {W : WX} {S : Sx}

theorem d_var (c : Cok P w base B F C k X W S) {i : Nat} {x : Str} {pos : Pos} (h1 : nAt C i x = true) (h2 : isVis S x = true) (h3 : isPlainN x = true) : PE X (.Name x pos) (tD B W (getE i)) := by
  obtain ⟨p1, p2, _⟩ := plainN_of h3
  refine PE.weak (pe_var (n_of c h1) (vis_of c h2) p1 p2) fun σ H Q ⟨G, env, o, p⟩ => ?_
  unfold getE at p
  split at p
  · rename_i d e
    obtain ⟨v, e2, r⟩ := o.val e
    exact ⟨v, e2, p v G H (Gw.refl o.gH) r⟩
  · exact p.elim
theorem d_const {x : Expr} {v : V} {d : D} (h : PE X x (tC v)) (r : ∀ G, Dq G v d) : PE X x (tD B W fun _ => .ok d) :=
  PE.weak h fun σ H Q ⟨G, env, o, p⟩ => p v G H (Gw.refl o.gH) (Rp.of (r G))
theorem d_glo (c : Cok P w base B F C k X W S) {x : Str} {d : D} {pos : Pos} (h1 : isGl S x = true) (h2 : isPlainN x = true) (h3 : glHas C x d = true) : PE X (.Name x pos) (tD B W fun _ => .ok d) := by
  unfold glHas at h3
  obtain ⟨p, hp, hq⟩ := List.any_eq_true.mp h3
  rw [Bool.and_eq_true] at hq
  have ex := seq_eq hq.1
  obtain ⟨q1, q2, _⟩ := plainN_of h2
  rcases c.pk.gls p hp with ⟨i, t, e1, e2⟩ | ⟨s, t, e1, e2⟩
  · have ed : d = .int i := by
      have := hq.2
      rw [e1] at this
      cases d <;> first | cases this | skip
      rename_i j
      rw [of_decide_eq_true (show decide (i = j) = true from this)]
    subst ed
    exact d_const (v := .int i) (pe_glob (gl_of c h1) (by rw [c.em, ← ex]; exact e2) ⟨t, rfl⟩ q1) fun G => .int i
  · have ed : d = .str s := by
      have := hq.2
      rw [e1] at this
      cases d <;> first | cases this | skip
      rename_i j
      rw [seq_eq (show seq s j = true from this)]
    subst ed
    exact d_const (v := .str s) (pe_glob (gl_of c h1) (by rw [c.em, ← ex]; exact e2) ⟨t, rfl⟩ q1) fun G => .str s
variable {ma mb mc : Env → R D}
theorem d_neg {x : Expr} {pos : Pos} (h : PE X x (tD B W ma)) : PE X (.UnaryOp .USub x pos) (tD B W fun e => (ma e).bind fun x => match x with | .int i => .ok (.int (-i)) | _ => .stuck) := by
  refine PE.weak (pe_un un_neg h) fun σ H Q ⟨G, env, o, p⟩ => ?_
  refine tD_bind o p fun a ea pa v G' H' g rv => ?_
  cases a <;> first | exact pa.elim | skip
  rename_i i
  cases rp_int rv
  exact ⟨i, rfl, pa _ G' H' g (Rp.of (.int _))⟩
theorem d_not (eK : X.K = B.K) {x : Expr} {pos : Pos} (h : PE X x (tD B W ma)) : PE X (.UnaryOp .Not x pos) (tD B W fun e => (ma e).bind fun x => (truD x).bind fun b => .ok (.bool (!b))) := by
  refine PE.weak (pe_notT h) fun σ H Q ⟨G, env, o, p⟩ => ?_
  refine tD_bind o p fun a ea pa v G' H' g rv => ?_
  cases e : truD a with
  | ok b =>
    rw [e] at pa
    exact ⟨b, tru_D (X := X) g.gh rv e, pa _ G' H' g (Rp.of (.bl _))⟩
  | exc c => exact absurd e (nx_tru a c)
  | stuck => rw [e] at pa; exact pa.elim
theorem d_one {x : Expr} {pos : Pos} {op : PySem.BoolOp} (h : PE X x (tD B W ma)) : PE X (.BoolOp op [x] pos) (tD B W ma) := pe_one h
theorem d_and {x y : Expr} {r : List Expr} {pos : Pos} (h1 : PE X x (tD B W ma)) (h2 : PE X (.BoolOp .And (y :: r) pos) (tD B W mb)) : PE X (.BoolOp .And (x :: y :: r) pos) (tD B W fun e => (ma e).bind fun x => (boolD x).bind fun k => if k then mb e else .ok (.bool false)) := by
  refine PE.weak (pe_and h1 h2) fun σ H Q ⟨G, env, o, p⟩ => ?_
  refine tD_bind o p fun a ea pa v G' H' g rv => ?_
  cases a <;> first | exact pa.elim | skip
  rename_i b
  cases rp_bool rv
  refine ⟨b, rfl, ?_⟩
  cases b with
  | true => exact ⟨G', env, o.grow g, Pst.grow pa g fun d hd v2 G2 H2 g2 r2 => hd v2 G2 H2 (g.trans g2) r2⟩
  | false => exact pa _ G' H' g (Rp.of (.bl _))
theorem d_or {x y : Expr} {r : List Expr} {pos : Pos} (h1 : PE X x (tD B W ma)) (h2 : PE X (.BoolOp .Or (y :: r) pos) (tD B W mb)) : PE X (.BoolOp .Or (x :: y :: r) pos) (tD B W fun e => (ma e).bind fun x => (boolD x).bind fun k => if k then .ok (.bool true) else mb e) := by
  refine PE.weak (pe_or h1 h2) fun σ H Q ⟨G, env, o, p⟩ => ?_
  refine tD_bind o p fun a ea pa v G' H' g rv => ?_
  cases a <;> first | exact pa.elim | skip
  rename_i b
  cases rp_bool rv
  refine ⟨b, rfl, ?_⟩
  cases b with
  | false => exact ⟨G', env, o.grow g, Pst.grow pa g fun d hd v2 G2 H2 g2 r2 => hd v2 G2 H2 (g.trans g2) r2⟩
  | true => exact pa _ G' H' g (Rp.of (.bl _))
theorem d_ife {c : Env → R Bool} {x y z : Expr} {pos : Pos} (h0 : PT X x (tB1 B W c)) (h1 : PE X y (tD B W ma)) (h2 : PE X z (tD B W mb)) : PE X (.IfExp x y z pos) (tD B W fun e => (c e).bind fun k => if k then ma e else mb e) := by
  refine PE.weak (pe_ifExp h0 h1 h2) fun σ H Q ⟨G, env, o, p⟩ => ?_
  refine tB_bind o p fun b eb pb G' H' g => ?_
  cases b with
  | true => exact ⟨G', env, o.grow g, Pst.grow pb g fun d hd v2 G2 H2 g2 r2 => hd v2 G2 H2 (g.trans g2) r2⟩
  | false => exact ⟨G', env, o.grow g, Pst.grow pb g fun d hd v2 G2 H2 g2 r2 => hd v2 G2 H2 (g.trans g2) r2⟩
theorem cmp_bool {o : CmpOp} {a b d : D} (h : cmpD o a b = .ok d) : ∃ k, d = .bool k := by
  cases o with
  | Is => simp only [cmpD] at h; split at h <;> first | (cases h; exact ⟨_, rfl⟩) | cases h
  | IsNot => simp only [cmpD] at h; split at h <;> first | (cases h; exact ⟨_, rfl⟩) | cases h
  | _ => obtain ⟨b, _, e⟩ := mapB_ok h; exact ⟨_, e⟩
theorem d_chain {o1 o2 : CmpOp} (room : Room k X.A) {x y z : Expr} {pos : Pos} (h1 : PE X x (tD B W ma)) (h2 : PE X y (tD B W mb)) (h3 : PE X z (tD B W mc)) (s1 : noSet y = true) (s2 : noSet z = true) :
    PE X (.Compare x [o1, o2] [y, z] pos) (tD B W fun e => (ma e).bind fun x => (mb e).bind fun y => (cmpD o1 x y).bind fun r => (boolD r).bind fun k => if k then (mc e).bind fun z => cmpD o2 y z else .ok (.bool false)) := by
  refine PE.weak (pe_chain (or_cmp room o1) (or_cmp room o2) h1 h2 h3 (mark_of s2)) fun σ H Q ⟨G, env, o, p⟩ => ?_
  refine tD_bind o p fun a ea pa v G1 H1 g1 rv => ?_
  refine tD_bind (o.grow g1) (pa.grow g1 fun d hd => hd) fun b eb pb u G2 H2 g2 ru => ?_
  have g12 := g1.trans g2
  cases e : cmpD o1 a b with
  | exc c => exact absurd e (nx_cmp o1 a b c)
  | stuck => rw [e] at pb; exact pb.elim
  | ok d =>
    obtain ⟨q, rfl⟩ := cmp_bool e
    rw [e] at pb
    simp only [TC.R.ok_bind, boolD_bool] at pb
    refine ⟨G2, a, b, _, g2.gh, rv.same g2.gg, ru, e, fun v3 G3 H3 g3 r3 => ?_⟩
    cases rp_bool r3
    refine ⟨q, rfl, ?_⟩
    cases q with
    | false => exact pb _ G3 H3 (g12.trans g3) (Rp.of (.bl _))
    | true =>
      refine tD_bind (o.grow (g12.trans g3)) (Pst.grow pb (g2.trans g3) fun d hd => hd) fun z ez pz u3 G4 H4 g4 ru3 => ?_
      cases e2 : cmpD o2 b z with
      | exc c => exact absurd e2 (nx_cmp o2 b z c)
      | stuck => rw [e2] at pz; exact pz.elim
      | ok d2 =>
        rw [e2] at pz
        exact ⟨G4, b, z, d2, g4.gh, (ru.same g3.gg).same g4.gg, ru3, e2, fun v5 G5 H5 g5 r5 => pz v5 G5 H5 (((g12.trans g3).trans g4).trans g5) r5⟩

/-! ### argument lists, displays -/
theorem a_nil : PA X [] (tA1 B W fun _ => .ok (.list [])) := PA.weak pa_nil fun σ H Q ⟨G, env, o, p⟩ => p [] G H (Gw.refl o.gH) .nil
theorem a_cons {x : Expr} {xs : List Expr} (h1 : PE X x (tD B W ma)) (h2 : PA X xs (tA1 B W mb)) (s : noStar x = true) : PA X (x :: xs) (tA1 B W fun e => (ma e).bind fun x => (listD (mb e)).bind fun xs => .ok (.list (x :: xs))) := by
  refine PA.weak (pa_cons h1 h2 (star_of s)) fun σ H Q ⟨G, env, o, p⟩ => ?_
  have p' : Pst B W G σ H (fun ds => ∀ vs G' H', Gw G H G' H' → RpAll G' vs ds → Q vs H') ((ma env).bind fun x => (listD (mb env)).bind fun xs => .ok (x :: xs)) := by
    dsimp only at p
    cases e1 : ma env with
    | exc c => rw [e1] at p; exact p
    | stuck => rw [e1] at p; exact p
    | ok a =>
      rw [e1] at p
      simp only [TC.R.ok_bind] at p ⊢
      cases e2 : listD (mb env) with
      | exc c => rw [e2] at p; exact p
      | stuck => rw [e2] at p; exact p
      | ok ds => rw [e2] at p; exact p
  refine tD_bind o p' fun a ea pa v G1 H1 g1 rv => ?_
  refine tA_bind (o.grow g1) (pa.grow g1 fun d hd => hd) fun ds eds pd vs G2 H2 g2 rs => ?_
  exact pd (v :: vs) G2 H2 (g1.trans g2) (.cons (rv.same g2.gg) rs)
theorem rpAll_dq {G : Hp} : ∀ {vs : List V} {ds : List D}, RpAll G vs ds → (ds.all fun d => !isDict d) = true → DqAll G vs ds
  | _, _, .nil, _ => .nil
  | _, _, .cons h t, e => by
    simp only [List.all_cons, Bool.and_eq_true, Bool.not_eq_true'] at e
    exact .cons (h.dp e.1) (rpAll_dq t (by simpa using e.2))
theorem rpAll_len {G : Hp} {vs : List V} {ds : List D} (h : RpAll G vs ds) : vs.length = ds.length := Paired.length h
theorem d_tup {xs : List Expr} {n : Nat} {pos : Pos} (h : PA X xs (tA1 B W ma)) : PE X (.Tuple xs n pos) (tD B W fun e => (listD (ma e)).bind fun ds => (R.guard (seqOk ds)).bind fun _ => .ok (.tuple ds)) := by
  refine PE.weak (pe_tup h) fun σ H Q ⟨G, env, o, p⟩ => ?_
  refine tA_bind o p fun ds ea pa vs G1 H1 g1 rv => ?_
  cases e : seqOk ds with
  | false => rw [e] at pa; exact pa.elim
  | true =>
    rw [e] at pa
    unfold seqOk at e
    rw [Bool.and_eq_true] at e
    exact ⟨by rw [rpAll_len rv]; exact okLen_le e.2, fun q hq => pa _ _ _ (g1.trans (Gw.new g1.gh hq)) (mkT (free_of g1.gh hq) (rpAll_dq rv e.1))⟩
theorem d_lst {xs : List Expr} {pos : Pos} (h : PA X xs (tA1 B W ma)) : PE X (.List xs pos) (tD B W fun e => (listD (ma e)).bind fun ds => (R.guard (seqOk ds)).bind fun _ => .ok (.list ds)) := by
  refine PE.weak (pe_lst h) fun σ H Q ⟨G, env, o, p⟩ => ?_
  refine tA_bind o p fun ds ea pa vs G1 H1 g1 rv => ?_
  cases e : seqOk ds with
  | false => rw [e] at pa; exact pa.elim
  | true =>
    rw [e] at pa
    unfold seqOk at e
    rw [Bool.and_eq_true] at e
    exact ⟨by rw [rpAll_len rv]; exact okLen_le e.2, fun q hq => pa _ _ _ (g1.trans (Gw.new g1.gh hq)) (mkL (free_of g1.gh hq) (rpAll_dq rv e.1))⟩

/-! ### slices -/
theorem d_slcL {x y : Expr} {p2 pos : Pos} (h1 : PE X x (tD B W ma)) (h2 : PE X y (tD B W mb)) : PE X (.Subscript x (.Slice (some y) none none p2) pos) (tD B W fun e => (ma e).bind fun x => (mb e).bind fun l => (bndD l).bind fun l' => slcD x (some l') none) := by
  refine PE.weak (pe_slice sl_D h1 (po_some h2) po_none) fun σ H Q ⟨G, env, o, p⟩ => ?_
  refine tD_bind o p fun a ea pa v G1 H1 g1 rv => ?_
  refine tD_bind (o.grow g1) (pa.grow g1 fun d hd => hd) fun b eb pb u G2 H2 g2 ru => ?_
  cases b <;> first | exact pb.elim | skip
  rename_i i
  cases rp_int ru
  refine ⟨i, rfl, ?_⟩
  have pb' : Pst B W G1 σ H1 _ (slcD a (some i) none) := pb
  cases e : slcD a (some i) none with
  | exc c => exact absurd e (nx_slc a _ _ c)
  | stuck => rw [e] at pb'; exact pb'.elim
  | ok d =>
    rw [e] at pb'
    exact ⟨G2, a, d, g2.gh, rv.same g2.gg, e, fun v3 G3 H3 g3 r3 => pb' v3 G3 H3 ((g1.trans g2).trans g3) r3⟩
theorem d_slcH {x y : Expr} {p2 pos : Pos} (h1 : PE X x (tD B W ma)) (h2 : PE X y (tD B W mb)) : PE X (.Subscript x (.Slice none (some y) none p2) pos) (tD B W fun e => (ma e).bind fun x => (mb e).bind fun l => (bndD l).bind fun l' => slcD x none (some l')) := by
  refine PE.weak (pe_slice sl_D h1 po_none (po_some h2)) fun σ H Q ⟨G, env, o, p⟩ => ?_
  refine tD_bind o p fun a ea pa v G1 H1 g1 rv => ?_
  refine tD_bind (o.grow g1) (pa.grow g1 fun d hd => hd) fun b eb pb u G2 H2 g2 ru => ?_
  cases b <;> first | exact pb.elim | skip
  rename_i i
  cases rp_int ru
  refine ⟨i, rfl, ?_⟩
  have pb' : Pst B W G1 σ H1 _ (slcD a none (some i)) := pb
  cases e : slcD a none (some i) with
  | exc c => exact absurd e (nx_slc a _ _ c)
  | stuck => rw [e] at pb'; exact pb'.elim
  | ok d =>
    rw [e] at pb'
    exact ⟨G2, a, d, g2.gh, rv.same g2.gg, e, fun v3 G3 H3 g3 r3 => pb' v3 G3 H3 ((g1.trans g2).trans g3) r3⟩
theorem d_rev {x : Expr} {n : Nat} {p1 p2 p3 pos : Pos} (h1 : PE X x (tD B W ma)) : PE X (.Subscript x (.Slice none none (some (.UnaryOp .USub (.Constant (.int 1) n p1) p2)) p3) pos) (tD B W fun e => (ma e).bind revD) := by
  refine PE.weak (pe_revL h1) fun σ H Q ⟨G, env, o, p⟩ => ?_
  refine tD_bind o p fun a ea pa v G1 H1 g1 rv => ?_
  cases a <;> first | exact pa.elim | skip
  obtain ⟨l, vs, rfl, hl, rr⟩ := rp_list rv
  exact ⟨l, vs, rfl, SqL.of (g1.gh _ _ hl), fun q hq => pa _ _ _ (g1.trans (Gw.new g1.gh hq)) (mkL (free_of g1.gh hq) (dpAll_rev rr))⟩

/-! ### calls -/
theorem list_len {r : R D} {ds : List D} (h : listD r = .ok ds) : r = .ok (.list ds) := by
  cases r with
  | exc c => cases h
  | stuck => cases h
  | ok d =>
    cases d <;> first | cases h | skip
    rfl
theorem args_len (F : Fns) (env : Env) : ∀ (a : E) (es : List Expr) (ds : List D), chks C S a es = true → listD (ev F a env) = .ok ds → ds.length = es.length := by
  intro a
  induction a with
  | nil =>
    intro es ds h e
    cases es with
    | nil => cases e; rfl
    | cons _ _ => cases h
  | cons a r iha ihr =>
    intro es ds h e
    cases es with
    | nil => cases h
    | cons x xs =>
      have h' : (chk C S a x && noStar x && chks C S r xs) = true := h
      rw [Bool.and_eq_true] at h'
      have e' := list_len e
      have e2 : ((ev F a env).bind fun x => (listD (ev F r env)).bind fun xs => (R.ok (PyData.list (x :: xs)) : R D)) = R.ok (PyData.list ds) := e'
      obtain ⟨d, _, e3⟩ := bind_ok e2
      obtain ⟨ds', e4, e5⟩ := bind_ok e3
      cases e5
      rw [List.length_cons, List.length_cons, ihr xs ds' h'.2 e4]
  | _ => intro es ds h; cases h
theorem d_call (c : Cok P w base B F C k X W S) {a : E} {f : Str} {e : Expr} {es : List Expr} {p pos : Pos} (h1 : isGl S f = true) (h2 : isPlainN f = true) (h3 : fnHas C f (es.length + 1) = true) (hc : chks C S a (e :: es) = true) (ha : PA X (e :: es) (tA1 B W (ev F a))) (hs : noStar e = true) (hpl : (backTo pos (starEach es X.env)).any (·.1) = false) :
    PE X (.Call (.Name f p) (e :: es) [] pos) (tD B W fun e => (listD (ev F a e)).bind fun ds => F f ds) := by
  unfold fnHas at h3
  obtain ⟨f', hf, hq⟩ := List.any_eq_true.mp h3
  rw [Bool.and_eq_true] at hq
  have := seq_eq hq.1
  subst this
  have har := of_decide_eq_true hq.2
  obtain ⟨fa, fd, ps, e0, e1, e2, e3, e4⟩ := c.pk.fns _ hf
  obtain ⟨q1, _, _⟩ := plainN_of h2
  have e4' : FnOk X.prog X.w X.K X.mg X.base (L2.CX X.prog X.w) k fa fd ps (spD B.mg ps.length (F f'.1)) := by
    rw [c.eP, c.ew, c.eK, c.em, c.eb]; exact e4
  refine PE.weak (pe_callS (E := WE W) e4' c.room (gl_of c h1) (by rw [c.em]; exact e1) (by rw [c.eK]; exact e2) (by rw [c.eK]; exact e3) (fun σ => passAt c.tk σ) ha q1 (star_of hs) hpl) fun σ H Q ⟨G, env, o, p⟩ => ?_
  refine tA_bind o p fun ds ed pd vs G1 H1 g1 rv => ?_
  refine ⟨?_, G1, ds, g1.gh, rv, ?_⟩
  · rw [rpAll_len rv, args_len F env a (e :: es) ds hc ed, e0, har]
    rfl
  · cases er : F f'.1 ds with
    | ok d =>
      rw [er] at pd
      exact fun v G' H' g r => pd v G' H' (g1.trans g) r
    | exc x =>
      rw [er] at pd
      exact fun G' H' g cls hm => pd G' H' (g1.trans g) cls hm
    | stuck => rw [er] at pd; exact pd.elim
theorem d_bltF (c : Cok P w base B F C k X W S) {f : Str} {e : Expr} {es : List Expr} {p pos : Pos} {n : String} (h0 : bltFn f = some n) (h1 : isGl S f = true) (ha : PA X (e :: es) (tA1 B W ma)) (hs : noStar e = true) (hpl : (backTo pos (starEach es X.env)).any (·.1) = false) :
    PE X (.Call (.Name f p) (e :: es) [] pos) (tD B W fun e => (listD (ma e)).bind fun ds => bltD f ds) := by
  unfold bltFn at h0
  split at h0
  · rename_i hx
    have := seq_eq hx
    subst this
    exact args_D (f := lenB) (fun a => nx_lenB a) (pe_callB cr_len (gl_of c h1) (c.free (by simp)) PySem.boot_len ha (by decide) (by decide) (star_of hs) hpl) fun _ _ _ h => h
  · split at h0
    · rename_i hx
      have := seq_eq hx
      subst this
      exact args_D (f := sortB) (fun a => nx_sortB a) (pe_callB (cr_sortedD c.room) (gl_of c h1) (c.free (by simp)) (by decide +kernel) ha (by decide) (by decide) (star_of hs) hpl) fun _ _ _ h => h
    · split at h0
      · rename_i hx
        have := seq_eq hx
        subst this
        exact args_D (f := minB) (fun a => nx_minB a) (pe_callB (cr_min c.room c.calm) (gl_of c h1) (c.free (by simp)) (by decide +kernel) ha (by decide) (by decide) (star_of hs) hpl) fun _ _ _ h => h
      · split at h0
        · rename_i hx
          have := seq_eq hx
          subst this
          exact args_D (f := maxB) (fun a => nx_maxB a) (pe_callB (cr_max c.room c.calm) (gl_of c h1) (c.free (by simp)) (by decide +kernel) ha (by decide) (by decide) (star_of hs) hpl) fun _ _ _ h => h
        · cases h0
theorem d_bltT (c : Cok P w base B F C k X W S) {f : Str} {e : Expr} {es : List Expr} {p pos : Pos} {n : String} (h0 : bltTy f = some n) (h1 : isGl S f = true) (ha : PA X (e :: es) (tA1 B W ma)) (hs : noStar e = true) (hpl : (backTo pos (starEach es X.env)).any (·.1) = false) :
    PE X (.Call (.Name f p) (e :: es) [] pos) (tD B W fun e => (listD (ma e)).bind fun ds => bltD f ds) := by
  unfold bltTy at h0
  split at h0
  · rename_i hx
    have := seq_eq hx
    subst this
    exact args_D (f := listB) (fun a => nx_listB a) (pe_callTy cr_list (gl_of c h1) (c.free (by simp)) (by decide +kernel) ha (by decide) (by decide) (star_of hs) hpl) fun _ _ _ h => h
  · split at h0
    · rename_i hx
      have := seq_eq hx
      subst this
      exact args_D (f := tupB) (fun a => nx_tupB a) (pe_callTy cr_tuple (gl_of c h1) (c.free (by simp)) (by decide +kernel) ha (by decide) (by decide) (star_of hs) hpl) fun _ _ _ h => h
    · split at h0
      · rename_i hx
        have := seq_eq hx
        subst this
        exact args_D (f := intB) (fun a => nx_intB a) (pe_callTy cr_int (gl_of c h1) (c.free (by simp)) (by decide +kernel) ha (by decide) (by decide) (star_of hs) hpl) fun _ _ _ h => h
      · split at h0
        · rename_i hx
          have := seq_eq hx
          subst this
          exact args_D (f := strB) (fun a => nx_strB a) (pe_callTy cr_str (gl_of c h1) (c.free (by simp)) (by decide +kernel) ha (by decide) (by decide) (star_of hs) hpl) fun _ _ _ h => h
        · cases h0
end
end TC
set_option Elab.async false
set_option linter.all false
set_option maxRecDepth 100000
set_option autoImplicit false
/-! DlH: further expressions: ranges, isinstance, sets, methods, comprehensions, things under way. -/
namespace TC
open PySem PySem.Spec PyProof.Rows L2
section
variable {P : Program} {w : World} {base : Heap} {B : Bs} {F : Fns} {C : Ct} {k : Nat} {X : Cx} {W : WX} {S : Sx}
variable {ma mb mc : Env → R D}
theorem rngD_ok {a b d : D} (h : rngD a b = .ok d) : ∃ i j, a = .int i ∧ b = .int j ∧ (-16777216 ≤ i ∧ i ≤ 16777216) ∧ (-16777216 ≤ j ∧ j ≤ 16777216) ∧ d = .list (rngL i (j - i).toNat) := by
  unfold rngD at h
  split at h
  · obtain ⟨h1, h2⟩ := guard_ok h
    cases h2
    unfold okI at h1
    simp only [Bool.and_eq_true, decide_eq_true_eq] at h1
    exact ⟨_, _, rfl, rfl, h1.1, h1.2, rfl⟩
  · cases h
theorem rg_all {G : Hp} (a b : Int) : DqAll G (rgV a b) (rngL a (b - a).toNat) := by
  unfold rgV rngL
  generalize List.range (b - a).toNat = l
  induction l with
  | nil => exact .nil
  | cons x r ih => exact .cons (.int _) ih
theorem rng_len (lo : Int) (n : Nat) : (rngL lo n).length = n := by unfold rngL; rw [List.length_map, List.length_range]
/-- the two ends of a range -/
theorem rg_one {x : Expr} {p pos : Pos} (hg : Gl X "range") (hm : X.mg "range" = none) (ha : PE X x (tD B W ma)) (s : noStar x = true) : PRg X (.Call (.Name "range" p) [x] [] pos) (tRg1 (tD B W ma)) := prg_1 hg hm ha (star_of s)
theorem rg_two {x y : Expr} {p pos : Pos} (hg : Gl X "range") (hm : X.mg "range" = none) (ha : PE X x (tD B W ma)) (hb : PE X y (tD B W mb)) (s : noStar x = true) (s2 : noStar y = true) : PRg X (.Call (.Name "range" p) [x, y] [] pos) (tRg2 (tD B W ma) (tD B W mb)) :=
  prg_2 hg hm ha hb (star_of s) (star_of s2) (by rw [star_of s2]; rfl)
theorem pi_rng1 {tg x : Expr} {p pos : Pos} (hg : Gl X "range") (hm : X.mg "range" = none) (ha : PE X x (tD B W ma)) (s : noStar x = true) : PI X tg (.Call (.Name "range" p) [x] [] pos) (tI1 B W fun e => (ma e).bind fun x => rngD (.int 0) x) := by
  refine PI.weak (pi_range1 hg hm (pa_cons ha pa_nil (star_of s)) (star_of s)) fun σ H R ⟨G, env, o, p⟩ => ?_
  have p' : Pst B W G σ H (fun ds => ∀ J G' H', Gw G H G' H' → ItOk G' J ds → R J H') ((ma env).bind fun x => listD (rngD (.int 0) x)) := by
    dsimp only at p
    cases e : ma env with
    | ok a => rw [e] at p; exact p
    | exc c => rw [e] at p; exact p
    | stuck => rw [e] at p; exact p
  refine tD_bind o p' fun a ea pa v G1 H1 g1 rv => ?_
  cases e : rngD (.int 0) a with
  | exc c => exact absurd e (nx_rng _ a c)
  | stuck => rw [e] at pa; exact pa.elim
  | ok d =>
    rw [e] at pa
    obtain ⟨i, j, h1, rfl, h3, h4, rfl⟩ := rngD_ok e
    cases h1
    cases rp_int rv
    refine ⟨j, rfl, by omega, by omega, ?_⟩
    have := pa (Itr 0 (j - 0).toNat) G1 H1 g1 itok_rng
    rw [Int.sub_zero] at this
    exact this
theorem pi_rng2 {tg x y : Expr} {p pos : Pos} (hg : Gl X "range") (hm : X.mg "range" = none) (ha : PE X x (tD B W ma)) (hb : PE X y (tD B W mb)) (s : noStar x = true) (s2 : noStar y = true) : PI X tg (.Call (.Name "range" p) [x, y] [] pos) (tI1 B W fun e => (ma e).bind fun x => (mb e).bind fun y => rngD x y) := by
  have hs2 : starEach [y] X.env = [(false, eval y X.env)] := star_of s2
  refine PI.weak (pi_range2 hg hm (pa_cons ha (pa_cons hb pa_nil hs2) (star_of s)) (by rw [star_of s, hs2]) hs2) fun σ H R ⟨G, env, o, p⟩ => ?_
  have p' : Pst B W G σ H (fun ds => ∀ J G' H', Gw G H G' H' → ItOk G' J ds → R J H') ((ma env).bind fun x => (mb env).bind fun y => listD (rngD x y)) := by
    dsimp only at p
    cases e : ma env with
    | ok a =>
      rw [e] at p
      simp only [TC.R.ok_bind] at p ⊢
      cases e2 : mb env with
      | ok b => rw [e2] at p; exact p
      | exc c => rw [e2] at p; exact p
      | stuck => rw [e2] at p; exact p
    | exc c => rw [e] at p; exact p
    | stuck => rw [e] at p; exact p
  refine tA_two o p' fun a b ea eb pf v u G1 H1 g1 rv ru => ?_
  cases e : rngD a b with
  | exc c => exact absurd e (nx_rng a b c)
  | stuck => rw [e] at pf; exact pf.elim
  | ok d =>
    rw [e] at pf
    obtain ⟨i, j, rfl, rfl, h3, h4, rfl⟩ := rngD_ok e
    cases rp_int rv
    cases rp_int ru
    exact ⟨i, j, rfl, ⟨by omega, by omega, by omega, by omega⟩, pf (Itr i (j - i).toNat) G1 H1 g1 itok_rng⟩
theorem d_lsr1 (c : Cok P w base B F C k X W S) {x : Expr} {p p' pos pos' : Pos} (h1 : isGl S "list" = true) (h2 : isGl S "range" = true) (ha : PE X x (tD B W ma)) (s : noStar x = true) :
    PE X (.Call (.Name "list" p) [.Call (.Name "range" p') [x] [] pos'] [] pos) (tD B W fun e => (listD ((ma e).bind fun x => rngD (.int 0) x)).bind rgGuard) := by
  refine PE.weak (pe_listRg c.calm (gl_of c h1) (c.free (by simp)) (rg_one (gl_of c h2) (c.free (by simp)) ha s) rfl) fun σ H Q ⟨G, env, o, p⟩ => ?_
  have p' : Pst B W G σ H (fun d => ∀ v G' H', Gw G H G' H' → Rp G' v d → Q v H') ((ma env).bind fun x => (listD (rngD (.int 0) x)).bind rgGuard) := by
    dsimp only at p
    cases e : ma env with
    | ok a => rw [e] at p; exact p
    | exc c => rw [e] at p; exact p
    | stuck => rw [e] at p; exact p
  refine tD_bind o p' fun a ea pa v G1 H1 g1 rv => ?_
  cases e : rngD (.int 0) a with
  | exc c => exact absurd e (nx_rng _ a c)
  | stuck => rw [e] at pa; exact pa.elim
  | ok d =>
    rw [e] at pa
    obtain ⟨i, j, h1, rfl, h3, h4, rfl⟩ := rngD_ok e
    cases h1
    cases rp_int rv
    have pa' : Pst B W G σ H _ (rgGuard (rngL 0 (j - 0).toNat)) := pa
    unfold rgGuard at pa'
    cases hl : okLen (rngL 0 (j - 0).toNat).length with
    | false => rw [hl] at pa'; exact pa'.elim
    | true =>
      rw [hl] at pa'
      have hl' := okLen_le hl
      rw [rng_len, sizeLine_eq] at hl'
      exact ⟨j, rfl, ⟨by omega, by omega, by omega, by omega, hl'⟩, fun q hq => pa' _ _ _ (g1.trans (Gw.new g1.gh hq)) (mkL (free_of g1.gh hq) (rg_all 0 j))⟩
theorem d_tpr1 (c : Cok P w base B F C k X W S) {x : Expr} {p p' pos pos' : Pos} (h1 : isGl S "tuple" = true) (h2 : isGl S "range" = true) (ha : PE X x (tD B W ma)) (s : noStar x = true) :
    PE X (.Call (.Name "tuple" p) [.Call (.Name "range" p') [x] [] pos'] [] pos) (tD B W fun e => (listD ((ma e).bind fun x => rngD (.int 0) x)).bind fun ds => (rgGuard ds).bind fun _ => .ok (.tuple ds)) := by
  refine PE.weak (pe_tupRg c.calm (gl_of c h1) (c.free (by simp)) (rg_one (gl_of c h2) (c.free (by simp)) ha s) rfl) fun σ H Q ⟨G, env, o, p⟩ => ?_
  have p' : Pst B W G σ H (fun d => ∀ v G' H', Gw G H G' H' → Rp G' v d → Q v H') ((ma env).bind fun x => (listD (rngD (.int 0) x)).bind fun ds => (rgGuard ds).bind fun _ => .ok (.tuple ds)) := by
    dsimp only at p
    cases e : ma env with
    | ok a => rw [e] at p; exact p
    | exc c => rw [e] at p; exact p
    | stuck => rw [e] at p; exact p
  refine tD_bind o p' fun a ea pa v G1 H1 g1 rv => ?_
  cases e : rngD (.int 0) a with
  | exc c => exact absurd e (nx_rng _ a c)
  | stuck => rw [e] at pa; exact pa.elim
  | ok d =>
    rw [e] at pa
    obtain ⟨i, j, h1, rfl, h3, h4, rfl⟩ := rngD_ok e
    cases h1
    cases rp_int rv
    have pa' : Pst B W G σ H _ ((rgGuard (rngL 0 (j - 0).toNat)).bind fun _ => (R.ok (PyData.tuple (rngL 0 (j - 0).toNat)) : R D)) := pa
    unfold rgGuard at pa'
    cases hl : okLen (rngL 0 (j - 0).toNat).length with
    | false => rw [hl] at pa'; exact pa'.elim
    | true =>
      rw [hl] at pa'
      have hl' := okLen_le hl
      rw [rng_len, sizeLine_eq] at hl'
      exact ⟨j, rfl, ⟨by omega, by omega, by omega, by omega, hl'⟩, fun q hq => pa' _ _ _ (g1.trans (Gw.new g1.gh hq)) (mkT (free_of g1.gh hq) (rg_all 0 j))⟩
/-- two ends evaluated -/
theorem rg_ends {G H : Hp} {σ : L2.St} {env : Env} {Q : Int → Int → Hp → Prop} {α : Type} {ok : α → Prop} {f : D → D → R α} (o : OkG B G σ H env) (p : Pst B W G σ H ok ((ma env).bind fun a => (mb env).bind fun b => f a b))
    (hs : ∀ a b, Pst B W G σ H ok (f a b) → ∀ v u G' H', Gw G H G' H' → Rp G' v a → Rp G' u b → ∃ i j, v = .int i ∧ u = .int j ∧ Q i j H') : tRg2 (tD B W ma) (tD B W mb) σ H Q := by
  refine tD_bind o p fun a ea pa v G1 H1 g1 rv => ?_
  refine tD_bind (o.grow g1) (pa.grow g1 fun d hd => hd) fun b eb pb u G2 H2 g2 ru => ?_
  exact hs a b (by rw [eb] at pa; exact pa) v u G2 H2 (g1.trans g2) (rv.same g2.gg) ru
theorem d_lsr2 (c : Cok P w base B F C k X W S) {x y : Expr} {p p' pos pos' : Pos} (h1 : isGl S "list" = true) (h2 : isGl S "range" = true) (ha : PE X x (tD B W ma)) (hb : PE X y (tD B W mb)) (s : noStar x = true) (s2 : noStar y = true) :
    PE X (.Call (.Name "list" p) [.Call (.Name "range" p') [x, y] [] pos'] [] pos) (tD B W fun e => (listD ((ma e).bind fun x => (mb e).bind fun y => rngD x y)).bind rgGuard) := by
  refine PE.weak (pe_listRg c.calm (gl_of c h1) (c.free (by simp)) (rg_two (gl_of c h2) (c.free (by simp)) ha hb s s2) rfl) fun σ H Q ⟨G, env, o, p⟩ => ?_
  have p' : Pst B W G σ H (fun d => ∀ v G' H', Gw G H G' H' → Rp G' v d → Q v H') ((ma env).bind fun x => (mb env).bind fun y => (listD (rngD x y)).bind rgGuard) := by
    dsimp only at p
    cases e : ma env with
    | ok a =>
      rw [e] at p
      simp only [TC.R.ok_bind] at p ⊢
      cases e2 : mb env with
      | ok b => rw [e2] at p; exact p
      | exc c => rw [e2] at p; exact p
      | stuck => rw [e2] at p; exact p
    | exc c => rw [e] at p; exact p
    | stuck => rw [e] at p; exact p
  refine rg_ends o p' fun a b pf v u G1 H1 g1 rv ru => ?_
  cases e : rngD a b with
  | exc c => exact absurd e (nx_rng a b c)
  | stuck => rw [e] at pf; exact pf.elim
  | ok d =>
    rw [e] at pf
    obtain ⟨i, j, rfl, rfl, h3, h4, rfl⟩ := rngD_ok e
    cases rp_int rv
    cases rp_int ru
    have pa' : Pst B W G σ H _ (rgGuard (rngL i (j - i).toNat)) := pf
    unfold rgGuard at pa'
    cases hl : okLen (rngL i (j - i).toNat).length with
    | false => rw [hl] at pa'; exact pa'.elim
    | true =>
      rw [hl] at pa'
      have hl' := okLen_le hl
      rw [rng_len, sizeLine_eq] at hl'
      exact ⟨i, j, rfl, rfl, ⟨by omega, by omega, by omega, by omega, hl'⟩, fun q hq => pa' _ _ _ (g1.trans (Gw.new g1.gh hq)) (mkL (free_of g1.gh hq) (rg_all i j))⟩
theorem d_tpr2 (c : Cok P w base B F C k X W S) {x y : Expr} {p p' pos pos' : Pos} (h1 : isGl S "tuple" = true) (h2 : isGl S "range" = true) (ha : PE X x (tD B W ma)) (hb : PE X y (tD B W mb)) (s : noStar x = true) (s2 : noStar y = true) :
    PE X (.Call (.Name "tuple" p) [.Call (.Name "range" p') [x, y] [] pos'] [] pos) (tD B W fun e => (listD ((ma e).bind fun x => (mb e).bind fun y => rngD x y)).bind fun ds => (rgGuard ds).bind fun _ => .ok (.tuple ds)) := by
  refine PE.weak (pe_tupRg c.calm (gl_of c h1) (c.free (by simp)) (rg_two (gl_of c h2) (c.free (by simp)) ha hb s s2) rfl) fun σ H Q ⟨G, env, o, p⟩ => ?_
  have p' : Pst B W G σ H (fun d => ∀ v G' H', Gw G H G' H' → Rp G' v d → Q v H') ((ma env).bind fun x => (mb env).bind fun y => (listD (rngD x y)).bind fun ds => (rgGuard ds).bind fun _ => .ok (.tuple ds)) := by
    dsimp only at p
    cases e : ma env with
    | ok a =>
      rw [e] at p
      simp only [TC.R.ok_bind] at p ⊢
      cases e2 : mb env with
      | ok b => rw [e2] at p; exact p
      | exc c => rw [e2] at p; exact p
      | stuck => rw [e2] at p; exact p
    | exc c => rw [e] at p; exact p
    | stuck => rw [e] at p; exact p
  refine rg_ends o p' fun a b pf v u G1 H1 g1 rv ru => ?_
  cases e : rngD a b with
  | exc c => exact absurd e (nx_rng a b c)
  | stuck => rw [e] at pf; exact pf.elim
  | ok d =>
    rw [e] at pf
    obtain ⟨i, j, rfl, rfl, h3, h4, rfl⟩ := rngD_ok e
    cases rp_int rv
    cases rp_int ru
    have pa' : Pst B W G σ H _ ((rgGuard (rngL i (j - i).toNat)).bind fun _ => (R.ok (PyData.tuple (rngL i (j - i).toNat)) : R D)) := pf
    unfold rgGuard at pa'
    cases hl : okLen (rngL i (j - i).toNat).length with
    | false => rw [hl] at pa'; exact pa'.elim
    | true =>
      rw [hl] at pa'
      have hl' := okLen_le hl
      rw [rng_len, sizeLine_eq] at hl'
      exact ⟨i, j, rfl, rfl, ⟨by omega, by omega, by omega, by omega, hl'⟩, fun q hq => pa' _ _ _ (g1.trans (Gw.new g1.gh hq)) (mkT (free_of g1.gh hq) (rg_all i j))⟩

/-! ### isinstance, sets -/
theorem boot_ty {t : Str} {n : String} (h : isiTy t = some n) : bootBuiltins t = some (.type n) ∧ t ≠ "__name__" ∧ (t == ("__debug__" : Str)) = false ∧ t ∈ (["len", "sorted", "min", "max", "list", "tuple", "int", "str", "bool", "set", "range", "zip", "enumerate", "isinstance"] : List Str) := by
  unfold isiTy at h
  split at h
  · rename_i e; subst e; cases h; exact ⟨by decide +kernel, by decide, by decide, by simp⟩
  · split at h
    · rename_i e; subst e; cases h; exact ⟨by decide +kernel, by decide, by decide, by simp⟩
    · split at h
      · rename_i e; subst e; cases h; exact ⟨by decide +kernel, by decide, by decide, by simp⟩
      · split at h
        · rename_i e; subst e; cases h; exact ⟨by decide +kernel, by decide, by decide, by simp⟩
        · split at h
          · rename_i e; subst e; cases h; exact ⟨by decide +kernel, by decide, by decide, by simp⟩
          · cases h
theorem d_isi (c : Cok P w base B F C k X W S) {x : Expr} {t : Str} {n : String} {p p' pos : Pos} (h1 : isGl S "isinstance" = true) (h2 : isGl S t = true) (ht : isiTy t = some n) (ha : PE X x (tD B W ma)) (s : noStar x = true) :
    PE X (.Call (.Name "isinstance" p) [x, .Name t p'] [] pos) (tD B W fun e => (ma e).bind fun x => (isiD x t).bind fun b => .ok (.bool b)) := by
  obtain ⟨b1, b2, b3, b4⟩ := boot_ty ht
  refine PE.weak (pe_callB call_isi (gl_of c h1) (c.free (by simp)) (by decide +kernel) (pa_cons ha (pa_cons (pe_bltn (v := .ty n) (gl_of c h2) (c.free b4) b1 rfl b2 b3) pa_nil rfl) (star_of s)) (by decide) (by decide) (star_of s) rfl) fun σ H Q ⟨G, env, o, p⟩ => ?_
  refine tD_bind o p fun a ea pa v G1 H1 g1 rv => ?_
  cases e : isiD a t with
  | exc c => exact absurd e (nx_isi a t c)
  | stuck => rw [e] at pa; exact pa.elim
  | ok b =>
    rw [e] at pa
    obtain ⟨hd, n', e1, e2⟩ := isi_kit e
    rw [ht] at e1
    cases e1
    exact ⟨v, .ty n, .type (tyN a), .type n, b, rfl, .ty n, ty_of g1.gh rv hd, kit_ty e2, pa _ G1 H1 g1 (Rp.of (.bl _))⟩
theorem lens_ok {xs : List D} {d : D} (h : lenSetD xs = .ok d) : ∃ ns, toInts xs = some ns ∧ ns.length ≤ 1000 ∧ d = .int (ddup ns).length := by
  obtain ⟨ns, h1, h2⟩ := bind_ok h
  obtain ⟨h3, h4⟩ := guard_ok h2
  cases h4
  exact ⟨ns, ofOpt_ok h1, of_decide_eq_true h3, rfl⟩
theorem srts_ok {xs : List D} {d : D} (h : srtSetD xs = .ok d) : ∃ ns, toInts xs = some ns ∧ ns.length ≤ 60 ∧ d = .list ((isort leI (ddup ns)).map .int) := by
  obtain ⟨ns, h1, h2⟩ := bind_ok h
  obtain ⟨h3, h4⟩ := guard_ok h2
  cases h4
  exact ⟨ns, ofOpt_ok h1, of_decide_eq_true h3, rfl⟩
theorem d_lens (c : Cok P w base B F C k X W S) {x : Expr} {p p' pos pos' : Pos} (h1 : isGl S "len" = true) (h2 : isGl S "set" = true) (ha : PE X x (tD B W ma)) (s : noStar x = true) :
    PE X (.Call (.Name "len" p) [.Call (.Name "set" p') [x] [] pos'] [] pos) (tD B W fun e => (ma e).bind fun x => (seqD x).bind lenSetD) := by
  refine PE.weak (pe_callB cr_lenSet (gl_of c h1) (c.free (by simp)) PySem.boot_len (pa_cons (pe_callTy (cr_set c.calm) (gl_of c h2) (c.free (by simp)) (by decide +kernel) (pa_cons ha pa_nil (star_of s)) (by decide) (by decide) (star_of s) rfl) pa_nil rfl) (by decide) (by decide) rfl rfl) fun σ H Q ⟨G, env, o, p⟩ => ?_
  refine tD_bind o p fun a ea pa v G1 H1 g1 rv => ?_
  cases e : seqD a with
  | exc c => exact absurd e (nx_seq a c)
  | stuck => rw [e] at pa; exact pa.elim
  | ok ys =>
    rw [e] at pa
    simp only [TC.R.ok_bind] at pa
    cases e2 : lenSetD ys with
    | exc c => exact absurd e2 (nx_lens ys c)
    | stuck => rw [e2] at pa; exact pa.elim
    | ok d =>
      rw [e2] at pa
      obtain ⟨ns, e3, e4, rfl⟩ := lens_ok e2
      refine ⟨G1, a, ys, ns, g1.gh, ⟨v, rfl, rv⟩, e, e3, e4, fun q n hq hn => ⟨q, _, n, rfl, upd_same, ?_⟩⟩
      subst hn
      exact pa _ G1 _ (g1.trans (Gw.more g1.gh (same_upd hq))) (Rp.of (.int _))
theorem sorted_mem {ns l : List Int} (hs : l.Pairwise (· < ·)) (hm : ∀ i : Int, i ∈ l ↔ i ∈ ns) : l = isort leI (ddup ns) := by
  refine isortI_one ?_ (hs.imp fun h => by unfold leI; exact decide_eq_true (by omega))
  refine (List.perm_ext_iff_of_nodup (hs.imp fun h => by omega) (ddup_nodup ns)).mpr fun i => ?_
  rw [hm, mem_ddup]
theorem ints_all {G : Hp} : ∀ l : List Int, DqAll G (l.map V.int) (l.map .int)
  | [] => .nil
  | i :: l => .cons (.int i) (ints_all l)
theorem d_srts (c : Cok P w base B F C k X W S) {x : Expr} {p p' pos pos' : Pos} (h1 : isGl S "sorted" = true) (h2 : isGl S "set" = true) (ha : PE X x (tD B W ma)) (s : noStar x = true) :
    PE X (.Call (.Name "sorted" p) [.Call (.Name "set" p') [x] [] pos'] [] pos) (tD B W fun e => (ma e).bind fun x => (seqD x).bind srtSetD) := by
  refine PE.weak (pe_callB (cr_sortedSet c.calm) (gl_of c h1) (c.free (by simp)) (by decide +kernel) (pa_cons (pe_callTy (cr_set c.calm) (gl_of c h2) (c.free (by simp)) (by decide +kernel) (pa_cons ha pa_nil (star_of s)) (by decide) (by decide) (star_of s) rfl) pa_nil rfl) (by decide) (by decide) rfl rfl) fun σ H Q ⟨G, env, o, p⟩ => ?_
  refine tD_bind o p fun a ea pa v G1 H1 g1 rv => ?_
  cases e : seqD a with
  | exc c => exact absurd e (nx_seq a c)
  | stuck => rw [e] at pa; exact pa.elim
  | ok ys =>
    rw [e] at pa
    simp only [TC.R.ok_bind] at pa
    cases e2 : srtSetD ys with
    | exc c => exact absurd e2 (nx_srts ys c)
    | stuck => rw [e2] at pa; exact pa.elim
    | ok d =>
      rw [e2] at pa
      obtain ⟨ns, e3, e4, rfl⟩ := srts_ok e2
      refine ⟨G1, a, ys, ns, g1.gh, ⟨v, rfl, rv⟩, e, e3, by omega, fun q n hq hn => ⟨q, _, n, rfl, upd_same, ?_, fun l r hs hm hl hr => ?_⟩⟩
      · have := ddup_len ns
        omega
      · have g2 : Gw G1 H1 G1 _ := Gw.more g1.gh (same_upd (o := SetO X.w q (fun j => decide (j ∈ ns)) n) hq)
        have el : l = isort leI (ddup ns) := sorted_mem hs fun i => by rw [hm]; simp
        subst el
        exact pa _ _ _ ((g1.trans g2).trans (Gw.new g2.gh hr)) (mkL (free_of g2.gh hr) (ints_all _))
end
end TC
set_option Elab.async false
set_option linter.all false
set_option maxRecDepth 100000
set_option autoImplicit false
/-! DlJ: targets and comprehensions. -/
namespace TC
open PySem PySem.Spec PyProof.Rows L2

/-- only the slots vs have changed -/
def Wp (vs : List Nat) (σ σ' : L2.St) : Prop := ∀ ws : List Nat, (∀ i ∈ vs, i ∈ ws) → L2.wipe σ' ws = L2.wipe σ ws
theorem wipe_set {σ : L2.St} {i : Nat} {v : Option V} : ∀ {ws : List Nat}, i ∈ ws → L2.wipe (σ.set i v) ws = L2.wipe σ ws
  | w :: ws, h => by
    unfold L2.wipe
    by_cases hw : i ∈ ws
    · rw [wipe_set hw]
    · have e : i = w := (List.mem_cons.mp h).resolve_right hw
      subst e
      have step : ∀ ws : List Nat, i ∉ ws → L2.wipe (σ.set i v) ws = (L2.wipe σ ws).set i v := by
        intro ws
        induction ws with
        | nil => intro _; rfl
        | cons z zs ih =>
          intro hn
          have h1 : i ≠ z := fun e => hn (by rw [e]; exact List.mem_cons_self)
          have h2 : i ∉ zs := fun e => hn (List.mem_cons_of_mem _ e)
          unfold L2.wipe
          rw [ih h2, List.set_comm _ _ h1]
      rw [step ws hw, List.set_set]
theorem Wp.refl {vs : List Nat} {σ : L2.St} : Wp vs σ σ := fun _ _ => rfl
theorem Wp.trans {vs : List Nat} {σ σ1 σ2 : L2.St} (a : Wp vs σ σ1) (b : Wp vs σ1 σ2) : Wp vs σ σ2 := fun ws h => (b ws h).trans (a ws h)
theorem Wp.mono {vs us : List Nat} {σ σ1 : L2.St} (a : Wp vs σ σ1) (h : ∀ i ∈ vs, i ∈ us) : Wp us σ σ1 := fun ws q => a ws fun i hi => q i (h i hi)
def tG1 (B : Bs) (t : Tg) : TG := fun v σ H Q => ∃ G env d env', OkG B G σ H env ∧ Rp G v d ∧ asg t d env = .ok env' ∧ ∀ σ', OkG B G σ' H env' → Wp (slots t) σ σ' → Q σ' H
def tGs1 (B : Bs) (t : Tg) : TGs := fun vs σ H Q => ∃ G env ds env', OkG B G σ H env ∧ DqAll G vs ds ∧ asgs t ds env = .ok env' ∧ ∀ σ', OkG B G σ' H env' → Wp (slots t) σ σ' → Q σ' H
section
variable {P : Program} {w : World} {base : Heap} {B : Bs} {F : Fns} {C : Ct} {k : Nat} {X : Cx} {W : WX} {S : Sx}
theorem loc_of (c : Cok P w base B F C k X W S) {x : Str} (h : isTgt S x = true) : L2.Loc X.env.scope x ∧ (X.fn x = true ∨ X.env.scope.names.lookup x = some .local) := by
  unfold isTgt at h
  rw [lk_eq] at h
  unfold L2.Loc
  rw [c.es, c.ef]
  split at h
  · rename_i e
    exact ⟨.inl e, .inr e⟩
  · rename_i e
    exact ⟨.inr e, .inl h⟩
  · cases h
theorem each_of {C : Ct} {S : Sx} {env : PySem.Env} : ∀ (t : Tg) (es : List Expr), chkTs C S t es = true → (assignEach es env).findIdx? (·.1) = none
  | .nl, [], _ => rfl
  | .nl, _ :: _, h => by cases h
  | .cn _ _, [], h => by cases h
  | .cn a r, e :: es, h => by
    have h' : (chkT C S a e && noStar e && chkTs C S r es) = true := h
    rw [Bool.and_eq_true, Bool.and_eq_true] at h'
    have ih := each_of (env := env) r es h'.2
    have e1 : assignEach (e :: es) env = (false, assign e env) :: assignEach es env := by
      cases e <;> first | rfl | cases h'.1.2
    rw [e1]
    simp [List.findIdx?_cons, ih]
  | .nm _, _, h => by cases h
  | .tp _, _, h => by cases h
theorem each_snd {C : Ct} {S : Sx} {env : PySem.Env} {e : Expr} {es : List Expr} (h : noStar e = true) : (assignEach (e :: es) env).map (·.2) = assign e env :: (assignEach es env).map (·.2) := by
  cases e <;> first | rfl | cases h
def tgLen : Tg → Nat
  | .cn _ r => tgLen r + 1
  | _ => 0
theorem asgs_len : ∀ (t : Tg) (ds : List D) (e e' : Env), asgs t ds e = .ok e' → ds.length = tgLen t
  | .nl, [], _, _, _ => rfl
  | .nl, _ :: _, _, _, h => by unfold asgs at h; cases h
  | .cn _ _, [], _, _, h => by unfold asgs at h; cases h
  | .cn a r, d :: ds, e, e', h => by
    unfold asgs at h
    obtain ⟨e1, _, h2⟩ := bind_ok h
    rw [List.length_cons, asgs_len r ds e1 e' h2]
    rfl
  | .nm _, _, _, _, h => by unfold asgs at h; cases h
  | .tp _, _, _, _, h => by unfold asgs at h; cases h
theorem chkTs_len {C : Ct} {S : Sx} {env : PySem.Env} : ∀ (t : Tg) (es : List Expr), chkTs C S t es = true → (assignEach es env).length = tgLen t
  | .nl, [], _ => rfl
  | .nl, _ :: _, h => by cases h
  | .cn _ _, [], h => by cases h
  | .cn a r, e :: es, h => by
    have h' : (chkT C S a e && noStar e && chkTs C S r es) = true := h
    rw [Bool.and_eq_true, Bool.and_eq_true] at h'
    have e1 : assignEach (e :: es) env = (false, assign e env) :: assignEach es env := by
      cases e <;> first | rfl | cases h'.1.2
    rw [e1, List.length_cons, chkTs_len r es h'.2]
    rfl
  | .nm _, _, h => by cases h
  | .tp _, _, h => by cases h
theorem PG.either {e : Expr} {t t' : TG} (h : PG X e t) (h' : PG X e t') : PG X e (fun v σ H Q => t v σ H Q ∨ t' v σ H Q) :=
  ⟨fun pins s σ H v u Q I r q => q.elim (fun q => h.run pins s σ H v u Q I r q) fun q => h'.run pins s σ H v u Q I r q⟩
mutual
theorem g_tgt (c : Cok P w base B F C k X W S) : ∀ (t : Tg) (e : Expr), chkT C S t e = true → PG X e (tG1 B t)
  | .nm i, e, h => by
    cases e with
    | Name x pos =>
      have h' : (nAt C i x && isTgt S x) = true := h
      rw [Bool.and_eq_true] at h'
      obtain ⟨l1, l2⟩ := loc_of c h'.2
      refine PG.weak (pg_name (by rw [c.eN]; exact c.pk.nd) (n_of c h'.1) l1 l2) fun v σ H Q ⟨G, env, d, env', o, r, e, q⟩ => ?_
      unfold asg at e
      cases e
      exact q _ (o.setV r) fun ws hw => wipe_set (hw i (by simp [slots]))
    | _ => cases h
  | .tp r, e, h => by
    cases e with
    | Tuple es n pos =>
      have h' : chkTs C S r es = true := h
      have hs := g_tgts c r es h'
      refine PG.weak (PG.either (pg_tup c.calm hs (chkTs_len r es h') (each_of r es h')) (pg_lst c.calm hs (chkTs_len r es h') (each_of r es h'))) fun v σ H Q ⟨G, env, d, env', o, rv, e, q⟩ => ?_
      unfold asg at e
      split at e
      · obtain ⟨a, vs, rfl, ha, rr⟩ := rp_tuple rv
        exact .inl ⟨a, vs, rfl, SqT.of (o.gH _ _ ha), by rw [dpAll_len rr]; exact asgs_len r _ _ _ e, G, env, _, env', o, rr, e, q⟩
      · obtain ⟨a, vs, rfl, ha, rr⟩ := rp_list rv
        exact .inr ⟨a, vs, rfl, SqL.of (o.gH _ _ ha), by rw [dpAll_len rr]; exact asgs_len r _ _ _ e, G, env, _, env', o, rr, e, q⟩
      · cases e
    | _ => cases h
  | .nl, e, h => by cases e <;> cases h
  | .cn _ _, e, h => by cases e <;> cases h
theorem g_tgts (c : Cok P w base B F C k X W S) : ∀ (t : Tg) (es : List Expr), chkTs C S t es = true → PGs X es (tGs1 B t)
  | .nl, [], _ => by
    refine ⟨fun pins s σ H vs us Q I r ⟨G, env, ds, env', o, rr, e, q⟩ => ?_⟩
    cases ds with
    | nil =>
      cases rr
      cases r
      unfold asgs at e
      cases e
      exact pgs_nil.run pins s σ H [] [] Q I .nil ⟨rfl, q σ o Wp.refl⟩
    | cons _ _ => unfold asgs at e; cases e
  | .nl, _ :: _, h => by cases h
  | .cn _ _, [], h => by cases h
  | .cn a r, e :: es, h => by
    have h' : (chkT C S a e && noStar e && chkTs C S r es) = true := h
    rw [Bool.and_eq_true, Bool.and_eq_true] at h'
    have h1 := g_tgt c a e h'.1.1
    have h2 := g_tgts c r es h'.2
    refine ⟨fun pins s σ H vs us Q I rv ⟨G, env, ds, env', o, rr, e2, q⟩ => ?_⟩
    cases ds with
    | nil => unfold asgs at e2; cases e2
    | cons d ds =>
      cases rr with
      | cons rd rds =>
        unfold asgs at e2
        obtain ⟨env1, e3, e4⟩ := bind_ok e2
        refine (pgs_cons h1 h2 (each_snd (C := C) (S := S) h'.1.2)).run pins s σ H _ us Q I rv ⟨_, _, rfl, G, env, d, env1, o, Rp.of rd, e3, fun σ1 o1 w1 => ?_⟩
        refine ⟨G, env1, ds, env', o1, rds, e4, fun σ2 o2 w2 => q σ2 o2 ?_⟩
        exact (w1.mono fun i hi => List.mem_append_left _ hi).trans (w2.mono fun i hi => List.mem_append_right _ hi)
  | .nm _, _, h => by cases h
  | .tp _, _, h => by cases h
end

/-! ### comprehensions -/
abbrev W0 : WX := fun _ _ _ _ => False
theorem Cok.inBlk (c : Cok P w base B F C k X W S) (s : Shared) (H : Hp) (scope : Scope) (D : Addr) (cl : List (Str × Addr)) (fp : List Addr) : Cok P w base B F C k (X.blk s H scope (compEnvC scope cl D X.env) fp) W0 (blk S scope) where
  pk := c.pk
  eP := c.eP
  ew := c.ew
  eK := c.eK
  em := c.em
  eb := c.eb
  eN := c.eN
  es := by
    show relS scope X.env.scope = relS scope S.sc
    rw [c.es]
  ef := rfl
  calm := c.calm
  room := c.room
  tk := takes0
theorem lcG_step {f : Env → R D} {cd : Env → R Bool} {t : Tg} {e : Env} {x : D} {xs ys : List D} (h : lcG f cd t e (x :: xs) = .ok ys) : ∃ e1 b, asg t x e = .ok e1 ∧ cd e1 = .ok b ∧ ((b = true ∧ ∃ y r, f e1 = .ok y ∧ lcG f cd t e xs = .ok r ∧ ys = y :: r) ∨ (b = false ∧ lcG f cd t e xs = .ok ys)) := by
  unfold lcG at h
  obtain ⟨e1, h1, h2⟩ := bind_ok h
  obtain ⟨b, h3, h4⟩ := bind_ok h2
  refine ⟨e1, b, h1, h3, ?_⟩
  cases b with
  | true =>
    rw [if_pos rfl] at h4
    obtain ⟨y, h5, h6⟩ := bind_ok h4
    obtain ⟨r, h7, h8⟩ := bind_ok h6
    cases h8
    exact .inl ⟨rfl, y, r, h5, h7, rfl⟩
  | false =>
    rw [if_neg (by decide)] at h4
    exact .inr ⟨rfl, h4⟩
theorem calm_ok' {α : Type} {r : R α} {a : α} (h : calm r = .ok a) : r = .ok a := by
  cases r <;> first | cases h | skip
  rfl
/-- one clause's loop -/
theorem lc_run {G1 H1 : Hp} {σ : L2.St} {env : Env} {Q : Addr → Hp → Prop} {J : It} {ds ys : List D} {f : Env → R D} {cd : Env → R Bool} {t : Tg} {vs : List Nat} {tt : TT} {te : TE} {D0 : Addr}
    (o : OkG B G1 σ H1 env) (J1 : ItOk G1 J ds) (hv : ∀ i ∈ slots t, i ∈ vs) (hD : H1 D0 = none) (hy : lcG f cd t (wipeE env vs) ds = .ok ys) (hq : seqOk ys = true)
    (htt : ∀ σ2 G2 H2 e2 b Q2, OkG B G2 σ2 H2 e2 → cd e2 = .ok b → (∀ G' H', Gw G2 H2 G' H' → Q2 b H') → tt σ2 H2 Q2)
    (hte : ∀ σ2 G2 H2 e2 d Q2, OkG B G2 σ2 H2 e2 → f e2 = .ok d → (∀ v G' H', Gw G2 H2 G' H' → Rp G' v d → Q2 v H') → te σ2 H2 Q2)
    (hQ : ∀ G' H', Gw G1 H1 G' H' → Rp G' (.ref D0) (.list ys) → Q D0 H') :
    ∃ Wv : Nat → Nat → Hp → Prop, (∃ m, Wv 0 m (upd H1 D0 (.lst []))) ∧ ∀ i m H, Wv i m H →
      (J.stop i H ∧ Q D0 H) ∨ (J.go i H ∧ ∃ Nx : Hp → Prop, (∀ H', Nx H' → ∃ m', m' < m ∧ Wv (i + 1) m' H') ∧ ∀ x H', J.yld i H x H' → tG1 B t x (L2.wipe σ vs) H' fun σ2 H2 => L2.wipe σ2 vs = L2.wipe σ vs ∧ tt σ2 H2 fun b H3 =>
        if b = true then te σ2 H3 fun y H4 => ∃ acc, H4 D0 = some (.lst acc) ∧ acc.length < sizeLine ∧ Nx (upd H4 D0 (.lst (acc ++ [y]))) else Nx H3) := by
  let Iv : Nat → Hp → Prop := fun i H2 => ∃ G2 acc don rest, Gw G1 H1 G2 H2 ∧ G2 D0 = none ∧ H2 D0 = some (.lst acc) ∧ DqAll G2 acc don ∧ lcG f cd t (wipeE env vs) (ds.drop i) = .ok rest ∧ ys = don ++ rest
  unfold seqOk at hq
  rw [Bool.and_eq_true] at hq
  have hlen := okLen_le hq.2
  have hnd : ∀ y ∈ ys, isDict y = false := fun y hy => by simpa using List.all_eq_true.mp hq.1 y hy
  refine ⟨fun i m H2 => m = ds.length - i ∧ i ≤ ds.length ∧ Iv i H2, ⟨ds.length, by omega, Nat.zero_le _, G1, [], [], ys, ⟨Same.refl _, same_upd hD, o.gH.trans (same_upd hD), fun _ _ => rfl⟩, free_of o.gH hD, upd_same, .nil, hy, rfl⟩, ?_⟩
  rintro i m H2 ⟨rfl, hi, G2, acc, don, rest, g2, n2, hacc, rr, hl, hys⟩
  by_cases hlt : i < ds.length
  · have hds : ds[i]? = some ds[i] := List.getElem?_eq_getElem hlt
    have hdrop : ds.drop i = ds[i] :: ds.drop (i + 1) := List.drop_eq_getElem_cons hlt
    rw [hdrop] at hl
    obtain ⟨e1, b, ha, hc, hcase⟩ := lcG_step hl
    obtain ⟨j1, j2⟩ := (J1 G2 H2 g2.gg g2.gh i).1 _ hds
    refine .inr ⟨j1, Iv (i + 1), fun H' h' => ⟨ds.length - (i + 1), by omega, rfl, hlt, h'⟩, fun x H3 hx => ?_⟩
    obtain ⟨G3, g3, rx⟩ := j2 x H3 hx
    have g13 := g2.trans g3
    have n3 : G3 D0 = none := by rw [g3.nw D0 (by rw [hacc]; exact fun z => nomatch z)]; exact n2
    refine ⟨G3, wipeE env vs, ds[i], e1, (o.grow g13).wipe vs, rx, ha, fun σ2 o2 w2 => ⟨(w2 vs hv).trans ?_, ?_⟩⟩
    · have idem : ∀ us : List Nat, L2.wipe (L2.wipe σ vs) us = L2.wipe (L2.wipe σ vs) us := fun _ => rfl
      have key : ∀ (us : List Nat), (∀ i ∈ us, i ∈ vs) → L2.wipe (L2.wipe σ vs) us = L2.wipe σ vs := by
        intro us
        induction us with
        | nil => intro _; rfl
        | cons z zs ih =>
          intro hz
          show (L2.wipe (L2.wipe σ vs) zs).set z none = L2.wipe σ vs
          rw [ih fun i hi => hz i (List.mem_cons_of_mem _ hi)]
          have hz' := hz z List.mem_cons_self
          have : ∀ ws : List Nat, z ∈ ws → (L2.wipe σ ws).set z none = L2.wipe σ ws := by
            intro ws
            induction ws with
            | nil => intro h; cases h
            | cons y ys' ih2 =>
              intro hm
              unfold L2.wipe
              by_cases he : z = y
              · subst he; rw [List.set_set]
              · rw [List.set_comm _ _ (Ne.symm he), ih2 ((List.mem_cons.mp hm).resolve_left he)]
          exact this vs hz'
      exact key vs fun i hi => hi
    · refine htt σ2 G3 H3 e1 b _ o2 hc fun G4 H4 g4 => ?_
      have n4 : G4 D0 = none := by rw [g4.nw D0 (by rw [g3.hh _ _ hacc]; exact fun z => nomatch z)]; exact n3
      have a4 : H4 D0 = some (.lst acc) := g4.hh _ _ (g3.hh _ _ hacc)
      rcases hcase with ⟨rfl, y, r, hfy, hr, rfl⟩ | ⟨rfl, hr⟩
      · rw [if_pos rfl]
        refine hte σ2 G4 H4 e1 y _ (o2.grow g4) hfy fun v G5 H5 g5 rv => ?_
        have n5 : G5 D0 = none := by rw [g5.nw D0 (by rw [a4]; exact fun z => nomatch z)]; exact n4
        have a5 : H5 D0 = some (.lst acc) := g5.hh _ _ a4
        have g35 := (g3.trans g4).trans g5
        have hny : isDict y = false := hnd y (by rw [hys]; simp)
        refine ⟨acc, a5, ?_, G5, acc ++ [v], don ++ [y], r, ?_, n5, upd_same, dpAll_app (dpAll_same g35.gg rr) (.cons (rv.dp hny) .nil), hr, by rw [hys]; simp⟩
        · have e1 := dpAll_len rr
          have e2 : ys.length = don.length + (r.length + 1) := by rw [hys]; simp
          omega
        · have gg := g2.trans g35
          exact ⟨gg.gg, fun a u q => by
            have : a ≠ D0 := fun z => by rw [z, hD] at q; cases q
            rw [upd_ne this]
            exact gg.hh a u q, fun a u q => by
            have : a ≠ D0 := fun z => by rw [z, n5] at q; cases q
            rw [upd_ne this]
            exact gg.gh a u q, gg.nw⟩
      · rw [if_neg (by decide)]
        exact ⟨G4, acc, don, rest, g2.trans (g3.trans g4), n4, a4, dpAll_same (g3.trans g4).gg rr, hr, hys⟩
  · have ei : i = ds.length := by omega
    subst ei
    rw [List.drop_length] at hl
    cases hl
    rw [List.append_nil] at hys
    subst hys
    refine .inl ⟨(J1 G2 H2 g2.gg g2.gh ds.length).2 rfl, hQ (upd G2 D0 (.lst acc)) H2 ⟨g2.gg.trans (same_upd n2), g2.hh, fun a u q => ?_, fun a ha => ?_⟩ (mkL n2 rr)⟩
    · by_cases hx : a = D0
      · subst hx; rw [upd_same] at q; rw [hacc]; exact q
      · rw [upd_ne hx] at q; exact g2.gh a u q
    · have : a ≠ D0 := fun z => ha (by rw [z]; exact hD)
      rw [upd_ne this]
      exact g2.nw a ha
end
end TC
set_option Elab.async false
set_option linter.all false
set_option maxRecDepth 100000
set_option autoImplicit false
/-! DlK: comprehensions as values. -/
namespace TC
open PySem PySem.Spec PyProof.Rows L2
section
variable {P : Program} {w : World} {base : Heap} {B : Bs} {F : Fns} {C : Ct} {k : Nat} {X : Cx} {W : WX} {S : Sx}
variable {mi me mi1 : Env → R D} {mc : Env → R Bool}
def mLc (mi me : Env → R D) (mc : Env → R Bool) (t : Tg) (e : Env) : R D :=
  (listD (mi e)).bind fun xs => (calm (lcG me mc t (wipeE e (slots t)) xs)).bind fun ys => (R.guard (seqOk ys)).bind fun _ => .ok (.list ys)
def mLc2 (mi me mi1 : Env → R D) (t t1 : Tg) (e : Env) : R D :=
  (listD (mi e)).bind fun xs =>
      (calm (lcG2 (fun e1 => (listD (mi1 e1)).bind fun zs => lcG me (fun _ => .ok true) t1 (wipeE e1 (slots t1)) zs) t (wipeE e (slots t ++ slots t1)) xs)).bind fun ys =>
        (R.guard (seqOk ys)).bind fun _ => .ok (.list ys)
theorem calm_exc {α : Type} {r : R α} {c : Str} : calm r ≠ .exc c := by
  cases r <;> intro h <;> cases h
theorem tI_bind {m : Env → R D} {α : Type} {ok : α → Prop} {f : List D → R α} {G H : Hp} {σ : L2.St} {env : Env} {Q : It → Hp → Prop} (o : OkG B G σ H env) (h : Pst B W G σ H ok ((listD (m env)).bind f))
    (hs : ∀ ds, listD (m env) = .ok ds → Pst B W G σ H ok (f ds) → ∀ J G' H', Gw G H G' H' → ItOk G' J ds → Q J H') : tI1 B W m σ H Q :=
  ⟨G, env, o, Pst.step h (Gw.refl o.gH) hs⟩
theorem lc_read {tt : TT} (htt : ∀ σ2 G2 H2 e2 b Q2, OkG B G2 σ2 H2 e2 → mc e2 = .ok b → (∀ G' H', Gw G2 H2 G' H' → Q2 b H') → tt σ2 H2 Q2) {t : Tg} {σ : L2.St} {H : Hp} {Q : VK} (h : tD B W (mLc mi me mc t) σ H Q) :
    tLc (tI1 B W mi) (tG1 B t) tt (tD B W0 me) (slots t) σ H Q := by
  obtain ⟨G, env, o, p⟩ := h
  refine tI_bind o p fun ds ed pd J G1 H1 g1 j1 D0 hD => ?_
  cases e : calm (lcG me mc t (wipeE env (slots t)) ds) with
  | exc c => exact absurd e calm_exc
  | stuck => rw [e] at pd; exact pd.elim
  | ok ys =>
    rw [e] at pd
    simp only [TC.R.ok_bind] at pd
    cases eq : seqOk ys with
    | false => rw [eq] at pd; exact pd.elim
    | true =>
      rw [eq] at pd
      refine lc_run (Q := fun a H' => Q (.ref a) H') (o.grow g1) j1 (fun i hi => hi) hD (calm_ok' e) eq htt (fun σ2 G2 H2 e2 d Q2 o2 hd hq => ⟨G2, e2, o2, ?_⟩) fun G' H' g r => pd _ G' H' (g1.trans g) r
      rw [hd]
      exact hq
theorem asg_own : ∀ (t : Tg) (d : D) (e e1 : Env), asg t d e = .ok e1 → ∀ i s, e1[i]? = some s → isOwn s = true → i ∉ slots t ∧ e[i]? = some s := by
  have mk : ∀ t : Tg, (∀ (d : D) (e e1 : Env), asg t d e = .ok e1 → ∀ i s, e1[i]? = some s → isOwn s = true → i ∉ slots t ∧ e[i]? = some s) ∧ (∀ (ds : List D) (e e1 : Env), asgs t ds e = .ok e1 → ∀ i s, e1[i]? = some s → isOwn s = true → i ∉ slots t ∧ e[i]? = some s) := by
    intro t
    induction t with
    | nm j =>
      refine ⟨fun d e e1 h i s hi hs => ?_, fun ds e e1 h => by unfold asgs at h; cases h⟩
      unfold asg at h
      cases h
      by_cases hij : j = i
      · subst hij
        by_cases hl : j < e.length
        · rw [List.getElem?_set_self hl] at hi; cases hi; cases hs
        · rw [List.getElem?_eq_none (by rw [List.length_set]; omega)] at hi; cases hi
      · rw [List.getElem?_set_ne hij] at hi
        exact ⟨by simp [slots]; exact fun z => hij z.symm, hi⟩
    | tp r ih =>
      refine ⟨fun d e e1 h => ?_, fun ds e e1 h => by unfold asgs at h; cases h⟩
      unfold asg at h
      split at h
      · exact ih.2 _ _ _ h
      · exact ih.2 _ _ _ h
      · cases h
    | nl =>
      refine ⟨fun d e e1 h => (by unfold asg at h; cases h), fun ds e e1 h i s hi hs => ?_⟩
      cases ds with
      | nil => unfold asgs at h; cases h; exact ⟨by simp [slots], hi⟩
      | cons _ _ => unfold asgs at h; cases h
    | cn a r iha ihr =>
      refine ⟨fun d e e1 h => (by unfold asg at h; cases h), fun ds e e1 h i s hi hs => ?_⟩
      cases ds with
      | nil => unfold asgs at h; cases h
      | cons d ds =>
        unfold asgs at h
        obtain ⟨e2, h1, h2⟩ := bind_ok h
        obtain ⟨n1, q1⟩ := ihr.2 _ _ _ h2 i s hi hs
        obtain ⟨n2, q2⟩ := iha.1 _ _ _ h1 i s q1 hs
        exact ⟨by simp [slots]; exact ⟨n2, n1⟩, q2⟩
  exact fun t => (mk t).1
theorem Wp.out {vs : List Nat} {σ σ' : L2.St} (h : Wp vs σ σ') {i : Nat} (n : i ∉ vs) : σ'[i]? = σ[i]? := by
  rw [← wipe_out (σ := σ') n, ← wipe_out (σ := σ) n, h vs fun _ z => z]
/-- no name under way holds the place a -/
def Off (env : Env) (σ : L2.St) (a : Addr) : Prop := ∀ (i : Nat) (s : Sl), env[i]? = some s → isOwn s = true → σ[i]? ≠ some (some (V.ref a))
theorem OkG.off {G H : Hp} {σ : L2.St} {env : Env} {a : Addr} (o : OkG B G σ H env) (h : H a = none) : Off env σ a := fun i s e hs z => by
  have q := o.sl i s e
  cases s with
  | no => cases hs
  | v d => cases hs
  | own xs =>
    obtain ⟨b, vs, h1, h2, _⟩ := q
    rw [z] at h1
    cases h1
    rw [h] at h2
    cases h2
  | tab kvs =>
    obtain ⟨b, vs, h1, h2, _⟩ := q
    rw [z] at h1
    cases h1
    rw [h] at h2
    cases h2
theorem Off.asg {t : Tg} {d : D} {env e1 : Env} {σ σ' : L2.St} {a : Addr} (h : Off env σ a) (e : asg t d env = .ok e1) (wp : Wp (slots t) σ σ') : Off e1 σ' a := fun i s hi hs => by
  obtain ⟨n, q⟩ := asg_own t d env e1 e i s hi hs
  rw [wp.out n]
  exact h i s q hs
theorem OkG.chg {G H : Hp} {σ : L2.St} {env : Env} {a : Addr} {u : HO} (o : OkG B G σ H env) (f : Off env σ a) (n : G a = none) (nk : B.Ke a = none) : OkG B G σ (upd H a u) env where
  g0 := o.g0
  gH := fun b x e => by
    have : b ≠ a := fun z => by rw [z, n] at e; cases e
    rw [upd_ne this]
    exact o.gH b x e
  kH := fun b x e => by
    have : b ≠ a := fun z => by rw [z, nk] at e; cases e
    rw [upd_ne this]
    exact o.kH b x e
  dm := fun b hb z => by
    by_cases e : b = a
    · subst e; rw [upd_same] at z; cases z
    · rw [upd_ne e] at z; exact o.dm b hb z
  gd := o.gd
  len := o.len
  sl := fun i s e => by
    have q := o.sl i s e
    cases s with
    | no => exact q
    | v d => exact q
    | own xs =>
      obtain ⟨b, vs, h1, h2, h3⟩ := q
      have : b ≠ a := fun z => f i _ e rfl (by rw [h1, z])
      exact ⟨b, vs, h1, by rw [upd_ne this]; exact h2, h3⟩
    | tab kvs =>
      obtain ⟨b, vs, h1, h2, h3⟩ := q
      have : b ≠ a := fun z => f i _ e rfl (by rw [h1, z])
      exact ⟨b, vs, h1, by rw [upd_ne this]; exact h2, h3⟩
  ap := o.ap
theorem lcG2_step {g : Env → R (List D)} {t : Tg} {e : Env} {x : D} {xs ys : List D} (h : lcG2 g t e (x :: xs) = .ok ys) : ∃ e1 us zs, asg t x e = .ok e1 ∧ g e1 = .ok us ∧ lcG2 g t e xs = .ok zs ∧ ys = us ++ zs := by
  unfold lcG2 at h
  obtain ⟨e1, h1, h2⟩ := bind_ok h
  obtain ⟨us, h3, h4⟩ := bind_ok h2
  obtain ⟨zs, h5, h6⟩ := bind_ok h4
  cases h6
  exact ⟨e1, us, zs, h1, h3, h5, rfl⟩
theorem ke_none {G H : Hp} {σ : L2.St} {env : Env} {a : Addr} (o : OkG B G σ H env) (h : H a = none) : B.Ke a = none := free_of o.kH h
theorem wipe_idem {σ : L2.St} {vs : List Nat} : L2.wipe (L2.wipe σ vs) vs = L2.wipe σ vs := by
  have one : ∀ (z : Nat) (ws : List Nat), z ∈ ws → (L2.wipe σ ws).set z none = L2.wipe σ ws := by
    intro z ws
    induction ws with
    | nil => intro h; cases h
    | cons y ys' ih2 =>
      intro hm
      show ((L2.wipe σ ys').set y none).set z none = (L2.wipe σ ys').set y none
      by_cases he : z = y
      · subst he; rw [List.set_set]
      · rw [List.set_comm _ _ (Ne.symm he), ih2 ((List.mem_cons.mp hm).resolve_left he)]
  have key : ∀ (us : List Nat), (∀ i ∈ us, i ∈ vs) → L2.wipe (L2.wipe σ vs) us = L2.wipe σ vs := by
    intro us
    induction us with
    | nil => intro _; rfl
    | cons z zs ih =>
      intro hz
      show (L2.wipe (L2.wipe σ vs) zs).set z none = L2.wipe σ vs
      rw [ih fun i hi => hz i (List.mem_cons_of_mem _ hi)]
      exact one z vs (hz z List.mem_cons_self)
  exact key vs fun i hi => hi
theorem Gw.put {G H G' H' : Hp} {a : Addr} {u : HO} (g : Gw G H G' H') (n : H a = none) (n' : G' a = none) : Gw G H G' (upd H' a u) :=
  ⟨g.gg, fun b x q => by
    have : b ≠ a := fun z => by rw [z, n] at q; cases q
    rw [upd_ne this]
    exact g.hh b x q, fun b x q => by
    have : b ≠ a := fun z => by rw [z, n'] at q; cases q
    rw [upd_ne this]
    exact g.gh b x q, g.nw⟩
theorem lc2_read {t t1 : Tg} {σ : L2.St} {H : Hp} {Q : VK} (h : tD B W (mLc2 mi me mi1 t t1) σ H Q) :
    tLc2 (tI1 B W mi) (tG1 B t) tYes (tI1 B W0 mi1) (tG1 B t1) tYes (tD B W0 me) (slots t ++ slots t1) (slots t1) σ H Q := by
  obtain ⟨G, env, o, p⟩ := h
  refine tI_bind o p fun ds ed pd J G1 H1 g1 j1 D0 hD => ?_
  have o1 := o.grow g1
  generalize hvs : slots t ++ slots t1 = vs at pd ⊢
  generalize hgf : (fun e1 => (listD (mi1 e1)).bind fun zs => lcG me (fun _ => .ok true) t1 (wipeE e1 (slots t1)) zs) = gf at pd
  cases e : calm (lcG2 gf t (wipeE env vs) ds) with
  | exc c => exact absurd e calm_exc
  | stuck => rw [e] at pd; exact pd.elim
  | ok ys =>
    rw [e] at pd
    simp only [TC.R.ok_bind] at pd
    have e := calm_ok' e
    cases eq : seqOk ys with
    | false => rw [eq] at pd; exact pd.elim
    | true =>
      rw [eq] at pd
      have eq' := eq
      unfold seqOk at eq'
      rw [Bool.and_eq_true] at eq'
      have hlen := okLen_le eq'.2
      have hnd : ∀ y ∈ ys, isDict y = false := fun y hy => by simpa using List.all_eq_true.mp eq'.1 y hy
      have hKe := ke_none o1 hD
      let Iv : Nat → Hp → Prop := fun i H2 => ∃ G2 acc don rest, Gw G1 H1 G2 H2 ∧ G2 D0 = none ∧ H2 D0 = some (.lst acc) ∧ DqAll G2 acc don ∧ lcG2 gf t (wipeE env vs) (ds.drop i) = .ok rest ∧ ys = don ++ rest
      refine ⟨fun i m H2 => m = ds.length - i ∧ i ≤ ds.length ∧ Iv i H2, ⟨ds.length, by omega, Nat.zero_le _, G1, [], [], ys, ⟨Same.refl _, same_upd hD, o1.gH.trans (same_upd hD), fun _ _ => rfl⟩, free_of o1.gH hD, upd_same, .nil, e, rfl⟩, ?_⟩
      rintro i m H2 ⟨rfl, hi, G2, acc, don, rest, g2, n2, hacc, rr, hl, hys⟩
      by_cases hlt : i < ds.length
      · have hds : ds[i]? = some ds[i] := List.getElem?_eq_getElem hlt
        have hdrop : ds.drop i = ds[i] :: ds.drop (i + 1) := List.drop_eq_getElem_cons hlt
        rw [hdrop] at hl
        obtain ⟨e1, us, zs, ha, hg, hz, hrest⟩ := lcG2_step hl
        obtain ⟨jg, jy⟩ := (j1 G2 H2 g2.gg g2.gh i).1 _ hds
        refine .inr ⟨jg, Iv (i + 1), fun H' h' => ⟨ds.length - (i + 1), by omega, rfl, hlt, h'⟩, fun x H3 hx => ?_⟩
        obtain ⟨G3, g3, rx⟩ := jy x H3 hx
        have g13 := g2.trans g3
        have n3 : G3 D0 = none := by rw [g3.nw D0 (by rw [hacc]; exact fun z => nomatch z)]; exact n2
        refine ⟨G3, wipeE env vs, ds[i], e1, (o1.grow g13).wipe vs, rx, ha, fun σ2 o2 w2 => ⟨(w2 vs fun i hi => by rw [← hvs]; exact List.mem_append_left _ hi).trans wipe_idem, ?_⟩⟩
        unfold tYes
        dsimp only
        rw [if_pos rfl]
        rw [← hgf] at hg
        obtain ⟨ws, hw1, hw2⟩ := bind_ok hg
        have off2 : Off e1 σ2 D0 := ((o1.wipe vs).off hD).asg ha w2
        refine ⟨G3, e1, o2, ?_⟩
        rw [hw1]
        intro J1 G4 H4 g4 j4
        have g14 := g13.trans g4
        have n4 : G4 D0 = none := by rw [g4.nw D0 (by rw [g3.hh _ _ hacc]; exact fun z => nomatch z)]; exact n3
        have a4 : H4 D0 = some (.lst acc) := g4.hh _ _ (g3.hh _ _ hacc)
        have o4 := o2.grow g4
        let Jv : Nat → Hp → Prop := fun j H5 => ∃ G5 acc5 don5 rest5, Gw G1 H1 G5 H5 ∧ Same G4 G5 ∧ G5 D0 = none ∧ H5 D0 = some (.lst acc5) ∧ DqAll G5 acc5 don5 ∧ OkG B G5 σ2 H5 e1 ∧ lcG me (fun _ => .ok true) t1 (wipeE e1 (slots t1)) (ws.drop j) = .ok rest5 ∧ ys = don5 ++ (rest5 ++ zs)
        refine ⟨fun j k H5 => k = ws.length - j ∧ j ≤ ws.length ∧ Jv j H5, ⟨ws.length, by omega, Nat.zero_le _, G4, acc, don, us, g14, Same.refl _, n4, a4, dpAll_same (g3.trans g4).gg rr, o4, hw2, by rw [hys, hrest]⟩, ?_⟩
        rintro j m5 H5 ⟨rfl, hj, G5, acc5, don5, rest5, g5, s5, n5, a5, r5, o5, hl5, hys5⟩
        by_cases hlt5 : j < ws.length
        · have hds5 : ws[j]? = some ws[j] := List.getElem?_eq_getElem hlt5
          have hdrop5 : ws.drop j = ws[j] :: ws.drop (j + 1) := List.drop_eq_getElem_cons hlt5
          rw [hdrop5] at hl5
          obtain ⟨e5, b, ha5, hc5, hcase⟩ := lcG_step hl5
          cases hc5
          obtain ⟨y, r, hfy, hr, hrest5⟩ : ∃ y r, me e5 = .ok y ∧ lcG me (fun _ => .ok true) t1 (wipeE e1 (slots t1)) (ws.drop (j + 1)) = .ok r ∧ rest5 = y :: r := by
            rcases hcase with ⟨_, y, r, hfy, hr, hrest5⟩ | ⟨hf, _⟩
            · exact ⟨y, r, hfy, hr, hrest5⟩
            · cases hf
          obtain ⟨jg5, jy5⟩ := (j4 G5 H5 s5 g5.gh j).1 _ hds5
          refine .inr ⟨jg5, Jv (j + 1), fun H' h' => ⟨ws.length - (j + 1), by omega, rfl, hlt5, h'⟩, fun x5 H6 hx5 => ?_⟩
          obtain ⟨G6, g6, rx5⟩ := jy5 x5 H6 hx5
          have o6 := o5.grow g6
          refine ⟨G6, wipeE e1 (slots t1), ws[j], e5, o6.wipe (slots t1), rx5, ha5, fun σ3 o7 w3 => ⟨(w3 _ fun i hi => hi).trans wipe_idem, ?_⟩⟩
          rw [if_pos rfl]
          refine ⟨G6, e5, o7, ?_⟩
          rw [hfy]
          intro v G7 H7 g7 rv
          have g57 := g6.trans g7
          have n7 : G7 D0 = none := by rw [g57.nw D0 (by rw [a5]; exact fun z => nomatch z)]; exact n5
          have a7 : H7 D0 = some (.lst acc5) := g57.hh _ _ a5
          have hny : isDict y = false := hnd y (by rw [hys5, hrest5]; simp)
          refine ⟨acc5, a7, ?_, G7, acc5 ++ [v], don5 ++ [y], r, (g5.trans g57).put hD n7, s5.trans g57.gg, n7, upd_same, dpAll_app (dpAll_same g57.gg r5) (.cons (rv.dp hny) .nil), (o5.grow g57).chg off2 n7 hKe, hr, by rw [hys5, hrest5]; simp⟩
          have e1 := dpAll_len r5
          have e2 : ys.length = don5.length + ((r.length + 1) + zs.length) := by rw [hys5, hrest5]; simp only [List.length_append, List.length_cons]
          omega
        · have ej : j = ws.length := by omega
          subst ej
          rw [List.drop_length] at hl5
          cases hl5
          exact .inl ⟨(j4 G5 H5 s5 g5.gh ws.length).2 rfl, G5, acc5, don5, zs, g5, n5, a5, r5, hz, by rw [hys5]; simp⟩
      · have ei : i = ds.length := by omega
        subst ei
        rw [List.drop_length] at hl
        cases hl
        rw [List.append_nil] at hys
        subst hys
        refine .inl ⟨(j1 G2 H2 g2.gg g2.gh ds.length).2 rfl, pd (.ref D0) (upd G2 D0 (.lst acc)) H2 (g1.trans ⟨g2.gg.trans (same_upd n2), g2.hh, fun a u q => ?_, fun a ha => ?_⟩) (mkL n2 rr)⟩
        · by_cases hx : a = D0
          · subst hx; rw [upd_same] at q; rw [hacc]; exact q
          · rw [upd_ne hx] at q; exact g2.gh a u q
        · have : a ≠ D0 := fun z => ha (by rw [z]; exact hD)
          rw [upd_ne this]
          exact g2.nw a ha
theorem own_slots (C : Ct) (t : Tg) : (ownOf C t).map (·.2) = slots t := by
  unfold ownOf
  rw [List.map_map]
  exact List.map_id _
theorem own_slots2 (C : Ct) (t t1 : Tg) : (ownOf C t ++ ownOf C t1).map (·.2) = slots t ++ slots t1 := by
  rw [List.map_append, own_slots, own_slots]
abbrev InB (X : Cx) (scope : Scope) (f : Cx → Prop) : Prop := ∀ (s : Shared) (H : Hp) (D : Addr) (cl : List (Str × Addr)) (fp : List Addr), f (X.blk s H scope (compEnvC scope cl D X.env) fp)
theorem yes_tt {B : Bs} {σ2 : L2.St} {G2 H2 : Hp} {e2 : Env} {b : Bool} {Q2 : Bool → Hp → Prop} (o : OkG B G2 σ2 H2 e2) (h : (fun _ => R.ok true : Env → R Bool) e2 = .ok b) (q : ∀ G' H', Gw G2 H2 G' H' → Q2 b H') : tYes σ2 H2 Q2 := by
  cases h
  exact q G2 H2 (Gw.refl o.gH)
theorem test_tt {B : Bs} {mc : Env → R Bool} {σ2 : L2.St} {G2 H2 : Hp} {e2 : Env} {b : Bool} {Q2 : Bool → Hp → Prop} (o : OkG B G2 σ2 H2 e2) (h : mc e2 = .ok b) (q : ∀ G' H', Gw G2 H2 G' H' → Q2 b H') : tB1 B W0 mc σ2 H2 Q2 := by
  refine ⟨G2, e2, o, ?_⟩
  rw [h]
  exact q
theorem d_lc (c : Cok P w base B F C k X W S) {t : Tg} {elt tg iter : Expr} {scope : Scope} {pos : Pos} (hb : blkC C.N S.sc scope (ownOf C t) = true) (hs : noSet iter = true) (ht : chkT C (blk S scope) t tg = true)
    (hi : PI X tg iter (tI1 B W mi)) (he : InB X scope fun X' => PE X' elt (tD B W0 me)) : PE X (.ListComp elt [⟨tg, iter, [], 0⟩] scope pos) (tD B W (mLc mi me (fun _ => .ok true) t)) := by
  have h := pe_lc (own := ownOf C t) (pos := pos) (g := tG1 B t) c.calm (by rw [c.eN]; exact c.pk.nd) hi (blkOk_by (by rw [c.eN, c.es]; exact hb)) (fun s H D cl fp => g_tgt (c.inBlk s H scope D cl fp) t tg ht) (fun s H D cl fp => pts_nil) he (fset_of hs X.env)
  rw [own_slots] at h
  exact PE.weak h fun σ H Q q => lc_read (fun _ _ _ _ _ _ => yes_tt) q
theorem d_lcf (c : Cok P w base B F C k X W S) {t : Tg} {elt tg iter cnd : Expr} {scope : Scope} {pos : Pos} (hb : blkC C.N S.sc scope (ownOf C t) = true) (hs : noSet iter = true) (ht : chkT C (blk S scope) t tg = true)
    (hi : PI X tg iter (tI1 B W mi)) (hc : InB X scope fun X' => PT X' cnd (tB1 B W0 mc)) (he : InB X scope fun X' => PE X' elt (tD B W0 me)) : PE X (.ListComp elt [⟨tg, iter, [cnd], 0⟩] scope pos) (tD B W (mLc mi me mc t)) := by
  have h := pe_lc (own := ownOf C t) (pos := pos) (g := tG1 B t) c.calm (by rw [c.eN]; exact c.pk.nd) hi (blkOk_by (by rw [c.eN, c.es]; exact hb)) (fun s H D cl fp => g_tgt (c.inBlk s H scope D cl fp) t tg ht) (fun s H D cl fp => pts_one (hc s H D cl fp)) he (fset_of hs X.env)
  rw [own_slots] at h
  exact PE.weak h fun σ H Q q => lc_read (fun _ _ _ _ _ _ => test_tt) q
theorem d_lc2 (c : Cok P w base B F C k X W S) {t t1 : Tg} {elt tg iter tg1 iter1 : Expr} {scope : Scope} {pos : Pos} (hb : blkC C.N S.sc scope (ownOf C t ++ ownOf C t1) = true) (hs : noSet iter = true) (hs1 : noSet iter1 = true) (ht : chkT C (blk S scope) t tg = true) (ht1 : chkT C (blk S scope) t1 tg1 = true)
    (hi : PI X tg iter (tI1 B W mi)) (hi1 : InB X scope fun X' => PI X' tg1 iter1 (tI1 B W0 mi1)) (he : InB X scope fun X' => PE X' elt (tD B W0 me)) :
    PE X (.ListComp elt [⟨tg, iter, [], 0⟩, ⟨tg1, iter1, [], 0⟩] scope pos) (tD B W (mLc2 mi me mi1 t t1)) := by
  have h := pe_lc2 (own := ownOf C t ++ ownOf C t1) (vs1 := slots t1) (pos := pos) (g := tG1 B t) (g1 := tG1 B t1) c.calm (by rw [c.eN]; exact c.pk.nd) hi (blkOk_by (by rw [c.eN, c.es]; exact hb)) (by rw [own_slots2]; exact fun i hi => List.mem_append_right _ hi) (fun s H D cl fp => g_tgt (c.inBlk s H scope D cl fp) t tg ht) (fun s H D cl fp => pts_nil) hi1
    (fun s H D cl fp => g_tgt (c.inBlk s H scope D cl fp) t1 tg1 ht1) (fun s H D cl fp => pts_nil) he (fset_of hs X.env) (fun e => fset_of hs1 e)
  rw [own_slots2] at h
  exact PE.weak h fun σ H Q q => lc2_read q
/-- a name takes a comprehension's list -/
theorem s_lc (c : Cok P w base B F C k X W S) {i : Nat} {y : Str} {py spos : Pos} {t : Tg} {elt tg iter : Expr} {scope : Scope} {pos : Pos} (hy : nAt C i y = true) (hyl : X.env.scope.names.lookup y = some .local) (hsw : swapsWith (.ListComp elt [⟨tg, iter, [], 0⟩] scope pos) (some (.Name y py)) spos.line X.env = pure true)
    (hb : blkC C.N S.sc scope (ownOf C t) = true) (hs : noSet iter = true) (ht : chkT C (blk S scope) t tg = true)
    (hi : PI X tg iter (tI1 B W mi)) (he : InB X scope fun X' => PE X' elt (tD B W0 me)) : PS X (.Assign [.Name y py] (.ListComp elt [⟨tg, iter, [], 0⟩] scope pos) spos) (tAsg (tD B W (mLc mi me (fun _ => .ok true) t)) (gName i)) := by
  have h := ps_setLc (own := ownOf C t) (pos := pos) (g := tG1 B t) c.calm (by rw [c.eN]; exact c.pk.nd) (n_of c hy) hyl hsw hi (blkOk_by (by rw [c.eN, c.es]; exact hb)) (fun s H D cl fp => g_tgt (c.inBlk s H scope D cl fp) t tg ht) (fun s H D cl fp => pts_nil) he (fset_of hs X.env)
  rw [own_slots] at h
  exact PS.weak h fun D σ H q => lc_read (Q := fun x H1 => gName i x σ H1 D.nx) (fun _ _ _ _ _ _ => yes_tt) q
theorem s_lcf (c : Cok P w base B F C k X W S) {i : Nat} {y : Str} {py spos : Pos} {t : Tg} {elt tg iter cnd : Expr} {scope : Scope} {pos : Pos} (hy : nAt C i y = true) (hyl : X.env.scope.names.lookup y = some .local) (hsw : swapsWith (.ListComp elt [⟨tg, iter, [cnd], 0⟩] scope pos) (some (.Name y py)) spos.line X.env = pure true)
    (hb : blkC C.N S.sc scope (ownOf C t) = true) (hs : noSet iter = true) (ht : chkT C (blk S scope) t tg = true)
    (hi : PI X tg iter (tI1 B W mi)) (hc : InB X scope fun X' => PT X' cnd (tB1 B W0 mc)) (he : InB X scope fun X' => PE X' elt (tD B W0 me)) : PS X (.Assign [.Name y py] (.ListComp elt [⟨tg, iter, [cnd], 0⟩] scope pos) spos) (tAsg (tD B W (mLc mi me mc t)) (gName i)) := by
  have h := ps_setLc (own := ownOf C t) (pos := pos) (g := tG1 B t) c.calm (by rw [c.eN]; exact c.pk.nd) (n_of c hy) hyl hsw hi (blkOk_by (by rw [c.eN, c.es]; exact hb)) (fun s H D cl fp => g_tgt (c.inBlk s H scope D cl fp) t tg ht) (fun s H D cl fp => pts_one (hc s H D cl fp)) he (fset_of hs X.env)
  rw [own_slots] at h
  exact PS.weak h fun D σ H q => lc_read (Q := fun x H1 => gName i x σ H1 D.nx) (fun _ _ _ _ _ _ => test_tt) q
theorem s_lc2 (c : Cok P w base B F C k X W S) {i : Nat} {y : Str} {py spos : Pos} {t t1 : Tg} {elt tg iter tg1 iter1 : Expr} {scope : Scope} {pos : Pos} (hy : nAt C i y = true) (hyl : X.env.scope.names.lookup y = some .local) (hsw : swapsWith (.ListComp elt [⟨tg, iter, [], 0⟩, ⟨tg1, iter1, [], 0⟩] scope pos) (some (.Name y py)) spos.line X.env = pure true)
    (hb : blkC C.N S.sc scope (ownOf C t ++ ownOf C t1) = true) (hs : noSet iter = true) (hs1 : noSet iter1 = true) (ht : chkT C (blk S scope) t tg = true) (ht1 : chkT C (blk S scope) t1 tg1 = true)
    (hi : PI X tg iter (tI1 B W mi)) (hi1 : InB X scope fun X' => PI X' tg1 iter1 (tI1 B W0 mi1)) (he : InB X scope fun X' => PE X' elt (tD B W0 me)) :
    PS X (.Assign [.Name y py] (.ListComp elt [⟨tg, iter, [], 0⟩, ⟨tg1, iter1, [], 0⟩] scope pos) spos) (tAsg (tD B W (mLc2 mi me mi1 t t1)) (gName i)) := by
  have h := ps_setLc2 (own := ownOf C t ++ ownOf C t1) (vs1 := slots t1) (pos := pos) (g := tG1 B t) (g1 := tG1 B t1) c.calm (by rw [c.eN]; exact c.pk.nd) (n_of c hy) hyl hsw hi (blkOk_by (by rw [c.eN, c.es]; exact hb)) (by rw [own_slots2]; exact fun i hi => List.mem_append_right _ hi) (fun s H D cl fp => g_tgt (c.inBlk s H scope D cl fp) t tg ht) (fun s H D cl fp => pts_nil) hi1
    (fun s H D cl fp => g_tgt (c.inBlk s H scope D cl fp) t1 tg1 ht1) (fun s H D cl fp => pts_nil) he (fset_of hs X.env) (fun e => fset_of hs1 e)
  rw [own_slots2] at h
  exact PS.weak h fun D σ H q => lc2_read (Q := fun x H1 => gName i x σ H1 D.nx) q
end
end TC
set_option Elab.async false
set_option linter.all false
set_option maxRecDepth 100000
set_option autoImplicit false
/-! DlL: things under way read; methods; tests. -/
namespace TC
open PySem PySem.Spec PyProof.Rows L2
section
variable {P : Program} {w : World} {base : Heap} {B : Bs} {F : Fns} {C : Ct} {k : Nat} {X : Cx} {W : WX} {S : Sx}
variable {ma mb mc : Env → R D}
/-- where a name under way stands -/
theorem OkG.ownAt {G H : Hp} {σ : L2.St} {env : Env} {i : Nat} {xs : List D} (o : OkG B G σ H env) (e : env[i]? = some (.own xs)) : ∃ a vs, σ[i]? = some (some (.ref a)) ∧ H a = some (.lst vs) ∧ DqAll G vs xs ∧ G a = none ∧ B.Ke a = none ∧ ¬ B.Dm a := o.sl i _ e
theorem OkG.tabAt {G H : Hp} {σ : L2.St} {env : Env} {i : Nat} {kvs : List (List Int × D)} (o : OkG B G σ H env) (e : env[i]? = some (.tab kvs)) : ∃ a ks, σ[i]? = some (some (.ref a)) ∧ H a = some (.dT ks) ∧ Paired (RowOk G) ks kvs ∧ G a = none ∧ B.Ke a = none ∧ ¬ B.Dm a := o.sl i _ e
theorem getO_ok {i : Nat} {e : Env} {xs : List D} (h : getO i e = .ok xs) : e[i]? = some (.own xs) := by
  unfold getO at h
  split at h
  · rename_i q; cases h; exact q
  · cases h
theorem getTb_ok {i : Nat} {e : Env} {xs : List (List Int × D)} (h : getTb i e = .ok xs) : e[i]? = some (.tab xs) := by
  unfold getTb at h
  split at h
  · rename_i q; cases h; exact q
  · cases h
theorem nx_getO (i : Nat) (e : Env) : NX (getO i e) := by unfold getO; split <;> first | exact nx_ok | exact nx_stuck
theorem nx_getTb (i : Nat) (e : Env) : NX (getTb i e) := by unfold getTb; split <;> first | exact nx_ok | exact nx_stuck
theorem pe_nm (c : Cok P w base B F C k X W S) {i : Nat} {x : Str} {pos : Pos} (h1 : nAt C i x = true) (h2 : isVis S x = true) (h3 : isPlainN x = true) : PE X (.Name x pos) (tVar i) := by
  obtain ⟨p1, p2, _⟩ := plainN_of h3
  exact pe_var (n_of c h1) (vis_of c h2) p1 p2
/-- an operation that raises nothing, behind one value -/
theorem Pst.get {α β : Type} {B : Bs} {W : WX} {G H : Hp} {σ : L2.St} {ok : β → Prop} {r : R α} {f : α → R β} (h : Pst B W G σ H ok (r.bind f)) (n : NX r) : ∃ a, r = .ok a ∧ Pst B W G σ H ok (f a) := by
  cases e : r with
  | ok a => rw [e] at h; exact ⟨a, rfl, h⟩
  | exc c => exact absurd e (n c)
  | stuck => rw [e] at h; exact h.elim
theorem Pst.val {α : Type} {B : Bs} {W : WX} {G H : Hp} {σ : L2.St} {ok : α → Prop} {r : R α} (h : Pst B W G σ H ok r) (n : NX r) : ∃ a, r = .ok a ∧ ok a := by
  cases e : r with
  | ok a => rw [e] at h; exact ⟨a, rfl, h⟩
  | exc c => exact absurd e (n c)
  | stuck => rw [e] at h; exact h.elim
theorem d_bin (o : Operator) {x y : Expr} {pos : Pos} (h1 : PE X x (tD B W ma)) (h2 : PE X y (tD B W mb)) : PE X (.BinOp x o y pos) (tD B W fun e => (ma e).bind fun a => (mb e).bind fun b => binD o a b) :=
  two_D (nx_bin o) (pe_op (or_bin o) h1 h2) fun _ _ _ _ q => q
theorem d_cmp (room : Room k X.A) (o : CmpOp) {x y : Expr} {pos : Pos} (h1 : PE X x (tD B W ma)) (h2 : PE X y (tD B W mb)) (s : noSet y = true) : PE X (.Compare x [o] [y] pos) (tD B W fun e => (ma e).bind fun a => (mb e).bind fun b => cmpD o a b) :=
  two_D (nx_cmp o) (pe_cmpR (or_cmp room o) h1 h2 (mark_of s)) fun _ _ _ _ q => q
theorem d_sub (room : Room k X.A) {x y : Expr} {pos : Pos} (h1 : PE X x (tD B W ma)) (h2 : PE X y (tD B W mb)) (s : noSlice y = true) : PE X (.Subscript x y pos) (tD B W fun e => (ma e).bind fun a => (mb e).bind fun b => subD a b) :=
  two_D nx_sub (pe_ix (ix_D room) h1 h2 (ix_of s)) fun _ _ _ _ q => q
theorem nx_subO (s : Option Sl) (k : D) : NX (subOD s k) := by
  unfold subOD
  split
  · split <;> first | exact nx_opt | exact nx_stuck
  · exact nx_bind nx_opt fun _ => nx_opt
  · exact nx_stuck
def rO : R2 := fun x y H Q => ∃ a v, x = .ref a ∧ ((∃ vs i, H a = some (.lst vs) ∧ y = .int i ∧ L2.atI vs i = some v) ∨ DGet H a y (some v)) ∧ Q v H
theorem ix_O (hr : Room k X.A) : IxR X rO := by
  intro value slice pins s σ H x y v u Q I rx ry h hs
  obtain ⟨a, z, rfl, ⟨vs, i, h1, rfl, h3⟩ | h1, q⟩ := h
  · exact ix_list value slice pins s σ H _ _ v u Q I rx ry ⟨a, vs, _, z, rfl, rfl, SqL.of h1, h3, q⟩ hs
  · exact ix_dict hr value slice pins s σ H _ _ v u Q I rx ry ⟨a, z, rfl, h1, q⟩ hs
theorem d_subO (c : Cok P w base B F C k X W S) {i : Nat} {x : Str} {y : Expr} {p pos : Pos} (h1 : nAt C i x = true) (h2 : isVis S x = true) (h3 : isPlainN x = true) (ha : PE X y (tD B W ma)) (s : noSlice y = true) :
    PE X (.Subscript (.Name x p) y pos) (tD B W fun e => (R.guard (ownSl e[i]?)).bind fun _ => (ma e).bind fun k => subOD e[i]? k) := by
  refine PE.weak (pe_ix (ix_O c.room) (pe_nm c h1 h2 h3) ha (ix_of s)) fun σ H Q ⟨G, env, o, p⟩ => ?_
  obtain ⟨_, e0, p⟩ := Pst.get p nx_guard
  cases es : env[i]? with
  | none => rw [es] at e0; cases e0
  | some sl =>
    rw [es] at p
    cases sl with
    | no => rw [es] at e0; cases e0
    | v d => rw [es] at e0; cases e0
    | own xs =>
      obtain ⟨a, vs, ea, hl, rr, _⟩ := o.ownAt es
      refine ⟨_, ea, ?_⟩
      refine tD_bind o p fun kd ek pk v G1 H1 g1 rv => ?_
      obtain ⟨d, ed, q⟩ := Pst.val pk (nx_subO _ _)
      cases kd <;> first | cases ed | skip
      rename_i j
      cases rp_int rv
      obtain ⟨z, hz, rz⟩ := dpAll_at rr (ofOpt_ok (show ofOpt (TC.atI xs j) = .ok d from ed))
      exact ⟨a, z, rfl, .inl ⟨vs, j, g1.hh _ _ hl, rfl, hz⟩, q z G1 H1 g1 (Rp.of (dp_same g1.gg rz))⟩
    | tab kvs =>
      obtain ⟨a, ks, ea, hl, rr, _⟩ := o.tabAt es
      refine ⟨_, ea, ?_⟩
      refine tD_bind o p fun kd ek pk v G1 H1 g1 rv => ?_
      obtain ⟨d, ed, q⟩ := Pst.val pk (nx_subO _ _)
      obtain ⟨qk, e1, e2⟩ := bind_ok (show ((ofOpt (keyOf kd)).bind fun q => ofOpt (kvs.lookup q)) = .ok d from ed)
      obtain ⟨b, rfl, hb⟩ := key_at rv (ofOpt_ok e1)
      obtain ⟨z, h4, h5⟩ := val_row (rows_same g1.gg rr) (ofOpt_ok e2)
      refine ⟨a, z, rfl, .inr ?_, q z G1 H1 g1 (Rp.of h5)⟩
      rw [← h4]
      exact DGet.t (g1.hh _ _ hl) (g1.gh _ _ hb)
theorem d_lenO (c : Cok P w base B F C k X W S) {i : Nat} {x : Str} {p p' pos : Pos} (h0 : isGl S "len" = true) (h1 : nAt C i x = true) (h2 : isVis S x = true) (h3 : isPlainN x = true) :
    PE X (.Call (.Name "len" p) [.Name x p'] [] pos) (tD B W fun e => (getO i e).bind fun xs => .ok (.int xs.length)) := by
  refine PE.weak (pe_callB call_len (gl_of c h0) (c.free (by simp)) PySem.boot_len (pa_cons (pe_nm c h1 h2 h3) pa_nil rfl) (by decide) (by decide) rfl rfl) fun σ H Q ⟨G, env, o, p⟩ => ?_
  obtain ⟨xs, e0, p⟩ := Pst.get p (nx_getO _ _)
  obtain ⟨a, vs, ea, hl, rr, _⟩ := o.ownAt (getO_ok e0)
  refine ⟨_, ea, _, _, rfl, .inl ⟨vs, SqL.of hl, rfl⟩, ?_⟩
  rw [dpAll_len rr]
  exact p _ G H (Gw.refl o.gH) (Rp.of (.int _))
theorem d_revO (c : Cok P w base B F C k X W S) {i : Nat} {x : Str} {n : Nat} {p p1 p2 p3 pos : Pos} (h1 : nAt C i x = true) (h2 : isVis S x = true) (h3 : isPlainN x = true) :
    PE X (.Subscript (.Name x p) (.Slice none none (some (.UnaryOp .USub (.Constant (.int 1) n p1) p2)) p3) pos) (tD B W fun e => (getO i e).bind fun xs => .ok (.list xs.reverse)) := by
  refine PE.weak (pe_revL (pe_nm c h1 h2 h3)) fun σ H Q ⟨G, env, o, p⟩ => ?_
  obtain ⟨xs, e0, p⟩ := Pst.get p (nx_getO _ _)
  obtain ⟨a, vs, ea, hl, rr, _⟩ := o.ownAt (getO_ok e0)
  exact ⟨_, ea, a, vs, rfl, SqL.of hl, fun q hq => p _ _ _ (Gw.new o.gH hq) (mkL (free_of o.gH hq) (dpAll_rev rr))⟩
theorem d_inO (c : Cok P w base B F C k X W S) {i : Nat} {x : Str} {y : Expr} {p pos : Pos} (h1 : nAt C i x = true) (h2 : isVis S x = true) (h3 : isPlainN x = true) (ha : PE X y (tD B W ma)) :
    PE X (.Compare y [.In] [.Name x p] pos) (tD B W fun e => (ma e).bind fun x => (ofOpt (keyOf x)).bind fun q => (getTb i e).bind fun kvs => .ok (.bool ((kvs.lookup q).isSome != false))) := by
  have hu : X.A.units + 1 < cLine := hu_of c.room
  refine PE.weak (pe_cmp (pc_din hu ha (pe_nm c h1 h2 h3)) rfl) fun σ H Q ⟨G, env, o, p⟩ => ?_
  refine tD_bind o p fun kd ek pk v G1 H1 g1 rv => ?_
  obtain ⟨qk, e1, pk⟩ := Pst.get pk nx_opt
  obtain ⟨kvs, e2, pk⟩ := Pst.get pk (nx_getTb _ _)
  obtain ⟨a, ks, ea, hl, rr, _⟩ := o.tabAt (getTb_ok e2)
  obtain ⟨b, rfl, hb⟩ := key_at rv (ofOpt_ok e1)
  refine ⟨_, ea, a, valV ks (qk.map Sum.inl), rfl, DGet.t (g1.hh _ _ hl) (g1.gh _ _ hb), ?_⟩
  cases el : kvs.lookup qk with
  | none =>
    rw [val_none rr el]
    rw [el] at pk
    exact pk _ G1 H1 g1 (Rp.of (.bl _))
  | some d =>
    obtain ⟨z, h4, h5⟩ := val_row rr el
    rw [h4]
    rw [el] at pk
    exact pk _ G1 H1 g1 (Rp.of (.bl _))
theorem d_notinO (c : Cok P w base B F C k X W S) {i : Nat} {x : Str} {y : Expr} {p pos : Pos} (h1 : nAt C i x = true) (h2 : isVis S x = true) (h3 : isPlainN x = true) (ha : PE X y (tD B W ma)) :
    PE X (.Compare y [.NotIn] [.Name x p] pos) (tD B W fun e => (ma e).bind fun x => (ofOpt (keyOf x)).bind fun q => (getTb i e).bind fun kvs => .ok (.bool ((kvs.lookup q).isSome != true))) := by
  have hu : X.A.units + 1 < cLine := hu_of c.room
  refine PE.weak (pe_cmp (pc_dnotin hu ha (pe_nm c h1 h2 h3)) rfl) fun σ H Q ⟨G, env, o, p⟩ => ?_
  refine tD_bind o p fun kd ek pk v G1 H1 g1 rv => ?_
  obtain ⟨qk, e1, pk⟩ := Pst.get pk nx_opt
  obtain ⟨kvs, e2, pk⟩ := Pst.get pk (nx_getTb _ _)
  obtain ⟨a, ks, ea, hl, rr, _⟩ := o.tabAt (getTb_ok e2)
  obtain ⟨b, rfl, hb⟩ := key_at rv (ofOpt_ok e1)
  refine ⟨_, ea, a, valV ks (qk.map Sum.inl), rfl, DGet.t (g1.hh _ _ hl) (g1.gh _ _ hb), ?_⟩
  cases el : kvs.lookup qk with
  | none =>
    rw [val_none rr el]
    rw [el] at pk
    exact pk _ G1 H1 g1 (Rp.of (.bl _))
  | some d =>
    obtain ⟨z, h4, h5⟩ := val_row rr el
    rw [h4]
    rw [el] at pk
    exact pk _ G1 H1 g1 (Rp.of (.bl _))

/-! ### a name under way lent to an expression -/
theorem OkG.lend {G H : Hp} {σ : L2.St} {env : Env} {i : Nat} {xs : List D} (o : OkG B G σ H env) (e : env[i]? = some (.own xs)) :
    ∃ a vs, σ[i]? = some (some (.ref a)) ∧ H a = some (.lst vs) ∧ G a = none ∧ DqAll G vs xs ∧ OkG B (upd G a (.lst vs)) σ H (env.set i (.v (.list xs))) := by
  obtain ⟨a, vs, ea, hl, rr, na, nk, nd⟩ := o.ownAt e
  have sg : Same G (upd G a (.lst vs)) := same_upd na
  refine ⟨a, vs, ea, hl, na, rr, ?_⟩
  have hi : i < env.length := by
    rcases Nat.lt_or_ge i env.length with z | z
    · exact z
    · rw [List.getElem?_eq_none z] at e; cases e
  have other : ∀ (j : Nat) (s : Sl) (b : Addr), i ≠ j → env[j]? = some s → isOwn s = true → σ[j]? = some (some (.ref b)) → b ≠ a := fun j s b hij ej hs eb z => by
    subst z
    exact o.ap i j _ s b hij e ej rfl hs ea eb
  exact {
    g0 := o.g0.trans sg
    gH := fun b u q => by
      by_cases hb : b = a
      · subst hb; rw [upd_same] at q; rw [hl]; exact q
      · rw [upd_ne hb] at q; exact o.gH b u q
    kH := o.kH
    dm := o.dm
    gd := fun b hb => by
      have : b ≠ a := fun z => nd (z ▸ hb)
      rw [upd_ne this]
      exact o.gd b hb
    len := by rw [List.length_set]; exact o.len
    sl := fun j s ej => by
      by_cases hij : i = j
      · subst hij
        rw [List.getElem?_set_self hi] at ej
        cases ej
        exact ⟨.ref a, ea, mkL na rr⟩
      · rw [List.getElem?_set_ne hij] at ej
        have q := o.sl j s ej
        cases s with
        | no => exact trivial
        | v d =>
          obtain ⟨v, h1, h2⟩ := q
          exact ⟨v, h1, h2.same sg⟩
        | own ys =>
          obtain ⟨b, ws, h1, h2, h3, h4, h5⟩ := q
          exact ⟨b, ws, h1, h2, dpAll_same sg h3, by rw [upd_ne (other j _ b hij ej rfl h1)]; exact h4, h5⟩
        | tab kvs =>
          obtain ⟨b, ws, h1, h2, h3, h4, h5⟩ := q
          exact ⟨b, ws, h1, h2, rows_same sg h3, by rw [upd_ne (other j _ b hij ej rfl h1)]; exact h4, h5⟩
    ap := fun j l s u b hjl ej el hs hu e3 e4 => by
      have nj : i ≠ j := fun z => by subst z; rw [List.getElem?_set_self hi] at ej; cases ej; cases hs
      have nl : i ≠ l := fun z => by subst z; rw [List.getElem?_set_self hi] at el; cases el; cases hu
      rw [List.getElem?_set_ne nj] at ej
      rw [List.getElem?_set_ne nl] at el
      exact o.ap j l s u b hjl ej el hs hu e3 e4 }
theorem Gw.lent {G H G' H' : Hp} {a : Addr} {u : HO} (s : Same G H) (g : Gw (upd G a u) H G' H') (n : G a = none) : Gw G H G H' := Gw.more s g.hh
theorem scal_ok {d e : D} (h : scal d = .ok e) : e = d ∧ ∀ G v, Rp G v d → ∀ G', Rp G' v d := by
  cases d <;> cases h
  · exact ⟨rfl, fun G v r G' => by cases rp_none r; exact Rp.of .non⟩
  · exact ⟨rfl, fun G v r G' => by cases rp_bool r; exact Rp.of (.bl _)⟩
  · exact ⟨rfl, fun G v r G' => by cases rp_int r; exact Rp.of (.int _)⟩
  · exact ⟨rfl, fun G v r G' => by cases rp_str r; exact Rp.of (.str _)⟩
theorem nx_scal (d : D) : NX (scal d) := by cases d <;> first | exact nx_ok | exact nx_stuck
theorem Pst.lend {α β : Type} {G H : Hp} {σ : L2.St} {a : Addr} {u : HO} {ok : β → Prop} {ok' : α → Prop} {r : R α} {f : α → R β} (h : Pst B W G σ H ok (r.bind f)) (s : Same G H)
    (hs : ∀ d, r = .ok d → Pst B W G σ H ok (f d) → ok' d) : Pst B W (upd G a u) σ H ok' r := by
  cases r with
  | ok d => exact hs d rfl h
  | exc c => exact fun G' H' g cls e => h G H' (Gw.more s g.hh) cls e
  | stuck => exact h.elim
theorem d_bor {i : Nat} {x : Expr} (h : PE X x (tD B W ma)) : PE X x (tD B W fun e => (getO i e).bind fun ys => (ma (e.set i (.v (.list ys)))).bind scal) := by
  refine PE.weak h fun σ H Q ⟨G, env, o, p⟩ => ?_
  obtain ⟨xs, e0, p⟩ := Pst.get p (nx_getO _ _)
  obtain ⟨a, vs, ea, hl, na, rr, o2⟩ := o.lend (getO_ok e0)
  refine ⟨_, _, o2, Pst.lend p o.gH fun d ed pd v G' H' g rv => ?_⟩
  obtain ⟨d2, e2, q⟩ := Pst.val pd (nx_scal d)
  obtain ⟨rfl, st⟩ := scal_ok e2
  exact q v G H' (Gw.more o.gH g.hh) (st _ _ rv _)
theorem bor_tB {i : Nat} {σ : L2.St} {H : Hp} {Q : Bool → Hp → Prop} (h : tB1 B W (fun e => ((getO i e).bind fun ys => (ma (e.set i (.v (.list ys)))).bind scal).bind truD) σ H Q) : tB1 B W (fun e => (ma e).bind truD) σ H Q := by
  obtain ⟨G, env, o, p⟩ := h
  have p1 : Pst B W G σ H (fun b => ∀ G' H', Gw G H G' H' → Q b H') ((getO i env).bind fun ys => ((ma (env.set i (.v (.list ys)))).bind fun d => (scal d).bind truD)) := by
    dsimp only at p
    cases e0 : getO i env with
    | exc c => rw [e0] at p; exact p
    | stuck => rw [e0] at p; exact p
    | ok ys =>
      rw [e0] at p
      simp only [TC.R.ok_bind] at p ⊢
      cases e1 : ma (env.set i (.v (.list ys))) with
      | exc c => rw [e1] at p; exact p
      | stuck => rw [e1] at p; exact p
      | ok d => rw [e1] at p; exact p
  obtain ⟨xs, e0, p⟩ := Pst.get p1 (nx_getO _ _)
  obtain ⟨a, vs, ea, hl, na, rr, o2⟩ := o.lend (getO_ok e0)
  refine ⟨_, _, o2, ?_⟩
  show Pst B W (upd G a (.lst vs)) σ H (fun b => ∀ G' H', Gw (upd G a (.lst vs)) H G' H' → Q b H') ((ma (env.set i (.v (.list xs)))).bind truD)
  cases e1 : ma (env.set i (.v (.list xs))) with
  | exc c =>
    rw [e1] at p
    exact fun G' H' g cls e => p G H' (Gw.more o.gH g.hh) cls e
  | stuck => rw [e1] at p; exact p.elim
  | ok d =>
    rw [e1] at p
    obtain ⟨d2, e2, p2⟩ := Pst.get (show Pst B W G σ H _ ((scal d).bind truD) from p) (nx_scal d)
    obtain ⟨rfl, _⟩ := scal_ok e2
    obtain ⟨b, e3, q⟩ := Pst.val p2 (nx_tru _)
    show Pst B W _ σ H _ (truD _)
    rw [e3]
    exact fun G' H' g => q G H' (Gw.more o.gH g.hh)

theorem t_bor {i : Nat} {x : Expr} (h : PT X x (tB1 B W fun e => (ma e).bind truD)) : PT X x (tB1 B W fun e => ((getO i e).bind fun ys => (ma (e.set i (.v (.list ys)))).bind scal).bind truD) := PT.weak h fun σ H Q q => bor_tB q
theorem w_bor {i : Nat} {x : Expr} (h : PW X x (tB1 B W fun e => (ma e).bind truD)) : PW X x (tB1 B W fun e => ((getO i e).bind fun ys => (ma (e.set i (.v (.list ys)))).bind scal).bind truD) := PW.weak h fun σ H Q q => bor_tB q

/-! ### methods -/
theorem base_of {o : Expr} {n : Str} {env : PySem.Env} (h : noCall o = true) : attributeBase o n env (eval o env) = eval o env := by
  cases o <;> first | rfl | (cases h; done) | skip
  case Call f args kws pos =>
    cases args with
    | nil => cases h
    | cons a as => cases f <;> rfl
theorem stars_all {C : Ct} {S : Sx} (env : PySem.Env) (pos : Pos) : ∀ (a : E) (es : List Expr), chks C S a es = true → (backTo pos (starEach es env)).all (fun x => !x.1) = true := by
  intro a es h
  have := noStars a es env pos h
  rw [List.any_eq_false] at this
  rw [List.all_eq_true]
  intro x hx
  have := this x hx
  simpa using this
theorem d_mth (c : Cok P w base B F C k X W S) {m : Str} {a : E} {o e : Expr} {es : List Expr} {ap cp : Pos} (h3 : m = ("index" : Str) ∨ m = ("count" : Str) ∨ m = ("join" : Str)) (hm : noCall o = true) (hl : (ap.endLine == cp.line) = true) (hn : es.length < 20) (hc : chks C S a (e :: es) = true) (hs : noStar e = true)
    (ho : PE X o (tD B W ma)) (ha : PA X (e :: es) (tA1 B W mb)) : PE X (.Call (.Attribute o m ap) (e :: es) [] cp) (tD B W fun en => (ma en).bind fun x => (R.guard (mthTy m x)).bind fun _ => (listD (mb en)).bind fun xs => mthD m x xs) := by
  have hfew : ((backTo cp (starEach (e :: es) X.env)).all (fun x => !x.1) && (backToKw cp (keywordEach [] X.env)).all (fun x => x.1.isSome)
      && decide ((e :: es).length + ([] : List Keyword).length + (if ([] : List Keyword).isEmpty then 0 else 1) < 30)) = true := by
    rw [Bool.and_eq_true, Bool.and_eq_true]
    refine ⟨⟨stars_all X.env cp a _ hc, rfl⟩, decide_eq_true ?_⟩
    simp only [List.length_cons, List.length_nil, List.isEmpty_nil, if_true]
    omega
  have hpl : (backTo cp (starEach es X.env)).any (·.1) = false := by
    have := noStars a (e :: es) X.env cp hc
    rw [star_of hs] at this
    have h2 : (false || (backTo cp (starEach es X.env)).any (·.1)) = false := this
    rwa [Bool.false_or] at h2
  by_cases h1 : m = ("index" : Str)
  · subst h1
    refine PE.weak (pe_bm PySem.F.plainAttrs_list PySem.F.slot_list_index PySem.F.type_list_index (mt_listIndex c.room) ho ha (base_of hm) hfew hl (star_of hs) hpl) fun σ H Q ⟨G, env, o, p⟩ => ?_
    refine tD_bind o p fun x ex px v G1 H1 g1 rv => ?_
    obtain ⟨_, e0, px⟩ := Pst.get px nx_guard
    cases x with
    | list xs =>
      obtain ⟨l, vs, rfl, hl, rr⟩ := rp_list rv
      refine ⟨.inl ⟨rfl, vs, SqL.of (g1.gh _ _ hl)⟩, ?_⟩
      refine tA_bind (o.grow g1) (px.grow g1 fun d hd => hd) fun ds ed pd us G2 H2 g2 rs => ?_
      obtain ⟨d, ed, q⟩ := Pst.val (show Pst B W _ σ _ _ (indexM (.list xs) ds) from pd) (nx_indexM _ _)
      exact ⟨⟨l, vs, rfl, g2.gh _ _ (g2.gg _ _ hl)⟩, G2, .list xs, ds, d, g2.gh, rv.same g2.gg, rs, ed, fun v3 G3 H3 g3 r3 => q v3 G3 H3 ((g1.trans g2).trans g3) r3⟩
    | str s => cases e0
    | _ => cases e0
  · by_cases h2 : m = ("count" : Str)
    · subst h2
      refine PE.weak (pe_bm PySem.F.plainAttrs_list PySem.F.slot_list_count PySem.F.type_list_count mt_countD ho ha (base_of hm) hfew hl (star_of hs) hpl) fun σ H Q ⟨G, env, o, p⟩ => ?_
      refine tD_bind o p fun x ex px v G1 H1 g1 rv => ?_
      obtain ⟨_, e0, px⟩ := Pst.get px nx_guard
      cases x with
      | list xs =>
        obtain ⟨l, vs, rfl, hl, rr⟩ := rp_list rv
        refine ⟨.inl ⟨rfl, vs, SqL.of (g1.gh _ _ hl)⟩, ?_⟩
        refine tA_bind (o.grow g1) (px.grow g1 fun d hd => hd) fun ds ed pd us G2 H2 g2 rs => ?_
        obtain ⟨d, ed, q⟩ := Pst.val (show Pst B W _ σ _ _ (countM (.list xs) ds) from pd) (nx_countM _ _)
        exact ⟨G2, .list xs, ds, d, g2.gh, rv.same g2.gg, rs, ed, fun v3 G3 H3 g3 r3 => q v3 G3 H3 ((g1.trans g2).trans g3) r3⟩
      | str s => cases e0
      | _ => cases e0
    · have h3 := (h3.resolve_left h1).resolve_left h2
      subst h3
      refine PE.weak (pe_bm PySem.F.plainAttrs_str PySem.F.slot_str_join PySem.F.type_str_join mt_joinD ho ha (base_of hm) hfew hl (star_of hs) hpl) fun σ H Q ⟨G, env, o, p⟩ => ?_
      refine tD_bind o p fun x ex px v G1 H1 g1 rv => ?_
      obtain ⟨_, e0, px⟩ := Pst.get px nx_guard
      cases x with
      | str z =>
        cases rp_str rv
        refine ⟨rfl, ?_⟩
        refine tA_bind (o.grow g1) (px.grow g1 fun d hd => hd) fun ds ed pd us G2 H2 g2 rs => ?_
        obtain ⟨d, ed, q⟩ := Pst.val (show Pst B W _ σ _ _ (joinM (.str z) ds) from pd) (nx_joinM _ _)
        exact ⟨G2, .str z, ds, d, g2.gh, rv.same g2.gg, rs, ed, fun v3 G3 H3 g3 r3 => q v3 G3 H3 ((g1.trans g2).trans g3) r3⟩
      | list s => cases e0
      | _ => cases e0

/-! ### tests -/
abbrev tst (m : Env → R D) : Env → R Bool := fun e => (m e).bind truD
theorem t_val {x : Expr} (h : PE X x (tD B W ma)) (v : valTest x = true) : PT X x (tB1 B W (tst ma)) := by
  refine PT.weak (pt_truth h (test_of v)) fun σ H Q ⟨G, env, o, p⟩ => ?_
  refine tD_bind o p fun a ea pa v G' H' g rv => ?_
  obtain ⟨b, eb, q⟩ := Pst.val pa (nx_tru a)
  exact ⟨b, tru_D (X := X) g.gh rv eb, q G' H' g⟩
theorem tst_bool {r : R D} {b : Bool} (h : r.bind truD = .ok b) (hb : ∀ d, r = .ok d → ∃ k, d = .bool k) : r = .ok (.bool b) := by
  obtain ⟨d, e1, e2⟩ := bind_ok h
  obtain ⟨k, rfl⟩ := hb d e1
  cases e2
  exact e1
/-- a test whose value is a bool -/
theorem t_of {x : Expr} {t : TE} (h : PT X x (tTest t)) (hw : ∀ σ H Q, tD B W ma σ H Q → t σ H Q) (hb : ∀ env d, ma env = .ok d → ∃ k, d = .bool k) : PT X x (tB1 B W (tst ma)) := by
  refine PT.weak h fun σ H Q ⟨G, env, o, p⟩ => hw _ _ _ ?_
  refine tD_bind o p fun a ea pa v G' H' g rv => ?_
  obtain ⟨k, rfl⟩ := hb env a ea
  cases rp_bool rv
  exact ⟨k, rfl, pa G' H' g⟩
theorem t_not {x : Expr} {pos : Pos} (h : PT X x (tB1 B W (tst ma))) : PT X (.UnaryOp .Not x pos) (tB1 B W (tst fun e => (ma e).bind fun x => (truD x).bind fun b => .ok (.bool (!b)))) := by
  refine PT.weak (pt_not h) fun σ H Q ⟨G, env, o, p⟩ => ?_
  have p' : Pst B W G σ H (fun b => ∀ G' H', Gw G H G' H' → Q b H') ((tst ma env).bind fun b => .ok (!b)) := by
    unfold tst at p ⊢
    dsimp only at p ⊢
    cases e : ma env with
    | exc c => rw [e] at p; exact p
    | stuck => rw [e] at p; exact p
    | ok d =>
      rw [e] at p
      simp only [TC.R.ok_bind] at p ⊢
      cases e2 : truD d with
      | exc c => exact absurd e2 (nx_tru d c)
      | stuck => rw [e2] at p; exact p
      | ok b => rw [e2] at p; exact p
  exact tB_bind o p' fun b eb pb G' H' g => pb G' H' g
theorem t_one {x : Expr} {pos : Pos} {op : PySem.BoolOp} (h : PT X x (tB1 B W (tst ma))) : PW X (.BoolOp op [x] pos) (tB1 B W (tst ma)) := by
  cases op with
  | And => exact pw_and1 h
  | Or => exact pw_or1 h
theorem bool_tru {d : D} {b : Bool} (h : boolD d = .ok b) : truD d = .ok b := by
  cases d <;> first | cases h | skip
  rfl
theorem t_and {x y : Expr} {r : List Expr} {pos : Pos} (h1 : PT X x (tB1 B W (tst ma))) (h2 : PW X (.BoolOp .And (y :: r) pos) (tB1 B W (tst mb))) : PW X (.BoolOp .And (x :: y :: r) pos) (tB1 B W (tst fun e => (ma e).bind fun x => (boolD x).bind fun k => if k then mb e else .ok (.bool false))) := by
  refine PW.weak (pw_and h1 h2) fun σ H Q ⟨G, env, o, p⟩ => ?_
  have p' : Pst B W G σ H (fun b => ∀ G' H', Gw G H G' H' → Q b H') ((tst ma env).bind fun k => if k then tst mb env else .ok false) := by
    unfold tst at p ⊢
    dsimp only at p ⊢
    cases e : ma env with
    | exc c => rw [e] at p; exact p
    | stuck => rw [e] at p; exact p
    | ok d =>
      rw [e] at p
      simp only [TC.R.ok_bind] at p ⊢
      cases e2 : boolD d with
      | exc c => exact absurd e2 (nx_boolD d c)
      | stuck => rw [e2] at p; exact p.elim
      | ok b =>
        rw [e2] at p
        rw [bool_tru e2]
        cases b <;> exact p
  refine tB_bind o p' fun b eb pb G' H' g => ?_
  cases b with
  | true => exact ⟨G', env, o.grow g, Pst.grow pb g fun b2 hb G2 H2 g2 => hb G2 H2 (g.trans g2)⟩
  | false => exact pb G' H' g
theorem t_or {x y : Expr} {r : List Expr} {pos : Pos} (h1 : PT X x (tB1 B W (tst ma))) (h2 : PW X (.BoolOp .Or (y :: r) pos) (tB1 B W (tst mb))) : PW X (.BoolOp .Or (x :: y :: r) pos) (tB1 B W (tst fun e => (ma e).bind fun x => (boolD x).bind fun k => if k then .ok (.bool true) else mb e)) := by
  refine PW.weak (pw_or h1 h2) fun σ H Q ⟨G, env, o, p⟩ => ?_
  have p' : Pst B W G σ H (fun b => ∀ G' H', Gw G H G' H' → Q b H') ((tst ma env).bind fun k => if k then .ok true else tst mb env) := by
    unfold tst at p ⊢
    dsimp only at p ⊢
    cases e : ma env with
    | exc c => rw [e] at p; exact p
    | stuck => rw [e] at p; exact p
    | ok d =>
      rw [e] at p
      simp only [TC.R.ok_bind] at p ⊢
      cases e2 : boolD d with
      | exc c => exact absurd e2 (nx_boolD d c)
      | stuck => rw [e2] at p; exact p.elim
      | ok b =>
        rw [e2] at p
        rw [bool_tru e2]
        cases b <;> exact p
  refine tB_bind o p' fun b eb pb G' H' g => ?_
  cases b with
  | false => exact ⟨G', env, o.grow g, Pst.grow pb g fun b2 hb G2 H2 g2 => hb G2 H2 (g.trans g2)⟩
  | true => exact pb G' H' g
end
end TC
set_option Elab.async false
set_option linter.all false
set_option maxRecDepth 100000
set_option autoImplicit false
/-! DlM: every checked expression is what the small language says. -/
namespace TC
open PySem PySem.Spec PyProof.Rows L2

structure Snd (P : Program) (w : World) (base : Heap) (B : Bs) (F : Fns) (C : Ct) (k : Nat) (a : E) : Prop where
  pe : ∀ {X : Cx} {W : WX} {S : Sx}, Cok P w base B F C k X W S → ∀ x, chk C S a x = true → PE X x (tD B W (ev F a))
  pt : ∀ {X : Cx} {W : WX} {S : Sx}, Cok P w base B F C k X W S → ∀ x, chk C S a x = true → tstOk x = true → PT X x (tB1 B W (tst (ev F a)))
  pw : ∀ {X : Cx} {W : WX} {S : Sx}, Cok P w base B F C k X W S → ∀ op es pos, chk C S a (.BoolOp op es pos) = true → tstOk (.BoolOp op es pos) = true → PW X (.BoolOp op es pos) (tB1 B W (tst (ev F a)))
  pa : ∀ {X : Cx} {W : WX} {S : Sx}, Cok P w base B F C k X W S → ∀ xs, chks C S a xs = true → PA X xs (tA1 B W (ev F a))
  pi : ∀ {X : Cx} {W : WX} {S : Sx}, Cok P w base B F C k X W S → ∀ tg x, chkI C S a tg x = true → PI X tg x (tI1 B W (ev F a))
  pr : ∀ {X : Cx} {W : WX} {S : Sx}, Cok P w base B F C k X W S → ∀ x p pos, chkR C S a x = true → (isGl S "list" = true → PE X (.Call (.Name "list" p) [x] [] pos) (tD B W fun e => (listD (ev F a e)).bind rgGuard)) ∧ (isGl S "tuple" = true → PE X (.Call (.Name "tuple" p) [x] [] pos) (tD B W fun e => (listD (ev F a e)).bind fun ds => (rgGuard ds).bind fun _ => .ok (.tuple ds)))

section
variable {P : Program} {w : World} {base : Heap} {B : Bs} {F : Fns} {C : Ct} {k : Nat}
/-- a node whose truth is its value's -/
theorem Snd.plain {a : E} (he : ∀ {X : Cx} {W : WX} {S : Sx}, Cok P w base B F C k X W S → ∀ x, chk C S a x = true → valTest x = true ∧ PE X x (tD B W (ev F a)))
    (ha : ∀ S xs, chks C S a xs = false) (hi : ∀ S tg x, chkI C S a tg x = false) (hr : ∀ S x, chkR C S a x = false) : Snd P w base B F C k a where
  pr := fun _ x p pos h => by rw [hr] at h; cases h
  pe := fun c x h => (he c x h).2
  pt := fun c x h _ => t_val (he c x h).2 (he c x h).1
  pw := fun c op es pos h _ => by have := (he c _ h).1; cases this
  pa := fun _ xs h => by rw [ha] at h; cases h
  pi := fun _ tg x h => by rw [hi] at h; cases h
theorem snd_var (i : Nat) : Snd P w base B F C k (.var i) := by
  refine Snd.plain (fun {X W S} c x h => ?_) (fun S xs => by cases xs <;> rfl) (fun S tg x => rfl) (fun S x => rfl)
  cases x with
  | Name y p =>
    have h' : (nAt C i y && isVis S y && isPlainN y) = true := h
    rw [Bool.and_eq_true, Bool.and_eq_true] at h'
    exact ⟨rfl, d_var c h'.1.1 h'.1.2 h'.2⟩
  | _ => cases h
theorem snd_int (n : Int) : Snd P w base B F C k (.int n) := by
  refine Snd.plain (fun {X W S} c x h => ?_) (fun S xs => by cases xs <;> rfl) (fun S tg x => rfl) (fun S x => rfl)
  cases x with
  | Constant v j p =>
    cases v with
    | int m =>
      have : n = m := of_decide_eq_true h
      subst this
      exact ⟨rfl, d_const (v := .int n) pe_int fun G => .int n⟩
    | _ => cases h
  | _ => cases h
theorem snd_str (n : Str) : Snd P w base B F C k (.str n) := by
  refine Snd.plain (fun {X W S} c x h => ?_) (fun S xs => by cases xs <;> rfl) (fun S tg x => rfl) (fun S x => rfl)
  cases x with
  | Constant v j p =>
    cases v with
    | str m =>
      have := seq_eq h
      subst this
      exact ⟨rfl, d_const (v := .str n) pe_str fun G => .str n⟩
    | _ => cases h
  | _ => cases h
theorem snd_non : Snd P w base B F C k .non := by
  refine Snd.plain (fun {X W S} c x h => ?_) (fun S xs => by cases xs <;> rfl) (fun S tg x => rfl) (fun S x => rfl)
  cases x with
  | Constant v j p =>
    cases v with
    | none => exact ⟨rfl, d_const (v := .non) pe_non fun G => .non⟩
    | _ => cases h
  | _ => cases h
theorem snd_bl (b : Bool) : Snd P w base B F C k (.bl b) := by
  refine Snd.plain (fun {X W S} c x h => ?_) (fun S xs => by cases xs <;> rfl) (fun S tg x => rfl) (fun S x => rfl)
  cases x with
  | Constant v j p =>
    cases v with
    | bool m =>
      have : b = m := by simpa using (show (b == m) = true from h)
      subst this
      exact ⟨rfl, d_const (v := .bl b) pe_bl fun G => .bl b⟩
    | _ => cases h
  | _ => cases h
theorem snd_glo (x : Str) (d : D) : Snd P w base B F C k (.glo x d) := by
  refine Snd.plain (fun {X W S} c e h => ?_) (fun S xs => by cases xs <;> rfl) (fun S tg x => rfl) (fun S x => rfl)
  cases e with
  | Name y p =>
    have h' : (seq x y && isGl S x && isPlainN x && glHas C x d) = true := h
    rw [Bool.and_eq_true, Bool.and_eq_true, Bool.and_eq_true] at h'
    have := seq_eq h'.1.1.1
    subst this
    exact ⟨rfl, d_glo c h'.1.1.2 h'.1.2 h'.2⟩
  | _ => cases h
theorem snd_neg {a : E} (ha : Snd P w base B F C k a) : Snd P w base B F C k (.neg a) := by
  refine Snd.plain (fun {X W S} c e h => ?_) (fun S xs => by cases xs <;> rfl) (fun S tg x => rfl) (fun S x => rfl)
  cases e with
  | UnaryOp op x p =>
    cases op with
    | USub => exact ⟨rfl, d_neg (ha.pe c x h)⟩
    | _ => cases h
  | _ => cases h
theorem snd_bin (o : Operator) {a b : E} (ha : Snd P w base B F C k a) (hb : Snd P w base B F C k b) : Snd P w base B F C k (.bin o a b) := by
  refine Snd.plain (fun {X W S} c e h => ?_) (fun S xs => by cases xs <;> rfl) (fun S tg x => rfl) (fun S x => rfl)
  cases e with
  | BinOp x p y pos =>
    have h' : (decide (o = p) && chk C S a x && chk C S b y) = true := h
    rw [Bool.and_eq_true, Bool.and_eq_true] at h'
    have := of_decide_eq_true h'.1.1
    subst this
    exact ⟨rfl, d_bin o (ha.pe c x h'.1.2) (hb.pe c y h'.2)⟩
  | _ => cases h
theorem snd_tup {a : E} (ha : Snd P w base B F C k a) : Snd P w base B F C k (.tup a) := by
  refine Snd.plain (fun {X W S} c e h => ?_) (fun S xs => by cases xs <;> rfl) (fun S tg x => rfl) (fun S x => rfl)
  cases e with
  | Tuple es n pos => exact ⟨rfl, d_tup (ha.pa c es h)⟩
  | _ => cases h
theorem snd_lst {a : E} (ha : Snd P w base B F C k a) : Snd P w base B F C k (.lst a) := by
  refine Snd.plain (fun {X W S} c e h => ?_) (fun S xs => by cases xs <;> rfl) (fun S tg x => rfl) (fun S x => rfl)
  cases e with
  | List es pos => exact ⟨rfl, d_lst (ha.pa c es h)⟩
  | _ => cases h
theorem snd_sub {a b : E} (ha : Snd P w base B F C k a) (hb : Snd P w base B F C k b) : Snd P w base B F C k (.sub a b) := by
  refine Snd.plain (fun {X W S} c e h => ?_) (fun S xs => by cases xs <;> rfl) (fun S tg x => rfl) (fun S x => rfl)
  cases e with
  | Subscript x y pos =>
    have h' : (chk C S a x && chk C S b y && noSlice y) = true := h
    rw [Bool.and_eq_true, Bool.and_eq_true] at h'
    exact ⟨rfl, d_sub c.room (ha.pe c x h'.1.1) (hb.pe c y h'.1.2) h'.2⟩
  | _ => cases h
theorem snd_slcL {a b : E} (ha : Snd P w base B F C k a) (hb : Snd P w base B F C k b) : Snd P w base B F C k (.slcL a b) := by
  refine Snd.plain (fun {X W S} c e h => ?_) (fun S xs => by cases xs <;> rfl) (fun S tg x => rfl) (fun S x => rfl)
  cases e with
  | Subscript x y pos =>
    cases y with
    | Slice lo hi st p =>
      cases lo with
      | none => cases h
      | some l => cases hi with
        | some _ => cases h
        | none => cases st with
          | some _ => cases h
          | none =>
            have h' : (chk C S a x && chk C S b l) = true := h
            rw [Bool.and_eq_true] at h'
            exact ⟨rfl, d_slcL (ha.pe c x h'.1) (hb.pe c l h'.2)⟩
    | _ => cases h
  | _ => cases h
theorem snd_slcH {a b : E} (ha : Snd P w base B F C k a) (hb : Snd P w base B F C k b) : Snd P w base B F C k (.slcH a b) := by
  refine Snd.plain (fun {X W S} c e h => ?_) (fun S xs => by cases xs <;> rfl) (fun S tg x => rfl) (fun S x => rfl)
  cases e with
  | Subscript x y pos =>
    cases y with
    | Slice lo hi st p =>
      cases lo with
      | some _ => cases h
      | none => cases hi with
        | none => cases h
        | some l => cases st with
          | some _ => cases h
          | none =>
            have h' : (chk C S a x && chk C S b l) = true := h
            rw [Bool.and_eq_true] at h'
            exact ⟨rfl, d_slcH (ha.pe c x h'.1) (hb.pe c l h'.2)⟩
    | _ => cases h
  | _ => cases h
theorem snd_rev {a : E} (ha : Snd P w base B F C k a) : Snd P w base B F C k (.rev a) := by
  refine Snd.plain (fun {X W S} c e h => ?_) (fun S xs => by cases xs <;> rfl) (fun S tg x => rfl) (fun S x => rfl)
  cases e with
  | Subscript x y pos =>
    cases y with
    | Slice lo hi st p =>
      cases lo with
      | some _ => cases h
      | none => cases hi with
        | some _ => cases h
        | none => cases st with
          | none => cases h
          | some z => cases z with
            | UnaryOp op z2 p2 => cases op with
              | USub => cases z2 with
                | Constant v j p3 => cases v with
                  | int m =>
                    have h' : (decide (m = 1) && chk C S a x) = true := h
                    rw [Bool.and_eq_true] at h'
                    have := of_decide_eq_true h'.1
                    subst this
                    exact ⟨rfl, d_rev (ha.pe c x h'.2)⟩
                  | _ => cases h
                | _ => cases h
              | _ => cases h
            | _ => cases h
    | _ => cases h
  | _ => cases h
theorem chks_star {S : Sx} {a : E} {e : Expr} {es : List Expr} (h : chks C S a (e :: es) = true) : noStar e = true := by
  cases a <;> first | (cases h; done) | skip
  rename_i a r
  have h' : (chk C S a e && noStar e && chks C S r es) = true := h
  rw [Bool.and_eq_true, Bool.and_eq_true] at h'
  exact h'.1.2
theorem chks_tail {S : Sx} {a : E} {e : Expr} {es : List Expr} (h : chks C S a (e :: es) = true) (env : PySem.Env) (pos : Pos) : (backTo pos (starEach es env)).any (·.1) = false := by
  have := noStars a (e :: es) env pos h
  rw [star_of (chks_star h)] at this
  have h2 : (false || (backTo pos (starEach es env)).any (·.1)) = false := this
  rwa [Bool.false_or] at h2
theorem snd_call (f : Str) {a : E} (ha : Snd P w base B F C k a) : Snd P w base B F C k (.call f a) := by
  refine Snd.plain (fun {X W S} c e h => ?_) (fun S xs => by cases xs <;> rfl) (fun S tg x => rfl) (fun S x => rfl)
  cases e with
  | Call fn args kws pos =>
    cases fn with
    | Name g p => cases args with
      | nil => cases h
      | cons e es => cases kws with
        | cons _ _ => cases h
        | nil =>
          have h' : (seq f g && isGl S f && isPlainN f && fnHas C f (es.length + 1) && chks C S a (e :: es)) = true := h
          rw [Bool.and_eq_true, Bool.and_eq_true, Bool.and_eq_true, Bool.and_eq_true] at h'
          obtain ⟨⟨⟨⟨h1, h2⟩, h3⟩, h4⟩, h5⟩ := h'
          have := seq_eq h1
          subst this
          exact ⟨rfl, d_call c h2 h3 h4 h5 (ha.pa c _ h5) (chks_star h5) (chks_tail h5 _ _)⟩
    | _ => cases h
  | _ => cases h
theorem snd_blt (f : Str) {a : E} (ha : Snd P w base B F C k a) : Snd P w base B F C k (.blt f a) := by
  refine Snd.plain (fun {X W S} c e h => ?_) (fun S xs => by cases xs <;> rfl) (fun S tg x => rfl) (fun S x => rfl)
  cases e with
  | Call fn args kws pos =>
    cases fn with
    | Name g p => cases args with
      | nil => cases h
      | cons e es => cases kws with
        | cons _ _ => cases h
        | nil =>
          have h' : (seq f g && isGl S f && ((bltTy f).isSome || (bltFn f).isSome) && chks C S a (e :: es)) = true := h
          rw [Bool.and_eq_true, Bool.and_eq_true, Bool.and_eq_true] at h'
          obtain ⟨⟨⟨h1, h2⟩, h3⟩, h5⟩ := h'
          have := seq_eq h1
          subst this
          refine ⟨rfl, ?_⟩
          cases e1 : bltTy f with
          | some n => exact d_bltT c e1 h2 (ha.pa c _ h5) (chks_star h5) (chks_tail h5 _ _)
          | none => cases e2 : bltFn f with
            | some n => exact d_bltF c e2 h2 (ha.pa c _ h5) (chks_star h5) (chks_tail h5 _ _)
            | none => rw [e1, e2] at h3; cases h3
    | _ => cases h
  | _ => cases h
theorem snd_lsr {a : E} (ha : Snd P w base B F C k a) : Snd P w base B F C k (.lsr a) := by
  refine Snd.plain (fun {X W S} c e h => ?_) (fun S xs => by cases xs <;> rfl) (fun S tg x => rfl) (fun S x => rfl)
  cases e with
  | Call fn args kws pos =>
    cases fn with
    | Name g p => cases args with
      | nil => cases h
      | cons e es => cases es with
        | cons _ _ => cases h
        | nil => cases kws with
          | cons _ _ => cases h
          | nil =>
            have h' : (seq g "list" && isGl S g && chkR C S a e) = true := h
            rw [Bool.and_eq_true, Bool.and_eq_true] at h'
            obtain ⟨⟨h1, h2⟩, h3⟩ := h'
            have := seq_eq h1
            subst this
            exact ⟨rfl, (ha.pr c e p pos h3).1 h2⟩
    | _ => cases h
  | _ => cases h
theorem snd_tpr {a : E} (ha : Snd P w base B F C k a) : Snd P w base B F C k (.tpr a) := by
  refine Snd.plain (fun {X W S} c e h => ?_) (fun S xs => by cases xs <;> rfl) (fun S tg x => rfl) (fun S x => rfl)
  cases e with
  | Call fn args kws pos =>
    cases fn with
    | Name g p => cases args with
      | nil => cases h
      | cons e es => cases es with
        | cons _ _ => cases h
        | nil => cases kws with
          | cons _ _ => cases h
          | nil =>
            have h' : (seq g "tuple" && isGl S g && chkR C S a e) = true := h
            rw [Bool.and_eq_true, Bool.and_eq_true] at h'
            obtain ⟨⟨h1, h2⟩, h3⟩ := h'
            have := seq_eq h1
            subst this
            exact ⟨rfl, (ha.pr c e p pos h3).2 h2⟩
    | _ => cases h
  | _ => cases h
theorem snd_isi {a : E} (t : Str) (ha : Snd P w base B F C k a) : Snd P w base B F C k (.isi a t) := by
  refine Snd.plain (fun {X W S} c e h => ?_) (fun S xs => by cases xs <;> rfl) (fun S tg x => rfl) (fun S x => rfl)
  cases e with
  | Call fn args kws pos =>
    cases fn with
    | Name g p => cases args with
      | nil => cases h
      | cons x es => cases es with
        | nil => cases h
        | cons y es => cases y with
          | Name u p' => cases es with
            | cons _ _ => cases h
            | nil => cases kws with
              | cons _ _ => cases h
              | nil =>
                have h' : (seq g "isinstance" && isGl S g && seq t u && isGl S t && (isiTy t).isSome && noStar x && chk C S a x) = true := h
                simp only [Bool.and_eq_true] at h'
                obtain ⟨⟨⟨⟨⟨⟨h1, h2⟩, h3⟩, h4⟩, h5⟩, h6⟩, h7⟩ := h'
                have := seq_eq h1
                subst this
                have := seq_eq h3
                subst this
                obtain ⟨n, hn⟩ := Option.isSome_iff_exists.mp h5
                exact ⟨rfl, d_isi c h2 h4 hn (ha.pe c x h7) h6⟩
          | _ => cases es <;> cases h
    | _ => cases h
  | _ => cases h
theorem snd_lens {a : E} (ha : Snd P w base B F C k a) : Snd P w base B F C k (.lens a) := by
  refine Snd.plain (fun {X W S} c e h => ?_) (fun S xs => by cases xs <;> rfl) (fun S tg x => rfl) (fun S x => rfl)
  cases e with
  | Call fn args kws pos =>
    cases fn with
    | Name g p => cases args with
      | nil => cases h
      | cons y es => cases y with
        | Call fn2 args2 kws2 pos2 => cases fn2 with
          | Name g2 p2 => cases args2 with
            | nil => cases h
            | cons x es2 => cases es2 with
              | cons _ _ => cases h
              | nil => cases kws2 with
                | cons _ _ => cases h
                | nil => cases es with
                  | cons _ _ => cases h
                  | nil => cases kws with
                    | cons _ _ => cases h
                    | nil =>
                      have h' : (seq g "len" && isGl S g && seq g2 "set" && isGl S g2 && noStar x && chk C S a x) = true := h
                      simp only [Bool.and_eq_true] at h'
                      obtain ⟨⟨⟨⟨⟨h1, h2⟩, h3⟩, h4⟩, h5⟩, h6⟩ := h'
                      have := seq_eq h1
                      subst this
                      have := seq_eq h3
                      subst this
                      exact ⟨rfl, d_lens c h2 h4 (ha.pe c x h6) h5⟩
          | _ => cases h
        | _ => cases h
    | _ => cases h
  | _ => cases h
theorem snd_srts {a : E} (ha : Snd P w base B F C k a) : Snd P w base B F C k (.srts a) := by
  refine Snd.plain (fun {X W S} c e h => ?_) (fun S xs => by cases xs <;> rfl) (fun S tg x => rfl) (fun S x => rfl)
  cases e with
  | Call fn args kws pos =>
    cases fn with
    | Name g p => cases args with
      | nil => cases h
      | cons y es => cases y with
        | Call fn2 args2 kws2 pos2 => cases fn2 with
          | Name g2 p2 => cases args2 with
            | nil => cases h
            | cons x es2 => cases es2 with
              | cons _ _ => cases h
              | nil => cases kws2 with
                | cons _ _ => cases h
                | nil => cases es with
                  | cons _ _ => cases h
                  | nil => cases kws with
                    | cons _ _ => cases h
                    | nil =>
                      have h' : (seq g "sorted" && isGl S g && seq g2 "set" && isGl S g2 && noStar x && chk C S a x) = true := h
                      simp only [Bool.and_eq_true] at h'
                      obtain ⟨⟨⟨⟨⟨h1, h2⟩, h3⟩, h4⟩, h5⟩, h6⟩ := h'
                      have := seq_eq h1
                      subst this
                      have := seq_eq h3
                      subst this
                      exact ⟨rfl, d_srts c h2 h4 (ha.pe c x h6) h5⟩
          | _ => cases h
        | _ => cases h
    | _ => cases h
  | _ => cases h
theorem snd_mth (m : Str) {a r : E} (ha : Snd P w base B F C k a) (hr : Snd P w base B F C k r) : Snd P w base B F C k (.mth m a r) := by
  refine Snd.plain (fun {X W S} c e h => ?_) (fun S xs => by cases xs <;> rfl) (fun S tg x => rfl) (fun S x => rfl)
  cases e with
  | Call fn args kws pos =>
    cases fn with
    | Attribute o n ap => cases args with
      | nil => cases h
      | cons y es => cases kws with
        | cons _ _ => cases h
        | nil =>
          have h' : (seq m n && (seq m "index" || seq m "count" || seq m "join") && noCall o && (ap.endLine == pos.line) && decide (es.length < 20) && chk C S a o && chks C S r (y :: es)) = true := h
          simp only [Bool.and_eq_true, Bool.or_eq_true] at h'
          obtain ⟨⟨⟨⟨⟨⟨h1, h2⟩, h3⟩, h4⟩, h5⟩, h6⟩, h7⟩ := h'
          have := seq_eq h1
          subst this
          refine ⟨rfl, d_mth c ?_ h3 h4 (of_decide_eq_true h5) h7 (chks_star h7) (ha.pe c o h6) (hr.pa c _ h7)⟩
          rcases h2 with (h2 | h2) | h2
          · exact .inl (seq_eq h2)
          · exact .inr (.inl (seq_eq h2))
          · exact .inr (.inr (seq_eq h2))
    | _ => cases h
  | _ => cases h
end
end TC
set_option Elab.async false
set_option linter.all false
set_option maxRecDepth 100000
set_option autoImplicit false
/-! DlN: every checked expression is what the small language says, concluded. -/
namespace TC
open PySem PySem.Spec PyProof.Rows L2
section
variable {P : Program} {w : World} {base : Heap} {B : Bs} {F : Fns} {C : Ct} {k : Nat}
theorem snd_lc {elt it : E} (t : Tg) (he : Snd P w base B F C k elt) (hi : Snd P w base B F C k it) : Snd P w base B F C k (.lc elt t it) := by
  refine Snd.plain (fun {X W S} c e h => ?_) (fun S xs => by cases xs <;> rfl) (fun S tg x => rfl) (fun S x => rfl)
  cases e with
  | ListComp e gs scope pos => cases gs with
    | nil => cases h
    | cons g gs =>
      obtain ⟨tg, iter, ifs, z⟩ := g
      cases ifs with
      | cons _ _ => cases gs <;> cases h
      | nil => cases gs with
        | cons _ _ => cases h
        | nil =>
          have h' : (decide (z = 0) && noSet iter && blkC C.N S.sc scope (ownOf C t) && chkT C (blk S scope) t tg && chkI C S it tg iter && chk C (blk S scope) elt e) = true := h
          simp only [Bool.and_eq_true] at h'
          obtain ⟨⟨⟨⟨⟨h1, h2⟩, h3⟩, h4⟩, h5⟩, h6⟩ := h'
          have := of_decide_eq_true h1
          subst this
          exact ⟨rfl, d_lc c h3 h2 h4 (hi.pi c tg iter h5) fun s H D cl fp => he.pe (c.inBlk s H scope D cl fp) e h6⟩
  | _ => cases h
theorem snd_lcf {elt it cd : E} (t : Tg) (he : Snd P w base B F C k elt) (hi : Snd P w base B F C k it) (hc : Snd P w base B F C k cd) : Snd P w base B F C k (.lcf elt t it cd) := by
  refine Snd.plain (fun {X W S} c e h => ?_) (fun S xs => by cases xs <;> rfl) (fun S tg x => rfl) (fun S x => rfl)
  cases e with
  | ListComp e gs scope pos => cases gs with
    | nil => cases h
    | cons g gs =>
      obtain ⟨tg, iter, ifs, z⟩ := g
      cases ifs with
      | nil => cases gs <;> cases h
      | cons i ifs => cases ifs with
        | cons _ _ => cases gs <;> cases h
        | nil => cases gs with
          | cons _ _ => cases h
          | nil =>
            have h' : (decide (z = 0) && noSet iter && blkC C.N S.sc scope (ownOf C t) && chkT C (blk S scope) t tg && chkI C S it tg iter && tstOk i && chk C (blk S scope) cd i && chk C (blk S scope) elt e) = true := h
            simp only [Bool.and_eq_true] at h'
            obtain ⟨⟨⟨⟨⟨⟨⟨h1, h2⟩, h3⟩, h4⟩, h5⟩, h7⟩, h8⟩, h6⟩ := h'
            have := of_decide_eq_true h1
            subst this
            exact ⟨rfl, d_lcf c h3 h2 h4 (hi.pi c tg iter h5) (fun s H D cl fp => hc.pt (c.inBlk s H scope D cl fp) i h8 h7) fun s H D cl fp => he.pe (c.inBlk s H scope D cl fp) e h6⟩
  | _ => cases h
theorem snd_lc2 {elt it it1 : E} (t t1 : Tg) (he : Snd P w base B F C k elt) (hi : Snd P w base B F C k it) (hi1 : Snd P w base B F C k it1) : Snd P w base B F C k (.lc2 elt t it t1 it1) := by
  refine Snd.plain (fun {X W S} c e h => ?_) (fun S xs => by cases xs <;> rfl) (fun S tg x => rfl) (fun S x => rfl)
  cases e with
  | ListComp e gs scope pos => cases gs with
    | nil => cases h
    | cons g gs =>
      obtain ⟨tg, iter, ifs, z⟩ := g
      cases ifs with
      | cons _ _ => cases gs <;> cases h
      | nil => cases gs with
        | nil => cases h
        | cons g1 gs =>
          obtain ⟨tg1, iter1, ifs1, z1⟩ := g1
          cases ifs1 with
          | cons _ _ => cases gs <;> cases h
          | nil => cases gs with
            | cons _ _ => cases h
            | nil =>
              have h' : (decide (z = 0) && decide (z1 = 0) && noSet iter && noSet iter1 && blkC C.N S.sc scope (ownOf C t ++ ownOf C t1) && chkT C (blk S scope) t tg && chkT C (blk S scope) t1 tg1 && chkI C S it tg iter && chkI C (blk S scope) it1 tg1 iter1 && chk C (blk S scope) elt e) = true := h
              simp only [Bool.and_eq_true] at h'
              obtain ⟨⟨⟨⟨⟨⟨⟨⟨⟨h1, h1'⟩, h2⟩, h2'⟩, h3⟩, h4⟩, h4'⟩, h5⟩, h5'⟩, h6⟩ := h'
              have := of_decide_eq_true h1
              subst this
              have := of_decide_eq_true h1'
              subst this
              exact ⟨rfl, d_lc2 c h3 h2 h2' h4 h4' (hi.pi c tg iter h5) (fun s H D cl fp => hi1.pi (c.inBlk s H scope D cl fp) tg1 iter1 h5') fun s H D cl fp => he.pe (c.inBlk s H scope D cl fp) e h6⟩
  | _ => cases h
theorem snd_subO {a : E} (i : Nat) (ha : Snd P w base B F C k a) : Snd P w base B F C k (.subO i a) := by
  refine Snd.plain (fun {X W S} c e h => ?_) (fun S xs => by cases xs <;> rfl) (fun S tg x => rfl) (fun S x => rfl)
  cases e with
  | Subscript o y pos => cases o with
    | Name x p =>
      have h' : (nAt C i x && isVis S x && isPlainN x && chk C S a y && noSlice y) = true := h
      simp only [Bool.and_eq_true] at h'
      obtain ⟨⟨⟨⟨h1, h2⟩, h3⟩, h4⟩, h5⟩ := h'
      exact ⟨rfl, d_subO c h1 h2 h3 (ha.pe c y h4) h5⟩
    | _ => cases h
  | _ => cases h
theorem snd_lenO (i : Nat) : Snd P w base B F C k (.lenO i) := by
  refine Snd.plain (fun {X W S} c e h => ?_) (fun S xs => by cases xs <;> rfl) (fun S tg x => rfl) (fun S x => rfl)
  cases e with
  | Call fn args kws pos =>
    cases fn with
    | Name g p => cases args with
      | nil => cases h
      | cons y es => cases y with
        | Name x p' => cases es with
          | cons _ _ => cases h
          | nil => cases kws with
            | cons _ _ => cases h
            | nil =>
              have h' : (seq g "len" && isGl S g && nAt C i x && isVis S x && isPlainN x) = true := h
              simp only [Bool.and_eq_true] at h'
              obtain ⟨⟨⟨⟨h1, h2⟩, h3⟩, h4⟩, h5⟩ := h'
              have := seq_eq h1
              subst this
              exact ⟨rfl, d_lenO c h2 h3 h4 h5⟩
        | _ => cases h
    | _ => cases h
  | _ => cases h
theorem snd_revO (i : Nat) : Snd P w base B F C k (.revO i) := by
  refine Snd.plain (fun {X W S} c e h => ?_) (fun S xs => by cases xs <;> rfl) (fun S tg x => rfl) (fun S x => rfl)
  cases e with
  | Subscript o y pos => cases o with
    | Name x p => cases y with
      | Slice lo hi st p1 =>
        cases lo with
        | some _ => cases h
        | none => cases hi with
          | some _ => cases h
          | none => cases st with
            | none => cases h
            | some z => cases z with
              | UnaryOp op z2 p2 => cases op with
                | USub => cases z2 with
                  | Constant v j p3 => cases v with
                    | int m =>
                      have h' : (decide (m = 1) && nAt C i x && isVis S x && isPlainN x) = true := h
                      simp only [Bool.and_eq_true] at h'
                      obtain ⟨⟨⟨h1, h2⟩, h3⟩, h4⟩ := h'
                      have := of_decide_eq_true h1
                      subst this
                      exact ⟨rfl, d_revO c h2 h3 h4⟩
                    | _ => cases h
                  | _ => cases h
                | _ => cases h
              | _ => cases h
      | _ => cases h
    | _ => cases h
  | _ => cases h
theorem cmp_bools {F : Fns} {o : CmpOp} {a b : E} {env : Env} {d : D} (h : ev F (.cmp o a b) env = .ok d) : ∃ q, d = .bool q := by
  obtain ⟨x, _, h⟩ := bind_ok (show ((ev F a env).bind fun x => (ev F b env).bind fun y => cmpD o x y) = .ok d from h)
  obtain ⟨y, _, h⟩ := bind_ok h
  exact cmp_bool h
theorem snd_cmp (o : CmpOp) {a b : E} (ha : Snd P w base B F C k a) (hb : Snd P w base B F C k b) : Snd P w base B F C k (.cmp o a b) where
  pe := fun {X W S} c e h => by
    cases e with
    | Compare x ops ys pos => cases ops with
      | nil => cases h
      | cons p ops => cases ops with
        | cons _ _ => cases ys <;> cases h
        | nil => cases ys with
          | nil => cases h
          | cons y ys => cases ys with
            | cons _ _ => cases h
            | nil =>
              have h' : (decide (o = p) && chk C S a x && chk C S b y && noSet y) = true := h
              simp only [Bool.and_eq_true] at h'
              obtain ⟨⟨⟨h1, h2⟩, h3⟩, h4⟩ := h'
              have := of_decide_eq_true h1
              subst this
              exact d_cmp c.room o (ha.pe c x h2) (hb.pe c y h3) h4
    | _ => cases h
  pt := fun {X W S} c e h _ => by
    cases e with
    | Compare x ops ys pos => cases ops with
      | nil => cases h
      | cons p ops => cases ops with
        | cons _ _ => cases ys <;> cases h
        | nil => cases ys with
          | nil => cases h
          | cons y ys => cases ys with
            | cons _ _ => cases h
            | nil =>
              have h' : (decide (o = p) && chk C S a x && chk C S b y && noSet y) = true := h
              simp only [Bool.and_eq_true] at h'
              obtain ⟨⟨⟨h1, h2⟩, h3⟩, h4⟩ := h'
              have := of_decide_eq_true h1
              subst this
              refine t_of (ma := ev F (.cmp o a b)) (pt_cmpR (or_cmp c.room o) (ha.pe c x h2) (hb.pe c y h3) (mark_of h4)) ?_ fun env d => cmp_bools
              rintro σ H Q ⟨G, env, og, p⟩
              refine tD_bind og p fun a1 ea pa v G1 H1 g1 rv => ?_
              refine tD_bind (og.grow g1) (pa.grow g1 fun d hd => hd) fun b1 eb pb u G2 H2 g2 ru => ?_
              obtain ⟨d, ed, q⟩ := Pst.val pb (nx_cmp o a1 b1)
              exact ⟨G2, a1, b1, d, g2.gh, rv.same g2.gg, ru, ed, fun v3 G3 H3 g3 r3 => q v3 G3 H3 ((g1.trans g2).trans g3) r3⟩
    | _ => cases h
  pw := fun c op es pos h => by cases h
  pa := fun c xs h => by cases xs <;> cases h
  pi := fun c tg x h => by cases h
  pr := fun c x p pos h => by cases h
theorem chain_read (room : ∀ X : Cx, True) {o1 o2 : CmpOp} {X : Cx} {W : WX} {ma mb mc : Env → R D} {σ : L2.St} {H : Hp} {Q : VK}
    (h : tD B W (fun e => (ma e).bind fun x => (mb e).bind fun y => (cmpD o1 x y).bind fun r => (boolD r).bind fun k => if k then (mc e).bind fun z => cmpD o2 y z else .ok (.bool false)) σ H Q) :
    tChain (rD2 (cmpD o1)) (rD2 (cmpD o2)) (tD B W ma) (tD B W mb) (tD B W mc) σ H Q := by
  obtain ⟨G, env, o, p⟩ := h
  refine tD_bind o p fun a ea pa v G1 H1 g1 rv => ?_
  refine tD_bind (o.grow g1) (pa.grow g1 fun d hd => hd) fun b eb pb u G2 H2 g2 ru => ?_
  have g12 := g1.trans g2
  cases e : cmpD o1 a b with
  | exc c => exact absurd e (nx_cmp o1 a b c)
  | stuck => rw [e] at pb; exact pb.elim
  | ok d =>
    obtain ⟨q, rfl⟩ := cmp_bool e
    rw [e] at pb
    simp only [TC.R.ok_bind, boolD_bool] at pb
    refine ⟨G2, a, b, _, g2.gh, rv.same g2.gg, ru, e, fun v3 G3 H3 g3 r3 => ?_⟩
    cases rp_bool r3
    refine ⟨q, rfl, ?_⟩
    cases q with
    | false => exact pb _ G3 H3 (g12.trans g3) (Rp.of (.bl _))
    | true =>
      refine tD_bind (o.grow (g12.trans g3)) (Pst.grow pb (g2.trans g3) fun d hd => hd) fun z ez pz u3 G4 H4 g4 ru3 => ?_
      cases e2 : cmpD o2 b z with
      | exc c => exact absurd e2 (nx_cmp o2 b z c)
      | stuck => rw [e2] at pz; exact pz.elim
      | ok d2 =>
        rw [e2] at pz
        exact ⟨G4, b, z, d2, g4.gh, (ru.same g3.gg).same g4.gg, ru3, e2, fun v5 G5 H5 g5 r5 => pz v5 G5 H5 (((g12.trans g3).trans g4).trans g5) r5⟩
theorem chain_bools {F : Fns} {o p : CmpOp} {a b c : E} {env : Env} {d : D} (h : ev F (.chain o p a b c) env = .ok d) : ∃ q, d = .bool q := by
  obtain ⟨x, _, h⟩ := bind_ok (show ((ev F a env).bind fun x => (ev F b env).bind fun y => (cmpD o x y).bind fun r => (boolD r).bind fun k => if k then (ev F c env).bind fun z => cmpD p y z else .ok (.bool false)) = .ok d from h)
  obtain ⟨y, _, h⟩ := bind_ok h
  obtain ⟨r, _, h⟩ := bind_ok h
  obtain ⟨q, _, h⟩ := bind_ok h
  cases q with
  | false => cases h; exact ⟨_, rfl⟩
  | true =>
    obtain ⟨z, _, h⟩ := bind_ok (show ((ev F c env).bind fun z => cmpD p y z) = .ok d from h)
    exact cmp_bool h
theorem snd_chain (o p : CmpOp) {a b d : E} (ha : Snd P w base B F C k a) (hb : Snd P w base B F C k b) (hd : Snd P w base B F C k d) : Snd P w base B F C k (.chain o p a b d) := by
  have inv : ∀ (S : Sx) (e : Expr), chk C S (.chain o p a b d) e = true → ∃ x y z pos, e = .Compare x [o, p] [y, z] pos ∧ chk C S a x = true ∧ chk C S b y = true ∧ chk C S d z = true ∧ noSet y = true ∧ noSet z = true := by
    intro S e h
    cases e with
    | Compare x ops ys pos => cases ops with
      | nil => cases h
      | cons o1 ops => cases ops with
        | nil => cases ys <;> cases h
        | cons o2 ops => cases ops with
          | cons _ _ => cases ys <;> cases h
          | nil => cases ys with
            | nil => cases h
            | cons y ys => cases ys with
              | nil => cases h
              | cons z ys => cases ys with
                | cons _ _ => cases h
                | nil =>
                  have h' : (decide (o = o1) && decide (p = o2) && chk C S a x && chk C S b y && chk C S d z && noSet y && noSet z) = true := h
                  simp only [Bool.and_eq_true] at h'
                  obtain ⟨⟨⟨⟨⟨⟨h1, h2⟩, h3⟩, h4⟩, h5⟩, h6⟩, h7⟩ := h'
                  have := of_decide_eq_true h1
                  subst this
                  have := of_decide_eq_true h2
                  subst this
                  exact ⟨x, y, z, pos, rfl, h3, h4, h5, h6, h7⟩
    | _ => cases h
  exact {
    pe := fun {X W S} c e h => by
      obtain ⟨x, y, z, pos, rfl, h3, h4, h5, h6, h7⟩ := inv S e h
      exact d_chain c.room (ha.pe c x h3) (hb.pe c y h4) (hd.pe c z h5) h6 h7
    pt := fun {X W S} c e h _ => by
      obtain ⟨x, y, z, pos, rfl, h3, h4, h5, h6, h7⟩ := inv S e h
      exact t_of (ma := ev F (.chain o p a b d)) (pt_chain (or_cmp c.room o) (or_cmp c.room p) (ha.pe c x h3) (hb.pe c y h4) (hd.pe c z h5) (mark_of h7)) (fun σ H Q q => chain_read (X := X) (fun _ => trivial) q) fun env d => chain_bools
    pw := fun c op es pos h => by cases h
    pa := fun c xs h => by cases xs <;> cases h
    pi := fun c tg x h => by cases h
    pr := fun c x p pos h => by cases h }
theorem snd_inO (neg : Bool) {a : E} (i : Nat) (ha : Snd P w base B F C k a) : Snd P w base B F C k (.inO neg a i) := by
  have inv : ∀ (S : Sx) (e : Expr), chk C S (.inO neg a i) e = true → ∃ x y p pos, e = .Compare x [if neg then CmpOp.NotIn else .In] [.Name y p] pos ∧ chk C S a x = true ∧ nAt C i y = true ∧ isVis S y = true ∧ isPlainN y = true := by
    intro S e h
    cases e with
    | Compare x ops ys pos => cases ops with
      | nil => cases h
      | cons o1 ops => cases ops with
        | cons _ _ => cases ys <;> cases h
        | nil => cases ys with
          | nil => cases h
          | cons y ys => cases y with
            | Name y p => cases ys with
              | cons _ _ => cases h
              | nil =>
                have h' : (decide (o1 = if neg then .NotIn else .In) && chk C S a x && nAt C i y && isVis S y && isPlainN y) = true := h
                simp only [Bool.and_eq_true] at h'
                obtain ⟨⟨⟨⟨h1, h2⟩, h3⟩, h4⟩, h5⟩ := h'
                have := of_decide_eq_true h1
                subst this
                exact ⟨x, y, p, pos, rfl, h2, h3, h4, h5⟩
            | _ => cases ys <;> cases h
    | _ => cases h
  have bools : ∀ env d, ev F (.inO neg a i) env = .ok d → ∃ q, d = .bool q := fun env d h => by
    obtain ⟨x, _, h⟩ := bind_ok (show ((ev F a env).bind fun x => (ofOpt (keyOf x)).bind fun q => (getTb i env).bind fun kvs => .ok (.bool ((kvs.lookup q).isSome != neg))) = .ok d from h)
    obtain ⟨_, _, h⟩ := bind_ok h
    obtain ⟨_, _, h⟩ := bind_ok h
    cases h
    exact ⟨_, rfl⟩
  have pe : ∀ {X : Cx} {W : WX} {S : Sx}, Cok P w base B F C k X W S → ∀ x, chk C S (.inO neg a i) x = true → PE X x (tD B W (ev F (.inO neg a i))) := fun {X W S} c e h => by
    obtain ⟨x, y, p, pos, rfl, h1, h2, h3, h4⟩ := inv S e h
    cases neg with
    | false => exact d_inO c h2 h3 h4 (ha.pe c x h1)
    | true => exact d_notinO c h2 h3 h4 (ha.pe c x h1)
  exact {
    pe := pe
    pt := fun {X W S} c e h _ => by
      obtain ⟨x, y, p, pos, rfl, h1, h2, h3, h4⟩ := inv S e h
      have hu : X.A.units + 1 < cLine := hu_of c.room
      cases neg with
      | false =>
        refine t_of (ma := ev F (.inO false a i)) (pt_cmp (pc_din hu (ha.pe c x h1) (pe_nm c h2 h3 h4)) rfl) ?_ bools
        rintro σ H Q ⟨G, env, o, p⟩
        refine tD_bind o p fun kd ek pk v G1 H1 g1 rv => ?_
        obtain ⟨qk, e1, pk⟩ := Pst.get pk nx_opt
        obtain ⟨kvs, e2, pk⟩ := Pst.get pk (nx_getTb _ _)
        obtain ⟨a, ks, ea, hl, rr, _⟩ := o.tabAt (getTb_ok e2)
        obtain ⟨b, rfl, hb⟩ := key_at rv (ofOpt_ok e1)
        refine ⟨_, ea, a, valV ks (qk.map Sum.inl), rfl, DGet.t (g1.hh _ _ hl) (g1.gh _ _ hb), ?_⟩
        cases el : kvs.lookup qk with
        | none =>
          rw [val_none rr el]
          rw [el] at pk
          exact pk _ G1 H1 g1 (Rp.of (.bl _))
        | some d =>
          obtain ⟨z, h4, h5⟩ := val_row rr el
          rw [h4]
          rw [el] at pk
          exact pk _ G1 H1 g1 (Rp.of (.bl _))
      | true =>
        refine t_of (ma := ev F (.inO true a i)) (pt_cmp (pc_dnotin hu (ha.pe c x h1) (pe_nm c h2 h3 h4)) rfl) ?_ bools
        rintro σ H Q ⟨G, env, o, p⟩
        refine tD_bind o p fun kd ek pk v G1 H1 g1 rv => ?_
        obtain ⟨qk, e1, pk⟩ := Pst.get pk nx_opt
        obtain ⟨kvs, e2, pk⟩ := Pst.get pk (nx_getTb _ _)
        obtain ⟨a, ks, ea, hl, rr, _⟩ := o.tabAt (getTb_ok e2)
        obtain ⟨b, rfl, hb⟩ := key_at rv (ofOpt_ok e1)
        refine ⟨_, ea, a, valV ks (qk.map Sum.inl), rfl, DGet.t (g1.hh _ _ hl) (g1.gh _ _ hb), ?_⟩
        cases el : kvs.lookup qk with
        | none =>
          rw [val_none rr el]
          rw [el] at pk
          exact pk _ G1 H1 g1 (Rp.of (.bl _))
        | some d =>
          obtain ⟨z, h4, h5⟩ := val_row rr el
          rw [h4]
          rw [el] at pk
          exact pk _ G1 H1 g1 (Rp.of (.bl _))
    pw := fun c op es pos h => by cases h
    pa := fun c xs h => by cases xs <;> cases h
    pi := fun c tg x h => by cases h
    pr := fun c x p pos h => by cases h }
theorem snd_not {a : E} (ha : Snd P w base B F C k a) : Snd P w base B F C k (.not a) where
  pe := fun {X W S} c e h => by
    cases e with
    | UnaryOp op x p => cases op with
      | Not => exact d_not c.eK (ha.pe c x h)
      | _ => cases h
    | _ => cases h
  pt := fun {X W S} c e h ht => by
    cases e with
    | UnaryOp op x p => cases op with
      | Not => exact t_not (ha.pt c x h ht)
      | _ => cases h
    | _ => cases h
  pw := fun c op es pos h => by cases h
  pa := fun c xs h => by cases xs <;> cases h
  pi := fun c tg x h => by cases h
  pr := fun c x p pos h => by cases h
theorem snd_ofW {a : E} (he : ∀ {X : Cx} {W : WX} {S : Sx}, Cok P w base B F C k X W S → ∀ op es pos, chk C S a (.BoolOp op es pos) = true → PE X (.BoolOp op es pos) (tD B W (ev F a)))
    (hw : ∀ {X : Cx} {W : WX} {S : Sx}, Cok P w base B F C k X W S → ∀ op es pos, chk C S a (.BoolOp op es pos) = true → tstOk (.BoolOp op es pos) = true → PW X (.BoolOp op es pos) (tB1 B W (tst (ev F a))))
    (hf : ∀ S x, chk C S a x = true → ∃ op es pos, x = .BoolOp op es pos) (h1 : ∀ S xs, chks C S a xs = false) (h2 : ∀ S tg x, chkI C S a tg x = false) (h3 : ∀ S x, chkR C S a x = false) : Snd P w base B F C k a where
  pe := fun {X W S} c e h => by
    obtain ⟨op, es, pos, rfl⟩ := hf S e h
    exact he c op es pos h
  pt := fun {X W S} c e h ht => by
    obtain ⟨op, es, pos, rfl⟩ := hf S e h
    exact (hw c op es pos h ht).pt
  pw := hw
  pa := fun _ xs h => by rw [h1] at h; cases h
  pi := fun _ tg x h => by rw [h2] at h; cases h
  pr := fun _ x p pos h => by rw [h3] at h; cases h
theorem tstOk_one {op : PySem.BoolOp} {x : Expr} {pos : Pos} (h : tstOk (.BoolOp op [x] pos) = true) : tstOk x = true := by
  have h' : (tstOk x && true) = true := h
  rwa [Bool.and_true] at h'
theorem tstOk_cons {op : PySem.BoolOp} {x y : Expr} {r : List Expr} {pos : Pos} (h : tstOk (.BoolOp op (x :: y :: r) pos) = true) : tstOk x = true ∧ tstOk (.BoolOp op (y :: r) pos) = true := by
  have h' : (tstOk x && tstOks (y :: r)) = true := h
  rw [Bool.and_eq_true] at h'
  exact h'
theorem snd_one {a : E} (ha : Snd P w base B F C k a) : Snd P w base B F C k (.one a) := by
  refine snd_ofW (fun {X W S} c op es pos h => ?_) (fun {X W S} c op es pos h ht => ?_) (fun S x h => ?_) (fun S xs => by cases xs <;> rfl) (fun S tg x => rfl) (fun S x => rfl)
  · cases es with
    | nil => cases h
    | cons x es => cases es with
      | cons _ _ => cases h
      | nil => exact d_one (ha.pe c x h)
  · cases es with
    | nil => cases h
    | cons x es => cases es with
      | cons _ _ => cases h
      | nil => exact t_one (ha.pt c x h (tstOk_one ht))
  · cases x <;> first | exact ⟨_, _, _, rfl⟩ | cases h
theorem snd_and {a b : E} (ha : Snd P w base B F C k a) (hb : Snd P w base B F C k b) : Snd P w base B F C k (.and a b) := by
  refine snd_ofW (fun {X W S} c op es pos h => ?_) (fun {X W S} c op es pos h ht => ?_) (fun S x h => ?_) (fun S xs => by cases xs <;> rfl) (fun S tg x => rfl) (fun S x => rfl)
  · cases op with
    | Or => cases h
    | And => cases es with
      | nil => cases h
      | cons x es => cases es with
        | nil => cases h
        | cons y r =>
          have h' : (chk C S a x && chk C S b (.BoolOp .And (y :: r) pos)) = true := h
          rw [Bool.and_eq_true] at h'
          exact d_and (ha.pe c x h'.1) (hb.pe c _ h'.2)
  · cases op with
    | Or => cases h
    | And => cases es with
      | nil => cases h
      | cons x es => cases es with
        | nil => cases h
        | cons y r =>
          have h' : (chk C S a x && chk C S b (.BoolOp .And (y :: r) pos)) = true := h
          rw [Bool.and_eq_true] at h'
          obtain ⟨t1, t2⟩ := tstOk_cons ht
          exact t_and (ha.pt c x h'.1 t1) (hb.pw c _ _ _ h'.2 t2)
  · cases x <;> first | exact ⟨_, _, _, rfl⟩ | cases h
theorem snd_or {a b : E} (ha : Snd P w base B F C k a) (hb : Snd P w base B F C k b) : Snd P w base B F C k (.or a b) := by
  refine snd_ofW (fun {X W S} c op es pos h => ?_) (fun {X W S} c op es pos h ht => ?_) (fun S x h => ?_) (fun S xs => by cases xs <;> rfl) (fun S tg x => rfl) (fun S x => rfl)
  · cases op with
    | And => cases h
    | Or => cases es with
      | nil => cases h
      | cons x es => cases es with
        | nil => cases h
        | cons y r =>
          have h' : (chk C S a x && chk C S b (.BoolOp .Or (y :: r) pos)) = true := h
          rw [Bool.and_eq_true] at h'
          exact d_or (ha.pe c x h'.1) (hb.pe c _ h'.2)
  · cases op with
    | And => cases h
    | Or => cases es with
      | nil => cases h
      | cons x es => cases es with
        | nil => cases h
        | cons y r =>
          have h' : (chk C S a x && chk C S b (.BoolOp .Or (y :: r) pos)) = true := h
          rw [Bool.and_eq_true] at h'
          obtain ⟨t1, t2⟩ := tstOk_cons ht
          exact t_or (ha.pt c x h'.1 t1) (hb.pw c _ _ _ h'.2 t2)
  · cases x <;> first | exact ⟨_, _, _, rfl⟩ | cases h
theorem bind_assoc {α β γ : Type} (r : R α) (f : α → R β) (g : β → R γ) : (r.bind f).bind g = r.bind fun a => (f a).bind g := by cases r <;> rfl
theorem snd_ife {q a b : E} (hq : Snd P w base B F C k q) (ha : Snd P w base B F C k a) (hb : Snd P w base B F C k b) : Snd P w base B F C k (.ife q a b) where
  pe := fun {X W S} c e h => by
    cases e with
    | IfExp x y z p =>
      have h' : (tstOk x && chk C S q x && chk C S a y && chk C S b z) = true := h
      simp only [Bool.and_eq_true] at h'
      obtain ⟨⟨⟨h1, h2⟩, h3⟩, h4⟩ := h'
      have := d_ife (pos := p) (hq.pt c x h2 h1) (ha.pe c y h3) (hb.pe c z h4)
      refine PE.weak this fun σ H Q hh => ?_
      obtain ⟨G, env, o, pp⟩ := hh
      refine ⟨G, env, o, ?_⟩
      dsimp only [tst]
      rw [bind_assoc]
      exact pp
    | _ => cases h
  pt := fun {X W S} c e h ht => by
    cases e with
    | IfExp x y z p => cases ht
    | _ => cases h
  pw := fun c op es pos h => by cases h
  pa := fun c xs h => by cases xs <;> cases h
  pi := fun c tg x h => by cases h
  pr := fun c x p pos h => by cases h
theorem snd_nil : Snd P w base B F C k .nil where
  pe := fun c x h => by cases x <;> cases h
  pt := fun c x h => by cases x <;> cases h
  pw := fun c op es pos h => by cases h
  pa := fun c xs h => by
    cases xs with
    | nil => exact a_nil
    | cons _ _ => cases h
  pi := fun c tg x h => by cases h
  pr := fun c x p pos h => by cases h
theorem snd_cons {a r : E} (ha : Snd P w base B F C k a) (hr : Snd P w base B F C k r) : Snd P w base B F C k (.cons a r) where
  pe := fun c x h => by cases x <;> cases h
  pt := fun c x h => by cases x <;> cases h
  pw := fun c op es pos h => by cases h
  pa := fun {X W S} c xs h => by
    cases xs with
    | nil => cases h
    | cons x xs =>
      have h' : (chk C S a x && noStar x && chks C S r xs) = true := h
      rw [Bool.and_eq_true, Bool.and_eq_true] at h'
      exact a_cons (ha.pe c x h'.1.1) (hr.pa c xs h'.2) h'.1.2
  pi := fun c tg x h => by cases h
  pr := fun c x p pos h => by cases h
theorem snd_itr {a : E} (ha : Snd P w base B F C k a) : Snd P w base B F C k (.itr a) where
  pe := fun c x h => by cases x <;> cases h
  pt := fun c x h => by cases x <;> cases h
  pw := fun c op es pos h => by cases h
  pa := fun c xs h => by cases xs <;> cases h
  pi := fun {X W S} c tg x h => pi_D c.eK (ha.pe c x h)
  pr := fun c x p pos h => by cases h
theorem inv_rI {S : Sx} {a : E} {e : Expr} {tg : Expr} (h : chkI C S (.rng a) tg e = true) : ∃ p x pos, e = .Call (.Name "range" p) [x] [] pos ∧ isGl S "range" = true ∧ noStar x = true ∧ chk C S a x = true := by
  cases e with
  | Call fn args kws pos => cases fn with
    | Name g p => cases args with
      | nil => cases h
      | cons x es => cases es with
        | cons _ _ => cases h
        | nil => cases kws with
          | cons _ _ => cases h
          | nil =>
            have h' : (seq g "range" && isGl S g && noStar x && chk C S a x) = true := h
            simp only [Bool.and_eq_true] at h'
            obtain ⟨⟨⟨h1, h2⟩, h3⟩, h4⟩ := h'
            have := seq_eq h1
            subst this
            exact ⟨p, x, pos, rfl, h2, h3, h4⟩
    | _ => cases h
  | _ => cases h
theorem inv_rR {S : Sx} {a : E} {e : Expr} (h : chkR C S (.rng a) e = true) : ∃ p x pos, e = .Call (.Name "range" p) [x] [] pos ∧ isGl S "range" = true ∧ noStar x = true ∧ chk C S a x = true := by
  cases e with
  | Call fn args kws pos => cases fn with
    | Name g p => cases args with
      | nil => cases h
      | cons x es => cases es with
        | cons _ _ => cases h
        | nil => cases kws with
          | cons _ _ => cases h
          | nil =>
            have h' : (seq g "range" && isGl S g && noStar x && chk C S a x) = true := h
            simp only [Bool.and_eq_true] at h'
            obtain ⟨⟨⟨h1, h2⟩, h3⟩, h4⟩ := h'
            have := seq_eq h1
            subst this
            exact ⟨p, x, pos, rfl, h2, h3, h4⟩
    | _ => cases h
  | _ => cases h
theorem inv_eI {S : Sx} {a : E} {e : Expr} {es : List Expr} {n : Nat} {tp : Pos} (h : chkI C S (.enu a) (.Tuple es n tp) e = true) : ∃ p x pos, e = .Call (.Name "enumerate" p) [x] [] pos ∧ isGl S "enumerate" = true ∧ noStar x = true ∧ chk C S a x = true := by
  cases e with
  | Call fn args kws pos => cases fn with
    | Name g p => cases args with
      | nil => cases h
      | cons x es => cases es with
        | cons _ _ => cases h
        | nil => cases kws with
          | cons _ _ => cases h
          | nil =>
            have h' : (seq g "enumerate" && isGl S g && noStar x && chk C S a x) = true := h
            simp only [Bool.and_eq_true] at h'
            obtain ⟨⟨⟨h1, h2⟩, h3⟩, h4⟩ := h'
            have := seq_eq h1
            subst this
            exact ⟨p, x, pos, rfl, h2, h3, h4⟩
    | _ => cases h
  | _ => cases h
theorem inv_r2I {S : Sx} {a b : E} {e : Expr} {tg : Expr} (h : chkI C S (.rng2 a b) tg e = true) : ∃ p x y pos, e = .Call (.Name "range" p) [x, y] [] pos ∧ isGl S "range" = true ∧ noStar x = true ∧ noStar y = true ∧ chk C S a x = true ∧ chk C S b y = true := by
  cases e with
  | Call fn args kws pos => cases fn with
    | Name g p => cases args with
      | nil => cases h
      | cons x es => cases es with
        | nil => cases h
        | cons y es => cases es with
          | cons _ _ => cases h
          | nil => cases kws with
            | cons _ _ => cases h
            | nil =>
              have h' : (seq g "range" && isGl S g && noStar x && noStar y && chk C S a x && chk C S b y) = true := h
              simp only [Bool.and_eq_true] at h'
              obtain ⟨⟨⟨⟨⟨h1, h2⟩, h3⟩, h4⟩, h5⟩, h6⟩ := h'
              have := seq_eq h1
              subst this
              exact ⟨p, x, y, pos, rfl, h2, h3, h4, h5, h6⟩
    | _ => cases h
  | _ => cases h
theorem inv_r2R {S : Sx} {a b : E} {e : Expr} (h : chkR C S (.rng2 a b) e = true) : ∃ p x y pos, e = .Call (.Name "range" p) [x, y] [] pos ∧ isGl S "range" = true ∧ noStar x = true ∧ noStar y = true ∧ chk C S a x = true ∧ chk C S b y = true := by
  cases e with
  | Call fn args kws pos => cases fn with
    | Name g p => cases args with
      | nil => cases h
      | cons x es => cases es with
        | nil => cases h
        | cons y es => cases es with
          | cons _ _ => cases h
          | nil => cases kws with
            | cons _ _ => cases h
            | nil =>
              have h' : (seq g "range" && isGl S g && noStar x && noStar y && chk C S a x && chk C S b y) = true := h
              simp only [Bool.and_eq_true] at h'
              obtain ⟨⟨⟨⟨⟨h1, h2⟩, h3⟩, h4⟩, h5⟩, h6⟩ := h'
              have := seq_eq h1
              subst this
              exact ⟨p, x, y, pos, rfl, h2, h3, h4, h5, h6⟩
    | _ => cases h
  | _ => cases h
theorem inv_zI {S : Sx} {a b : E} {e : Expr} {es : List Expr} {n : Nat} {tp : Pos} (h : chkI C S (.zip a b) (.Tuple es n tp) e = true) : ∃ p x y pos, e = .Call (.Name "zip" p) [x, y] [] pos ∧ isGl S "zip" = true ∧ noStar x = true ∧ noStar y = true ∧ chk C S a x = true ∧ chk C S b y = true := by
  cases e with
  | Call fn args kws pos => cases fn with
    | Name g p => cases args with
      | nil => cases h
      | cons x es => cases es with
        | nil => cases h
        | cons y es => cases es with
          | cons _ _ => cases h
          | nil => cases kws with
            | cons _ _ => cases h
            | nil =>
              have h' : (seq g "zip" && isGl S g && noStar x && noStar y && chk C S a x && chk C S b y) = true := h
              simp only [Bool.and_eq_true] at h'
              obtain ⟨⟨⟨⟨⟨h1, h2⟩, h3⟩, h4⟩, h5⟩, h6⟩ := h'
              have := seq_eq h1
              subst this
              exact ⟨p, x, y, pos, rfl, h2, h3, h4, h5, h6⟩
    | _ => cases h
  | _ => cases h
theorem snd_rng {a : E} (ha : Snd P w base B F C k a) : Snd P w base B F C k (.rng a) where
  pe := fun c x h => by cases x <;> cases h
  pt := fun c x h => by cases x <;> cases h
  pw := fun c op es pos h => by cases h
  pa := fun c xs h => by cases xs <;> cases h
  pi := fun {X W S} c tg e h => by
    obtain ⟨p, x, pos, rfl, h1, h2, h3⟩ := inv_rI h
    exact pi_rng1 (gl_of c h1) (c.free (by simp)) (ha.pe c x h3) h2
  pr := fun {X W S} c e p0 pos0 h => by
    obtain ⟨p, x, pos, rfl, h1, h2, h3⟩ := inv_rR h
    exact ⟨fun g => d_lsr1 c g h1 (ha.pe c x h3) h2, fun g => d_tpr1 c g h1 (ha.pe c x h3) h2⟩
theorem snd_rng2 {a b : E} (ha : Snd P w base B F C k a) (hb : Snd P w base B F C k b) : Snd P w base B F C k (.rng2 a b) where
  pe := fun c x h => by cases x <;> cases h
  pt := fun c x h => by cases x <;> cases h
  pw := fun c op es pos h => by cases h
  pa := fun c xs h => by cases xs <;> cases h
  pi := fun {X W S} c tg e h => by
    obtain ⟨p, x, y, pos, rfl, h1, h2, h3, h4, h5⟩ := inv_r2I h
    exact pi_rng2 (gl_of c h1) (c.free (by simp)) (ha.pe c x h4) (hb.pe c y h5) h2 h3
  pr := fun {X W S} c e p0 pos0 h => by
    obtain ⟨p, x, y, pos, rfl, h1, h2, h3, h4, h5⟩ := inv_r2R h
    exact ⟨fun g => d_lsr2 c g h1 (ha.pe c x h4) (hb.pe c y h5) h2 h3, fun g => d_tpr2 c g h1 (ha.pe c x h4) (hb.pe c y h5) h2 h3⟩
theorem snd_zip {a b : E} (ha : Snd P w base B F C k a) (hb : Snd P w base B F C k b) : Snd P w base B F C k (.zip a b) where
  pe := fun c x h => by cases x <;> cases h
  pt := fun c x h => by cases x <;> cases h
  pw := fun c op es pos h => by cases h
  pa := fun c xs h => by cases xs <;> cases h
  pi := fun {X W S} c tg e h => by
    cases tg with
    | Tuple es n tp =>
      obtain ⟨p, x, y, pos, rfl, h1, h2, h3, h4, h5⟩ := inv_zI h
      exact pi_zipD (gl_of c h1) (c.free (by simp)) (ha.pe c x h4) (hb.pe c y h5) h2 h3
    | _ => cases h
  pr := fun c x p pos h => by cases h
theorem snd_enu {a : E} (ha : Snd P w base B F C k a) : Snd P w base B F C k (.enu a) where
  pe := fun c x h => by cases x <;> cases h
  pt := fun c x h => by cases x <;> cases h
  pw := fun c op es pos h => by cases h
  pa := fun c xs h => by cases xs <;> cases h
  pi := fun {X W S} c tg e h => by
    cases tg with
    | Tuple es n tp =>
      obtain ⟨p, x, pos, rfl, h1, h2, h3⟩ := inv_eI h
      exact pi_enuD (gl_of c h1) (c.free (by simp)) (ha.pe c x h3) h2
    | _ => cases h
  pr := fun c x p pos h => by cases h
theorem snd_keyO (i : Nat) : Snd P w base B F C k (.keyO i) where
  pe := fun c x h => by cases x <;> cases h
  pt := fun c x h => by cases x <;> cases h
  pw := fun c op es pos h => by cases h
  pa := fun c xs h => by cases xs <;> cases h
  pi := fun c tg x h => by cases h
  pr := fun c x p pos h => by cases h
theorem snd_bor {a : E} (i : Nat) (ha : Snd P w base B F C k a) : Snd P w base B F C k (.bor i a) where
  pe := fun {X W S} c x h => d_bor (ha.pe c x (by cases x <;> exact h))
  pt := fun {X W S} c x h ht => t_bor (ha.pt c x (by cases x <;> exact h) ht)
  pw := fun {X W S} c op es pos h ht => w_bor (ha.pw c op es pos h ht)
  pa := fun c xs h => by cases xs <;> cases h
  pi := fun c tg x h => by cases h
  pr := fun c x p pos h => by cases h
/-- every node -/
theorem snd : ∀ a : E, Snd P w base B F C k a := by
  intro a
  induction a with
  | var i => exact snd_var i
  | int n => exact snd_int n
  | str n => exact snd_str n
  | non => exact snd_non
  | bl b => exact snd_bl b
  | glo x d => exact snd_glo x d
  | neg a ha => exact snd_neg ha
  | not a ha => exact snd_not ha
  | bin o a b ha hb => exact snd_bin o ha hb
  | cmp o a b ha hb => exact snd_cmp o ha hb
  | chain o p a b c ha hb hc => exact snd_chain o p ha hb hc
  | one a ha => exact snd_one ha
  | and a b ha hb => exact snd_and ha hb
  | or a b ha hb => exact snd_or ha hb
  | ife c a b hc ha hb => exact snd_ife hc ha hb
  | nil => exact snd_nil
  | cons a r ha hr => exact snd_cons ha hr
  | tup a ha => exact snd_tup ha
  | lst a ha => exact snd_lst ha
  | sub a b ha hb => exact snd_sub ha hb
  | slcL a b ha hb => exact snd_slcL ha hb
  | slcH a b ha hb => exact snd_slcH ha hb
  | rev a ha => exact snd_rev ha
  | call f a ha => exact snd_call f ha
  | blt f a ha => exact snd_blt f ha
  | lsr a ha => exact snd_lsr ha
  | tpr a ha => exact snd_tpr ha
  | isi a t ha => exact snd_isi t ha
  | lens a ha => exact snd_lens ha
  | srts a ha => exact snd_srts ha
  | mth m a r ha hr => exact snd_mth m ha hr
  | lc e t i he hi => exact snd_lc t he hi
  | lcf e t i c he hi hc => exact snd_lcf t he hi hc
  | lc2 e t i t1 i1 he hi hi1 => exact snd_lc2 t t1 he hi hi1
  | subO i a ha => exact snd_subO i ha
  | lenO i => exact snd_lenO i
  | inO n a i ha => exact snd_inO n i ha
  | revO i => exact snd_revO i
  | bor i a ha => exact snd_bor i ha
  | itr a ha => exact snd_itr ha
  | rng a ha => exact snd_rng ha
  | rng2 a b ha hb => exact snd_rng2 ha hb
  | zip a b ha hb => exact snd_zip ha hb
  | enu a ha => exact snd_enu ha
  | keyO i => exact snd_keyO i
end
end TC
set_option Elab.async false
set_option linter.all false
set_option maxRecDepth 100000
set_option autoImplicit false
/-! DlO: statements. -/
namespace TC
open PySem PySem.Spec PyProof.Rows L2

/-- what holds of the heap behind a def -/
structure Fin (B : Bs) (G H : Hp) : Prop where
  g0 : Same B.G0 G
  gH : Same G H
  kH : Same B.Ke H
  dm : ∀ a, B.Dm a → H a ≠ none
  gd : ∀ a, B.Dm a → G a = B.G0 a
theorem OkG.fin {B : Bs} {G H : Hp} {σ : L2.St} {env : Env} (o : OkG B G σ H env) : Fin B G H := ⟨o.g0, o.gH, o.kH, o.dm, o.gd⟩
def Pso (B : Bs) (W : WX) (D : Ends) (G : Hp) : R Fl → Prop
  | .ok (.nx e) => ∀ σ' G' H', OkG B G' σ' H' e → Same G G' → D.nx σ' H'
  | .ok (.bk e) => ∀ σ' G' H', OkG B G' σ' H' e → Same G G' → D.bk σ' H'
  | .ok (.ct e) => ∀ σ' G' H', OkG B G' σ' H' e → Same G G' → D.ct σ' H'
  | .ok (.rt d) => ∀ v G' H', Fin B G' H' → Rp G' v d → D.rt v H'
  | .exc c => ∀ σ' G' H', Fin B G' H' → ∀ cls, B.mg c = some cls → W cls none σ' H'
  | .stuck => False
def tSt (B : Bs) (W : WX) (m : Env → R Fl) : TS := fun D σ H => ∃ G env, OkG B G σ H env ∧ Pso B W D G (m env)

structure Sok (P : Program) (w : World) (base : Heap) (B : Bs) (F : Fns) (C : Ct) (k : Nat) (X : Cx) (W : WX) (S : Sx) : Prop where
  c : Cok P w base B F C k X W S
  hp : PassesOwn (model X.prog X.w) X.A X.env X.xe
  stk : X.stack = X.env :: X.outer
  fr : X.env.frame = some X.env.locals
  kf : S.sc.kind = .function

section
variable {P : Program} {w : World} {base : Heap} {B : Bs} {F : Fns} {C : Ct} {k : Nat} {X : Cx} {W : WX} {S : Sx}
variable {ma mb mc : Env → R D}
/-- an expression within a statement -/
theorem Pso.expr {α : Type} {D : Ends} {G H : Hp} {σ : L2.St} {env : Env} {ok : α → Prop} {r : R α} {f : α → R Fl} (o : OkG B G σ H env) (h : Pso B W D G (r.bind f)) (hs : ∀ d, r = .ok d → Pso B W D G (f d) → ok d) : Pst B W G σ H ok r := by
  cases r with
  | ok d => exact hs d rfl h
  | exc c => exact fun G' H' g cls e => h σ G' H' (o.grow g).fin cls e
  | stuck => exact h.elim
theorem Pso.mono {D : Ends} {G G1 : Hp} {r : R Fl} (h : Pso B W D G r) (s : Same G G1) : Pso B W D G1 r := by
  cases r with
  | ok f => cases f with
    | nx e => exact fun σ' G' H' o q => h σ' G' H' o (s.trans q)
    | bk e => exact fun σ' G' H' o q => h σ' G' H' o (s.trans q)
    | ct e => exact fun σ' G' H' o q => h σ' G' H' o (s.trans q)
    | rt d => exact h
  | exc c => exact h
  | stuck => exact h
theorem sD_bind {m : Env → R D} {En : Ends} {G H : Hp} {σ : L2.St} {env : Env} {f : D → R Fl} {Q : VK} (o : OkG B G σ H env) (h : Pso B W En G ((m env).bind f))
    (hs : ∀ d, m env = .ok d → Pso B W En G (f d) → ∀ v G' H', Gw G H G' H' → Rp G' v d → Q v H') : tD B W m σ H Q := ⟨G, env, o, Pso.expr o h hs⟩
theorem s_pass {pos : Pos} : PS X (.Pass pos) (tSt B W fun e => .ok (.nx e)) := PS.weak ps_pass fun D σ H ⟨G, env, o, p⟩ => p σ G H o (Same.refl _)
theorem s_nev {st : Stmt} : PS X st (tSt B W fun _ => .stuck) := PS.weak ps_never fun D σ H ⟨G, env, o, p⟩ => p
theorem ss_nev {st : List Stmt} : PSs X st (tSt B W fun _ => .stuck) := PSs.weak pss_never fun D σ H ⟨G, env, o, p⟩ => p
theorem s_ex {x : Expr} {pos : Pos} (n : noComp x = true) (h : PE X x (tD B W ma)) : PS X (.Expr x pos) (tSt B W fun e => (ma e).bind fun _ => .ok (.nx e)) :=
  PS.weak (ps_expr h (swap_of n)) fun D σ H ⟨G, env, o, p⟩ => sD_bind o p fun d _ q v G' H' g r => q σ G' H' (o.grow g) g.gg
theorem s_ret {x : Expr} {pos : Pos} (h : PE X x (tD B W ma)) : PS X (.Return (some x) pos) (tSt B W fun e => (ma e).bind fun d => .ok (.rt d)) :=
  PS.weak (ps_ret h) fun D σ H ⟨G, env, o, p⟩ => sD_bind o p fun d _ q v G' H' g r => q v G' H' (o.grow g).fin r
theorem ss_nil : PSs X [] (tSt B W fun e => .ok (.nx e)) := PSs.weak pss_nil fun D σ H ⟨G, env, o, p⟩ => p σ G H o (Same.refl _)
theorem ss_cons {st : Stmt} {rest : List Stmt} {m n : Env → R Fl} (h1 : PS X st (tSt B W m)) (h2 : PSs X rest (tSt B W n)) : PSs X (st :: rest) (tSt B W fun e => (m e).bind fun f => match f with | .nx e1 => n e1 | g => .ok g) := by
  refine PSs.weak (pss_cons h1 h2) fun D σ H ⟨G, env, o, p⟩ => ⟨G, env, o, ?_⟩
  dsimp only at p
  cases e : m env with
  | exc c => rw [e] at p; exact p
  | stuck => rw [e] at p; exact p
  | ok f =>
    rw [e] at p
    cases f with
    | nx e1 => exact fun σ' G' H' o' s => ⟨G', e1, o', Pso.mono (show Pso B W D G (n e1) from p) s⟩
    | bk e1 => exact p
    | ct e1 => exact p
    | rt d => exact p
theorem s_if {x : Expr} {a b : List Stmt} {pos : Pos} {m n : Env → R Fl} (hc : PT X x (tB1 B W (tst ma))) (ha : PSs X a (tSt B W m)) (hb : PSs X b (tSt B W n)) : PS X (.If x a b pos) (tSt B W fun e => (ma e).bind fun x => (truD x).bind fun k => if k then m e else n e) := by
  refine PS.weak (ps_if hc ha hb) fun D σ H ⟨G, env, o, p⟩ => ⟨G, env, o, ?_⟩
  dsimp only [tst]
  have p' : Pso B W D G (((ma env).bind truD).bind fun k => if k then m env else n env) := by rw [bind_assoc]; exact p
  refine Pso.expr o p' fun b _ q G' H' g => ?_
  cases b with
  | true => exact ⟨G', env, o.grow g, Pso.mono q g.gg⟩
  | false => exact ⟨G', env, o.grow g, Pso.mono q g.gg⟩
/-- an assignment, given its two halves -/
theorem asg_read {t : Tg} {D : Ends} {σ : L2.St} {H : Hp} (h : tSt B W (fun e => (ma e).bind fun d => (asg t d e).bind fun e1 => .ok (.nx e1)) D σ H) : tAsg (tD B W ma) (tG1 B t) D σ H := by
  obtain ⟨G, env, o, p⟩ := h
  refine sD_bind o p fun d _ q v G' H' g r => ?_
  cases e : asg t d env with
  | exc c => exact absurd e (nx_asg t d env c)
  | stuck => rw [e] at q; exact q.elim
  | ok e1 =>
    rw [e] at q
    exact ⟨G', env, d, e1, o.grow g, r, e, fun σ' o' _ => q σ' G' H' o' g.gg⟩
theorem gname_read {i : Nat} {D : Ends} {σ : L2.St} {H : Hp} (h : tSt B W (fun e => (ma e).bind fun d => (asg (.nm i) d e).bind fun e1 => .ok (.nx e1)) D σ H) : tAsg (tD B W ma) (gName i) D σ H := by
  obtain ⟨G, env, o, p⟩ := h
  refine sD_bind o p fun d _ q v G' H' g r => ?_
  exact q _ G' H' ((o.grow g).setV r) g.gg
def noTup : Expr → Bool
  | .Tuple .. => false
  | _ => true
theorem s_set1 (c : Cok P w base B F C k X W S) {i : Nat} {x : Str} {e : Expr} {p pos : Pos} (h1 : nAt C i x = true) (h2 : isTgt S x = true) (hs : swapsWith e (some (.Name x p)) pos.line X.env = pure false) (h : PE X e (tD B W ma)) : PS X (.Assign [.Name x p] e pos) (tSt B W fun e => (ma e).bind fun d => (asg (.nm i) d e).bind fun e1 => .ok (.nx e1)) := by
  obtain ⟨l1, l2⟩ := loc_of c h2
  exact PS.weak (ps_set (by rw [c.eN]; exact c.pk.nd) (n_of c h1) l1 h hs l2) fun D σ H q => gname_read q
theorem swap_tup {e : Expr} {es : List Expr} {n : Nat} {p : Pos} {l : Nat} {env : PySem.Env} : swapsWith e (some (.Tuple es n p)) l env = pure false := by
  cases e <;> rfl
theorem swap_sub {e o i : Expr} {p : Pos} {l : Nat} {env : PySem.Env} : swapsWith e (some (.Subscript o i p)) l env = pure false := by
  cases e <;> rfl
theorem stores_of {e : Expr} {tg : List Expr} {env : PySem.Env} (h : noTup e = true) : swappedStores tg e env = pure none := by
  unfold swappedStores
  cases e <;> first | cases h | skip
  all_goals
    rcases tg with _ | ⟨t, _ | ⟨t2, r⟩⟩
    · rfl
    · cases t <;> rfl
    · cases t <;> rfl
theorem s_setT (c : Cok P w base B F C k X W S) {r : Tg} {es : List Expr} {n : Nat} {e : Expr} {p pos : Pos} (h1 : chkT C S (.tp r) (.Tuple es n p) = true) (hn : noTup e = true) (h : PE X e (tD B W ma)) : PS X (.Assign [.Tuple es n p] e pos) (tSt B W fun e => (ma e).bind fun d => (asg (.tp r) d e).bind fun e1 => .ok (.nx e1)) :=
  PS.weak (ps_asg h (g_tgt c _ _ h1) (show swapsWithSole [.Tuple es n p] e pos.line X.env = pure false from swap_tup (e := e) (es := es) (n := n) (p := p) (l := pos.line) (env := X.env)) (stores_of hn) rfl) fun D σ H q => asg_read q
theorem swB_of {S : Sx} {elt : Expr} {gs : List Comprehension} {scope : Scope} {pos py : Pos} {y : Str} {l : Nat} {env : PySem.Env} (es : env.scope = S.sc) (kf : S.sc.kind = .function) :
    swapsWith (.ListComp elt gs scope pos) (some (.Name y py)) l env = pure (S.sc.names.lookup y == some .local && py.line == pos.line && !(scope.names.any fun (n, k) => n == y && (k == .local || k == .cell))) := by
  have hb : env.blockKind = .function := by unfold Env.blockKind; rw [es, kf]; rfl
  have ky : env.kindOf y = S.sc.names.lookup y := by unfold Env.kindOf; rw [es]
  unfold swapsWith
  simp only [hb, ky, Expr.pos]
  rfl
end
end TC
namespace TC
open PySem PySem.Spec PyProof.Rows L2
section
variable {P : Program} {w : World} {base : Heap} {B : Bs} {F : Fns} {C : Ct} {k : Nat} {X : Cx} {W : WX} {S : Sx}
variable {ma mb mc mi : Env → R D}
/-! ### loops -/
theorem for_read {t : Tg} {m : Env → R Fl} {D : Ends} {σ : L2.St} {H : Hp} (h : tSt B W (fun e => (listD (mi e)).bind fun xs => forG t m xs e) D σ H) : tFor (tI1 B W mi) (tG1 B t) (tSt B W m) D σ H := by
  obtain ⟨G, env, o, p⟩ := h
  refine ⟨G, env, o, Pso.expr o p fun ds _ q J G1 H1 g1 j1 => ?_⟩
  refine ⟨fun i n σ2 H2 => n = ds.length - i ∧ i ≤ ds.length ∧ ∃ G2 e2, OkG B G2 σ2 H2 e2 ∧ Same G1 G2 ∧ Pso B W D G2 (forG t m (ds.drop i) e2), ⟨ds.length, by omega, Nat.zero_le _, G1, env, o.grow g1, Same.refl _, Pso.mono q g1.gg⟩, ?_⟩
  rintro i n σ2 H2 ⟨rfl, hi, G2, e2, o2, s2, q2⟩
  by_cases hlt : i < ds.length
  · have hds : ds[i]? = some ds[i] := List.getElem?_eq_getElem hlt
    have hdrop : ds.drop i = ds[i] :: ds.drop (i + 1) := List.drop_eq_getElem_cons hlt
    rw [hdrop] at q2
    obtain ⟨jg, jy⟩ := (j1 G2 H2 s2 o2.gH i).1 _ hds
    refine .inr ⟨jg, fun σ' H' => ∃ G' e', OkG B G' σ' H' e' ∧ Same G1 G' ∧ Pso B W D G' (forG t m (ds.drop (i + 1)) e'), fun σ' H' h' => ⟨ds.length - (i + 1), by omega, rfl, hlt, h'⟩, fun x H3 hx => ?_⟩
    obtain ⟨G3, g3, rx⟩ := jy x H3 hx
    unfold forG at q2
    cases ea : asg t ds[i] e2 with
    | exc c => exact absurd ea (nx_asg _ _ _ c)
    | stuck => rw [ea] at q2; exact q2.elim
    | ok e1 =>
      rw [ea] at q2
      refine ⟨G3, e2, _, e1, o2.grow g3, rx, ea, fun σ' o' _ => ⟨G3, e1, o', ?_⟩⟩
      have q3 : Pso B W D G2 ((m e1).bind fun f => match f with
        | .nx e2 => forG t m (ds.drop (i + 1)) e2
        | .ct e2 => forG t m (ds.drop (i + 1)) e2
        | .bk e2 => .ok (.nx e2)
        | .rt d => .ok (.rt d)) := q2
      cases em : m e1 with
      | exc c => rw [em] at q3; exact q3
      | stuck => rw [em] at q3; exact q3
      | ok f =>
        rw [em] at q3
        cases f with
        | nx e4 => exact fun σ4 G4 H4 o4 s4 => ⟨G4, e4, o4, (s2.trans g3.gg).trans s4, Pso.mono (show Pso B W D G2 (forG t m (ds.drop (i + 1)) e4) from q3) (g3.gg.trans s4)⟩
        | ct e4 => exact fun σ4 G4 H4 o4 s4 => ⟨G4, e4, o4, (s2.trans g3.gg).trans s4, Pso.mono (show Pso B W D G2 (forG t m (ds.drop (i + 1)) e4) from q3) (g3.gg.trans s4)⟩
        | bk e4 => exact fun σ4 G4 H4 o4 s4 => q3 σ4 G4 H4 o4 (g3.gg.trans s4)
        | rt d => exact q3
  · have ei : i = ds.length := by omega
    subst ei
    rw [List.drop_length] at q2
    exact .inl ⟨(j1 G2 H2 s2 o2.gH ds.length).2 rfl, q2 σ2 G2 H2 o2 (Same.refl _)⟩
theorem s_for (c : Sok P w base B F C k X W S) {t : Tg} {tg it : Expr} {body : List Stmt} {pos : Pos} {m : Env → R Fl} (hi : PI X tg it (tI1 B W mi)) (ht : chkT C S t tg = true) (hs : noSet it = true) (hb : PSs X body (tSt B W m)) :
    PS X (.For tg it body [] pos) (tSt B W fun e => (listD (mi e)).bind fun xs => forG t m xs e) :=
  PS.weak (ps_for c.hp c.c.calm hi (g_tgt c.c t tg ht) hb (fset_of hs X.env)) fun D σ H q => for_read q
theorem while_read {n : Nat} {tc : Env → R Bool} {m : Env → R Fl} {D : Ends} {σ : L2.St} {H : Hp} (h : tSt B W (whlG tc m n) D σ H) : tWhile (tB1 B W tc) (tSt B W m) D σ H := by
  obtain ⟨G, env, o, p⟩ := h
  refine ⟨fun j σ2 H2 => ∃ G2 e2, OkG B G2 σ2 H2 e2 ∧ Pso B W D G2 (whlG tc m j e2), ⟨n, G, env, o, p⟩, ?_⟩
  rintro j σ2 H2 ⟨G2, e2, o2, q2⟩
  cases j with
  | zero => exact q2.elim
  | succ j =>
    unfold whlG at q2
    refine ⟨G2, e2, o2, Pso.expr o2 q2 fun b _ q G3 H3 g3 => ?_⟩
    cases b with
    | false => exact q σ2 G3 H3 (o2.grow g3) g3.gg
    | true =>
      refine ⟨fun σ' H' => ∃ G' e', OkG B G' σ' H' e' ∧ Pso B W D G' (whlG tc m j e'), fun σ' H' h' => ⟨j, Nat.lt_succ_self _, h'⟩, G3, e2, o2.grow g3, ?_⟩
      have q3 : Pso B W D G2 ((m e2).bind fun f => match f with
        | .nx e2 => whlG tc m j e2
        | .ct e2 => whlG tc m j e2
        | .bk e2 => .ok (.nx e2)
        | .rt d => .ok (.rt d)) := q
      cases em : m e2 with
      | exc c => rw [em] at q3; exact q3
      | stuck => rw [em] at q3; exact q3
      | ok f =>
        rw [em] at q3
        cases f with
        | nx e4 => exact fun σ4 G4 H4 o4 s4 => ⟨G4, e4, o4, Pso.mono (show Pso B W D G2 (whlG tc m j e4) from q3) (g3.gg.trans s4)⟩
        | ct e4 => exact fun σ4 G4 H4 o4 s4 => ⟨G4, e4, o4, Pso.mono (show Pso B W D G2 (whlG tc m j e4) from q3) (g3.gg.trans s4)⟩
        | bk e4 => exact fun σ4 G4 H4 o4 s4 => q3 σ4 G4 H4 o4 (g3.gg.trans s4)
        | rt d => exact q3
theorem s_while (c : Sok P w base B F C k X W S) {x : Expr} {body : List Stmt} {pos : Pos} {n : Nat} {m : Env → R Fl} (hc : PT X x (tB1 B W (tst ma))) (hb : PSs X body (tSt B W m)) : PS X (.While x body [] pos) (tSt B W (whlG (tst ma) m n)) :=
  PS.weak (ps_while c.hp hc hb) fun D σ H q => while_read q

/-! ### things under way -/
theorem OkG.setOwn {G H : Hp} {σ : L2.St} {env : Env} {i : Nat} {p : Addr} {u : HO} {s : Sl} (o : OkG B G σ H env) (hn : H p = none) (hs : isOwn s = true) (hk : ∀ (σ' : L2.St) (H' : Hp), σ'[i]? = some (some (V.ref p)) → H' p = some u → G p = none → B.Ke p = none → ¬ B.Dm p → SlOk B G H' σ'[i]? s) :
    OkG B G (σ.set i (some (.ref p))) (upd H p u) (env.set i s) := by
  have gp := free_of o.gH hn
  have kp := free_of o.kH hn
  have dp : ¬ B.Dm p := fun z => o.dm p z hn
  have off := o.off hn
  exact {
    g0 := o.g0
    gH := fun b x e => by rw [upd_ne (ne_of_none e gp)]; exact o.gH b x e
    kH := fun b x e => by rw [upd_ne (ne_of_none e kp)]; exact o.kH b x e
    dm := fun b hb z => by
      by_cases e : b = p
      · subst e; exact dp hb
      · rw [upd_ne e] at z; exact o.dm b hb z
    gd := o.gd
    len := by rw [List.length_set, List.length_set]; exact o.len
    sl := fun j t e => by
      by_cases hij : i = j
      · subst hij
        by_cases hl : i < env.length
        · rw [List.getElem?_set_self hl] at e
          cases e
          exact hk _ _ (List.getElem?_set_self (by rw [o.len]; exact hl)) upd_same gp kp dp
        · rw [List.getElem?_eq_none (by rw [List.length_set]; omega)] at e; cases e
      · rw [List.getElem?_set_ne hij] at e ⊢
        have q := o.sl j t e
        cases t with
        | no => exact q
        | v d => exact q
        | own xs =>
          obtain ⟨b, vs, h1, h2, h3⟩ := q
          have : b ≠ p := fun z => off j _ e rfl (by rw [h1, z])
          exact ⟨b, vs, h1, by rw [upd_ne this]; exact h2, h3⟩
        | tab kvs =>
          obtain ⟨b, vs, h1, h2, h3⟩ := q
          have : b ≠ p := fun z => off j _ e rfl (by rw [h1, z])
          exact ⟨b, vs, h1, by rw [upd_ne this]; exact h2, h3⟩
    ap := fun j l t u' a hjl e1 e2 h1 h2 e3 e4 => by
      by_cases hj : i = j
      · subst hj
        have hl : i < env.length := by
          rcases Nat.lt_or_ge i env.length with z | z
          · exact z
          · rw [List.getElem?_eq_none (by rw [List.length_set]; omega)] at e1; cases e1
        rw [List.getElem?_set_self (by rw [o.len]; exact hl)] at e3
        cases e3
        rw [List.getElem?_set_ne hjl] at e2 e4
        exact off l _ e2 h2 e4
      · by_cases hl2 : i = l
        · subst hl2
          have hl : i < env.length := by
            rcases Nat.lt_or_ge i env.length with z | z
            · exact z
            · rw [List.getElem?_eq_none (by rw [List.length_set]; omega)] at e2; cases e2
          rw [List.getElem?_set_self (by rw [o.len]; exact hl)] at e4
          cases e4
          rw [List.getElem?_set_ne hj] at e1 e3
          exact off j _ e1 h1 e3
        · rw [List.getElem?_set_ne hj] at e1 e3
          rw [List.getElem?_set_ne hl2] at e2 e4
          exact o.ap j l t u' a hjl e1 e2 h1 h2 e3 e4 }
/-- what a name under way holds is rewritten -/
theorem OkG.updOwn {G H : Hp} {σ : L2.St} {env : Env} {i : Nat} {a : Addr} {u : HO} {s s' : Sl} (o : OkG B G σ H env) (e : env[i]? = some s) (hs : isOwn s = true) (ea : σ[i]? = some (some (.ref a))) (ga : G a = none) (ka : B.Ke a = none) (hs' : isOwn s' = true) (hk : SlOk B G (upd H a u) σ[i]? s') :
    OkG B G σ (upd H a u) (env.set i s') := by
  have hl : i < env.length := by
    rcases Nat.lt_or_ge i env.length with z | z
    · exact z
    · rw [List.getElem?_eq_none z] at e; cases e
  exact {
    g0 := o.g0
    gH := fun b x q => by rw [upd_ne (ne_of_none q ga)]; exact o.gH b x q
    kH := fun b x q => by rw [upd_ne (ne_of_none q ka)]; exact o.kH b x q
    dm := fun b hb z => by
      by_cases q : b = a
      · subst q; rw [upd_same] at z; cases z
      · rw [upd_ne q] at z; exact o.dm b hb z
    gd := o.gd
    len := by rw [List.length_set]; exact o.len
    sl := fun j t q => by
      by_cases hij : i = j
      · subst hij
        rw [List.getElem?_set_self hl] at q
        cases q
        exact hk
      · rw [List.getElem?_set_ne hij] at q
        have z := o.sl j t q
        cases t with
        | no => exact z
        | v d => exact z
        | own xs =>
          obtain ⟨b, vs, h1, h2, h3⟩ := z
          have : b ≠ a := fun y => o.ap i j s _ a hij e q hs rfl ea (by rw [h1, y])
          exact ⟨b, vs, h1, by rw [upd_ne this]; exact h2, h3⟩
        | tab kvs =>
          obtain ⟨b, vs, h1, h2, h3⟩ := z
          have : b ≠ a := fun y => o.ap i j s _ a hij e q hs rfl ea (by rw [h1, y])
          exact ⟨b, vs, h1, by rw [upd_ne this]; exact h2, h3⟩
    ap := fun j l t u' b hjl e1 e2 h1 h2 e3 e4 => by
      have key : ∀ j t, (env.set i s')[j]? = some t → isOwn t = true → ∃ t', env[j]? = some t' ∧ isOwn t' = true := fun j t q hq => by
        by_cases hij : i = j
        · subst hij; exact ⟨s, e, hs⟩
        · rw [List.getElem?_set_ne hij] at q; exact ⟨t, q, hq⟩
      obtain ⟨t1, f1, g1⟩ := key j t e1 h1
      obtain ⟨t2, f2, g2⟩ := key l u' e2 h2
      exact o.ap j l t1 t2 b hjl f1 f2 g1 g2 e3 e4 }
theorem lst_of {xs : List Expr} {n : Pos} (h : PA X xs (tA1 B W ma)) : PE X (.List xs n) (fun σ H Q => tA1 B W ma σ H fun vs H1 => vs.length ≤ sizeLine ∧ ∀ p, H1 p = none → Q (.ref p) (upd H1 p (.lst vs))) := pe_lst h
theorem s_own (c : Cok P w base B F C k X W S) {i : Nat} {x : Str} {xs : List Expr} {p lp pos : Pos} (h1 : nAt C i x = true) (h2 : isTgt S x = true) (h : PA X xs (tA1 B W ma)) :
    PS X (.Assign [.Name x p] (.List xs lp) pos) (tSt B W fun e => (listD (ma e)).bind fun ds => (R.guard (seqOk ds)).bind fun _ => .ok (.nx (e.set i (.own ds)))) := by
  obtain ⟨l1, l2⟩ := loc_of c h2
  refine PS.weak (ps_set (by rw [c.eN]; exact c.pk.nd) (n_of c h1) l1 (lst_of h) rfl l2) fun D σ H ⟨G, env, o, p⟩ => ?_
  refine ⟨G, env, o, Pso.expr o p fun ds _ q vs G1 H1 g1 rv => ?_⟩
  cases eq : seqOk ds with
  | false => rw [eq] at q; exact q.elim
  | true =>
    rw [eq] at q
    unfold seqOk at eq
    rw [Bool.and_eq_true] at eq
    have rr := rpAll_dq rv eq.1
    refine ⟨by rw [rpAll_len rv]; exact okLen_le eq.2, fun a ha => ?_⟩
    exact q _ G1 _ ((o.grow g1).setOwn ha rfl fun σ' H' e1 e2 n1 n2 n3 => ⟨a, vs, e1, e2, rr, n1, n2, n3⟩) g1.gg
theorem s_tab (c : Cok P w base B F C k X W S) {i : Nat} {x : Str} {p lp pos : Pos} (h1 : nAt C i x = true) (h2 : isTgt S x = true) :
    PS X (.Assign [.Name x p] (.Dict [] [] lp) pos) (tSt B W fun e => .ok (.nx (e.set i (.tab [])))) := by
  obtain ⟨l1, l2⟩ := loc_of c h2
  refine PS.weak (ps_set (by rw [c.eN]; exact c.pk.nd) (n_of c h1) l1 pe_dnewT rfl l2) fun D σ H ⟨G, env, o, p⟩ => ?_
  exact fun a ha => p _ G _ (o.setOwn ha rfl fun σ' H' e1 e2 n1 n2 n3 => ⟨a, [], e1, e2, .nil, n1, n2, n3⟩) (Same.refl _)
theorem frz_ok {i : Nat} {G H : Hp} {σ : L2.St} {env e1 : Env} (o : OkG B G σ H env) (h : frzE i env = .ok e1) : ∃ G', Same G G' ∧ OkG B G' σ H e1 := by
  unfold frzE at h
  split at h
  · rename_i xs e
    cases h
    obtain ⟨a, vs, _, _, na, _, o2⟩ := o.lend e
    exact ⟨_, same_upd na, o2⟩
  · rename_i kvs e
    cases h
    obtain ⟨a, ks, ea, hl, rr, na, nk, nd⟩ := o.tabAt e
    have sg : Same G (upd G a (.dT ks)) := same_upd na
    have hi : i < env.length := by
      rcases Nat.lt_or_ge i env.length with z | z
      · exact z
      · rw [List.getElem?_eq_none z] at e; cases e
    have other : ∀ (j : Nat) (s : Sl) (b : Addr), i ≠ j → env[j]? = some s → isOwn s = true → σ[j]? = some (some (.ref b)) → b ≠ a := fun j s b hij ej hs eb z => by
      subst z
      exact o.ap i j _ s b hij e ej rfl hs ea eb
    refine ⟨_, sg, ?_⟩
    exact {
      g0 := o.g0.trans sg
      gH := fun b u q => by
        by_cases hb : b = a
        · subst hb; rw [upd_same] at q; rw [hl]; exact q
        · rw [upd_ne hb] at q; exact o.gH b u q
      kH := o.kH
      dm := o.dm
      gd := fun b hb => by
        have : b ≠ a := fun z => nd (z ▸ hb)
        rw [upd_ne this]
        exact o.gd b hb
      len := by rw [List.length_set]; exact o.len
      sl := fun j s ej => by
        by_cases hij : i = j
        · subst hij
          rw [List.getElem?_set_self hi] at ej
          cases ej
          exact ⟨.ref a, ea, a, rfl, .inl ⟨ks, kvs, upd_same, rfl, rows_same sg rr⟩⟩
        · rw [List.getElem?_set_ne hij] at ej
          have q := o.sl j s ej
          cases s with
          | no => exact trivial
          | v d =>
            obtain ⟨v, h1, h2⟩ := q
            exact ⟨v, h1, h2.same sg⟩
          | own ys =>
            obtain ⟨b, ws, h1, h2, h3, h4, h5⟩ := q
            exact ⟨b, ws, h1, h2, dpAll_same sg h3, by rw [upd_ne (other j _ b hij ej rfl h1)]; exact h4, h5⟩
          | tab kvs =>
            obtain ⟨b, ws, h1, h2, h3, h4, h5⟩ := q
            exact ⟨b, ws, h1, h2, rows_same sg h3, by rw [upd_ne (other j _ b hij ej rfl h1)]; exact h4, h5⟩
      ap := fun j l s u b hjl ej el hs hu e3 e4 => by
        have nj : i ≠ j := fun z => by subst z; rw [List.getElem?_set_self hi] at ej; cases ej; cases hs
        have nl : i ≠ l := fun z => by subst z; rw [List.getElem?_set_self hi] at el; cases el; cases hu
        rw [List.getElem?_set_ne nj] at ej
        rw [List.getElem?_set_ne nl] at el
        exact o.ap j l s u b hjl ej el hs hu e3 e4 }
  · cases h
theorem nx_frz (i : Nat) (e : Env) : NX (frzE i e) := by unfold frzE; split <;> first | exact nx_ok | exact nx_stuck
theorem ss_frz {i : Nat} {rest : List Stmt} {n : Env → R Fl} (h : PSs X rest (tSt B W n)) : PSs X rest (tSt B W fun e => ((frzE i e).bind fun e1 => (.ok (.nx e1) : R Fl)).bind fun f => match f with | .nx e1 => n e1 | g => .ok g) := by
  refine PSs.weak h fun D σ H ⟨G, env, o, p⟩ => ?_
  dsimp only at p
  cases e : frzE i env with
  | exc c => exact absurd e (nx_frz i env c)
  | stuck => rw [e] at p; exact p.elim
  | ok e1 =>
    rw [e] at p
    obtain ⟨G', s, o'⟩ := frz_ok o e
    exact ⟨G', e1, o', Pso.mono (show Pso B W D G (n e1) from p) s⟩
end
end TC
set_option Elab.async false
set_option linter.all false
set_option maxRecDepth 100000
set_option autoImplicit false
/-! DlP: statements that change a thing under way; raise; parallel stores. -/
namespace TC
open PySem PySem.Spec PyProof.Rows L2
section
variable {P : Program} {w : World} {base : Heap} {B : Bs} {F : Fns} {C : Ct} {k : Nat} {X : Cx} {W : WX} {S : Sx}
variable {ma mb mc mi : Env → R D}
theorem Pso.get {α : Type} {D : Ends} {G : Hp} {r : R α} {f : α → R Fl} (h : Pso B W D G (r.bind f)) (n : NX r) : ∃ a, r = .ok a ∧ Pso B W D G (f a) := by
  cases e : r with
  | ok a => rw [e] at h; exact ⟨a, rfl, h⟩
  | exc c => exact absurd e (n c)
  | stuck => rw [e] at h; exact h.elim
theorem few1 {x : Expr} {cp : Pos} (s : noStar x = true) : ((backTo cp (starEach [x] X.env)).all (fun x => !x.1) && (backToKw cp (keywordEach [] X.env)).all (fun x => x.1.isSome)
      && decide ([x].length + ([] : List Keyword).length + (if ([] : List Keyword).isEmpty then 0 else 1) < 30)) = true := by
  rw [star_of s]; rfl
theorem s_app (c : Cok P w base B F C k X W S) {i : Nat} {x : Str} {e : Expr} {p ap cp pos : Pos} (h1 : nAt C i x = true) (h2 : isVis S x = true) (h3 : isPlainN x = true) (hl : (ap.endLine == cp.line) = true) (s : noStar e = true) (h : PE X e (tD B W ma)) :
    PS X (.Expr (.Call (.Attribute (.Name x p) "append" ap) [e] [] cp) pos) (tSt B W fun en => (getO i en).bind fun xs => (ma en).bind fun y => (R.guard (okLen (xs.length + 1) && !isDict y)).bind fun _ => .ok (.nx (en.set i (.own (xs ++ [y]))))) := by
  refine PS.weak (ps_expr (pe_bm PySem.F.plainAttrs_list PySem.F.slot_list_append PySem.F.type_list_append mt_append (pe_nm c h1 h2 h3) (pa_cons h pa_nil (star_of s)) rfl (few1 s) hl (star_of s) rfl) rfl) fun D σ H ⟨G, env, o, p⟩ => ?_
  obtain ⟨xs, e0, p⟩ := Pso.get p (nx_getO _ _)
  have e0 := getO_ok e0
  obtain ⟨a, vs, ea, hl, rr, na, nk, nd⟩ := o.ownAt e0
  refine ⟨_, ea, .inl ⟨rfl, vs, SqL.of hl⟩, ?_⟩
  refine sD_bind o p fun d _ q v G1 H1 g1 rv => ?_
  obtain ⟨_, e1, q⟩ := Pso.get q nx_guard
  cases eg : (okLen (xs.length + 1) && !isDict d) with
  | false => rw [eg] at e1; cases e1
  | true =>
    rw [Bool.and_eq_true] at eg
    have hlen := okLen_le eg.1
    have rv' : Dq G1 v d := rv.dp (by simpa using eg.2)
    have h1a : H1 a = some (.lst vs) := g1.hh _ _ hl
    have o1 := o.grow g1
    have na1 : G1 a = none := by rw [g1.nw a (by rw [hl]; exact fun z => nomatch z)]; exact na
    refine ⟨a, vs, v, rfl, rfl, h1a, by rw [dpAll_len rr]; omega, ?_⟩
    exact q σ G1 _ (o1.updOwn e0 rfl ea na1 nk rfl ⟨a, vs ++ [v], ea, upd_same, dpAll_app (dpAll_same g1.gg rr) (.cons rv' .nil), na1, nk, nd⟩) g1.gg
theorem listD_inv {d : D} {ys : List D} (h : listD (.ok d) = .ok ys) : d = .list ys := by
  cases d <;> first | (cases h; rfl) | cases h
theorem nx_listD (d : D) : NX (listD (.ok d)) := by cases d <;> first | exact nx_ok | exact nx_stuck
theorem s_ext (c : Cok P w base B F C k X W S) {i : Nat} {x : Str} {e : Expr} {p ap cp pos : Pos} (h1 : nAt C i x = true) (h2 : isVis S x = true) (h3 : isPlainN x = true) (hl : (ap.endLine == cp.line) = true) (s : noStar e = true) (h : PE X e (tD B W ma)) :
    PS X (.Expr (.Call (.Attribute (.Name x p) "extend" ap) [e] [] cp) pos) (tSt B W fun en => (getO i en).bind fun xs => (ma en).bind fun y => (listD (.ok y)).bind fun ys => (R.guard (okLen (xs.length + ys.length))).bind fun _ => .ok (.nx (en.set i (.own (xs ++ ys))))) := by
  refine PS.weak (ps_expr (pe_bm PySem.F.plainAttrs_list PySem.F.slot_list_extend PySem.F.type_list_extend mt_extend (pe_nm c h1 h2 h3) (pa_cons h pa_nil (star_of s)) rfl (few1 s) hl (star_of s) rfl) rfl) fun D σ H ⟨G, env, o, p⟩ => ?_
  obtain ⟨xs, e0, p⟩ := Pso.get p (nx_getO _ _)
  have e0 := getO_ok e0
  obtain ⟨a, vs, ea, hl, rr, na, nk, nd⟩ := o.ownAt e0
  refine ⟨_, ea, .inl ⟨rfl, vs, SqL.of hl⟩, ?_⟩
  refine sD_bind o p fun d _ q v G1 H1 g1 rv => ?_
  obtain ⟨ys, e1, q1⟩ := Pso.get q (nx_listD d)
  have ed := listD_inv e1
  obtain ⟨b, ws, rfl, hb, rw'⟩ := rp_list (ed ▸ rv)
  obtain ⟨_, e2, q2⟩ := Pso.get q1 nx_guard
  cases eg : okLen (xs.length + ys.length) with
  | false => rw [eg] at e2; cases e2
  | true =>
    have hlen := okLen_le eg
    have h1a : H1 a = some (.lst vs) := g1.hh _ _ hl
    have o1 := o.grow g1
    have na1 : G1 a = none := by rw [g1.nw a (by rw [hl]; exact fun z => nomatch z)]; exact na
    refine ⟨a, b, vs, ws, rfl, rfl, h1a, g1.gh _ _ hb, by rw [dpAll_len rr, dpAll_len rw']; omega, ?_⟩
    exact q2 σ G1 _ (o1.updOwn e0 rfl ea na1 nk rfl ⟨a, vs ++ ws, ea, upd_same, dpAll_app (dpAll_same g1.gg rr) rw', na1, nk, nd⟩) g1.gg
theorem inl_map_inj {p q : List Int} : (p.map Sum.inl : List Key) = q.map Sum.inl ↔ p = q := ⟨inl_inj, fun e => by rw [e]⟩
theorem put_rows {G : Hp} {q : List Int} {v : V} {d : D} (hv : Dq G v d) : ∀ {ks : List (List Key × V)} {rs : List (List Int × D)}, Paired (RowOk G) ks rs → Paired (RowOk G) (putK ks (q.map Sum.inl) v) (putT q d rs) := by
  intro ks rs h
  have any_eq : ∀ {ks : List (List Key × V)} {rs : List (List Int × D)}, Paired (RowOk G) ks rs → (ks.any fun kv => decide (kv.1 = q.map Sum.inl)) = (rs.any fun kv => decide (kv.1 = q)) := by
    intro ks rs h
    induction h with
    | nil => rfl
    | cons r t ih =>
      simp only [List.any_cons, ih]
      congr 1
      rw [r.1]
      exact decide_eq_decide.mpr inl_map_inj
  have map_ok : ∀ {ks : List (List Key × V)} {rs : List (List Int × D)}, Paired (RowOk G) ks rs → Paired (RowOk G) (ks.map fun kv => if kv.1 = q.map Sum.inl then (kv.1, v) else kv) (rs.map fun kv => if kv.1 = q then (kv.1, d) else kv) := by
    intro ks rs h
    induction h with
    | nil => exact .nil
    | @cons ka rb la lb r t ih =>
      refine .cons ?_ ih
      dsimp only
      by_cases e : rb.1 = q
      · rw [if_pos e, if_pos (by rw [r.1, e])]
        exact ⟨r.1, hv⟩
      · rw [if_neg e, if_neg (by rw [r.1]; exact fun z => e (inl_inj z))]
        exact r
  have app_ok : ∀ {ks : List (List Key × V)} {rs : List (List Int × D)}, Paired (RowOk G) ks rs → Paired (RowOk G) (ks ++ [(q.map Sum.inl, v)]) (rs ++ [(q, d)]) := by
    intro ks rs h
    induction h with
    | nil => exact .cons ⟨rfl, hv⟩ .nil
    | cons r t ih => exact .cons r ih
  unfold putK putT
  rw [any_eq h]
  split
  · exact map_ok h
  · exact app_ok h
theorem s_put (c : Cok P w base B F C k X W S) {i : Nat} {x : Str} {ke ve : Expr} {p sp pos : Pos} (h1 : nAt C i x = true) (h2 : isVis S x = true) (h3 : isPlainN x = true) (hk : PE X ke (tD B W ma)) (hv : PE X ve (tD B W mb)) :
    PS X (.Assign [.Subscript (.Name x p) ke sp] ve pos) (tSt B W fun en => (mb en).bind fun y => (getTb i en).bind fun kvs => (ma en).bind fun x => (ofOpt (keyOf x)).bind fun q => (R.guard (okLen (kvs.length + 1) && !isDict y)).bind fun _ => .ok (.nx (en.set i (.tab (putT q y kvs))))) := by
  refine PS.weak (ps_dput (hu_of c.room) (pe_nm c h1 h2 h3) hk hv swap_sub) fun D σ H ⟨G, env, o, p⟩ => ?_
  refine sD_bind o p fun d _ q v G1 H1 g1 rv => ?_
  obtain ⟨kvs, e0, q⟩ := Pso.get q (nx_getTb _ _)
  have e0 := getTb_ok e0
  obtain ⟨a, ks, ea, hl, rr, na, nk, nd⟩ := (o.grow g1).tabAt e0
  refine ⟨_, ea, ?_⟩
  refine sD_bind (o.grow g1) (Pso.mono q g1.gg) fun kd _ q2 y G2 H2 g2 ry => ?_
  obtain ⟨qk, e1, q2⟩ := Pso.get q2 nx_opt
  obtain ⟨_, e2, q2⟩ := Pso.get q2 nx_guard
  obtain ⟨b, rfl, hb⟩ := key_at ry (ofOpt_ok e1)
  cases eg : (okLen (kvs.length + 1) && !isDict d) with
  | false => rw [eg] at e2; cases e2
  | true =>
    rw [Bool.and_eq_true] at eg
    have hlen := okLen_le eg.1
    have rv' : Dq G2 v d := (rv.same g2.gg).dp (by simpa using eg.2)
    have h2a : H2 a = some (.dT ks) := g2.hh _ _ hl
    have o2 := (o.grow g1).grow g2
    have na2 : G2 a = none := by rw [g2.nw a (by rw [hl]; exact fun z => nomatch z)]; exact na
    have ks_len : ks.length = kvs.length := Paired.length rr
    refine ⟨a, _, rfl, DPut.t h2a (g2.gh _ _ hb) (by omega), ?_⟩
    exact q2 σ G2 _ (o2.updOwn e0 rfl ea na2 nk rfl ⟨a, _, ea, upd_same, put_rows rv' (rows_same g2.gg rr), na2, nk, nd⟩) g2.gg
theorem stores_sub {o i e : Expr} {p : Pos} {env : PySem.Env} : swappedStores [.Subscript o i p] e env = pure none := by
  unfold swappedStores
  cases e <;> rfl
theorem s_putL (c : Cok P w base B F C k X W S) {i : Nat} {x : Str} {ke ve : Expr} {p sp pos : Pos} (h1 : nAt C i x = true) (h2 : isVis S x = true) (h3 : isPlainN x = true) (hsl : noSlice ke = true) (hk : PE X ke (tD B W ma)) (hv : PE X ve (tD B W mb)) :
    PS X (.Assign [.Subscript (.Name x p) ke sp] ve pos) (tSt B W fun en => (mb en).bind fun y => (getO i en).bind fun xs => (ma en).bind fun x => match x with
      | .int m => (R.guard (!isDict y)).bind fun _ => (ofOpt (ixN xs.length m)).bind fun j => .ok (.nx (en.set i (.own (xs.set j y))))
      | _ => .stuck) := by
  refine PS.weak (ps_asg hv (pg_sub (pe_nm c h1 h2 h3) hk set_list (by intro v; cases ke <;> first | rfl | cases hsl)) (show swapsWithSole [.Subscript (.Name x p) ke sp] ve pos.line X.env = pure false from swap_sub (e := ve) (o := .Name x p) (i := ke) (p := sp) (l := pos.line) (env := X.env)) stores_sub rfl) fun D σ H ⟨G, env, o, p⟩ => ?_
  refine sD_bind o p fun d _ q v G1 H1 g1 rv => ?_
  obtain ⟨xs, e0, q⟩ := Pso.get q (nx_getO _ _)
  have e0 := getO_ok e0
  obtain ⟨a, vs, ea, hl, rr, na, nk, nd⟩ := (o.grow g1).ownAt e0
  refine ⟨_, ea, ?_⟩
  refine sD_bind (o.grow g1) (Pso.mono q g1.gg) fun kd _ q2 y G2 H2 g2 ry => ?_
  obtain ⟨m, rfl⟩ : ∃ m, kd = .int m := by cases kd <;> first | exact ⟨_, rfl⟩ | exact q2.elim
  cases rp_int ry
  obtain ⟨_, e2, q2⟩ := Pso.get q2 nx_guard
  obtain ⟨j, e3, q2⟩ := Pso.get q2 nx_opt
  cases eg : (!isDict d) with
  | false => rw [eg] at e2; cases e2
  | true =>
    have rv' : Dq G2 v d := (rv.same g2.gg).dp (by simpa using eg)
    have h2a : H2 a = some (.lst vs) := g2.hh _ _ hl
    have o2 := (o.grow g1).grow g2
    have na2 : G2 a = none := by rw [g2.nw a (by rw [hl]; exact fun z => nomatch z)]; exact na
    refine ⟨a, vs, m, j, rfl, rfl, h2a, ?_, ?_⟩
    · have := ofOpt_ok e3
      rw [dpAll_len rr]
      exact this
    · exact q2 σ G2 _ (o2.updOwn e0 rfl ea na2 nk rfl ⟨a, _, ea, upd_same, dpAll_set rv' j (dpAll_same g2.gg rr), na2, nk, nd⟩) g2.gg
theorem nx_getE (i : Nat) (e : Env) : NX (getE i e) := by unfold getE; split <;> first | exact nx_ok | exact nx_stuck
theorem getE_ok {i : Nat} {e : Env} {d : D} (h : getE i e = .ok d) : e[i]? = some (.v d) := by
  unfold getE at h
  split at h
  · rename_i q; cases h; exact q
  · cases h
theorem s_aug (c : Cok P w base B F C k X W S) {i : Nat} {x : Str} {e : Expr} {p pos : Pos} (h1 : nAt C i x = true) (h2 : isTgt S x = true) (h : PE X e (tD B W ma)) :
    PS X (.AugAssign (.Name x p) .Add e pos) (tSt B W fun en => (getE i en).bind fun x => (ma en).bind fun y => match x, y with
    | .int m, .int n => .ok (.nx (en.set i (.v (.int (m + n)))))
    | _, _ => .stuck) := by
  obtain ⟨l1, l2⟩ := loc_of c h2
  refine PS.weak (ps_aug (by rw [c.eN]; exact c.pk.nd) (n_of c h1) l1 h ip_add l2) fun D σ H ⟨G, env, o, p⟩ => ?_
  obtain ⟨d, e0, p⟩ := Pso.get p (nx_getE _ _)
  obtain ⟨v, ev, rv⟩ := o.val (getE_ok e0)
  refine ⟨v, ev, ?_⟩
  refine sD_bind o p fun d2 _ q u G1 H1 g1 ru => ?_
  cases d <;> first | exact q.elim | skip
  cases d2 <;> first | exact q.elim | skip
  cases rp_int rv
  cases rp_int ru
  exact ⟨_, _, rfl, rfl, q _ G1 H1 ((o.grow g1).setV (Rp.of (.int _))) g1.gg⟩
/-! ### parallel stores -/
def parC (x y : Str) (px py : Pos) (a b : Expr) (S : Sx) : Bool :=
  noStar a && noStar b && (lk x S.sc.names == some .local) && (lk y S.sc.names == some .local) && (py.line == px.line) && !seq x y && !(foldedForSure 8 a && foldedForSure 8 b) && !(constantsAlone 8 a && constantsAlone 8 b)
theorem par_of {x y : Str} {px py pt pt2 : Pos} {kt k2 : Nat} {a b : Expr} {S : Sx} {env : PySem.Env} (es : env.scope = S.sc) (kf : S.sc.kind = .function) (h : parC x y px py a b S = true) :
    swappedStores [.Tuple [.Name x px, .Name y py] kt pt] (.Tuple [a, b] k2 pt2) env = pure (some [x, y]) := by
  unfold parC at h
  simp only [Bool.and_eq_true, beq_iff_eq, Bool.not_eq_true', lk_eq] at h
  obtain ⟨⟨⟨⟨⟨⟨⟨h1, h2⟩, h3⟩, h4⟩, h5⟩, h6⟩, h7⟩, h8⟩ := h
  have hb : env.blockKind = .function := by unfold Env.blockKind; rw [es, kf]; rfl
  have kx : env.kindOf x = some .local := by unfold Env.kindOf; rw [es]; exact h3
  have ky : env.kindOf y = some .local := by unfold Env.kindOf; rw [es]; exact h4
  have hxy : (x == y) = false := sneq (by rw [h6]; rfl)
  have hyx : (y == x) = false := by
    cases e : (y == x) with
    | false => rfl
    | true =>
      have : y = x := by simpa using e
      rw [this] at hxy
      simp at hxy
  have hd : [x, y].eraseDups = [x, y] := by
    simp [List.eraseDups, List.eraseDupsBy, List.eraseDupsBy.loop, hxy, hyx]
  unfold swappedStores
  simp [hb, kx, ky, h5, hd, h7, h8, Expr.pos]
  intro hz
  exfalso
  rcases hz with hz | hz
  · cases a <;> first | (cases hz; done) | (cases h1; done)
  · cases b <;> first | (cases hz; done) | (cases h2; done)
theorem s_par (c : Sok P w base B F C k X W S) {i j : Nat} {x y : Str} {a b : Expr} {px py pt pt2 pos : Pos} {kt k2 : Nat} (h1 : nAt C i x = true) (h2 : nAt C j y = true) (hij : i ≠ j) (hp : parC x y px py a b S = true) (ha : PE X a (tD B W ma)) (hb : PE X b (tD B W mb)) :
    PS X (.Assign [.Tuple [.Name x px, .Name y py] kt pt] (.Tuple [a, b] k2 pt2) pos) (tSt B W fun e => (ma e).bind fun x => (mb e).bind fun y => .ok (.nx ((e.set i (.v x)).set j (.v y)))) := by
  have hq := hp
  unfold parC at hq
  simp only [Bool.and_eq_true, beq_iff_eq, Bool.not_eq_true', lk_eq] at hq
  obtain ⟨⟨⟨⟨⟨⟨⟨s1, s2⟩, h3⟩, h4⟩, h5⟩, h6⟩, h7⟩, h8⟩ := hq
  refine PS.weak (ps_par c.c.calm (by rw [c.c.eN]; exact c.c.pk.nd) (n_of c.c h1) (n_of c.c h2) hij (by rw [c.c.es]; exact h3) (by rw [c.c.es]; exact h4) (pa_cons ha (pa_cons hb pa_nil (star_of s2)) (star_of s1)) (par_of c.c.es c.kf hp) (show swapsWithSole [.Tuple [.Name x px, .Name y py] kt pt] (.Tuple [a, b] k2 pt2) pos.line X.env = pure false from rfl)) fun D σ H ⟨G, env, o, p⟩ => ?_
  refine sD_bind o p fun d _ q v G1 H1 g1 rv => ?_
  refine sD_bind (o.grow g1) (Pso.mono q g1.gg) fun d2 _ q2 u G2 H2 g2 ru => ?_
  exact ⟨v, u, rfl, q2 _ G2 H2 ((((o.grow g1).grow g2).setV (rv.same g2.gg)).setV ru) g2.gg⟩

/-! ### raise -/
theorem s_rai (c : Cok P w base B F C k X W S) {x m : Str} {j : Nat} {p p2 cp pos : Pos} (h1 : isGl S x = true) (h2 : isPlainN x = true) (hx : x ∈ C.xs) : PS X (.Raise (some (.Call (.Name x p) [.Constant (.str m) j p2] [] cp)) none pos) (tSt B W fun _ => .exc x) := by
  obtain ⟨Bx, nw, it, bm, ef, xo⟩ := c.pk.xcs (fun z => by rw [z] at hx; cases hx)
  obtain ⟨A, e1, e2, e3, e4, e5, _⟩ := xo.one x hx
  refine PS.weak (ps_raise c.calm c.tk (pmk_own ef (by rw [c.eK]; exact e2) (by rw [c.em]; exact e1) (by rw [c.eK]; exact e3) (raises_own (by rw [c.eK]; exact e4) (by rw [c.eK]; exact e5)) (gl_of c h1) (plainN_of h2).1)) fun D σ H ⟨G, env, o, p⟩ => ?_
  exact p σ G H o.fin _ e1
end
end TC
set_option Elab.async false
set_option linter.all false
set_option maxRecDepth 100000
set_option autoImplicit false
/-! DlQ: try with several clauses that name the exception (after HandS.Exc's ps_try_as and HandS.TryMany's ps_try_many). -/
namespace TC
open PySem PySem.Spec PyProof.Rows L2
/-- what the clauses wish of an exception of the body, one after the other; each names it in the slot i -/
def wManyAs (K : PySem.W.Frag) (nN : Nat) (i : Nat) (Wout : WX) (D : Ends) : List (Value × (Addr → Value → Option Addr → TS)) → WX
  | [] => Wout
  | (c, ts) :: r => fun cls d σ H => ∃ b, PySem.W.exmOne K cls c = some b ∧ (b = true → ∀ a, H a = none → σ.length = nN → ts a cls d { nx := fun σ' H' => D.nx (σ'.set i none) H', rt := D.rt, bk := fun σ' H' => D.bk (σ'.set i none) H', ct := fun σ' H' => D.ct (σ'.set i none) H' } (σ.set i (some (.ref a))) H) ∧
    (b = false → wManyAs K nN i Wout D r cls d σ H)
inductive HdsAs (X : Cx) (n : Str) : List ExceptHandler → List (Value × (Addr → Value → Option Addr → TS)) → Prop
  | nil : HdsAs X n [] []
  | cons {x : Str} {c : Value} {ts : Addr → Value → Option Addr → TS} {b₀ : Stmt} {suite : List Stmt} {np pos' : Pos} {hds : List ExceptHandler} {l : List (Value × (Addr → Value → Option Addr → TS))} (hc : Names X x c)
      (hsu : ∀ (a : Addr) (oe : Obj) (cls : Value) (d : Option Addr) (pn : List (Addr × Obj)), Zc cls d oe → (∃ vs, oe.data = .fields vs) → PSs (X.suite a ((a, oe) :: pn)) (b₀ :: suite) (ts a cls d)) (r : HdsAs X n hds l) :
      HdsAs X n (.ExceptHandler (some (.Name x np)) (some n) (b₀ :: suite) pos' :: hds) ((c, ts) :: l)
section
variable {X : Cx} {n : Str} {i : Nat} {body : List Stmt} {h₀ : ExceptHandler} {hds : List ExceptHandler} {l : List (Value × (Addr → Value → Option Addr → TS))} {pos : Pos} {tb : WX → TS} {Wout : WX}
theorem ps_try_manyAs (hs : X.stack = X.env :: X.outer) (hf : X.env.frame = some X.env.locals) (hN : X.N.Nodup) (hi : X.N[i]? = some n) (hln : X.env.kindOf n = some .local) (tk : Takes X Wout)
    (hb : ∀ (W : WX) (pn : List (Addr × Obj)) (xe : Value → Shared → Prop), Takes (X.tr pn xe) W → PassesOwn (model X.prog X.w) X.A X.env xe → PSs (X.tr pn xe) body (tb W))
    (hh : HdsAs X n (h₀ :: hds) l) : PS X (.Try body (h₀ :: hds) [] [] pos) (fun D σ H => tb (wManyAs X.K X.N.length i Wout D l) D σ H) := by
  refine ⟨fun pins s σ H D I h => ?_⟩
  have ok := I.ok
  have hfr : X.A.frames = some (X.env :: X.outer) := by rw [ok.frames, hs]
  have hloc : L2.Loc X.env.scope n := .inl hln
  refine wpAny_Try_except ?_
  refine wpAny_mono ((hb (wManyAs X.K X.N.length i Wout D l) (X.pn ++ pins) (fun e s₁ => wpAny (model X.prog X.w) X.A (noteFrame e X.env) (fun _ s₂ => wpAny (model X.prog X.w) X.A (setFlight e none) (fun _ s₃ =>
    wpAny (model X.prog X.w) X.A (handleBy e X.env (h₀ :: hds)) (SP X pins D) X.xe s₃) X.xe s₂) X.xe s₁) (fun u s' xx => ?_) PassesOwn.looking).run [] s σ H D (I.toTry _) h) (fun f s1 hsp => ?_) (fun e s1 he => he)
  · -- the catch
    obtain ⟨a, B, sI, pins', σ', H', cls, d, rfl, J', nb, up, sky, na, os, ag, w⟩ := xx
    have J : Inv X pins σ' H' sI := J'.ofTry ok
    have sky' : Sky B (X.env :: X.outer) a (Zc cls d) X.env.locals s'.heap := by rw [← hs]; exact sky
    show wpAny (model X.prog X.w) X.A (noteFrame (.ref a) X.env) _ _ _
    refine Sky.land Zc.steady hfr hf sky' fun h3 fl3 up3 => ?_
    have J3 : Inv X pins σ' H' { s' with heap := h3 } := J.landed nb fl3.1 (up.trans up3) os ag
    obtain ⟨oe3, vs3, he3, hz3, hd3⟩ := fl3.there
    have notFr : ∀ {h : Heap} {o : Obj} {vs : Array Value}, h.FunFrames B (X.env :: X.outer) → h.get? a = some o → o.data = .fields vs → a ∉ frs (X.env :: X.outer) := fun {h o vs} ff e dd hm => by
      obtain ⟨_, o', e', hnf⟩ := ff.mem hm
      rw [e] at e'; cases e'
      exact hnf _ dd
    have nfr := notFr fl3.2.2.1 he3 hd3
    have nL : a ≠ X.env.locals := fun z => nfr (List.mem_filterMap.mpr ⟨X.env, List.mem_cons_self, by rw [hf, z]⟩)
    have nF : a ∉ X.fs := fun hm => by
      obtain ⟨e, he, q⟩ := List.mem_filterMap.mp hm
      exact nfr (List.mem_filterMap.mpr ⟨e, List.mem_cons_of_mem _ he, q⟩)
    have S3 := J3.suite he3 hd3 na nL nF
    have hlen : σ'.length = X.N.length := J.len
    have go : ∀ {hds' : List ExceptHandler} {l' : List (Value × (Addr → Value → Option Addr → TS))}, HdsAs X n hds' l' → wManyAs X.K X.N.length i Wout D l' cls d σ' H' →
        wpAny (model X.prog X.w) X.A (handleBy (.ref a) X.env hds') (SP X pins D) X.xe { s' with heap := h3 } := by
      intro hds' l' hk
      induction hk with
      | nil =>
        intro w
        refine wpAny_handleBy_nil ?_
        obtain ⟨k1, k2, k3, oe, vs, T, oT, ts', he, hz, hd, h1, hr⟩ := id fl3
        unfold PySem.passOn
        refine wpAny_bind (wpAny_field he hd h1 ?_)
        rw [if_neg (show ¬ ((Value.ref T == Value.none) = true) from by simp)]
        have fin : wpAny (model X.prog X.w) X.A (setFlight (.ref a) X.env.frame) (fun _ s4 => wpAny (model X.prog X.w) X.A (throw (.ref a) : Sem Flow) (SP X pins D) X.xe s4) X.xe { s' with heap := h3 } := by
          rw [hf]
          refine HandSPX.setFlight_upZ fl3 fun h4 hh4 up4 => wpAny_throw (tk _ _ ?_)
          exact ⟨a, B, sI, pins, σ', H', cls, d, rfl, J, nb, (up.trans up3).trans up4, .inr (.inr (by rw [hs]; exact hh4)), na, os, ag, w⟩
        first
          | exact wpAny_bind (wpAny_pure (wpAny_bind fin))
          | exact wpAny_bind fin
      | @cons x c ts b₀ suite np pos' hds2 l2 hc hsu r ih =>
        intro w
        obtain ⟨b, hb1, hyes, hno⟩ := w
        refine wpAny_handleBy_cons (codeAny_handlers_test ?_) (by intro q; cases q)
        have LT : PySem.W.Looks (model X.prog X.w) h3 (typeOf (.ref a)) cls := fun A Q E s k q => wpAny_typeOf_ref (k _ _ he3) (by rw [hz3.1]; exact q)
        have LM := PySem.W.exm_one (M := model X.prog X.w) (J3.kIn) LT hb1
        have test : ∀ {Q : Value → Shared → Prop} {E : Value → Shared → Prop}, Q c { s' with heap := h3 } → wpAny (model X.prog X.w) (X.A.mark (some (.ref a))) (eval (.Name x np) X.env) Q E { s' with heap := h3 } := fun {Q E} q => by
          obtain ⟨hg, hdbg, hm | ⟨hm, hv, hnn⟩⟩ := hc
          · exact ld_glob (X := X.suite a ((a, oe3) :: (X.pn ++ pins))) S3 hg hm q hdbg
          · exact ld_blt (X := X.suite a ((a, oe3) :: (X.pn ++ pins))) S3 hg hm hv q hnn hdbg
        refine test (LM.here ?_)
        cases b with
        | true =>
          refine codeAny_handlers_suite_as ?_
          refine HandSPX.lands_againZ fl3 fun h4 fl4 up4 => ?_
          have J4 : Inv X pins σ' H' { s' with heap := h4 } := J.landed nb fl4.1 ((up.trans up3).trans up4) os ag
          obtain ⟨oe4, vs4, he4, hz4, hd4⟩ := fl4.there
          have S4 := J4.suite he4 hd4 na nL nF
          refine store_ok (X := X.suite a ((a, oe4) :: (X.pn ++ pins))) (v := .ref a) S4 hN hi hloc rfl (fun s5 S5 => ?_) (.inr hln)
          refine wpAny_mono ((hsu a oe4 cls d (X.pn ++ pins) hz4 ⟨_, hd4⟩).run [] s5 _ H' _ S5 (hyes rfl a na hlen)) (fun f s6 hsp => ?_) (fun _ _ z => False.elim z)
          have end_ : ∀ {σ6 : L2.St} {H6 : Hp} {Q : Shared → Prop}, Inv (X.suite a ((a, oe4) :: (X.pn ++ pins))) [] σ6 H6 s6 → (∀ s7, Inv X pins (σ6.set i none) H6 s7 → Q s7) →
              wpAny (model X.prog X.w) X.A (do bindName X.env n .none; unbindBehindTheSuite X.env n pos') (fun _ s7 => Q s7) X.xe s6 := fun {σ6 H6 Q} S6 hq => gone_ok (S6.unsuite ok) hN hi hln hq
          cases f with
          | next =>
            obtain ⟨σ6, H6, S6, q6⟩ := hsp
            exact end_ S6 fun s7 J7 => ⟨_, _, J7, q6⟩
          | brk =>
            obtain ⟨σ6, H6, S6, q6⟩ := hsp
            exact end_ S6 fun s7 J7 => ⟨_, _, J7, q6⟩
          | cont =>
            obtain ⟨σ6, H6, S6, q6⟩ := hsp
            exact end_ S6 fun s7 J7 => ⟨_, _, J7, q6⟩
          | ret u =>
            obtain ⟨v6, σ6, H6, S6, r6, q6⟩ := hsp
            exact end_ S6 fun s7 J7 => ⟨_, _, _, J7, r6, q6⟩
        | false =>
          show wpAny _ X.A (handleBy (.ref a) X.env hds2) _ _ _
          exact ih (hno rfl)
    exact go hh w
  · cases f with
    | next =>
      obtain ⟨σ', H', J', q⟩ := hsp
      exact wpAny_execs_nil ⟨σ', H', J'.ofTry ok, q⟩
    | brk =>
      obtain ⟨σ', H', J', q⟩ := hsp
      exact ⟨σ', H', J'.ofTry ok, q⟩
    | cont =>
      obtain ⟨σ', H', J', q⟩ := hsp
      exact ⟨σ', H', J'.ofTry ok, q⟩
    | ret u =>
      obtain ⟨v, σ', H', J', r, q⟩ := hsp
      exact ⟨v, σ', H', J'.ofTry ok, r, q⟩
end
end TC
set_option Elab.async false
set_option linter.all false
set_option maxRecDepth 100000
set_option autoImplicit false
/-! DlQ2: try: a call; except ColorError as n: x = [isinstance(n, A), ..]; x = x + [isinstance(n, B), ..]; .. -/
namespace TC
open PySem PySem.Spec PyProof.Rows L2
section
variable {P : Program} {w : World} {base : Heap} {B : Bs} {F : Fns} {C : Ct} {k : Nat} {X : Cx} {W : WX} {S : Sx}
def bls (c : Str) (ys : List Str) : List D := ys.map fun y => .bool (decide (c = y))
/-- isinstance(n, y) for each y -/
def chkIs (C : Ct) (S : Sx) (n : Str) : List Str → List Expr → Bool
  | [], [] => true
  | y :: ys, .Call (.Name f _) [.Name m _, .Name z _] [] _ :: es => seq f "isinstance" && isGl S f && seq n m && seq y z && isGl S y && isPlainN y && C.xs.any (seq y) && chkIs C S n ys es
  | _, _ => false
def chkG1 (C : Ct) (S : Sx) (n x : Str) (ys : List Str) : Stmt → Bool
  | .Assign [.Name z _] (.List es _) _ => seq x z && chkIs C S n ys es
  | _ => false
def chkG2 (C : Ct) (S : Sx) (n x : Str) (ys : List Str) : Stmt → Bool
  | .Assign [.Name z _] (.BinOp (.Name u _) .Add (.List es _) _) _ => seq x z && seq x u && chkIs C S n ys es
  | _ => false
def chkGs (C : Ct) (S : Sx) (n x : Str) : List (List Str) → List Stmt → Bool
  | [], [] => true
  | ys :: r, s :: st => chkG2 C S n x ys s && chkGs C S n x r st
  | _, _ => false
/-- what is known within the suite -/
structure Su (P : Program) (w : World) (base : Heap) (B : Bs) (F : Fns) (C : Ct) (k : Nat) (X : Cx) (W : WX) (S : Sx) (i j : Nat) (n x : Str) (a A : Addr) (oe : Obj) (pn : List (Addr × Obj)) (c : Str) : Prop where
  ck : Cok P w base B F C k X W S
  xm : c ∈ C.xs
  mc : B.mg c = some (.ref A)
  xo : ∃ bm nw, XcOk B.K B.mg bm nw C.xs
  hz : Zc (.ref A) none oe
  hf : ∃ vs, oe.data = .fields vs
  ni : nAt C i n = true
  nl : S.sc.names.lookup n = some .local
  np : isPlainN n = true
  xj : nAt C j x = true
  xl : S.sc.names.lookup x = some .local
  xp : isPlainN x = true
  ij : i ≠ j
variable {i j : Nat} {n x : Str} {a A : Addr} {oe : Obj} {pn : List (Addr × Obj)} {c : Str}
theorem is_all (u : Su P w base B F C k X W S i j n x a A oe pn c) : ∀ (ys : List Str) (es : List Expr), chkIs C S n ys es = true → PA (X.suite a ((a, oe) :: pn)) es (fun σ H Q => σ[i]? = some (some (.ref a)) ∧ ∀ vs, (∀ G, DqAll G vs (bls c ys)) → Q vs H)
  | [], [], _ => PA.weak pa_nil fun σ H Q ⟨_, q⟩ => q [] fun G => .nil
  | y :: ys, e :: es, h => by
    cases e with
    | Call fn args kws pos => cases fn with
      | Name f p => cases args with
        | nil => cases h
        | cons e1 as => cases e1 with
          | Name m p1 => cases as with
            | nil => cases h
            | cons e2 as => cases e2 with
              | Name z p2 => cases as with
                | cons _ _ => cases h
                | nil => cases kws with
                  | cons _ _ => cases h
                  | nil =>
                    have h' : (seq f "isinstance" && isGl S f && seq n m && seq y z && isGl S y && isPlainN y && C.xs.any (seq y) && chkIs C S n ys es) = true := h
                    simp only [Bool.and_eq_true] at h'
                    obtain ⟨⟨⟨⟨⟨⟨⟨a1, a2⟩, a3⟩, a4⟩, a5⟩, a6⟩, a7⟩, a8⟩ := h'
                    have := seq_eq a1; subst this
                    have := seq_eq a3; subst this
                    have ez := seq_eq a4
                    subst ez
                    have ih := is_all u ys es a8
                    have ym : y ∈ C.xs := by
                      obtain ⟨z, hz, e⟩ := List.any_eq_true.mp a7
                      rw [seq_eq e]; exact hz
                    obtain ⟨bm, nw, xo⟩ := u.xo
                    obtain ⟨Ay, e1, _⟩ := xo.one y ym
                    have eK : X.K = B.K := u.ck.eK
                    have hx : ExcC X.K A := by
                      obtain ⟨A', f1, _, _, _, _, f2⟩ := xo.one c u.xm
                      rw [u.mc] at f1
                      cases f1
                      rw [eK]; exact f2
                    have cr : CallR (X.suite a ((a, oe) :: pn)) (.builtin "isinstance") (rIsE X.K A a) := call_isE hx u.hz u.hf
                    have hv : Vis (X.suite a ((a, oe) :: pn)).env.scope n := .inl (by show X.env.scope.names.lookup n = _; rw [u.ck.es]; exact u.nl)
                    obtain ⟨n1, n2, _⟩ := plainN_of u.np
                    obtain ⟨y1, _, _⟩ := plainN_of a6
                    have kt := (xo.two c u.xm y ym A Ay u.mc e1).2
                    have m3 : (X.suite a ((a, oe) :: pn)).mg y = some (.ref Ay) := by show X.mg _ = _; rw [u.ck.em]; exact e1
                    have one := fun (p q r t : Pos) => pe_callB (X := X.suite a ((a, oe) :: pn)) (pos := t) (p := p) cr (gl_of u.ck a2) (u.ck.free (by simp)) (by decide +kernel) (pa_cons (pe_var (pos := q) (n_of u.ck u.ni) hv n1 n2) (pa_cons (pe_glob (pos := r) (v := .ref Ay) (gl_of u.ck a5) m3 rfl y1) pa_nil))
                    refine PA.weak (pa_cons (one _ _ _ _) ih rfl) fun σ H Q ⟨hs, q⟩ => ?_
                    refine ⟨_, hs, .ref Ay, .ref Ay, decide (c = y), rfl, fun v hv => hv, by rw [eK]; exact kt, hs, fun vs hvs => ?_⟩
                    exact q (.bl (decide (c = y)) :: vs) fun G => .cons (.bl _) (hvs G)
              | _ => cases as <;> cases h
          | _ => cases as <;> cases h
      | _ => cases h
    | _ => cases h
  | [], _ :: _, h => by cases h
  | _ :: _, [], h => by cases h

theorem bls_seq (c : Str) : ∀ ys : List Str, ((bls c ys).all fun d => !isDict d) = true
  | [] => rfl
  | y :: ys => by
    show ((!isDict (.bool (decide (c = y)))) && ((bls c ys).all fun d => !isDict d)) = true
    rw [bls_seq c ys]; rfl
theorem dq_len {G : Hp} {vs : List V} {ys : List Str} (h : DqAll G vs (bls c ys)) : vs.length = ys.length := by
  rw [dpAll_len h]; unfold bls; rw [List.length_map]
/-- [isinstance(n, y), ..] as a value -/
theorem is_list (u : Su P w base B F C k X W S i j n x a A oe pn c) {ys : List Str} {es : List Expr} {lp : Pos} (h : chkIs C S n ys es = true) (hl : ys.length ≤ 1000) : PE (X.suite a ((a, oe) :: pn)) (.List es lp) (fun σ H Q => σ[i]? = some (some (.ref a)) ∧ ∃ G, Same G H ∧ ∀ v G' H', Gw G H G' H' → Rp G' v (.list (bls c ys)) → Q v H') := by
  refine PE.weak (pe_lst (is_all u ys es h)) fun σ H Q ⟨hs, G, sm, q⟩ => ⟨hs, fun vs hvs => ⟨?_, fun p hp => ?_⟩⟩
  · rw [dq_len (hvs G), sizeLine_eq]; omega
  · exact q (.ref p) _ _ (Gw.new sm hp) (mkL (free_of sm hp) (hvs G))
def tGo (B : Bs) (i j : Nat) (a : Addr) (m : List D → List D) : TS := fun D σ H => ∃ G env ds, OkG B G σ H env ∧ σ[i]? = some (some (.ref a)) ∧ env[j]? = some (.v (.list ds)) ∧ ds.length ≤ 100000 ∧
  ∀ σ' G' H', OkG B G' σ' H' (env.set j (.v (.list (m ds)))) → σ'[i]? = some (some (.ref a)) → Same G G' → D.nx σ' H'
theorem su_loc (u : Su P w base B F C k X W S i j n x a A oe pn c) : L2.Loc (X.suite a ((a, oe) :: pn)).env.scope x ∧ (X.suite a ((a, oe) :: pn)).env.scope.names.lookup x = some .local := by
  have : X.env.scope.names.lookup x = some .local := by rw [u.ck.es]; exact u.xl
  exact ⟨.inl this, this⟩
theorem is_g1 (u : Su P w base B F C k X W S i j n x a A oe pn c) {ys : List Str} {st : Stmt} (h : chkG1 C S n x ys st = true) (hl : ys.length ≤ 1000) : PS (X.suite a ((a, oe) :: pn)) st (fun D σ H => ∃ G env, OkG B G σ H env ∧ σ[i]? = some (some (.ref a)) ∧
    ∀ σ' G' H', OkG B G' σ' H' (env.set j (.v (.list (bls c ys)))) → σ'[i]? = some (some (.ref a)) → Same G G' → D.nx σ' H') := by
  unfold chkG1 at h
  split at h <;> first | (cases h; done) | skip
  simp only [Bool.and_eq_true] at h
  obtain ⟨h1, h2⟩ := h
  have := seq_eq h1; subst this
  obtain ⟨l1, l2⟩ := su_loc u
  refine PS.weak (ps_set (i := j) (by show X.N.Nodup; rw [u.ck.eN]; exact u.ck.pk.nd) (n_of u.ck u.xj) l1 (is_list u h2 hl) rfl (.inr l2)) fun D σ H ⟨G, env, o, hs, q⟩ => ⟨hs, G, o.gH, fun v G' H' g r => ?_⟩
  exact q _ G' H' ((o.grow g).setV r) (by rw [List.getElem?_set_ne (Ne.symm u.ij)]; exact hs) g.gg
theorem is_g2 (u : Su P w base B F C k X W S i j n x a A oe pn c) {ys : List Str} {st : Stmt} (h : chkG2 C S n x ys st = true) (hl : ys.length ≤ 1000) : PS (X.suite a ((a, oe) :: pn)) st (tGo B i j a fun ds => ds ++ bls c ys) := by
  unfold chkG2 at h
  split at h <;> first | (cases h; done) | skip
  simp only [Bool.and_eq_true] at h
  obtain ⟨⟨h1, h3⟩, h2⟩ := h
  have := seq_eq h1; subst this
  have := seq_eq h3; subst this
  obtain ⟨l1, l2⟩ := su_loc u
  obtain ⟨p1, p2, _⟩ := plainN_of u.xp
  refine PS.weak (ps_set (i := j) (by show X.N.Nodup; rw [u.ck.eN]; exact u.ck.pk.nd) (n_of u.ck u.xj) l1 (pe_op or_add (pe_var (n_of u.ck u.xj) (.inl l2) p1 p2) (is_list u h2 hl)) rfl (.inr l2)) fun D σ H ⟨G, env, ds, o, hs, e, hd, q⟩ => ?_
  obtain ⟨v0, e0, r0⟩ := o.val e
  refine ⟨v0, e0, hs, G, o.gH, fun v G' H' g r => ?_⟩
  refine ⟨G', .list ds, .list (bls c ys), .list (ds ++ bls c ys), g.gh, r0.same g.gg, r, ?_, fun v2 G2 H2 g2 r2 => ?_⟩
  · have : okLen (ds.length + (bls c ys).length) = true := decide_eq_true (by
      unfold bls lim; rw [List.length_map]; omega)
    show (R.guard (okLen (ds.length + (bls c ys).length))).bind _ = _
    rw [this]; rfl
  · exact q _ G2 H2 (((o.grow g).grow g2).setV r2) (by rw [List.getElem?_set_ne (Ne.symm u.ij)]; exact hs) (g.gg.trans g2.gg)
theorem is_gs (u : Su P w base B F C k X W S i j n x a A oe pn c) : ∀ (gs : List (List Str)) (st : List Stmt), chkGs C S n x gs st = true → (gs.flatten.length ≤ 1000) → PSs (X.suite a ((a, oe) :: pn)) st (fun D σ H => ∃ G env ds, OkG B G σ H env ∧ σ[i]? = some (some (.ref a)) ∧ env[j]? = some (.v (.list ds)) ∧ ds.length + gs.flatten.length ≤ 100000 ∧
    ∀ σ' G' H', OkG B G' σ' H' (env.set j (.v (.list (ds ++ bls c gs.flatten)))) → Same G G' → D.nx σ' H')
  | [], [], _, _ => PSs.weak pss_nil fun D σ H ⟨G, env, ds, o, hs, e, hl, q⟩ => by
    refine q σ G H ?_ (Same.refl _)
    have : env.set j (.v (.list (ds ++ bls c ([] : List (List Str)).flatten))) = env := by
      have e2 : ds ++ bls c ([] : List (List Str)).flatten = ds := List.append_nil ds
      rw [e2]
      apply List.ext_getElem?
      intro m
      by_cases hm : j = m
      · subst hm
        have hlt : j < env.length := by
          rcases Nat.lt_or_ge j env.length with z | z
          · exact z
          · rw [List.getElem?_eq_none z] at e; cases e
        rw [List.getElem?_set_self hlt, e]
      · rw [List.getElem?_set_ne hm]
    rw [this]
    exact o
  | ys :: gs, s :: st, h, hl => by
    have h' : (chkG2 C S n x ys s && chkGs C S n x gs st) = true := h
    rw [Bool.and_eq_true] at h'
    rw [List.flatten_cons, List.length_append] at hl
    refine PSs.weak (pss_cons (is_g2 u h'.1 (by omega)) (is_gs u gs st h'.2 (by omega))) fun D σ H ⟨G, env, ds, o, hs, e, hd, q⟩ => ?_
    rw [List.flatten_cons, List.length_append] at hd
    refine ⟨G, env, ds, o, hs, e, by omega, fun σ' G' H' o' hs' sm => ?_⟩
    have hlt : j < env.length := by
      rcases Nat.lt_or_ge j env.length with z | z
      · exact z
      · rw [List.getElem?_eq_none z] at e; cases e
    refine ⟨G', _, ds ++ bls c ys, o', hs', List.getElem?_set_self hlt, ?_, fun σ2 G2 H2 o2 sm2 => ?_⟩
    · unfold bls; rw [List.length_append, List.length_map]; omega
    · rw [List.set_set] at o2
      refine q σ2 G2 H2 ?_ (sm.trans sm2)
      have : ds ++ bls c (ys :: gs).flatten = ds ++ bls c ys ++ bls c gs.flatten := by
        unfold bls; rw [List.flatten_cons, List.map_append, List.append_assoc]
      rw [this]
      exact o2
  | [], _ :: _, h, _ => by cases h
  | _ :: _, [], h, _ => by cases h
end
end TC
set_option Elab.async false
set_option linter.all false
set_option maxRecDepth 100000
set_option autoImplicit false
/-! DlR: try; the checker of statements; every checked statement is what the small language says. -/
namespace TC
open PySem PySem.Spec PyProof.Rows L2
section
variable {P : Program} {w : World} {base : Heap} {B : Bs} {F : Fns} {C : Ct} {k : Nat} {X : Cx} {W : WX} {S : Sx}

/-! ### the suite of a clause -/
/-- return yes if isinstance(n, ColorError) and (not isinstance(n, other)) else no -/
def chkHd (C : Ct) (S : Sx) (i : Nat) (h : Hd) : ExceptHandler → Bool
  | .ExceptHandler (some (.Name x _)) (some n) [.Return (some (.IfExp (.BoolOp .And [.Call (.Name f1 _) [.Name n1 _, .Name c1 _] [] _, .UnaryOp .Not (.Call (.Name f2 _) [.Name n2 _, .Name c2 _] [] _) _] _) (.Constant (.str y) _ _) (.Constant (.str z) _ _) _)) _] _ =>
    seq h.cls x && isGl S h.cls && isPlainN h.cls && C.xs.any (seq h.cls) && nAt C i n && (lk n S.sc.names == some .local) && isPlainN n && seq n n1 && seq n n2 && seq f1 "isinstance" && seq f2 "isinstance" && isGl S f1 && seq c1 "ColorError" && isGl S c1 &&
      seq h.other c2 && isGl S h.other && isPlainN h.other && C.xs.any (seq h.other) && seq h.yes y && seq h.no z
  | _ => false
theorem mem_any {x : Str} {l : List Str} (h : l.any (seq x) = true) : x ∈ l := by
  obtain ⟨y, hy, e⟩ := List.any_eq_true.mp h
  rw [seq_eq e]
  exact hy
def tsH (K : PySem.W.Frag) (mg : Str → Option Value) (i : Nat) (h : Hd) (a : Addr) (cls : Value) (d : Option Addr) : TS := fun D σ H => ∃ A A0 Ao b1 b2, cls = .ref A ∧ d = none ∧ ExcC K A ∧ σ[i]? = some (some (.ref a)) ∧ mg "ColorError" = some (.ref A0) ∧ mg h.other = some (.ref Ao) ∧
  PySem.W.kitOne K (.ref A) (.ref A0) = some b1 ∧ PySem.W.kitOne K (.ref A) (.ref Ao) = some b2 ∧ D.rt (.str (if b1 && !b2 then h.yes else h.no)) H
theorem hd_ok (c : Cok P w base B F C k X W S) {i : Nat} {h : Hd} {e : ExceptHandler} (hk : chkHd C S i h e = true) : ∃ (n x : Str) (b₀ : Stmt) (np pos' : Pos), e = .ExceptHandler (some (.Name x np)) (some n) [b₀] pos' ∧ h.cls = x ∧ isGl S x = true ∧ isPlainN x = true ∧ x ∈ C.xs ∧ nAt C i n = true ∧ S.sc.names.lookup n = some .local ∧ h.other ∈ C.xs ∧
    ∀ (a : Addr) (oe : Obj) (cls : Value) (d : Option Addr) (pn : List (Addr × Obj)), Zc cls d oe → (∃ vs, oe.data = .fields vs) → PSs (X.suite a ((a, oe) :: pn)) [b₀] (tsH B.K B.mg i h a cls d) := by
  unfold chkHd at hk
  split at hk
  · rename_i x np n f1 p1 n1 p2 c1 p3 p4 f2 p5 n2 p6 c2 p7 p8 p9 p10 y j1 p11 z j2 p12 p13 p14 p15
    simp only [Bool.and_eq_true, beq_iff_eq, lk_eq] at hk
    obtain ⟨⟨⟨⟨⟨⟨⟨⟨⟨⟨⟨⟨⟨⟨⟨⟨⟨⟨⟨a1, a2⟩, a3⟩, a4⟩, a5⟩, a6⟩, a7⟩, a8⟩, a9⟩, a10⟩, a11⟩, a12⟩, a13⟩, a14⟩, a15⟩, a16⟩, a17⟩, a18⟩, a19⟩, a20⟩ := hk
    have e1 := seq_eq a1
    have := seq_eq a8; subst this
    have := seq_eq a9; subst this
    have := seq_eq a10; subst this
    have := seq_eq a11; subst this
    have := seq_eq a13; subst this
    have e2 := seq_eq a15
    have e3 := seq_eq a19
    have e4 := seq_eq a20
    subst e1 e2 e3 e4
    refine ⟨n, h.cls, _, np, _, rfl, rfl, a2, a3, mem_any a4, a5, a6, mem_any a18, fun a oe cls d pn hz hf => ?_⟩
    refine ⟨fun pins s σ H D I ⟨A, A0, Ao, b1, b2, q1, q2, xc, q3, q4, q5, q6, q7, q8⟩ => ?_⟩
    subst q1 q2
    have eK : X.K = B.K := c.eK
    have em : X.mg = B.mg := c.em
    let X' := X.suite a ((a, oe) :: pn)
    have hN : X'.N[i]? = some n := n_of c a5
    have hv : Vis X'.env.scope n := .inl (by show X.env.scope.names.lookup n = _; rw [c.es]; exact a6)
    have g1 : Gl X' "isinstance" := gl_of c a12
    have g2 : Gl X' "ColorError" := gl_of c a14
    have g3 : Gl X' h.other := gl_of c a16
    have m1 : X'.mg "isinstance" = none := c.free (by simp)
    have m2 : X'.mg "ColorError" = some (.ref A0) := by show X.mg _ = _; rw [em]; exact q4
    have m3 : X'.mg h.other = some (.ref Ao) := by show X.mg _ = _; rw [em]; exact q5
    obtain ⟨n1, n2, _⟩ := plainN_of a7
    obtain ⟨o1, _, _⟩ := plainN_of a17
    have cr : CallR X' (.builtin "isinstance") (rIsE X.K A a) := call_isE (by rw [eK]; exact xc) hz hf
    have pn1 : ∀ p : Pos, PE X' (.Name n p) (tVar i) := fun p => pe_var hN hv n1 n2
    have i1 : ∀ p q r t : Pos, PE X' (.Call (.Name "isinstance" p) [.Name n q, .Name "ColorError" r] [] t) (tCB (rIsE X.K A a) (tCons (tVar i) (tCons (tC (.ref A0)) tNil))) := fun p q r t =>
      pe_callB cr g1 m1 (by decide +kernel) (pa_cons (pn1 q) (pa_cons (pe_glob (v := .ref A0) g2 m2 rfl) pa_nil))
    have i2 : ∀ p q r t : Pos, PE X' (.Call (.Name "isinstance" p) [.Name n q, .Name h.other r] [] t) (tCB (rIsE X.K A a) (tCons (tVar i) (tCons (tC (.ref Ao)) tNil))) := fun p q r t =>
      pe_callB cr g1 m1 (by decide +kernel) (pa_cons (pn1 q) (pa_cons (pe_glob (v := .ref Ao) g3 m3 rfl o1) pa_nil))
    refine (pss_one (ps_ret (pe_ifExp (PW.pt (pw_and (pt_val (i1 _ _ _ _)) (pw_and1 (pt_not (pt_val (i2 _ _ _ _)))))) pe_str pe_str))).run pins s σ H D I ?_
    refine ⟨_, q3, .ref A0, .ref A0, b1, rfl, fun u hu => hu, by rw [eK]; exact q6, b1, rfl, ?_⟩
    cases b1 with
    | false => exact q8
    | true =>
      refine ⟨_, q3, .ref Ao, .ref Ao, b2, rfl, fun u hu => hu, by rw [eK]; exact q7, b2, rfl, ?_⟩
      cases b2 <;> exact q8
  · cases hk
def chkHds (C : Ct) (S : Sx) (i : Nat) : List Hd → List ExceptHandler → Bool
  | [], [] => true
  | h :: hs, e :: es => chkHd C S i h e && chkHds C S i hs es
  | _, _ => false
def valsH (K : PySem.W.Frag) (mg : Str → Option Value) (i : Nat) (hs : List Hd) : List (Value × (Addr → Value → Option Addr → TS)) := hs.map fun h => ((mg h.cls).getD .none, tsH K mg i h)
theorem hds_ok (c : Cok P w base B F C k X W S) {i : Nat} {n : Str} (hn : C.N[i]? = some n) : ∀ (hs : List Hd) (es : List ExceptHandler), chkHds C S i hs es = true → HdsAs X n es (valsH B.K B.mg i hs) ∧ ∀ h ∈ hs, h.cls ∈ C.xs ∧ h.other ∈ C.xs
  | [], [], _ => ⟨.nil, fun _ h => by cases h⟩
  | h :: hs, e :: es, q => by
    have q' : (chkHd C S i h e && chkHds C S i hs es) = true := q
    rw [Bool.and_eq_true] at q'
    obtain ⟨ih1, ih2⟩ := hds_ok c hn hs es q'.2
    obtain ⟨n', x, b₀, np, pos', rfl, ex, g1, g2, g3, g4, g5, g6, g7⟩ := hd_ok c q'.1
    have en : n' = n := by
      have := n_of c g4
      rw [c.eN, hn] at this
      exact (Option.some.inj this).symm
    subst en
    obtain ⟨Bx, nw, it, bm, ef, xo⟩ := c.pk.xcs (fun z => by rw [z] at g3; cases g3)
    obtain ⟨A, e1, _⟩ := xo.one x g3
    refine ⟨.cons (c := (B.mg h.cls).getD .none) ⟨gl_of c g1, (plainN_of g2).1, .inl ?_⟩ g7 ih1, fun h' hm => ?_⟩
    · rw [c.em, ex, e1]; rfl
    · rcases List.mem_cons.mp hm with z | z
      · subst z; exact ⟨ex ▸ g3, g6⟩
      · exact ih2 h' z
  | [], _ :: _, q => by cases q
  | _ :: _, [], q => by cases q
theorem s_try (c : Sok P w base B F C k X W S) {i : Nat} {n : Str} {ks : List Str} {hs : List Hd} {body : List Stmt} {h₀ : ExceptHandler} {es : List ExceptHandler} {pos : Pos} {m : Env → R Fl} (hn : C.N[i]? = some n) (hl : S.sc.names.lookup n = some .local) (hk : chkHds C S i hs (h₀ :: es) = true) (hx : ∀ x ∈ ks, x ∈ C.xs)
    (hb : ∀ (W' : WX) (pn : List (Addr × Obj)) (xe : Value → Shared → Prop), Sok P w base B F C k (X.tr pn xe) W' S → PSs (X.tr pn xe) body (tSt B W' m)) :
    PS X (.Try body (h₀ :: es) [] [] pos) (tSt B W fun e => match m e with | .exc c => if c ∈ ks then hand hs c else .stuck | r => r) := by
  obtain ⟨hh, hm⟩ := hds_ok c.c hn hs _ hk
  have hi : X.N[i]? = some n := by rw [c.c.eN]; exact hn
  refine PS.weak (ps_try_manyAs (l := valsH B.K B.mg i hs) (Wout := W) c.stk c.fr (by rw [c.c.eN]; exact c.c.pk.nd) hi (by show X.env.scope.names.lookup n = _; rw [c.c.es]; exact hl) c.c.tk (fun W' pn xe tk' hp' => hb W' pn xe ⟨⟨c.c.pk, c.c.eP, c.c.ew, c.c.eK, c.c.em, c.c.eb, c.c.eN, c.c.es, c.c.ef, c.c.calm, c.c.room, tk'⟩, hp', c.stk, c.fr, c.kf⟩) hh) fun D σ H ⟨G, env, o, p⟩ => ⟨G, env, o, ?_⟩
  dsimp only at p
  cases e : m env with
  | stuck => rw [e] at p; exact p
  | ok f => rw [e] at p; cases f <;> exact p
  | exc x =>
    rw [e] at p
    dsimp only at p
    have hxk : x ∈ ks := by
      by_cases hxk : x ∈ ks
      · exact hxk
      · rw [if_neg hxk] at p; exact p.elim
    rw [if_pos hxk] at p
    intro σ' G' H' fi cls hcls
    have xm := hx x hxk
    obtain ⟨Bx, nw, it, bm, ef, xo⟩ := c.c.pk.xcs (fun z => by rw [z] at xm; cases xm)
    obtain ⟨A, e1, e2, e3, e4, e5, xc⟩ := xo.one x xm
    rw [e1] at hcls
    cases hcls
    obtain ⟨A0, t1, _, t3⟩ := xo.top
    have eK : X.K = B.K := c.c.eK
    rw [eK]
    have go : ∀ hs : List Hd, (∀ h ∈ hs, h.cls ∈ C.xs ∧ h.other ∈ C.xs) → Pso B W D G (hand hs x) → wManyAs B.K X.N.length i W D (valsH B.K B.mg i hs) (.ref A) none σ' H' := by
      intro hs
      induction hs with
      | nil => intro _ q; exact q σ' G' H' fi _ e1
      | cons h hs ih =>
        intro hm q
        obtain ⟨hc1, hc2⟩ := hm h List.mem_cons_self
        obtain ⟨A1, f1, _⟩ := xo.one h.cls hc1
        obtain ⟨A2, f2, _⟩ := xo.one h.other hc2
        have em := (xo.two x xm h.cls hc1 A A1 e1 f1).1
        unfold hand at q
        show ∃ b, _
        refine ⟨decide (x = h.cls), ?_, fun hb a ha hlen => ?_, fun hb => ?_⟩
        · show PySem.W.exmOne B.K (.ref A) ((B.mg h.cls).getD .none) = _
          rw [f1]
          exact em
        · have hb := of_decide_eq_true hb
          rw [if_pos hb] at q
          have hil : i < X.N.length := by
            rcases Nat.lt_or_ge i X.N.length with z | z
            · exact z
            · rw [List.getElem?_eq_none z] at hi; cases hi
          refine ⟨A, A0, A2, true, decide (x = h.other), rfl, rfl, xc, List.getElem?_set_self (by rw [hlen]; exact hil), t1, f2, (t3 x xm A e1).1, (xo.two x xm h.other hc2 A A2 e1 f2).2, ?_⟩
          have := q (.str (if x = h.other then h.no else h.yes)) G' H' fi (Rp.of (.str _))
          by_cases ho : x = h.other
          · rw [if_pos ho] at this
            rw [decide_eq_true ho]
            exact this
          · rw [if_neg ho] at this
            rw [decide_eq_false ho]
            exact this
        · have hb := of_decide_eq_false hb
          rw [if_neg hb] at q
          exact ih (fun h' hm' => hm h' (List.mem_cons_of_mem _ hm')) q
    exact go hs hm p

/-! ### try: a call; except ColorError as n: .. -/
theorem s_tryK (c : Sok P w base B F C k X W S) {i j : Nat} {n x : Str} {ks : List Str} {ae : E} {g : List Str} {gs : List (List Str)} {e : Expr} {s1 : Stmt} {st : List Stmt} {ep np hp pos : Pos} (hn : C.N[i]? = some n) (hl : S.sc.names.lookup n = some .local) (hnp : isPlainN n = true)
    (hx : C.N[j]? = some x) (hxl : S.sc.names.lookup x = some .local) (hxp : isPlainN x = true) (ij : i ≠ j) (hg : isGl S "ColorError" = true) (hc : noComp e = true) (he : chk C S ae e = true) (h1 : chkG1 C S n x g s1 = true) (h2 : chkGs C S n x gs st = true) (hk : ∀ y ∈ ks, y ∈ C.xs) (hlen : g.length + gs.flatten.length ≤ 900) (hxs : C.xs ≠ []) :
    PS X (.Try [.Expr e ep] [.ExceptHandler (some (.Name "ColorError" np)) (some n) (s1 :: st) hp] [] [] pos) (tSt B W fun en => match ev F ae en with
      | .ok _ => .ok (.nx en)
      | .exc c => if c ∈ ks then .ok (.nx (((en.set i .no).set j (.v (.list ((g ++ gs.flatten).map fun y => .bool (decide (c = y)))))).set i .no)) else .stuck
      | .stuck => .stuck) := by
  have ni : nAt C i n = true := by unfold nAt; rw [hn]; exact decide_eq_true rfl
  have nj : nAt C j x = true := by unfold nAt; rw [hx]; exact decide_eq_true rfl
  have hi : X.N[i]? = some n := by rw [c.c.eN]; exact hn
  obtain ⟨Bx, nw, it, bm, ef, xo⟩ := c.c.pk.xcs hxs
  obtain ⟨A0, t1, _, t3⟩ := xo.top
  let ts : Addr → Value → Option Addr → TS := fun a cls d D σ H => ∃ A y, cls = .ref A ∧ d = none ∧ y ∈ C.xs ∧ B.mg y = some (.ref A) ∧ ∃ G env, OkG B G σ H env ∧ σ[i]? = some (some (.ref a)) ∧ j < env.length ∧
    ∀ σ' G' H', OkG B G' σ' H' (env.set j (.v (.list (bls y (g ++ gs.flatten))))) → Same G G' → D.nx σ' H'
  refine PS.weak (ps_try_manyAs (i := i) (n := n) (l := [(.ref A0, ts)]) (tb := fun W' => tDrop (tD B W' (ev F ae))) (Wout := W) c.stk c.fr (by rw [c.c.eN]; exact c.c.pk.nd) hi (by show X.env.scope.names.lookup n = _; rw [c.c.es]; exact hl) c.c.tk (fun W' pn xe tk' hp' => pss_one (ps_expr ((snd ae).pe (X := X.tr pn xe) ⟨c.c.pk, c.c.eP, c.c.ew, c.c.eK, c.c.em, c.c.eb, c.c.eN, c.c.es, c.c.ef, c.c.calm, c.c.room, tk'⟩ e he) (swap_of hc))) ?_) fun D σ H ⟨G, env, o, p⟩ => ?_
  · refine .cons ⟨gl_of c.c hg, by decide, .inl (by rw [c.c.em]; exact t1)⟩ (fun a oe cls d pn hz hf => ?_) .nil
    refine ⟨fun pins s σ H D I ⟨A, y, q1, q2, q3, q4, G, env, o, hs, hj, q⟩ => ?_⟩
    subst q1 q2
    have u : Su P w base B F C k X W S i j n x a A oe pn y := ⟨c.c, q3, q4, ⟨bm, nw, xo⟩, hz, hf, ni, hl, hnp, nj, hxl, hxp, ij⟩
    refine (pss_cons (is_g1 u h1 (by omega)) (is_gs u gs st h2 (by omega))).run pins s σ H D I ⟨G, env, o, hs, fun σ' G' H' o' hs' sm => ?_⟩
    refine ⟨G', _, bls y g, o', hs', List.getElem?_set_self hj, ?_, fun σ2 G2 H2 o2 sm2 => ?_⟩
    · unfold bls; rw [List.length_map]; omega
    · rw [List.set_set] at o2
      refine q σ2 G2 H2 ?_ (sm.trans sm2)
      have : bls y (g ++ gs.flatten) = bls y g ++ bls y gs.flatten := by unfold bls; rw [List.map_append]
      rw [this]
      exact o2
  · refine ⟨G, env, o, ?_⟩
    dsimp only at p
    cases er : ev F ae env with
    | stuck => rw [er] at p; exact p
    | ok d =>
      rw [er] at p
      exact fun v G' H' gw rv => p σ G' H' (o.grow gw) gw.gg
    | exc y =>
      rw [er] at p
      dsimp only at p
      have hyk : y ∈ ks := by
        by_cases hyk : y ∈ ks
        · exact hyk
        · rw [if_neg hyk] at p; exact p.elim
      rw [if_pos hyk] at p
      intro G' H' gw cls hcls
      have ym := hk y hyk
      obtain ⟨A, e1, _⟩ := xo.one y ym
      rw [e1] at hcls
      cases hcls
      have eK : X.K = B.K := c.c.eK
      have o' := o.grow gw
      have hjl : j < C.N.length := by
        rcases Nat.lt_or_ge j C.N.length with z | z
        · exact z
        · rw [List.getElem?_eq_none z] at hx; cases hx
      have hil : i < C.N.length := by
        rcases Nat.lt_or_ge i C.N.length with z | z
        · exact z
        · rw [List.getElem?_eq_none z] at hn; cases hn
      refine ⟨true, by rw [eK]; exact (t3 y ym A e1).2, fun _ a ha hlen2 => ?_, fun z => by cases z⟩
      have hlen2 : σ.length = C.N.length := by rw [← c.c.eN]; exact hlen2
      refine ⟨A, y, rfl, rfl, ym, e1, G', env.set i .no, o'.setN i _, List.getElem?_set_self (by rw [hlen2]; exact hil), by rw [List.length_set, ← o.len, hlen2]; exact hjl, fun σ' G2 H2 o2 sm => ?_⟩
      exact p _ G2 H2 (o2.setN i none) (gw.gg.trans sm)

/-! ### the checker of statements -/
def isLc : E → Bool
  | .lc .. => true
  | .lcf .. => true
  | .lc2 .. => true
  | _ => false
theorem beq_seq (x y : Str) : (x == y) = seq x y := by
  cases e : seq x y with
  | true => rw [seq_eq e]; simp
  | false => exact sneq (by rw [e]; rfl)
def isLocal : NameKind → Bool
  | .local => true
  | _ => false
def isLoc (S : Sx) (x : Str) : Bool := match lk x S.sc.names with
  | some k => isLocal k
  | none => false
def inBlock (x : Str) : List (Str × NameKind) → Bool
  | [] => false
  | (n, k) :: r => (seq n x && (match k with | .local => true | .cell => true | _ => false)) || inBlock x r
def swB (S : Sx) (x : Str) (p : Pos) : Expr → Option Bool
  | .ListComp _ _ scope q => some (isLoc S x && (p.line == q.line) && !inBlock x scope.names)
  | .SetComp .. => none
  | .DictComp .. => none
  | _ => some false
theorem isLoc_eq {S : Sx} {x : Str} : (S.sc.names.lookup x == some NameKind.local) = isLoc S x := by
  unfold isLoc
  rw [lk_eq]
  cases S.sc.names.lookup x with
  | none => rfl
  | some k => cases k <;> rfl
theorem inBlock_eq (x : Str) : ∀ l : List (Str × NameKind), (l.any fun (n, k) => n == x && (k == .local || k == .cell)) = inBlock x l
  | [] => rfl
  | (n, k) :: r => by
    rw [List.any_cons, inBlock_eq x r]
    show ((n == x && (k == .local || k == .cell)) || inBlock x r) = ((seq n x && (match k with | .local => true | .cell => true | _ => false)) || inBlock x r)
    rw [beq_seq]
    cases k <;> rfl
theorem swB_ok {x : Str} {p : Pos} {e : Expr} {l : Nat} {b : Bool} {env : PySem.Env} (es : env.scope = S.sc) (kf : S.sc.kind = .function) (h : swB S x p e = some b) : swapsWith e (some (.Name x p)) l env = pure b := by
  cases e <;> first | (cases h; rfl) | (cases h; done) | skip
  case ListComp elt gs scope q =>
    have h' : (isLoc S x && (p.line == q.line) && !inBlock x scope.names) = b := Option.some.inj h
    rw [swB_of es kf, isLoc_eq, inBlock_eq, h']
mutual
def chkS (C : Ct) (S : Sx) : TC.S → Stmt → Bool
  | .pass, .Pass _ => true
  | .ex a, .Expr e _ => noComp e && chk C S a e
  | .set (.nm i) a, .Assign [.Name x p] e _ => nAt C i x && isTgt S x && chk C S a e && (match swB S x p e with | some false => true | some true => isLc a | none => false)
  | .set (.tp r) a, .Assign [.Tuple es n p] e _ => chkT C S (.tp r) (.Tuple es n p) && noTup e && chk C S a e
  | .par i j a b, .Assign [.Tuple [.Name x px, .Name y py] _ _] (.Tuple [ea, eb] _ _) _ => nAt C i x && nAt C j y && decide (i ≠ j) && parC x y px py ea eb S && chk C S a ea && chk C S b eb
  | .aug i a, .AugAssign (.Name x _) .Add e _ => nAt C i x && isTgt S x && chk C S a e
  | .ret a, .Return (some e) _ => chk C S a e
  | .ife c a b, .If e p q _ => tstOk e && chk C S c e && chkSs C S a p && chkSs C S b q
  | .for t it b, .For tg iter body [] _ => chkI C S it tg iter && chkT C S t tg && noSet iter && chkSs C S b body
  | .whl _ c b, .While e body [] _ => tstOk e && chk C S c e && chkSs C S b body
  | .rai c, .Raise (some (.Call (.Name x _) [.Constant (.str _) _ _] [] _)) none _ => seq c x && isGl S c && isPlainN c && C.xs.any (seq c)
  | .own i a, .Assign [.Name x _] (.List es _) _ => nAt C i x && isTgt S x && chks C S a es
  | .tab i, .Assign [.Name x _] (.Dict [] [] _) _ => nAt C i x && isTgt S x
  | .app i a, .Expr (.Call (.Attribute (.Name x _) m ap) [e] [] cp) _ => seq m "append" && nAt C i x && isVis S x && isPlainN x && (ap.endLine == cp.line) && noStar e && chk C S a e
  | .ext i a, .Expr (.Call (.Attribute (.Name x _) m ap) [e] [] cp) _ => seq m "extend" && nAt C i x && isVis S x && isPlainN x && (ap.endLine == cp.line) && noStar e && chk C S a e
  | .put i a b, .Assign [.Subscript (.Name x _) ke _] ve _ => nAt C i x && isVis S x && isPlainN x && chk C S a ke && chk C S b ve
  | .putL i a b, .Assign [.Subscript (.Name x _) ke _] ve _ => nAt C i x && isVis S x && isPlainN x && noSlice ke && chk C S a ke && chk C S b ve
  | .try i ks b hs, .Try body (h0 :: es) [] [] _ => (match C.N[i]? with | some n => isLoc S n | none => false) && chkHds C S i hs (h0 :: es) && (ks.all fun c => C.xs.any (seq c)) && chkSs C S b body
  | .tryK i j ks a g gs, .Try [.Expr e _] [.ExceptHandler (some (.Name y _)) (some n) (s1 :: st) _] [] [] _ =>
    (match C.N[i]?, C.N[j]? with
      | some n', some x => seq n n' && isLoc S n && isPlainN n && isLoc S x && isPlainN x && chkG1 C S n x g s1 && chkGs C S n x gs st
      | _, _ => false) && decide (i ≠ j) && seq y "ColorError" && isGl S y && noComp e && chk C S a e && (ks.all fun c => C.xs.any (seq c)) && decide (g.length + gs.flatten.length ≤ 900) && !C.xs.isEmpty
  | .nev, _ => true
  | _, _ => false
def chkSs (C : Ct) (S : Sx) : TC.S → List Stmt → Bool
  | .nil, [] => true
  | .nev, _ => true
  | .cons (.frz _) r, st => chkSs C S r st
  | .cons a r, s :: st => chkS C S a s && chkSs C S r st
  | _, _ => false
end
theorem chkSs_cons {a r : TC.S} {sts : List Stmt} (h : chkSs C S (.cons a r) sts = true) : (∃ i, a = .frz i ∧ chkSs C S r sts = true) ∨ ∃ s st, sts = s :: st ∧ chkS C S a s = true ∧ chkSs C S r st = true := by
  cases a <;> cases sts <;> first | (cases h; done) | exact .inl ⟨_, rfl, h⟩ | exact .inr ⟨_, _, rfl, Bool.and_eq_true_iff.mp h⟩
end
end TC
set_option Elab.async false
set_option linter.all false
set_option maxRecDepth 100000
set_option autoImplicit false
/-! DlT: every checked statement; every checked def. -/
namespace TC
open PySem PySem.Spec PyProof.Rows L2
section
variable {P : Program} {w : World} {base : Heap} {B : Bs} {F : Fns} {C : Ct} {k : Nat} {S : Sx}
structure SndS (P : Program) (w : World) (base : Heap) (B : Bs) (F : Fns) (C : Ct) (k : Nat) (S : Sx) (s : TC.S) : Prop where
  ps : ∀ {X : Cx} {W : WX}, Sok P w base B F C k X W S → ∀ st, chkS C S s st = true → PS X st (tSt B W (exS F s))
  pss : ∀ {X : Cx} {W : WX}, Sok P w base B F C k X W S → ∀ sts, chkSs C S s sts = true → PSs X sts (tSt B W (exS F s))
theorem SndS.one {s : TC.S} (h1 : ∀ {X : Cx} {W : WX}, Sok P w base B F C k X W S → ∀ st, chkS C S s st = true → PS X st (tSt B W (exS F s))) (h2 : ∀ sts, chkSs C S s sts = false) : SndS P w base B F C k S s :=
  ⟨h1, fun _ sts h => by rw [h2] at h; cases h⟩
theorem s_lcAny {X : Cx} {W : WX} (c : Sok P w base B F C k X W S) {a : E} {i : Nat} {x : Str} {p pos : Pos} {e : Expr} (hl : isLc a = true) (hc : chk C S a e = true) (h1 : nAt C i x = true) (hx : S.sc.names.lookup x = some .local) (hs : swapsWith e (some (.Name x p)) pos.line X.env = pure true) :
    PS X (.Assign [.Name x p] e pos) (tAsg (tD B W (ev F a)) (gName i)) := by
  have hyl : X.env.scope.names.lookup x = some .local := by rw [c.c.es]; exact hx
  cases a <;> first | (cases hl; done) | skip
  case lc elt t it =>
    cases e with
    | ListComp e gs scope q => cases gs with
      | nil => cases hc
      | cons g gs =>
        obtain ⟨tg, iter, ifs, z⟩ := g
        cases ifs with
        | cons _ _ => cases gs <;> cases hc
        | nil => cases gs with
          | cons _ _ => cases hc
          | nil =>
            have h' : (decide (z = 0) && noSet iter && blkC C.N S.sc scope (ownOf C t) && chkT C (blk S scope) t tg && chkI C S it tg iter && chk C (blk S scope) elt e) = true := hc
            simp only [Bool.and_eq_true] at h'
            obtain ⟨⟨⟨⟨⟨h1', h2⟩, h3⟩, h4⟩, h5⟩, h6⟩ := h'
            have := of_decide_eq_true h1'
            subst this
            exact s_lc c.c h1 hyl hs h3 h2 h4 ((snd it).pi c.c tg iter h5) fun s H D cl fp => (snd elt).pe (c.c.inBlk s H scope D cl fp) e h6
    | _ => cases hc
  case lcf elt t it cd =>
    cases e with
    | ListComp e gs scope q => cases gs with
      | nil => cases hc
      | cons g gs =>
        obtain ⟨tg, iter, ifs, z⟩ := g
        cases ifs with
        | nil => cases gs <;> cases hc
        | cons i ifs => cases ifs with
          | cons _ _ => cases gs <;> cases hc
          | nil => cases gs with
            | cons _ _ => cases hc
            | nil =>
              have h' : (decide (z = 0) && noSet iter && blkC C.N S.sc scope (ownOf C t) && chkT C (blk S scope) t tg && chkI C S it tg iter && tstOk i && chk C (blk S scope) cd i && chk C (blk S scope) elt e) = true := hc
              simp only [Bool.and_eq_true] at h'
              obtain ⟨⟨⟨⟨⟨⟨⟨h1', h2⟩, h3⟩, h4⟩, h5⟩, h7⟩, h8⟩, h6⟩ := h'
              have := of_decide_eq_true h1'
              subst this
              exact s_lcf c.c h1 hyl hs h3 h2 h4 ((snd it).pi c.c tg iter h5) (fun s H D cl fp => (snd cd).pt (c.c.inBlk s H scope D cl fp) i h8 h7) fun s H D cl fp => (snd elt).pe (c.c.inBlk s H scope D cl fp) e h6
    | _ => cases hc
  case lc2 elt t it t1 it1 =>
    cases e with
    | ListComp e gs scope q => cases gs with
      | nil => cases hc
      | cons g gs =>
        obtain ⟨tg, iter, ifs, z⟩ := g
        cases ifs with
        | cons _ _ => cases gs <;> cases hc
        | nil => cases gs with
          | nil => cases hc
          | cons g1 gs =>
            obtain ⟨tg1, iter1, ifs1, z1⟩ := g1
            cases ifs1 with
            | cons _ _ => cases gs <;> cases hc
            | nil => cases gs with
              | cons _ _ => cases hc
              | nil =>
                have h' : (decide (z = 0) && decide (z1 = 0) && noSet iter && noSet iter1 && blkC C.N S.sc scope (ownOf C t ++ ownOf C t1) && chkT C (blk S scope) t tg && chkT C (blk S scope) t1 tg1 && chkI C S it tg iter && chkI C (blk S scope) it1 tg1 iter1 && chk C (blk S scope) elt e) = true := hc
                simp only [Bool.and_eq_true] at h'
                obtain ⟨⟨⟨⟨⟨⟨⟨⟨⟨h1', h1''⟩, h2⟩, h2'⟩, h3⟩, h4⟩, h4'⟩, h5⟩, h5'⟩, h6⟩ := h'
                have := of_decide_eq_true h1'
                subst this
                have := of_decide_eq_true h1''
                subst this
                exact s_lc2 c.c h1 hyl hs h3 h2 h2' h4 h4' ((snd it).pi c.c tg iter h5) (fun s H D cl fp => (snd it1).pi (c.c.inBlk s H scope D cl fp) tg1 iter1 h5') fun s H D cl fp => (snd elt).pe (c.c.inBlk s H scope D cl fp) e h6
    | _ => cases hc
theorem isLoc_lookup {x : Str} (h : isLoc S x = true) : S.sc.names.lookup x = some .local := by
  rw [← isLoc_eq] at h
  simpa using h
theorem sndS_set (t : Tg) (a : E) : SndS P w base B F C k S (.set t a) := by
  refine SndS.one (fun {X W} c st h => ?_) (fun sts => by cases sts <;> rfl)
  cases t with
  | nm i =>
    cases st with
    | Assign tgs e pos => cases tgs with
      | nil => cases h
      | cons tg tgs => cases tg with
        | Name x p => cases tgs with
          | cons _ _ => cases h
          | nil =>
            have h' : (nAt C i x && isTgt S x && chk C S a e && (match swB S x p e with | some false => true | some true => isLc a | none => false)) = true := h
            simp only [Bool.and_eq_true] at h'
            obtain ⟨⟨⟨h1, h2⟩, h3⟩, h4⟩ := h'
            cases eb : swB S x p e with
            | none => rw [eb] at h4; cases h4
            | some b =>
              cases b with
              | false => exact s_set1 c.c h1 h2 (swB_ok c.c.es c.kf eb) ((snd a).pe c.c e h3)
              | true =>
                rw [eb] at h4
                have hl : isLoc S x = true := by
                  cases e <;> first | (cases eb; done) | skip
                  have := Option.some.inj eb
                  rw [Bool.and_eq_true, Bool.and_eq_true] at this
                  exact this.1.1
                exact PS.weak (s_lcAny c h4 h3 h1 (isLoc_lookup hl) (swB_ok c.c.es c.kf eb)) fun D σ H q => gname_read q
        | _ => cases tgs <;> cases h
    | _ => cases h
  | tp r =>
    cases st with
    | Assign tgs e pos => cases tgs with
      | nil => cases h
      | cons tg tgs => cases tg with
        | Tuple es n p => cases tgs with
          | cons _ _ => cases h
          | nil =>
            have h' : (chkT C S (.tp r) (.Tuple es n p) && noTup e && chk C S a e) = true := h
            simp only [Bool.and_eq_true] at h'
            exact s_setT c.c h'.1.1 h'.1.2 ((snd a).pe c.c e h'.2)
        | _ => cases tgs <;> cases h
    | _ => cases h
  | nl => cases st <;> cases h
  | cn _ _ => cases st <;> cases h
theorem sndS_par (i j : Nat) (a b : E) : SndS P w base B F C k S (.par i j a b) := by
  refine SndS.one (fun {X W} c st h => ?_) (fun sts => by cases sts <;> rfl)
  unfold chkS at h
  split at h <;> first | (cases h; done) | skip
  all_goals rename_i heq; cases heq
  simp only [Bool.and_eq_true] at h
  obtain ⟨⟨⟨⟨⟨h1, h2⟩, h3⟩, h4⟩, h5⟩, h6⟩ := h
  exact s_par c h1 h2 (of_decide_eq_true h3) h4 ((snd a).pe c.c _ h5) ((snd b).pe c.c _ h6)
theorem sndS_ex (a : E) : SndS P w base B F C k S (.ex a) := by
  refine SndS.one (fun {X W} c st h => ?_) (fun sts => by cases sts <;> rfl)
  unfold chkS at h
  split at h <;> first | (cases h; done) | skip
  all_goals rename_i heq; cases heq
  simp only [Bool.and_eq_true] at h
  obtain ⟨h1, h2⟩ := h
  exact s_ex h1 ((snd a).pe c.c _ h2)
theorem sndS_aug (i : Nat) (a : E) : SndS P w base B F C k S (.aug i a) := by
  refine SndS.one (fun {X W} c st h => ?_) (fun sts => by cases sts <;> rfl)
  unfold chkS at h
  split at h <;> first | (cases h; done) | skip
  all_goals rename_i heq; cases heq
  simp only [Bool.and_eq_true] at h
  obtain ⟨⟨h1, h2⟩, h3⟩ := h
  exact s_aug c.c h1 h2 ((snd a).pe c.c _ h3)
theorem sndS_ret (a : E) : SndS P w base B F C k S (.ret a) := by
  refine SndS.one (fun {X W} c st h => ?_) (fun sts => by cases sts <;> rfl)
  unfold chkS at h
  split at h <;> first | (cases h; done) | skip
  all_goals rename_i heq; cases heq
  exact s_ret ((snd a).pe c.c _ h)
theorem sndS_rai (x : Str) : SndS P w base B F C k S (.rai x) := by
  refine SndS.one (fun {X W} c st h => ?_) (fun sts => by cases sts <;> rfl)
  unfold chkS at h
  split at h <;> first | (cases h; done) | skip
  all_goals rename_i heq; cases heq
  simp only [Bool.and_eq_true] at h
  obtain ⟨⟨⟨h1, h2⟩, h3⟩, h4⟩ := h
  have := seq_eq h1
  subst this
  exact s_rai c.c h2 h3 (mem_any h4)
theorem sndS_own (i : Nat) (a : E) : SndS P w base B F C k S (.own i a) := by
  refine SndS.one (fun {X W} c st h => ?_) (fun sts => by cases sts <;> rfl)
  unfold chkS at h
  split at h <;> first | (cases h; done) | skip
  all_goals rename_i heq; cases heq
  simp only [Bool.and_eq_true] at h
  obtain ⟨⟨h1, h2⟩, h3⟩ := h
  exact s_own c.c h1 h2 ((snd a).pa c.c _ h3)
theorem sndS_tab (i : Nat) : SndS P w base B F C k S (.tab i) := by
  refine SndS.one (fun {X W} c st h => ?_) (fun sts => by cases sts <;> rfl)
  unfold chkS at h
  split at h <;> first | (cases h; done) | skip
  all_goals rename_i heq; cases heq
  simp only [Bool.and_eq_true] at h
  obtain ⟨h1, h2⟩ := h
  exact s_tab c.c h1 h2
theorem sndS_app (i : Nat) (a : E) : SndS P w base B F C k S (.app i a) := by
  refine SndS.one (fun {X W} c st h => ?_) (fun sts => by cases sts <;> rfl)
  unfold chkS at h
  split at h <;> first | (cases h; done) | skip
  all_goals rename_i heq; cases heq
  simp only [Bool.and_eq_true] at h
  obtain ⟨⟨⟨⟨⟨⟨h0, h1⟩, h2⟩, h3⟩, h4⟩, h5⟩, h6⟩ := h
  have := seq_eq h0
  subst this
  exact s_app c.c h1 h2 h3 h4 h5 ((snd a).pe c.c _ h6)
theorem sndS_ext (i : Nat) (a : E) : SndS P w base B F C k S (.ext i a) := by
  refine SndS.one (fun {X W} c st h => ?_) (fun sts => by cases sts <;> rfl)
  unfold chkS at h
  split at h <;> first | (cases h; done) | skip
  all_goals rename_i heq; cases heq
  simp only [Bool.and_eq_true] at h
  obtain ⟨⟨⟨⟨⟨⟨h0, h1⟩, h2⟩, h3⟩, h4⟩, h5⟩, h6⟩ := h
  have := seq_eq h0
  subst this
  exact s_ext c.c h1 h2 h3 h4 h5 ((snd a).pe c.c _ h6)
theorem sndS_put (i : Nat) (a b : E) : SndS P w base B F C k S (.put i a b) := by
  refine SndS.one (fun {X W} c st h => ?_) (fun sts => by cases sts <;> rfl)
  unfold chkS at h
  split at h <;> first | (cases h; done) | skip
  all_goals rename_i heq; cases heq
  simp only [Bool.and_eq_true] at h
  obtain ⟨⟨⟨⟨h1, h2⟩, h3⟩, h4⟩, h5⟩ := h
  exact s_put c.c h1 h2 h3 ((snd a).pe c.c _ h4) ((snd b).pe c.c _ h5)
theorem sndS_putL (i : Nat) (a b : E) : SndS P w base B F C k S (.putL i a b) := by
  refine SndS.one (fun {X W} c st h => ?_) (fun sts => by cases sts <;> rfl)
  unfold chkS at h
  split at h <;> first | (cases h; done) | skip
  all_goals rename_i heq; cases heq
  simp only [Bool.and_eq_true] at h
  obtain ⟨⟨⟨⟨⟨h1, h2⟩, h3⟩, h0⟩, h4⟩, h5⟩ := h
  exact s_putL c.c h1 h2 h3 h0 ((snd a).pe c.c _ h4) ((snd b).pe c.c _ h5)
theorem sndS_pass : SndS P w base B F C k S (.pass) := by
  refine SndS.one (fun {X W} c st h => ?_) (fun sts => by cases sts <;> rfl)
  unfold chkS at h
  split at h <;> first | (cases h; done) | skip
  all_goals rename_i heq; cases heq
  exact s_pass
theorem sndS_ife (q : E) {a b : TC.S} (ha : SndS P w base B F C k S a) (hb : SndS P w base B F C k S b) : SndS P w base B F C k S (.ife q a b) := by
  refine SndS.one (fun {X W} c st h => ?_) (fun sts => by cases sts <;> rfl)
  unfold chkS at h
  split at h <;> first | (cases h; done) | skip
  all_goals rename_i heq; cases heq
  simp only [Bool.and_eq_true] at h
  obtain ⟨⟨⟨h1, h2⟩, h3⟩, h4⟩ := h
  exact s_if ((snd q).pt c.c _ h2 h1) (ha.pss c _ h3) (hb.pss c _ h4)
theorem sndS_for (t : Tg) (it : E) {b : TC.S} (hb : SndS P w base B F C k S b) : SndS P w base B F C k S (.for t it b) := by
  refine SndS.one (fun {X W} c st h => ?_) (fun sts => by cases sts <;> rfl)
  unfold chkS at h
  split at h <;> first | (cases h; done) | skip
  all_goals rename_i heq; cases heq
  simp only [Bool.and_eq_true] at h
  obtain ⟨⟨⟨h1, h2⟩, h3⟩, h4⟩ := h
  exact s_for c ((snd it).pi c.c _ _ h1) h2 h3 (hb.pss c _ h4)
theorem sndS_whl (n : Nat) (q : E) {b : TC.S} (hb : SndS P w base B F C k S b) : SndS P w base B F C k S (.whl n q b) := by
  refine SndS.one (fun {X W} c st h => ?_) (fun sts => by cases sts <;> rfl)
  unfold chkS at h
  split at h <;> first | (cases h; done) | skip
  all_goals rename_i heq; cases heq
  simp only [Bool.and_eq_true] at h
  obtain ⟨⟨h1, h2⟩, h3⟩ := h
  exact s_while c ((snd q).pt c.c _ h2 h1) (hb.pss c _ h3)
theorem sndS_try (i : Nat) (ks : List Str) (hs : List Hd) {b : TC.S} (hb : SndS P w base B F C k S b) : SndS P w base B F C k S (.try i ks b hs) := by
  refine SndS.one (fun {X W} c st h => ?_) (fun sts => by cases sts <;> rfl)
  unfold chkS at h
  split at h <;> first | (cases h; done) | skip
  all_goals rename_i heq; cases heq
  simp only [Bool.and_eq_true] at h
  obtain ⟨⟨⟨h1, h2⟩, h3⟩, h4⟩ := h
  cases hn : C.N[i]? with
  | none => rw [hn] at h1; cases h1
  | some n =>
    rw [hn] at h1
    have hx : ∀ x ∈ ks, x ∈ C.xs := fun x hx => mem_any (List.all_eq_true.mp h3 x hx)
    exact s_try c hn (isLoc_lookup h1) h2 hx fun W' pn xe c' => hb.pss c' _ h4
theorem sndS_tryK (i j : Nat) (ks : List Str) (a : E) (g : List Str) (gs : List (List Str)) : SndS P w base B F C k S (.tryK i j ks a g gs) := by
  refine SndS.one (fun {X W} c st h => ?_) (fun sts => by cases sts <;> rfl)
  unfold chkS at h
  split at h <;> first | (cases h; done) | skip
  all_goals rename_i heq; cases heq
  simp only [Bool.and_eq_true] at h
  obtain ⟨⟨⟨⟨⟨⟨⟨⟨h1, h2⟩, h3⟩, h4⟩, h5⟩, h6⟩, h7⟩, h8⟩, h9⟩ := h
  cases hn : C.N[i]? with
  | none => rw [hn] at h1; cases h1
  | some n' =>
    cases hx : C.N[j]? with
    | none => rw [hn, hx] at h1; cases h1
    | some x =>
      rw [hn, hx] at h1
      simp only [Bool.and_eq_true] at h1
      obtain ⟨⟨⟨⟨⟨⟨k1, k2⟩, k3⟩, k4⟩, k5⟩, k6⟩, k7⟩ := h1
      have e1 := seq_eq k1
      subst e1
      have e2 := seq_eq h3
      subst e2
      exact s_tryK c hn (isLoc_lookup k2) k3 hx (isLoc_lookup k4) k5 (of_decide_eq_true h2) h4 h5 h6 k6 k7 (fun y hy => mem_any (List.all_eq_true.mp h7 y hy)) (of_decide_eq_true h8) (fun z => by rw [z] at h9; cases h9)
theorem sndS_none {s : TC.S} (h1 : ∀ st, chkS C S s st = false) (h2 : ∀ sts, chkSs C S s sts = false) : SndS P w base B F C k S s :=
  ⟨fun _ st h => (by rw [h1] at h; cases h), fun _ sts h => (by rw [h2] at h; cases h)⟩
theorem sndS : ∀ s : TC.S, SndS P w base B F C k S s := by
  intro s
  induction s with
  | nil =>
    refine ⟨fun _ st h => (by cases st <;> cases h), fun _ sts h => ?_⟩
    cases sts with
    | nil => exact ss_nil
    | cons _ _ => cases h
  | cons a r ha hr =>
    refine ⟨fun _ st h => (by cases st <;> cases h), fun {X W} c sts h => ?_⟩
    rcases chkSs_cons h with ⟨i, rfl, h⟩ | ⟨s, st, rfl, h1, h2⟩
    · exact ss_frz (hr.pss c sts h)
    · exact ss_cons (ha.ps c s h1) (hr.pss c st h2)
  | pass => exact sndS_pass
  | ex a => exact sndS_ex a
  | set t a => exact sndS_set t a
  | par i j a b => exact sndS_par i j a b
  | par3 i j k a b c => exact sndS_none (fun st => by cases st <;> rfl) (fun sts => by cases sts <;> rfl)
  | aug i a => exact sndS_aug i a
  | ret a => exact sndS_ret a
  | ife c a b ha hb => exact sndS_ife c ha hb
  | «for» t it b hb => exact sndS_for t it hb
  | whl n c b hb => exact sndS_whl n c hb
  | rai c => exact sndS_rai c
  | frz i => exact sndS_none (fun st => by cases st <;> rfl) (fun sts => by cases sts <;> rfl)
  | own i a => exact sndS_own i a
  | tab i => exact sndS_tab i
  | tab1 i k v => exact sndS_none (fun st => by cases st <;> rfl) (fun sts => by cases sts <;> rfl)
  | app i a => exact sndS_app i a
  | ext i a => exact sndS_ext i a
  | put i a b => exact sndS_put i a b
  | putL i a b => exact sndS_putL i a b
  | pop j i k => exact sndS_none (fun st => by cases st <;> rfl) (fun sts => by cases sts <;> rfl)
  | «try» i ks b hs hb => exact sndS_try i ks hs hb
  | tryK i j ks a g gs => exact sndS_tryK i j ks a g gs
  | nev => exact ⟨fun _ st _ => s_nev, fun _ sts _ => ss_nev⟩
end
end TC
set_option Elab.async false
set_option linter.all false
set_option maxRecDepth 100000
set_option autoImplicit false
/-! DlU: defs, levels, the law's end. -/
namespace TC
open PySem PySem.Spec PyProof.Rows L2

theorem rpAll_get {G : Hp} : ∀ {vs : List V} {ds : List D} {i : Nat} {d : D}, RpAll G vs ds → ds[i]? = some d → ∃ v, vs[i]? = some v ∧ Rp G v d
  | _, _, _, _, .nil, e => by simp at e
  | _, _, 0, _, .cons h _, e => by
    simp only [List.getElem?_cons_zero, Option.some.injEq] at e
    subst e
    exact ⟨_, rfl, h⟩
  | _, _, i + 1, d, .cons _ r, e => by
    simp only [List.getElem?_cons_succ] at e
    obtain ⟨v, h1, h2⟩ := rpAll_get (i := i) r e
    exact ⟨v, by simpa using h1, h2⟩
theorem okg_start {K : W.Frag} {mg : Str → Option Value} {G H : Hp} {N : List Str} {vs : List V} {ds : List D} (sm : Same G H) (rv : RpAll G vs ds) :
    OkG ⟨K, mg, G, H, fun a => H a ≠ none⟩ G (L2.start N vs) H (ds.map .v ++ List.replicate (N.length - ds.length) .no) where
  g0 := Same.refl _
  gH := sm
  kH := Same.refl _
  dm := fun a h => h
  gd := fun a h => rfl
  len := by
    unfold L2.start
    rw [List.length_append, List.length_append, List.length_map, List.length_map, List.length_replicate, List.length_replicate, rpAll_len rv]
  sl := fun i s e => by
    by_cases hi : i < ds.length
    · rw [List.getElem?_append_left (by rw [List.length_map]; exact hi), List.getElem?_map, List.getElem?_eq_getElem hi] at e
      cases e
      obtain ⟨v, h1, h2⟩ := rpAll_get rv (List.getElem?_eq_getElem hi)
      refine ⟨v, ?_, h2⟩
      unfold L2.start
      rw [List.getElem?_append_left (by rw [List.length_map, rpAll_len rv]; exact hi), List.getElem?_map, h1]
      rfl
    · rw [List.getElem?_append_right (by rw [List.length_map]; omega)] at e
      have := List.mem_of_getElem? e
      rw [List.eq_of_mem_replicate this]
      exact trivial
  ap := fun i j s u a hij e1 e2 h1 h2 e3 e4 => by
    by_cases hi : i < ds.length
    · rw [List.getElem?_append_left (by rw [List.length_map]; exact hi), List.getElem?_map, List.getElem?_eq_getElem hi] at e1
      cases e1
      cases h1
    · rw [List.getElem?_append_right (by rw [List.length_map]; omega)] at e1
      have := List.mem_of_getElem? e1
      rw [List.eq_of_mem_replicate this] at h1
      cases h1
section
variable {P : Program} {w : World} {base : Heap} {K : W.Frag} {mg : Str → Option Value} {F : Fns} {C : Ct} {k : Nat}
theorem fn_D {x qual : Str} {params : Arguments} {sts : List Stmt} {scope : Scope} {f : Addr} {fd : FuncData} {ps : List Str} {body : TC.S} (Fn : FunD K x qual params sts scope [] [] f fd) (sc : FnScope C.N ps scope) (pk : Pk P w K mg base F C k)
    (hc : chkSs C ⟨scope, fun _ => true⟩ body sts = true) : FnOk P w K mg base (L2.CX P w) (k + 1) f fd ps (spD mg ps.length (runS F C.N.length body)) := by
  refine Fn.ok sc (fun vs H Q E h => h.1) fun cdv A outer s H vs Q E hr hsp => ?_
  obtain ⟨hl, G, ds, sm, rv, hm⟩ := hsp
  let B : Bs := ⟨K, mg, G, H, fun a => H a ≠ none⟩
  have tk : Takes (cxOf (L2.CX P w) P w K mg base C.N qual scope f cdv A outer s H E) (fun cls d _ H' => E cls d H') := takes_of rfl rfl rfl rfl
  have c : Sok P w base B F C k (cxOf (L2.CX P w) P w K mg base C.N qual scope f cdv A outer s H E) (fun cls d _ H' => E cls d H') ⟨scope, fun _ => true⟩ :=
    ⟨⟨pk, rfl, rfl, rfl, rfl, rfl, rfl, rfl, rfl, rfl, hr, tk⟩, passes_of rfl, rfl, rfl, sc.kind⟩
  have gw : ∀ {G' H' : Hp}, Fin B G' H' → Gw G H G' H' := fun fi => ⟨fi.g0, fi.kH, fi.gH, fun a ha => fi.gd a ha⟩
  refine ⟨_, (sndS body).pss c sts hc, G, _, okg_start (N := C.N) sm rv, ?_⟩
  unfold runS at hm
  revert hm
  cases exS F body (ds.map .v ++ List.replicate (C.N.length - ds.length) .no) with
  | stuck => exact fun hm => hm
  | exc x => exact fun hm σ' G' H' fi cls e => hm G' H' (gw fi) cls e
  | ok fl =>
    cases fl with
    | nx e => exact fun hm σ' G' H' o _ => hm .non G' H' (gw o.fin) (Rp.of .non)
    | rt d => exact fun hm v G' H' fi r => hm v G' H' (gw fi) r
    | bk e => exact fun hm => hm.elim
    | ct e => exact fun hm => hm.elim
end

/-! ### the table of a program's defs -/
structure Df where
  name : Str
  ps : List Str
  N : List Str
  body : TC.S
  params : Arguments
  sts : List Stmt
  scope : Scope
def findD (f : Str) : List Df → Option Df
  | [] => none
  | d :: r => if seq d.name f then some d else findD f r
def Fk (T : List Df) : Nat → Fns
  | 0 => fun _ _ => .stuck
  | k + 1 => fun f args => match findD f T with
    | some d => runS (Fk T k) d.N.length d.body args
    | none => .stuck
def ctOf (T : List Df) (gl : List (Str × D)) (xs : List Str) (d : Df) : Ct := ⟨d.N, T.map fun e => (e.name, e.ps.length), gl, xs⟩
def okNames : List Df → Bool
  | [] => true
  | d :: r => (r.all fun e => !seq d.name e.name) && okNames r
theorem findD_mem : ∀ {T : List Df}, okNames T = true → ∀ d ∈ T, findD d.name T = some d
  | e :: r, h, d, hd => by
    have h' : ((r.all fun x => !seq e.name x.name) && okNames r) = true := h
    rw [Bool.and_eq_true] at h'
    unfold findD
    rcases List.mem_cons.mp hd with z | z
    · subst z
      rw [if_pos (show seq d.name d.name = true from decide_eq_true rfl)]
    · have := List.all_eq_true.mp h'.1 d z
      rw [if_neg (by simpa using this)]
      exact findD_mem h'.2 d z
/-- what is asked of one def of the table -/
structure DfOk (K : W.Frag) (mg : Str → Option Value) (C : Ct) (d : Df) : Prop where
  fn : ∃ f fd, mg d.name = some (.ref f) ∧ FunD K d.name d.name d.params d.sts d.scope [] [] f fd
  bd : ∀ (kV doc pm : Value) (an : Option Addr) (cdv ct : Value) (us : List Value), us.length = d.ps.length → bindArgs (PySem.W.fnOf d.name d.name d.params d.sts d.scope .none kV doc pm an cdv ct) ⟨us, []⟩ = pure (d.ps.zip us)
  sc : FnScope d.N d.ps d.scope
  ck : chkSs C ⟨d.scope, fun _ => true⟩ d.body d.sts = true
section
variable {P : Program} {w : World} {base : Heap} {K : W.Frag} {mg : Str → Option Value} {T : List Df} {gl : List (Str × D)} {xs : List Str}
theorem levels (hn : okNames T = true) (hT : ∀ d ∈ T, DfOk K mg (ctOf T gl xs d) d) (gls : ∀ p ∈ gl, (∃ i t, p.2 = .int i ∧ mg p.1 = some (.int i t)) ∨ ∃ s t, p.2 = .str s ∧ mg p.1 = some (.str s t))
    (frs : ∀ x ∈ (["len", "sorted", "min", "max", "list", "tuple", "int", "str", "bool", "set", "range", "zip", "enumerate", "isinstance"] : List Str), mg x = none)
    (xcs : xs ≠ [] → ∃ Bx nw it bm, ExcBaseFacts Bx nw it bm ∧ XcOk K mg bm nw xs) :
    ∀ (k : Nat), ∀ d ∈ T, ∀ f fd, mg d.name = some (.ref f) → FunD K d.name d.name d.params d.sts d.scope [] [] f fd → FnOk P w K mg base (L2.CX P w) k f fd d.ps (spD mg d.ps.length (Fk T k d.name)) := by
  intro k
  induction k with
  | zero =>
    intro d hd f fd _ _
    exact ⟨fun vs H Q E h => h.1, fun A outer s H args us vs Q E _ _ _ _ h => by
      obtain ⟨_, G, ds, _, _, hm⟩ := h
      exact hm.elim⟩
  | succ k ih =>
    intro d hd f fd hf hF
    have hd' := hT d hd
    have pk : Pk P w K mg base (Fk T k) (ctOf T gl xs d) k := {
      nd := hd'.sc.nd
      fns := fun x hx => by
        obtain ⟨e, he, rfl⟩ := List.mem_map.mp hx
        obtain ⟨f', fd', h1, h2⟩ := (hT e he).fn
        exact ⟨f', fd', e.ps, rfl, h1, h2.kp, h2.bindsN (hT e he).bd, ih e he f' fd' h1 h2⟩
      gls := gls
      frs := frs
      xcs := xcs }
    have := fn_D (C := ctOf T gl xs d) hF hd'.sc pk hd'.ck
    have e : Fk T (k + 1) d.name = runS (Fk T k) d.N.length d.body := by
      funext args
      show (match findD d.name T with | some d => runS (Fk T k) d.N.length d.body args | none => .stuck) = _
      rw [findD_mem hn d hd]
    rw [e]
    exact this
end

/-! ### the head: what the top leaves, asked by one run -/
/-- facts of the exception classes beyond He.Fa's: what isinstance asks -/
def excCB (K : W.Frag) (A : Addr) : Bool :=
  decide (PySem.W.findIn K (.ref A) "__getattribute__" = some (some (.builtin "BaseException.__getattribute__"))) && decide (PySem.W.findIn K (.ref A) "__getattr__" = some none) && decide (PySem.W.subIn K (.ref A) (.type "BaseException") = some true) && PySem.W.hasDictIn K A &&
  decide (PySem.W.findIn K (.ref A) "__class__" = some (some (.builtin "object.__class__"))) && decide (PySem.W.specialIn K (.builtin "object.__class__") "__get__" = some (some (.builtin "getset_descriptor.__get__"))) && decide (PySem.W.takesIn K (.builtin "object.__class__") = some true) && decide (PySem.W.mroIn K A (.type "object") = some true)
theorem excCB_ok {K : W.Frag} {A : Addr} (h : excCB K A = true) : ExcC K A := by
  unfold excCB at h
  simp only [Bool.and_eq_true, decide_eq_true_eq] at h
  obtain ⟨⟨⟨⟨⟨⟨⟨h1, h2⟩, h3⟩, h4⟩, h5⟩, h6⟩, h7⟩, h8⟩ := h
  exact ⟨h1, h2, h3, h4, h5, h6, h7, h8⟩
def pairB (K : W.Frag) (x y : Str) : Bool := decide (PySem.W.exmOne K (.ref (He.ga K x)) (.ref (He.ga K y)) = some (seq x y)) && decide (PySem.W.kitOne K (.ref (He.ga K x)) (.ref (He.ga K y)) = some (seq x y))
def notList (o : Obj) : Bool := match o.cls with
  | .type t => !decide (t = "list")
  | _ => true
def xfB (xs : List Str) (K : W.Frag) : Bool := (K.all fun p => notList p.2) && (xs.all fun x => excCB K (He.ga K x)) && (xs.all fun x => xs.all fun y => pairB K x y) && (xs.all fun x => decide (PySem.W.kitOne K (.ref (He.ga K x)) (.ref (He.ga K "ColorError")) = some true) && decide (PySem.W.exmOne K (.ref (He.ga K x)) (.ref (He.ga K "ColorError")) = some true))
def freeNames : List Str := ["len", "sorted", "min", "max", "list", "tuple", "int", "str", "bool", "set", "range", "zip", "enumerate", "isinstance"]
def faOf (names : List Str) (gl : List (Str × D)) (xs : List Str) : List He.Fa :=
  (names.map He.Fa.glo) ++ (freeNames.map He.Fa.free) ++ (gl.map fun p => match p.2 with | .int i => He.Fa.int p.1 i | .str z => He.Fa.str p.1 z | _ => He.Fa.free p.1) ++ (xs.map He.Fa.glo) ++ (xs.map He.Fa.exc) ++ (if xs.isEmpty then [] else [He.Fa.glo "ColorError", He.Fa.keep "ColorError"])
def hookX (n : Nat) (fa : List He.Fa) (fn : List He.DefD) (xs : List Str) : PySem.W.Hook where
  α := Bool × He.AlD
  obs := fun s => (xfB xs (He.frG s.heap.get? (He.asD s.heap.get? n)), He.obsDG n fa fn s.heap.get?)
  val := fun _ => (true, He.valD fn)
  says := fun _ h => ∃ K : PySem.W.Frag, K.In h ∧ xfB xs K = true ∧ He.SaysD fa fn K
  of := fun _ _ e => ⟨_, He.frG_in, congrArg Prod.fst e, congrArg Prod.snd e⟩
  keeps := fun _ _ _ ⟨K, hK, c⟩ k => ⟨K, PySem.W.Frag.In.keeps hK k, c⟩
def obX (n : Nat) (fa : List He.Fa) (fn : List He.DefD) (xs : List Str) (s : PySem.W.SharedT) : Bool × He.AlD := (xfB xs (He.frG (HandSHeadRun.getT s) (He.asD (HandSHeadRun.getT s) n)), He.obsDG n fa fn (HandSHeadRun.getT s))
theorem obX_eq {n : Nat} {fa : List He.Fa} {fn : List He.DefD} {xs : List Str} (s : PySem.W.SharedT) : obX n fa fn xs s = (hookX n fa fn xs).obs s.abs := by
  have e : HandSHeadRun.getT s = s.abs.heap.get? := funext (HandSHeadRun.getT_eq s)
  unfold obX
  rw [e]
  rfl
section
variable {K : W.Frag} {h : Heap} {mg : Str → Option Value} {gl : List (Str × D)} {xs names : List Str} {fn : List He.DefD}
theorem fact_of {fa : List He.Fa} (c : He.SaysD fa fn K) {f : He.Fa} (hf : f ∈ fa) : f.ok K = true := by
  obtain ⟨i, hi⟩ := List.getElem?_of_mem hf
  exact c.fact i hi
theorem glo_of (X : K.In h) (G : h.Ns mainGlobals mg) (c : He.SaysD (faOf names gl xs) fn K) {x : Str} (hx : x ∈ names) : mg x = some (.ref (He.ga K x)) :=
  He.glo_ok X G (fact_of c (by unfold faOf; simp only [List.mem_append, List.mem_map]; exact .inl (.inl (.inl (.inl (.inl ⟨x, hx, rfl⟩))))))
theorem frs_of (X : K.In h) (G : h.Ns mainGlobals mg) (c : He.SaysD (faOf names gl xs) fn K) : ∀ x ∈ freeNames, mg x = none := fun x hx =>
  He.free_ok X G (fact_of c (by unfold faOf; simp only [List.mem_append, List.mem_map]; exact .inl (.inl (.inl (.inl (.inr ⟨x, hx, rfl⟩))))))
def plainGl : D → Bool
  | .int _ => true
  | .str _ => true
  | _ => false
theorem gls_of (X : K.In h) (G : h.Ns mainGlobals mg) (c : He.SaysD (faOf names gl xs) fn K) (hg : (gl.all fun p => plainGl p.2) = true) : ∀ p ∈ gl, (∃ i t, p.2 = .int i ∧ mg p.1 = some (.int i t)) ∨ ∃ s t, p.2 = .str s ∧ mg p.1 = some (.str s t) := fun p hp => by
  have q := List.all_eq_true.mp hg p hp
  have m : (match p.2 with | .int i => He.Fa.int p.1 i | .str z => He.Fa.str p.1 z | _ => He.Fa.free p.1) ∈ faOf names gl xs := by
    unfold faOf
    simp only [List.mem_append, List.mem_map]
    exact .inl (.inl (.inl (.inr ⟨p, hp, rfl⟩)))
  obtain ⟨x, d⟩ := p
  cases d <;> first | (cases q; done) | skip
  · rename_i i
    obtain ⟨t, ht⟩ := He.int_ok X G (fact_of c m)
    exact .inl ⟨i, t, rfl, ht⟩
  · rename_i z
    obtain ⟨t, ht⟩ := He.str_ok X G (fact_of c m)
    exact .inr ⟨z, t, rfl, ht⟩
theorem xcs_of (X : K.In h) (G : h.Ns mainGlobals mg) (c : He.SaysD (faOf names gl xs) fn K) (hx : xfB xs K = true) : xs ≠ [] → ∃ Bx nw it bm, ExcBaseFacts Bx nw it bm ∧ XcOk K mg bm nw xs := fun ne => by
  unfold xfB at hx
  simp only [Bool.and_eq_true] at hx
  obtain ⟨⟨⟨_, h1⟩, h2⟩, h3⟩ := hx
  have gx : ∀ x ∈ xs, mg x = some (.ref (He.ga K x)) := fun x hm => He.glo_ok X G (fact_of c (by unfold faOf; simp only [List.mem_append, List.mem_map]; exact .inl (.inl (.inr ⟨x, hm, rfl⟩))))
  have ie : xs.isEmpty = false := by cases xs <;> first | rfl | exact absurd rfl ne
  have ce : mg "ColorError" = some (.ref (He.ga K "ColorError")) := He.glo_ok X G (fact_of c (by unfold faOf; rw [ie]; simp))
  have ck : PySem.W.keepIn K (.ref (He.ga K "ColorError")) = true := He.keep_ok (fact_of c (by unfold faOf; rw [ie]; simp))
  refine ⟨_, _, _, _, PySem.F.excBase_ValueError, ⟨fun x hm => ?_, fun x hm y hn A A' e1 e2 => ?_, ⟨_, ce, ck, fun x hm A e1 => ?_⟩⟩⟩
  · obtain ⟨q1, q2, q3, q4⟩ := He.exc_ok (fact_of c (f := .exc x) (by unfold faOf; simp only [List.mem_append, List.mem_map]; exact .inl (.inr ⟨x, hm, rfl⟩)))
    exact ⟨_, gx x hm, q1, q2, q3, q4, excCB_ok (List.all_eq_true.mp h1 x hm)⟩
  · have p := List.all_eq_true.mp (List.all_eq_true.mp h2 x hm) y hn
    unfold pairB at p
    rw [Bool.and_eq_true] at p
    rw [gx x hm] at e1
    rw [gx y hn] at e2
    cases e1; cases e2
    have es : seq x y = decide (x = y) := by
      cases e : seq x y with
      | true => rw [seq_eq e]; simp
      | false =>
        have : x ≠ y := fun z => by
          subst z
          have : seq x x = true := decide_eq_true rfl
          rw [this] at e; cases e
        exact (decide_eq_false this).symm
    rw [← es]
    exact ⟨of_decide_eq_true p.1, of_decide_eq_true p.2⟩
  · have p := List.all_eq_true.mp h3 x hm
    rw [Bool.and_eq_true] at p
    rw [gx x hm] at e1
    cases e1
    exact ⟨of_decide_eq_true p.1, of_decide_eq_true p.2⟩
end
/-! ### the end -/
theorem walk_X {l : PySem.W.OpenLaw} {n k : Nat} {q : Program} {loose : List Str} {XP : (Str → Option Value) → Heap → Prop} {YP : World → Heap → Prop} {d : DefRec} {CX : World → CXT} {x : Str}
    (hn : l.most = some n) (hn2 : n ≤ sizeLine) (hdf : d.params.defaults = []) (hr : Room k callerA)
    (F : ∀ (w : World) (mg : Str → Option Value) (fa : Addr) (h : Heap), YP w h → h.Ns mainGlobals mg → mg d.name = some (.ref fa) →
      ∃ (K : PySem.W.Frag) (fd : FuncData) (sp : Sp), K.In h ∧ (∀ (s : Shared) (u : Value), BindsTo s fd ⟨[u], []⟩ [(x, u)]) ∧
        (∀ (H : Hp) (a : Addr) (ns : List Int), ns.length ≤ n → Only H → SqL K H a (ns.map V.int) → sp [.ref a] H (fun v _ => v = .bl true) fun _ _ _ => False) ∧
        ∀ base : Heap, K.In base → base.Ns mainGlobals mg → FnOk l.prog w K mg base (CX w) k fa fd [x] sp)
    (hCX : ∀ (w : World) (H : Hp) (s : Shared) (e : Value) (s' : Shared), CX w [] H s (fun _ _ _ => False) e s' → False) :
    PySem.W.WalkO q loose XP YP l.row.toRowW d [] (fun f vs => PySem.call f vs) := by
  refine Att.attach_call hn hdf fun w s₀ s₁ mg mb fa o pm cd doc a vs ns G Y ho hd hcd hmg hobj hints hlen hg => ?_
  obtain ⟨K, fd, sp, KX, hb, hsp, hF⟩ := F w mg fa _ Y G.T.g hmg
  exact law_call KX G.T.g G.T.b G.T.builtins G.T.nolimit hg hobj hints (Nat.le_trans hlen hn2) hr hF hb (fun H hO hS => hsp H a ns hlen hO hS) fun H e s' => hCX w H s₁ e s'
theorem script_in {xs : List Str} {K : W.Frag} {H : Hp} {a : Addr} {ns : List Int} (hx : xfB xs K = true) (h : SqL K H a (ns.map V.int)) : Rd H a (.lst (ns.map V.int)) := by
  rcases h with h | ⟨o, its, m, h1, h2, _⟩
  · exact h
  · exfalso
    unfold xfB at hx
    simp only [Bool.and_eq_true] at hx
    have := List.all_eq_true.mp hx.1.1.1 (a, o) (by
      clear hx h2
      induction K with
      | nil => cases h1
      | cons p r ih =>
        obtain ⟨b, q⟩ := p
        rw [List.lookup_cons] at h1
        cases e : (a == b) with
        | true =>
          rw [e] at h1
          cases h1
          have : a = b := by simpa using e
          subst this
          exact List.mem_cons_self
        | false =>
          rw [e] at h1
          exact List.mem_cons_of_mem _ (ih h1))
    unfold notList at this
    rw [h2] at this
    cases this
theorem cx_none {P : Program} {w : World} (H : Hp) (s : Shared) (e : Value) (s' : Shared) (h : L2.CX P w [] H s (fun _ _ _ => False) e s') : False := by
  obtain ⟨_, _, _, _, _, _, _, _, _, _, _, _, z⟩ := h
  exact z.elim
/-- the law's promise from the plain side -/
theorem sp_law {mg : Str → Option Value} {F : List D → R D} {H : Hp} {a : Addr} {ns : List Int} (h : F [.dict (scrD ns)] = .ok (.bool true)) (hr : Rd H a (.lst (ns.map V.int))) : spD mg 1 F [.ref a] H (fun v _ => v = .bl true) fun _ _ _ => False := by
  refine ⟨rfl, H, [.dict (scrD ns)], Same.refl _, .cons ⟨a, rfl, .inr ⟨ns, rfl, hr⟩⟩ .nil, ?_⟩
  rw [h]
  exact fun v G' H' _ r => rp_bool r
end TC
set_option linter.all false
set_option maxRecDepth 100000
set_option autoImplicit false
/-! DlW: the terms of the defs (printed by gen/mkw.py). -/
namespace TC
open PySem
def B_f_in_range : TC.S := (.cons (.ret (.and (.isi (.var 0) "int") (.and (.not (.isi (.var 0) "bool")) (.one (.chain .LtE .LtE (.var 1) (.var 0) (.var 2)))))) .nil)
def B_f_pairs_of : TC.S := (.cons (.ret (.lc2 (.tup (.cons (.var 1) (.cons (.var 2) .nil))) (.nm 1) (.rng (.var 0)) (.nm 2) (.rng2 (.bin .Add (.var 1) (.int 1)) (.var 0)))) .nil)
def B_f_check_points : TC.S := (.cons (.ife (.not (.call "in_range" (.cons (.var 0) (.cons (.int 1) (.cons (.glo "MAX_POINTS" (.int 7)) .nil))))) (.cons (.rai "InvalidNumber") .nil) .nil) .nil)
def B_f_is_coloring : TC.S := (.cons (.ex (.call "check_points" (.cons (.var 0) .nil))) (.cons (.ife (.or (.not (.isi (.var 1) "tuple")) (.one (.cmp .NotEq (.blt "len" (.cons (.var 1) .nil)) (.blt "len" (.cons (.call "pairs_of" (.cons (.var 0) .nil)) .nil))))) (.cons (.ret (.bl false)) .nil) .nil) (.cons (.ret (.not (.lcf (.var 2) (.nm 2) (.itr (.var 1)) (.not (.call "in_range" (.cons (.var 2) (.cons (.int 0) (.cons (.glo "MAX_COLOR" (.int 5)) .nil)))))))) .nil)))
def B_f_check_coloring : TC.S := (.cons (.ife (.not (.call "is_coloring" (.cons (.var 0) (.cons (.var 1) .nil)))) (.cons (.rai "InvalidColoring") .nil) .nil) .nil)
def B_f_check_color : TC.S := (.cons (.ife (.not (.call "in_range" (.cons (.var 0) (.cons (.int 0) (.cons (.glo "MAX_COLOR" (.int 5)) .nil))))) (.cons (.rai "InvalidColor") .nil) .nil) .nil)
def B_f_table_of : TC.S := (.cons (.tab 2) (.cons (.for (.tp (.cn (.tp (.cn (.nm 3) (.cn (.nm 4) .nl))) (.cn (.nm 5) .nl))) (.zip (.call "pairs_of" (.cons (.var 0) .nil)) (.var 1)) (.cons (.put 2 (.tup (.cons (.var 3) (.cons (.var 4) .nil))) (.var 5)) (.cons (.put 2 (.tup (.cons (.var 4) (.cons (.var 3) .nil))) (.var 5)) .nil))) (.cons (.frz 2) (.cons (.ret (.var 2)) .nil))))
def B_f_first_triangle : TC.S := (.cons (.set (.nm 2) (.call "table_of" (.cons (.var 0) (.cons (.var 1) .nil)))) (.cons (.for (.tp (.cn (.nm 3) (.cn (.nm 4) .nl))) (.itr (.call "pairs_of" (.cons (.var 0) .nil))) (.cons (.for (.nm 5) (.rng2 (.bin .Add (.var 4) (.int 1)) (.var 0)) (.cons (.ife (.cmp .Eq (.lens (.lst (.cons (.sub (.var 2) (.tup (.cons (.var 3) (.cons (.var 4) .nil)))) (.cons (.sub (.var 2) (.tup (.cons (.var 3) (.cons (.var 5) .nil)))) (.cons (.sub (.var 2) (.tup (.cons (.var 4) (.cons (.var 5) .nil)))) .nil))))) (.int 3)) (.cons (.ret (.tup (.cons (.var 3) (.cons (.var 4) (.cons (.var 5) .nil))))) .nil) .nil) .nil)) .nil)) (.cons (.ret .non) .nil)))
def B_f_parts_of : TC.S := (.cons (.set (.nm 3) (.lsr (.rng (.var 0)))) (.cons (.for (.tp (.cn (.tp (.cn (.nm 4) (.cn (.nm 5) .nl))) (.cn (.nm 6) .nl))) (.zip (.call "pairs_of" (.cons (.var 0) .nil)) (.var 1)) (.cons (.ife (.cmp .Eq (.var 6) (.var 2)) (.cons (.set (.tp (.cn (.nm 7) (.cn (.nm 8) .nl))) (.blt "sorted" (.cons (.lst (.cons (.sub (.var 3) (.var 4)) (.cons (.sub (.var 3) (.var 5)) .nil))) .nil))) (.cons (.set (.nm 3) (.lc (.ife (.cmp .Eq (.var 9) (.var 8)) (.var 7) (.var 9)) (.nm 9) (.itr (.var 3)))) .nil)) .nil) .nil)) (.cons (.own 10 .nil) (.cons (.for (.nm 9) (.itr (.srts (.var 3))) (.cons (.app 10 (.blt "tuple" (.cons (.lcf (.var 11) (.nm 11) (.rng (.var 0)) (.cmp .Eq (.sub (.var 3) (.var 11)) (.var 9))) .nil))) .nil)) (.cons (.frz 10) (.cons (.ret (.var 10)) .nil))))))
def B_f_parts : TC.S := (.cons (.ex (.call "check_coloring" (.cons (.var 0) (.cons (.var 1) .nil)))) (.cons (.ex (.call "check_color" (.cons (.var 2) .nil))) (.cons (.ret (.call "parts_of" (.cons (.var 0) (.cons (.var 1) (.cons (.var 2) .nil))))) .nil)))
def B_f_joining_of : TC.S := (.cons (.ret (.lcf (.var 2) (.nm 2) (.rng (.bin .Add (.glo "MAX_COLOR" (.int 5)) (.int 1))) (.cmp .Eq (.blt "len" (.cons (.call "parts_of" (.cons (.var 0) (.cons (.var 1) (.cons (.var 2) .nil)))) .nil)) (.int 1)))) .nil)
def B_f_joining_colors : TC.S := (.cons (.ex (.call "check_coloring" (.cons (.var 0) (.cons (.var 1) .nil)))) (.cons (.ret (.call "joining_of" (.cons (.var 0) (.cons (.var 1) .nil)))) .nil))
def B_f_used_colors : TC.S := (.cons (.ex (.call "check_coloring" (.cons (.var 0) (.cons (.var 1) .nil)))) (.cons (.ret (.srts (.var 1))) .nil))
def B_f_rows_of : TC.S := (.cons (.own 2 .nil) (.cons (.for (.nm 3) (.rng2 (.int 1) (.var 0)) (.cons (.set (.nm 4) (.int 0)) (.cons (.set (.nm 5) (.str "")) (.cons (.for (.nm 6) (.rng (.var 3)) (.cons (.set (.nm 5) (.bin .Add (.var 5) (.blt "str" (.cons (.sub (.var 1) (.bin .Sub (.bin .Sub (.bin .Add (.var 4) (.var 3)) (.var 6)) (.int 1))) .nil)))) (.cons (.aug 4 (.bin .Sub (.bin .Sub (.var 0) (.var 6)) (.int 1))) .nil))) (.cons (.app 2 (.var 5)) .nil))))) (.cons (.frz 2) (.cons (.ret (.var 2)) .nil))))
def B_f_format_coloring : TC.S := (.cons (.ex (.call "check_coloring" (.cons (.var 0) (.cons (.var 1) .nil)))) (.cons (.ret (.mth "join" (.str "\n") (.cons (.call "rows_of" (.cons (.var 0) (.cons (.var 1) .nil))) .nil))) .nil))
def B_f_is_tame : TC.S := (.cons (.ex (.call "check_coloring" (.cons (.var 0) (.cons (.var 1) .nil)))) (.cons (.ret (.cmp .Is (.call "first_triangle" (.cons (.var 0) (.cons (.var 1) .nil))) .non)) .nil))
def B_f_colors_between : TC.S := (.cons (.ret (.srts (.lc2 (.sub (.var 0) (.tup (.cons (.var 3) (.cons (.var 4) .nil)))) (.nm 3) (.itr (.var 1)) (.nm 4) (.itr (.var 2))))) .nil)
def B_f_groups_fit : TC.S := (.cons (.own 2 .nil) (.cons (.for (.tp (.cn (.nm 3) (.cn (.nm 4) .nl))) (.enu (.var 1)) (.cons (.for (.nm 5) (.itr (.slcL (.var 1) (.bin .Add (.var 3) (.int 1)))) (.cons (.set (.nm 6) (.call "colors_between" (.cons (.var 0) (.cons (.var 4) (.cons (.var 5) .nil))))) (.cons (.ife (.cmp .NotEq (.blt "len" (.cons (.var 6) .nil)) (.int 1)) (.cons (.ret (.bl false)) .nil) .nil) (.cons (.ext 2 (.var 6)) .nil)))) .nil)) (.cons (.frz 2) (.cons (.ret (.cmp .LtE (.lens (.var 2)) (.int 2))) .nil))))
def B_f_is_division : TC.S := (.cons (.ex (.call "check_coloring" (.cons (.var 0) (.cons (.var 1) .nil)))) (.cons (.ife (.or (.not (.isi (.var 2) "list")) (.one (.cmp .Lt (.blt "len" (.cons (.var 2) .nil)) (.int 2)))) (.cons (.ret (.bl false)) .nil) .nil) (.cons (.for (.nm 3) (.itr (.var 2)) (.cons (.ife (.or (.not (.isi (.var 3) "tuple")) (.or (.not (.var 3)) (.one (.lcf (.var 4) (.nm 4) (.itr (.var 3)) (.not (.call "in_range" (.cons (.var 4) (.cons (.int 0) (.cons (.bin .Sub (.var 0) (.int 1)) .nil))))))))) (.cons (.ret (.bl false)) .nil) .nil) (.cons (.ife (.lcf (.int 1) (.tp (.cn (.nm 4) (.cn (.nm 5) .nl))) (.zip (.var 3) (.slcL (.var 3) (.int 1))) (.cmp .GtE (.var 4) (.var 5))) (.cons (.ret (.bl false)) .nil) .nil) .nil))) (.cons (.ife (.lcf (.int 1) (.tp (.cn (.nm 4) (.cn (.nm 5) .nl))) (.zip (.var 2) (.slcL (.var 2) (.int 1))) (.cmp .GtE (.var 4) (.var 5))) (.cons (.ret (.bl false)) .nil) .nil) (.cons (.ife (.cmp .NotEq (.blt "sorted" (.cons (.lc2 (.var 4) (.nm 3) (.itr (.var 2)) (.nm 4) (.itr (.var 3))) .nil)) (.lsr (.rng (.var 0)))) (.cons (.ret (.bl false)) .nil) .nil) (.cons (.ret (.call "groups_fit" (.cons (.call "table_of" (.cons (.var 0) (.cons (.var 1) .nil))) (.cons (.var 2) .nil)))) .nil))))))
def B_f_leaves : TC.S := (.cons (.ife (.and (.isi (.var 0) "int") (.one (.not (.isi (.var 0) "bool")))) (.cons (.ret (.lst (.cons (.var 0) .nil))) .nil) .nil) (.cons (.ife (.or (.not (.isi (.var 0) "tuple")) (.one (.cmp .Lt (.blt "len" (.cons (.var 0) .nil)) (.int 2)))) (.cons (.ret .non) .nil) .nil) (.cons (.own 1 .nil) (.cons (.for (.nm 2) (.itr (.var 0)) (.cons (.set (.nm 3) (.call "leaves" (.cons (.var 2) .nil))) (.cons (.ife (.cmp .Is (.var 3) .non) (.cons (.ret .non) .nil) .nil) (.cons (.ext 1 (.var 3)) .nil)))) (.cons (.frz 1) (.cons (.ret (.var 1)) .nil))))))
def B_f_is_tree_of : TC.S := (.cons (.ife (.not (.isi (.var 1) "tuple")) (.cons (.ret (.bl true)) .nil) .nil) (.cons (.ife (.not (.call "groups_fit" (.cons (.var 0) (.cons (.lc (.call "leaves" (.cons (.var 2) .nil)) (.nm 2) (.itr (.var 1))) .nil)))) (.cons (.ret (.bl false)) .nil) .nil) (.cons (.ret (.not (.lcf (.var 2) (.nm 2) (.itr (.var 1)) (.not (.call "is_tree_of" (.cons (.var 0) (.cons (.var 2) .nil))))))) .nil)))
def B_f_is_tree : TC.S := (.cons (.ex (.call "check_coloring" (.cons (.var 0) (.cons (.var 1) .nil)))) (.cons (.set (.nm 3) (.call "leaves" (.cons (.var 2) .nil))) (.cons (.ife (.or (.cmp .Is (.var 3) .non) (.one (.cmp .NotEq (.blt "sorted" (.cons (.var 3) .nil)) (.lsr (.rng (.var 0)))))) (.cons (.ret (.bl false)) .nil) .nil) (.cons (.ret (.call "is_tree_of" (.cons (.call "table_of" (.cons (.var 0) (.cons (.var 1) .nil))) (.cons (.var 2) .nil)))) .nil))))
def B_f_merged : TC.S := (.cons (.ex (.call "check_coloring" (.cons (.var 0) (.cons (.var 1) .nil)))) (.cons (.ex (.call "check_color" (.cons (.var 2) .nil))) (.cons (.ex (.call "check_color" (.cons (.var 3) .nil))) (.cons (.ret (.blt "tuple" (.cons (.lc (.ife (.cmp .Eq (.var 4) (.var 2)) (.var 3) (.var 4)) (.nm 4) (.itr (.var 1))) .nil))) .nil))))
def B_l_law_cell : TC.S := (.cons (.ife (.cmp .Lt (.var 1) (.blt "len" (.cons (.var 0) .nil))) (.cons (.ret (.sub (.var 0) (.var 1))) .nil) .nil) (.cons (.ret (.int 0)) .nil))
def B_l_law_whole : TC.S := (.cons (.ret (.and (.isi (.var 0) "int") (.one (.not (.isi (.var 0) "bool"))))) .nil)
def B_l_law_row : TC.S := (.cons (.set (.nm 2) (.call "_law_cell" (.cons (.var 0) (.cons (.var 1) .nil)))) (.cons (.own 3 .nil) (.cons (.for (.nm 4) (.rng (.int 60)) (.cons (.ife (.cmp .Lt (.call "_law_cell" (.cons (.var 0) (.cons (.var 1) .nil))) (.bin .Pow (.int 10) (.int 18))) (.cons (.set (.nm 2) (.bin .Mod (.bin .Add (.bin .Add (.bin .Add (.bin .Mult (.var 2) (.int 48271)) (.bin .Mult (.int 131) (.var 4))) (.int 7)) (.call "_law_cell" (.cons (.var 0) (.cons (.bin .Mod (.bin .Add (.bin .Add (.var 1) (.int 1)) (.var 4)) (.int 20)) .nil)))) (.int 2147483647))) (.cons (.app 3 (.bin .Mod (.bin .FloorDiv (.var 2) (.int 11)) (.int 1000))) .nil)) (.cons (.app 3 (.bin .Mod (.var 2) (.int 1000))) (.cons (.set (.nm 2) (.bin .FloorDiv (.var 2) (.int 1000))) .nil))) .nil)) (.cons (.frz 3) (.cons (.ret (.var 3)) .nil)))))
def B_l_law_in : TC.S := (.cons (.ret (.and (.call "_law_whole" (.cons (.var 0) .nil)) (.one (.chain .LtE .LtE (.var 1) (.var 0) (.var 2))))) .nil)
def B_l_law_pairs : TC.S := (.cons (.set (.nm 1) (.lst .nil)) (.cons (.for (.nm 2) (.rng (.var 0)) (.cons (.set (.nm 1) (.bin .Add (.var 1) (.lc (.tup (.cons (.var 2) (.cons (.var 3) .nil))) (.nm 3) (.rng2 (.bin .Add (.var 2) (.int 1)) (.var 0))))) .nil)) (.cons (.ret (.var 1)) .nil)))
def B_l_law_tame : TC.S := (.cons (.set (.nm 3) (.call "_law_row" (.cons (.var 0) (.cons (.var 1) .nil)))) (.cons (.set (.nm 4) (.bin .Add (.int 1) (.bin .Mod (.sub (.var 3) (.int 0)) (.int 5)))) (.cons (.tab 5) (.cons (.for (.nm 6) (.rng2 (.int 1) (.var 2)) (.cons (.set (.nm 7) (.bin .Mod (.sub (.var 3) (.var 6)) (.var 6))) (.cons (.for (.nm 8) (.rng (.var 6)) (.cons (.ife (.cmp .Lt (.var 6) (.var 4)) (.cons (.put 5 (.tup (.cons (.var 8) (.cons (.var 6) .nil))) (.bin .Mod (.sub (.var 3) (.bin .Add (.int 46) (.bin .Mod (.sub (.var 3) (.bin .Mod (.bin .Add (.bin .Add (.int 10) (.bin .Mult (.int 7) (.var 8))) (.var 6)) (.int 45))) (.int 2)))) (.int 4))) .nil) (.cons (.ife (.cmp .Eq (.var 8) (.var 7)) (.cons (.put 5 (.tup (.cons (.var 8) (.cons (.var 6) .nil))) (.bin .Mod (.sub (.var 3) (.bin .Add (.int 48) (.var 6))) (.int 4))) .nil) (.cons (.put 5 (.tup (.cons (.var 8) (.cons (.var 6) .nil))) (.subO 5 (.tup (.cons (.blt "min" (.cons (.var 7) (.cons (.var 8) .nil))) (.cons (.blt "max" (.cons (.var 7) (.cons (.var 8) .nil))) .nil))))) .nil)) .nil)) .nil)) .nil))) (.cons (.ret (.blt "tuple" (.cons (.lc (.subO 5 (.var 9)) (.nm 9) (.itr (.call "_law_pairs" (.cons (.var 2) .nil)))) .nil))) .nil)))))
def B_l_law_any : TC.S := (.cons (.set (.nm 3) (.call "_law_row" (.cons (.var 0) (.cons (.var 1) .nil)))) (.cons (.set (.nm 4) (.bin .Add (.int 1) (.bin .Mod (.sub (.var 3) (.int 40)) (.var 2)))) (.cons (.set (.nm 5) (.call "_law_tame" (.cons (.var 0) (.cons (.var 1) (.cons (.var 4) .nil))))) (.cons (.ife (.and (.cmp .Eq (.bin .Mod (.sub (.var 3) (.int 41)) (.int 3)) (.int 1)) (.one (.cmp .NotEq (.var 5) (.tup .nil)))) (.cons (.set (.nm 6) (.bin .Mod (.sub (.var 3) (.int 42)) (.blt "len" (.cons (.var 5) .nil)))) (.cons (.set (.nm 5) (.bin .Add (.bin .Add (.slcH (.var 5) (.var 6)) (.tup (.cons (.bin .Mod (.sub (.var 3) (.int 43)) (.int 6)) .nil))) (.slcL (.var 5) (.bin .Add (.var 6) (.int 1))))) .nil)) .nil) (.cons (.ife (.cmp .Eq (.bin .Mod (.sub (.var 3) (.int 41)) (.int 9)) (.int 2)) (.cons (.set (.nm 5) (.blt "tuple" (.cons (.lc (.bin .Mod (.bin .Mult (.sub (.var 3) (.bin .Add (.int 44) (.bin .Mod (.var 6) (.int 12)))) (.bin .Add (.var 6) (.int 1))) (.int 3)) (.nm 6) (.rng (.blt "len" (.cons (.var 5) .nil)))) .nil))) .nil) .nil) (.cons (.ret (.tup (.cons (.var 4) (.cons (.var 5) .nil)))) .nil))))))
def B_l_law_error (XS : List Str) : TC.S := (.cons (.try 3 XS (.cons (.ife (.cmp .Eq (.var 0) (.int 0)) (.cons (.ex (.call "parts" (.cons (.var 1) (.cons (.var 2) (.cons (.int 0) .nil))))) .nil) (.cons (.ife (.cmp .Eq (.var 0) (.int 1)) (.cons (.ex (.call "joining_colors" (.cons (.var 1) (.cons (.var 2) .nil)))) .nil) (.cons (.ife (.cmp .Eq (.var 0) (.int 2)) (.cons (.ex (.call "is_tame" (.cons (.var 1) (.cons (.var 2) .nil)))) .nil) (.cons (.ife (.cmp .Eq (.var 0) (.int 3)) (.cons (.ex (.call "is_tree" (.cons (.var 1) (.cons (.var 2) (.cons .non .nil))))) .nil) (.cons (.ife (.cmp .Eq (.var 0) (.int 4)) (.cons (.ex (.call "merged" (.cons (.var 1) (.cons (.var 2) (.cons (.int 0) (.cons (.int 0) .nil)))))) .nil) (.cons (.ife (.cmp .Eq (.var 0) (.int 5)) (.cons (.ex (.call "used_colors" (.cons (.var 1) (.cons (.var 2) .nil)))) .nil) (.cons (.ife (.cmp .Eq (.var 0) (.int 6)) (.cons (.ex (.call "is_division" (.cons (.var 1) (.cons (.var 2) (.cons .non .nil))))) .nil) (.cons (.ex (.call "format_coloring" (.cons (.var 1) (.cons (.var 2) .nil)))) .nil)) .nil)) .nil)) .nil)) .nil)) .nil)) .nil)) .nil) [⟨"InvalidNumber", "InvalidColoring", "number", "other"⟩, ⟨"InvalidColoring", "InvalidNumber", "coloring", "other"⟩]) (.cons (.ret (.str "none")) .nil))
def B_f_color_of : TC.S := (.cons (.ex (.call "check_coloring" (.cons (.var 0) (.cons (.var 1) .nil)))) (.cons (.ife (.or (.not (.call "in_range" (.cons (.var 2) (.cons (.int 0) (.cons (.bin .Sub (.var 0) (.int 1)) .nil))))) (.or (.not (.call "in_range" (.cons (.var 3) (.cons (.int 0) (.cons (.bin .Sub (.var 0) (.int 1)) .nil))))) (.one (.cmp .Eq (.var 2) (.var 3))))) (.cons (.rai "InvalidPoint") .nil) .nil) (.cons (.ret (.sub (.call "table_of" (.cons (.var 0) (.cons (.var 1) .nil))) (.tup (.cons (.var 2) (.cons (.var 3) .nil))))) .nil)))
def B_l_law_at : TC.S := (.cons (.ret (.sub (.var 1) (.mth "index" (.call "_law_pairs" (.cons (.var 0) .nil)) (.cons (.tup (.cons (.blt "min" (.cons (.var 2) (.cons (.var 3) .nil))) (.cons (.blt "max" (.cons (.var 2) (.cons (.var 3) .nil))) .nil))) .nil)))) .nil)
def B_l_law_parts : TC.S := (.cons (.own 3 .nil) (.cons (.for (.nm 4) (.rng (.var 0)) (.cons (.ife (.bor 3 (.cmp .Eq (.lcf (.var 5) (.nm 5) (.itr (.var 3)) (.cmp .In (.var 4) (.var 5))) (.lst .nil))) (.cons (.set (.nm 5) (.lst (.cons (.var 4) .nil))) (.cons (.for (.nm 6) (.rng (.var 0)) (.cons (.set (.nm 8) (.lcf (.var 7) (.nm 7) (.rng (.var 0)) (.cmp .NotIn (.var 7) (.var 5)))) (.cons (.for (.nm 7) (.itr (.var 8)) (.cons (.ife (.cmp .In (.var 2) (.lc (.call "_law_at" (.cons (.var 0) (.cons (.var 1) (.cons (.var 7) (.cons (.var 9) .nil))))) (.nm 9) (.itr (.var 5)))) (.cons (.set (.nm 5) (.bin .Add (.var 5) (.lst (.cons (.var 7) .nil)))) .nil) .nil) .nil)) .nil))) (.cons (.app 3 (.blt "tuple" (.cons (.blt "sorted" (.cons (.var 5) .nil)) .nil))) .nil))) .nil) .nil)) (.cons (.frz 3) (.cons (.ret (.blt "sorted" (.cons (.var 3) .nil))) .nil))))
def B_l_law_colored (XS : List Str) : TC.S := (.cons (.try 5 XS (.cons (.ife (.cmp .Eq (.var 0) (.int 0)) (.cons (.ret (.call "color_of" (.cons (.var 1) (.cons (.var 2) (.cons (.var 3) (.cons (.var 4) .nil)))))) .nil) .nil) (.cons (.ret (.ife (.cmp .Eq (.var 0) (.int 1)) (.call "parts" (.cons (.var 1) (.cons (.var 2) (.cons (.var 3) .nil)))) (.call "merged" (.cons (.var 1) (.cons (.var 2) (.cons (.var 3) (.cons (.var 4) .nil))))))) .nil)) [⟨"InvalidPoint", "InvalidColor", "point", "other"⟩, ⟨"InvalidColor", "InvalidPoint", "color", "other"⟩]) .nil)
def B_f_check_tame : TC.S := (.cons (.ex (.call "check_coloring" (.cons (.var 0) (.cons (.var 1) .nil)))) (.cons (.ife (.cmp .IsNot (.call "first_triangle" (.cons (.var 0) (.cons (.var 1) .nil))) .non) (.cons (.rai "NotTame") .nil) .nil) .nil))
def B_f_triangle : TC.S := (.cons (.ex (.call "check_coloring" (.cons (.var 0) (.cons (.var 1) .nil)))) (.cons (.set (.nm 2) (.call "first_triangle" (.cons (.var 0) (.cons (.var 1) .nil)))) (.cons (.ife (.cmp .Is (.var 2) .non) (.cons (.rai "Tame") .nil) .nil) (.cons (.ret (.var 2)) .nil))))
def B_f_is_triangle : TC.S := (.cons (.ex (.call "check_coloring" (.cons (.var 0) (.cons (.var 1) .nil)))) (.cons (.ife (.or (.not (.isi (.var 2) "tuple")) (.one (.cmp .NotEq (.blt "len" (.cons (.var 2) .nil)) (.int 3)))) (.cons (.ret (.bl false)) .nil) .nil) (.cons (.ife (.lcf (.var 3) (.nm 3) (.itr (.var 2)) (.not (.call "in_range" (.cons (.var 3) (.cons (.int 0) (.cons (.bin .Sub (.var 0) (.int 1)) .nil)))))) (.cons (.ret (.bl false)) .nil) .nil) (.cons (.set (.tp (.cn (.nm 4) (.cn (.nm 5) (.cn (.nm 6) .nl)))) (.var 2)) (.cons (.ife (.not (.chain .Lt .Lt (.var 4) (.var 5) (.var 6))) (.cons (.ret (.bl false)) .nil) .nil) (.cons (.set (.nm 7) (.call "table_of" (.cons (.var 0) (.cons (.var 1) .nil)))) (.cons (.ret (.cmp .Eq (.lens (.lst (.cons (.sub (.var 7) (.tup (.cons (.var 4) (.cons (.var 5) .nil)))) (.cons (.sub (.var 7) (.tup (.cons (.var 4) (.cons (.var 6) .nil)))) (.cons (.sub (.var 7) (.tup (.cons (.var 5) (.cons (.var 6) .nil)))) .nil))))) (.int 3))) .nil)))))))
def B_f_parts_without : TC.S := (.cons (.ret (.call "parts_of" (.cons (.var 0) (.cons (.blt "tuple" (.cons (.lc (.ife (.cmp .In (.var 3) (.var 2)) (.neg (.int 1)) (.int 0)) (.nm 3) (.itr (.var 1))) .nil)) (.cons (.int 0) .nil))))) .nil)
def B_f_divided : TC.S := (.cons (.set (.nm 2) (.srts (.var 1))) (.cons (.own 3 .nil) (.cons (.for (.tp (.cn (.nm 4) (.cn (.nm 5) .nl))) (.enu (.var 2)) (.cons (.for (.nm 6) (.itr (.slcL (.var 2) (.var 4))) (.cons (.set (.nm 7) (.call "parts_without" (.cons (.var 0) (.cons (.var 1) (.cons (.tup (.cons (.var 5) (.cons (.var 6) .nil))) .nil))))) (.cons (.ife (.cmp .Gt (.blt "len" (.cons (.var 7) .nil)) (.int 1)) (.cons (.app 3 (.tup (.cons (.blt "len" (.cons (.var 7) .nil)) (.cons (.var 7) .nil)))) .nil) .nil) .nil))) .nil)) (.cons (.frz 3) (.cons (.ret (.sub (.blt "min" (.cons (.var 3) .nil)) (.int 1))) .nil)))))
def B_f_restricted_to : TC.S := (.cons (.set (.nm 3) (.call "table_of" (.cons (.var 0) (.cons (.var 1) .nil)))) (.cons (.own 4 .nil) (.cons (.for (.tp (.cn (.nm 5) (.cn (.nm 6) .nl))) (.enu (.var 2)) (.cons (.ext 4 (.lc (.sub (.var 3) (.tup (.cons (.var 6) (.cons (.var 7) .nil)))) (.nm 7) (.itr (.slcL (.var 2) (.bin .Add (.var 5) (.int 1)))))) .nil)) (.cons (.frz 4) (.cons (.ret (.blt "tuple" (.cons (.var 4) .nil))) .nil)))))
def B_f_division : TC.S := (.cons (.ex (.call "check_tame" (.cons (.var 0) (.cons (.var 1) .nil)))) (.cons (.ife (.cmp .Eq (.var 0) (.int 1)) (.cons (.rai "OnePoint") .nil) .nil) (.cons (.ret (.call "divided" (.cons (.var 0) (.cons (.var 1) .nil)))) .nil)))
def B_f_tree_of : TC.S := (.cons (.ife (.cmp .Eq (.blt "len" (.cons (.var 2) .nil)) (.int 1)) (.cons (.ret (.sub (.var 2) (.int 0))) .nil) .nil) (.cons (.set (.nm 3) (.call "divided" (.cons (.blt "len" (.cons (.var 2) .nil)) (.cons (.call "restricted_to" (.cons (.var 0) (.cons (.var 1) (.cons (.var 2) .nil)))) .nil)))) (.cons (.ret (.blt "tuple" (.cons (.lc (.call "tree_of" (.cons (.var 0) (.cons (.var 1) (.cons (.blt "tuple" (.cons (.lc (.sub (.var 2) (.var 5)) (.nm 5) (.itr (.var 4))) .nil)) .nil)))) (.nm 4) (.itr (.var 3))) .nil))) .nil)))
def B_f_tree : TC.S := (.cons (.ex (.call "check_tame" (.cons (.var 0) (.cons (.var 1) .nil)))) (.cons (.ret (.call "tree_of" (.cons (.var 0) (.cons (.var 1) (.cons (.tpr (.rng (.var 0))) .nil))))) .nil))
def B_l_law_triangles : TC.S := (.cons (.set (.nm 2) (.lst .nil)) (.cons (.for (.tp (.cn (.nm 3) (.cn (.nm 4) .nl))) (.itr (.call "_law_pairs" (.cons (.var 0) .nil))) (.cons (.for (.nm 5) (.rng2 (.bin .Add (.var 4) (.int 1)) (.var 0)) (.cons (.set (.nm 8) (.lc (.call "_law_at" (.cons (.var 0) (.cons (.var 1) (.cons (.var 6) (.cons (.var 7) .nil))))) (.tp (.cn (.nm 6) (.cn (.nm 7) .nl))) (.itr (.lst (.cons (.tup (.cons (.var 3) (.cons (.var 4) .nil))) (.cons (.tup (.cons (.var 3) (.cons (.var 5) .nil))) (.cons (.tup (.cons (.var 4) (.cons (.var 5) .nil))) .nil))))))) (.cons (.set (.nm 2) (.bin .Add (.var 2) (.bin .Mult (.lst (.cons (.tup (.cons (.var 3) (.cons (.var 4) (.cons (.var 5) .nil)))) .nil)) (.blt "int" (.cons (.cmp .Eq (.blt "len" (.cons (.srts (.var 8)) .nil)) (.int 3)) .nil))))) .nil))) .nil)) (.cons (.ret (.var 2)) .nil)))
def B_l_law_leaves : TC.S := (.cons (.ife (.and (.isi (.var 0) "int") (.one (.not (.isi (.var 0) "bool")))) (.cons (.ret (.lst (.cons (.var 0) .nil))) .nil) .nil) (.cons (.ife (.or (.not (.isi (.var 0) "tuple")) (.one (.cmp .Lt (.blt "len" (.cons (.var 0) .nil)) (.int 2)))) (.cons (.ret .non) .nil) .nil) (.cons (.set (.nm 1) (.lst .nil)) (.cons (.for (.nm 2) (.itr (.var 0)) (.cons (.set (.nm 3) (.call "_law_leaves" (.cons (.var 2) .nil))) (.cons (.ife (.cmp .Is (.var 3) .non) (.cons (.ret .non) .nil) .nil) (.cons (.set (.nm 1) (.bin .Add (.var 1) (.var 3))) .nil)))) (.cons (.ret (.var 1)) .nil)))))
def B_l_law_fits : TC.S := (.cons (.own 3 .nil) (.cons (.for (.nm 4) (.rng (.blt "len" (.cons (.var 2) .nil))) (.cons (.for (.nm 5) (.itr (.slcL (.var 2) (.bin .Add (.var 4) (.int 1)))) (.cons (.set (.nm 6) (.lst .nil)) (.cons (.for (.nm 7) (.itr (.sub (.var 2) (.var 4))) (.cons (.set (.nm 6) (.bin .Add (.var 6) (.lc (.call "_law_at" (.cons (.var 0) (.cons (.var 1) (.cons (.var 7) (.cons (.var 8) .nil))))) (.nm 8) (.itr (.var 5))))) .nil)) (.cons (.ife (.cmp .NotEq (.blt "len" (.cons (.srts (.var 6)) .nil)) (.int 1)) (.cons (.ret (.bl false)) .nil) .nil) (.cons (.app 3 (.sub (.var 6) (.int 0))) .nil))))) .nil)) (.cons (.frz 3) (.cons (.ret (.cmp .Lt (.blt "len" (.cons (.srts (.var 3)) .nil)) (.int 3))) .nil))))
def B_l_law_is_tree : TC.S := (.cons (.ife (.not (.isi (.var 2) "tuple")) (.cons (.ret (.bl true)) .nil) .nil) (.cons (.ife (.not (.call "_law_fits" (.cons (.var 0) (.cons (.var 1) (.cons (.lc (.call "_law_leaves" (.cons (.var 3) .nil)) (.nm 3) (.itr (.var 2))) .nil))))) (.cons (.ret (.bl false)) .nil) .nil) (.cons (.for (.nm 3) (.itr (.var 2)) (.cons (.ife (.not (.call "_law_is_tree" (.cons (.var 0) (.cons (.var 1) (.cons (.var 3) .nil))))) (.cons (.ret (.bl false)) .nil) .nil) .nil)) (.cons (.ret (.bl true)) .nil))))
def B_l_law_found (XS : List Str) : TC.S := (.cons (.try 3 XS (.cons (.ife (.cmp .Eq (.var 0) (.int 0)) (.cons (.ret (.call "triangle" (.cons (.var 1) (.cons (.var 2) .nil)))) .nil) .nil) (.cons (.ret (.ife (.cmp .Eq (.var 0) (.int 1)) (.call "tree" (.cons (.var 1) (.cons (.var 2) .nil))) (.call "division" (.cons (.var 1) (.cons (.var 2) .nil))))) .nil)) [⟨"Tame", "NotTame", "tame", "other"⟩, ⟨"NotTame", "Tame", "not", "other"⟩, ⟨"OnePoint", "NotTame", "one", "other"⟩]) .nil)
def B_l_law_is_division : TC.S := (.cons (.ife (.or (.not (.isi (.var 2) "list")) (.one (.cmp .Lt (.blt "len" (.cons (.var 2) .nil)) (.int 2)))) (.cons (.ret (.bl false)) .nil) .nil) (.cons (.set (.nm 3) (.lst .nil)) (.cons (.for (.nm 4) (.itr (.var 2)) (.cons (.ife (.or (.not (.isi (.var 4) "tuple")) (.one (.cmp .Eq (.var 4) (.tup .nil)))) (.cons (.ret (.bl false)) .nil) .nil) (.cons (.ife (.or (.cmp .NotEq (.lcf (.var 5) (.nm 5) (.itr (.var 4)) (.not (.call "_law_in" (.cons (.var 5) (.cons (.int 0) (.cons (.bin .Sub (.var 0) (.int 1)) .nil)))))) (.lst .nil)) (.one (.cmp .NotEq (.blt "list" (.cons (.var 4) .nil)) (.srts (.var 4))))) (.cons (.ret (.bl false)) .nil) .nil) (.cons (.set (.nm 3) (.bin .Add (.var 3) (.blt "list" (.cons (.var 4) .nil)))) .nil)))) (.cons (.ife (.or (.cmp .NotEq (.var 2) (.blt "sorted" (.cons (.var 2) .nil))) (.one (.cmp .NotEq (.blt "sorted" (.cons (.var 3) .nil)) (.lsr (.rng (.var 0)))))) (.cons (.ret (.bl false)) .nil) .nil) (.cons (.ret (.call "_law_fits" (.cons (.var 0) (.cons (.var 1) (.cons (.var 2) .nil))))) .nil)))))
def B_f_restricted : TC.S := (.cons (.ex (.call "check_coloring" (.cons (.var 0) (.cons (.var 1) .nil)))) (.cons (.ife (.or (.not (.isi (.var 2) "tuple")) (.or (.not (.var 2)) (.one (.lcf (.var 3) (.nm 3) (.itr (.var 2)) (.not (.call "in_range" (.cons (.var 3) (.cons (.int 0) (.cons (.bin .Sub (.var 0) (.int 1)) .nil))))))))) (.cons (.rai "InvalidPoint") .nil) .nil) (.cons (.ife (.lcf (.int 1) (.tp (.cn (.nm 3) (.cn (.nm 4) .nl))) (.zip (.var 2) (.slcL (.var 2) (.int 1))) (.cmp .GtE (.var 3) (.var 4))) (.cons (.rai "InvalidPoint") .nil) .nil) (.cons (.ret (.call "restricted_to" (.cons (.var 0) (.cons (.var 1) (.cons (.var 2) .nil))))) .nil))))
def B_f_put_in : TC.S := (.cons (.ex (.call "check_coloring" (.cons (.var 0) (.cons (.var 1) .nil)))) (.cons (.ife (.not (.call "in_range" (.cons (.var 2) (.cons (.int 0) (.cons (.bin .Sub (.var 0) (.int 1)) .nil))))) (.cons (.rai "InvalidPoint") .nil) .nil) (.cons (.ex (.call "check_coloring" (.cons (.var 3) (.cons (.var 4) .nil)))) (.cons (.ife (.cmp .Gt (.bin .Add (.bin .Sub (.var 0) (.int 1)) (.var 3)) (.glo "MAX_POINTS" (.int 7))) (.cons (.rai "InvalidNumber") .nil) .nil) (.cons (.own 5 .nil) (.cons (.for (.nm 6) (.rng (.var 0)) (.cons (.ext 5 (.lc (.tup (.cons (.var 6) (.cons (.var 7) .nil))) (.nm 7) (.rng (.ife (.cmp .Eq (.var 6) (.var 2)) (.var 3) (.int 1))))) .nil)) (.cons (.par 8 9 (.call "table_of" (.cons (.var 0) (.cons (.var 1) .nil))) (.call "table_of" (.cons (.var 3) (.cons (.var 4) .nil)))) (.cons (.own 10 .nil) (.cons (.for (.tp (.cn (.nm 6) (.cn (.nm 11) .nl))) (.itr (.call "pairs_of" (.cons (.lenO 5) .nil))) (.cons (.par 12 13 (.subO 5 (.var 6)) (.subO 5 (.var 11))) (.cons (.ife (.cmp .Eq (.sub (.var 12) (.int 0)) (.sub (.var 13) (.int 0))) (.cons (.app 10 (.sub (.var 9) (.tup (.cons (.sub (.var 12) (.int 1)) (.cons (.sub (.var 13) (.int 1)) .nil))))) .nil) (.cons (.app 10 (.sub (.var 8) (.tup (.cons (.sub (.var 12) (.int 0)) (.cons (.sub (.var 13) (.int 0)) .nil))))) .nil)) .nil))) (.cons (.frz 10) (.cons (.ret (.blt "tuple" (.cons (.var 10) .nil))) .nil)))))))))))
def B_l_law_made (XS : List Str) : TC.S := (.cons (.try 6 XS (.cons (.ret (.ife (.cmp .Eq (.var 0) (.int 0)) (.call "restricted" (.cons (.var 1) (.cons (.var 2) (.cons (.var 3) .nil)))) (.call "put_in" (.cons (.var 1) (.cons (.var 2) (.cons (.var 3) (.cons (.var 4) (.cons (.var 5) .nil)))))))) .nil) [⟨"InvalidPoint", "InvalidColoring", "point", "other"⟩, ⟨"InvalidNumber", "InvalidColoring", "number", "other"⟩, ⟨"InvalidColoring", "InvalidNumber", "coloring", "other"⟩]) .nil)
def B_l_law_put : TC.S := (.cons (.set (.nm 5) (.lst .nil)) (.cons (.for (.nm 6) (.rng (.var 0)) (.cons (.set (.nm 5) (.bin .Add (.var 5) (.lc (.tup (.cons (.var 6) (.cons (.var 7) .nil))) (.nm 7) (.rng (.ife (.cmp .Eq (.var 6) (.var 2)) (.var 3) (.int 1)))))) .nil)) (.cons (.own 8 .nil) (.cons (.for (.tp (.cn (.nm 6) (.cn (.nm 9) .nl))) (.itr (.call "_law_pairs" (.cons (.blt "len" (.cons (.var 5) .nil)) .nil))) (.cons (.par 10 11 (.sub (.var 5) (.var 6)) (.sub (.var 5) (.var 9))) (.cons (.ife (.cmp .Eq (.sub (.var 10) (.int 0)) (.sub (.var 11) (.int 0))) (.cons (.app 8 (.call "_law_at" (.cons (.var 3) (.cons (.var 4) (.cons (.sub (.var 10) (.int 1)) (.cons (.sub (.var 11) (.int 1)) .nil)))))) .nil) (.cons (.app 8 (.call "_law_at" (.cons (.var 0) (.cons (.var 1) (.cons (.sub (.var 10) (.int 0)) (.cons (.sub (.var 11) (.int 0)) .nil)))))) .nil)) .nil))) (.cons (.frz 8) (.cons (.ret (.blt "tuple" (.cons (.var 8) .nil))) .nil))))))
def B_f_check_small : TC.S := (.cons (.ife (.or (.not (.call "in_range" (.cons (.var 0) (.cons (.int 1) (.cons (.int 4) .nil))))) (.one (.not (.call "in_range" (.cons (.var 1) (.cons (.int 1) (.cons (.int 3) .nil))))))) (.cons (.rai "InvalidNumber") .nil) .nil) .nil)
def B_f_every_tame : TC.S := (.cons (.set (.nm 2) (.lst (.cons (.tup .nil) .nil))) (.cons (.for (.nm 3) (.itr (.call "pairs_of" (.cons (.var 0) .nil))) (.cons (.own 4 .nil) (.cons (.for (.nm 5) (.itr (.var 2)) (.cons (.ext 4 (.lc (.bin .Add (.var 5) (.tup (.cons (.var 6) .nil))) (.nm 6) (.rng (.var 1)))) .nil)) (.cons (.frz 4) (.cons (.set (.nm 2) (.var 4)) .nil))))) (.cons (.ret (.lcf (.var 5) (.nm 5) (.itr (.var 2)) (.cmp .Is (.call "first_triangle" (.cons (.var 0) (.cons (.var 5) .nil))) .non))) .nil)))
def B_f_all_tame : TC.S := (.cons (.ex (.call "check_small" (.cons (.var 0) (.cons (.var 1) .nil)))) (.cons (.ret (.call "every_tame" (.cons (.var 0) (.cons (.var 1) .nil)))) .nil))
def B_l_law_small (XS : List Str) : TC.S := (.cons (.try 2 XS (.cons (.ret (.call "all_tame" (.cons (.var 0) (.cons (.var 1) .nil)))) .nil) [⟨"InvalidNumber", "InvalidColor", "number", "other"⟩]) .nil)
def B_f_count_unlike : TC.S := (.cons (.ret (.blt "len" (.cons (.lcf (.int 1) (.tp (.cn (.nm 2) (.cn (.nm 3) .nl))) (.zip (.var 0) (.var 1)) (.cmp .NotEq (.var 2) (.var 3))) .nil))) .nil)
def B_f_nearest_tame : TC.S := (.cons (.ex (.call "check_coloring" (.cons (.var 0) (.cons (.var 1) .nil)))) (.cons (.ife (.cmp .Gt (.var 0) (.int 5)) (.cons (.rai "InvalidNumber") .nil) .nil) (.cons (.set (.nm 2) (.srts (.var 1))) (.cons (.set (.nm 3) (.lst (.cons (.var 1) .nil))) (.cons (.whl 2000 (.bl true) (.cons (.set (.nm 5) (.lcf (.var 4) (.nm 4) (.itr (.var 3)) (.cmp .Is (.call "first_triangle" (.cons (.var 0) (.cons (.var 4) .nil))) .non))) (.cons (.ife (.var 5) (.cons (.ret (.blt "min" (.cons (.var 5) .nil))) .nil) .nil) (.cons (.tab 6) (.cons (.for (.nm 4) (.itr (.var 3)) (.cons (.for (.tp (.cn (.nm 7) (.cn (.nm 8) .nl))) (.enu (.var 4)) (.cons (.ife (.cmp .Eq (.var 8) (.sub (.var 1) (.var 7))) (.cons (.for (.nm 9) (.itr (.var 2)) (.cons (.put 6 (.bin .Add (.bin .Add (.slcH (.var 4) (.var 7)) (.tup (.cons (.var 9) .nil))) (.slcL (.var 4) (.bin .Add (.var 7) (.int 1)))) (.bl true)) .nil)) .nil) .nil) .nil)) .nil)) (.cons (.frz 6) (.cons (.set (.nm 3) (.lcf (.var 4) (.nm 4) (.itr (.var 6)) (.cmp .Gt (.call "count_unlike" (.cons (.var 4) (.cons (.var 1) .nil))) (.call "count_unlike" (.cons (.sub (.var 3) (.int 0)) (.cons (.var 1) .nil)))))) .nil))))))) .nil)))))
def B_l_law_neared (XS : List Str) : TC.S := (.cons (.try 2 XS (.cons (.ret (.call "nearest_tame" (.cons (.var 0) (.cons (.var 1) .nil)))) .nil) [⟨"InvalidNumber", "InvalidColoring", "number", "other"⟩]) .nil)
def B_f_check_same : TC.S := (.cons (.ex (.call "check_tame" (.cons (.var 0) (.cons (.var 1) .nil)))) (.cons (.ex (.call "check_tame" (.cons (.var 0) (.cons (.var 2) .nil)))) (.cons (.ife (.cmp .Gt (.var 0) (.int 4)) (.cons (.rai "InvalidNumber") .nil) .nil) (.cons (.ife (.lcf (.var 3) (.nm 3) (.itr (.bin .Add (.var 1) (.var 2))) (.cmp .Gt (.var 3) (.int 2))) (.cons (.rai "InvalidColoring") .nil) .nil) .nil))))
def B_f_road : TC.S := .nev
def B_l_law_road (XS : List Str) : TC.S := (.cons (.try 3 XS (.cons (.ret (.call "road" (.cons (.var 0) (.cons (.var 1) (.cons (.var 2) .nil))))) .nil) [⟨"InvalidNumber", "InvalidColoring", "number", "other"⟩, ⟨"InvalidColoring", "NotTame", "coloring", "other"⟩, ⟨"NotTame", "InvalidColoring", "not", "other"⟩]) .nil)
def B_f_check_answers : TC.S := (.cons (.ex (.call "check_small" (.cons (.var 0) (.cons (.var 1) .nil)))) (.cons (.ife (.not (.isi (.var 2) "tuple")) (.cons (.rai "InvalidAnswers") .nil) .nil) (.cons (.for (.nm 3) (.itr (.var 2)) (.cons (.ife (.or (.not (.isi (.var 3) "tuple")) (.or (.cmp .NotEq (.blt "len" (.cons (.var 3) .nil)) (.int 2)) (.one (.not (.call "in_range" (.cons (.sub (.var 3) (.int 1)) (.cons (.int 0) (.cons (.bin .Sub (.var 1) (.int 1)) .nil)))))))) (.cons (.rai "InvalidAnswers") .nil) .nil) (.cons (.ife (.not (.call "in_range" (.cons (.sub (.var 3) (.int 0)) (.cons (.int 0) (.cons (.bin .Sub (.blt "len" (.cons (.call "pairs_of" (.cons (.var 0) .nil)) .nil)) (.int 1)) .nil))))) (.cons (.rai "InvalidAnswers") .nil) .nil) .nil))) .nil)))
def B_f_candidates : TC.S := (.cons (.ex (.call "check_answers" (.cons (.var 0) (.cons (.var 1) (.cons (.var 2) .nil))))) (.cons (.ret (.lcf (.var 3) (.nm 3) (.itr (.call "every_tame" (.cons (.var 0) (.cons (.var 1) .nil)))) (.not (.lcf (.var 4) (.tp (.cn (.nm 4) (.cn (.nm 5) .nl))) (.itr (.var 2)) (.cmp .NotEq (.sub (.var 3) (.var 4)) (.var 5)))))) .nil))
def B_f_best_pair : TC.S := (.cons (.set (.nm 3) (.call "candidates" (.cons (.var 0) (.cons (.var 1) (.cons (.var 2) .nil))))) (.cons (.ife (.not (.var 3)) (.cons (.rai "InvalidAnswers") .nil) .nil) (.cons (.set (.nm 4) .non) (.cons (.for (.nm 5) (.rng (.blt "len" (.cons (.sub (.var 3) (.int 0)) .nil))) (.cons (.set (.nm 7) (.lc (.sub (.var 6) (.var 5)) (.nm 6) (.itr (.var 3)))) (.cons (.set (.nm 9) (.blt "max" (.cons (.lc (.mth "count" (.var 7) (.cons (.var 8) .nil)) (.nm 8) (.rng (.var 1))) .nil))) (.cons (.ife (.and (.cmp .Lt (.var 9) (.blt "len" (.cons (.var 3) .nil))) (.one (.or (.cmp .Is (.var 4) .non) (.one (.cmp .Lt (.var 9) (.sub (.var 4) (.int 0))))))) (.cons (.set (.nm 4) (.tup (.cons (.var 9) (.cons (.var 5) .nil)))) .nil) .nil) .nil)))) (.cons (.ret (.ife (.cmp .Is (.var 4) .non) .non (.sub (.var 4) (.int 1)))) .nil)))))
def B_l_law_hidden (XS : List Str) : TC.S := (.cons (.try 4 XS (.cons (.ret (.ife (.cmp .Eq (.var 0) (.int 0)) (.call "candidates" (.cons (.var 1) (.cons (.var 2) (.cons (.var 3) .nil)))) (.call "best_pair" (.cons (.var 1) (.cons (.var 2) (.cons (.var 3) .nil)))))) .nil) [⟨"InvalidNumber", "InvalidAnswers", "number", "other"⟩, ⟨"InvalidAnswers", "InvalidNumber", "answers", "other"⟩]) .nil)
def B_f_parse_coloring : TC.S := .nev
def B_l_law_parse : TC.S := .nev
def B_l_wall : TC.S := (.cons (.whl 2000 (.bl true) (.cons .pass .nil)) .nil)
def B_l_law_painted : TC.S := .nev
def B_l_law_raise : TC.S := .nev
def B_f_between_parts : TC.S := (.cons (.ex (.call "check_tame" (.cons (.var 0) (.cons (.var 1) .nil)))) (.cons (.ex (.call "check_color" (.cons (.var 2) .nil))) (.cons (.set (.nm 3) (.call "table_of" (.cons (.var 0) (.cons (.var 1) .nil)))) (.cons (.set (.nm 4) (.call "parts_of" (.cons (.var 0) (.cons (.var 1) (.cons (.var 2) .nil))))) (.cons (.own 5 .nil) (.cons (.for (.tp (.cn (.nm 6) (.cn (.nm 7) .nl))) (.enu (.var 4)) (.cons (.for (.nm 8) (.rng2 (.bin .Add (.var 6) (.int 1)) (.blt "len" (.cons (.var 4) .nil))) (.cons (.app 5 (.tup (.cons (.var 6) (.cons (.var 8) (.cons (.sub (.var 3) (.tup (.cons (.sub (.var 7) (.int 0)) (.cons (.sub (.sub (.var 4) (.var 8)) (.int 0)) .nil)))) .nil))))) .nil)) .nil)) (.cons (.frz 5) (.cons (.ret (.var 5)) .nil))))))))
def B_f_are_colors : TC.S := (.cons (.ife (.or (.not (.isi (.var 0) "tuple")) (.or (.not (.var 0)) (.one (.lcf (.var 1) (.nm 1) (.itr (.var 0)) (.not (.call "in_range" (.cons (.var 1) (.cons (.int 0) (.cons (.glo "MAX_COLOR" (.int 5)) .nil))))))))) (.cons (.ret (.bl false)) .nil) .nil) (.cons (.ret (.not (.lcf (.int 1) (.tp (.cn (.nm 1) (.cn (.nm 2) .nl))) (.zip (.var 0) (.slcL (.var 0) (.int 1))) (.cmp .GtE (.var 1) (.var 2))))) .nil))
def B_f_extend : TC.S := .nev
def B_f_largest_with : TC.S := (.cons (.ex (.call "check_coloring" (.cons (.var 0) (.cons (.var 1) .nil)))) (.cons (.ife (.not (.call "are_colors" (.cons (.var 2) .nil))) (.cons (.rai "InvalidColor") .nil) .nil) (.cons (.set (.nm 3) (.lst (.cons (.tup .nil) .nil))) (.cons (.ex (.call "extend" (.cons (.var 0) (.cons (.call "table_of" (.cons (.var 0) (.cons (.var 1) .nil))) (.cons (.var 2) (.cons (.tup .nil) (.cons (.var 3) .nil))))))) (.cons (.ret (.sub (.var 3) (.int 0))) .nil)))))
def B_f_arrangements : TC.S := (.cons (.set (.nm 1) (.lst (.cons (.tup .nil) .nil))) (.cons (.for (.nm 2) (.rng (.var 0)) (.cons (.own 3 .nil) (.cons (.for (.nm 4) (.itr (.var 1)) (.cons (.ext 3 (.lcf (.bin .Add (.var 4) (.tup (.cons (.var 5) .nil))) (.nm 5) (.rng (.var 0)) (.cmp .NotIn (.var 5) (.var 4)))) .nil)) (.cons (.frz 3) (.cons (.set (.nm 1) (.var 3)) .nil))))) (.cons (.ret (.var 1)) .nil)))
def B_f_same_shape : TC.S := (.cons (.ret (.cmp .Eq (.lc (.mth "index" (.var 0) (.cons (.var 2) .nil)) (.nm 2) (.itr (.var 0))) (.lc (.mth "index" (.var 1) (.cons (.var 2) .nil)) (.nm 2) (.itr (.var 1))))) .nil)
def B_f_are_alike : TC.S := (.cons (.ex (.call "check_coloring" (.cons (.var 0) (.cons (.var 1) .nil)))) (.cons (.ex (.call "check_coloring" (.cons (.var 0) (.cons (.var 2) .nil)))) (.cons (.ife (.cmp .Gt (.var 0) (.int 5)) (.cons (.rai "InvalidNumber") .nil) .nil) (.cons (.set (.nm 3) (.call "table_of" (.cons (.var 0) (.cons (.var 2) .nil)))) (.cons (.for (.nm 4) (.itr (.call "arrangements" (.cons (.var 0) .nil))) (.cons (.ife (.call "same_shape" (.cons (.var 1) (.cons (.blt "tuple" (.cons (.lc (.sub (.var 3) (.tup (.cons (.sub (.var 4) (.var 5)) (.cons (.sub (.var 4) (.var 6)) .nil)))) (.tp (.cn (.nm 5) (.cn (.nm 6) .nl))) (.itr (.call "pairs_of" (.cons (.var 0) .nil)))) .nil)) .nil))) (.cons (.ret (.bl true)) .nil) .nil) .nil)) (.cons (.ret (.bl false)) .nil))))))
def B_l_law_parted (XS : List Str) : TC.S := (.cons (.try 4 XS (.cons (.ife (.cmp .Eq (.var 0) (.int 0)) (.cons (.ret (.call "between_parts" (.cons (.var 1) (.cons (.var 2) (.cons (.var 3) .nil))))) .nil) .nil) (.cons (.ret (.ife (.cmp .Eq (.var 0) (.int 1)) (.call "largest_with" (.cons (.var 1) (.cons (.var 2) (.cons (.var 3) .nil)))) (.call "are_alike" (.cons (.var 1) (.cons (.var 2) (.cons (.var 3) .nil)))))) .nil)) [⟨"NotTame", "Tame", "not", "other"⟩, ⟨"InvalidColor", "InvalidColoring", "color", "other"⟩, ⟨"InvalidNumber", "InvalidColoring", "number", "other"⟩]) .nil)
def B_l_law_asked : TC.S := (.cons (.ife (.cmp .Eq (.var 0) (.int 0)) (.cons (.ret (.call "is_coloring" (.cons (.var 1) (.cons (.var 1) .nil)))) .nil) .nil) (.cons (.ife (.cmp .Eq (.var 0) (.int 1)) (.cons (.ret (.call "color_of" (.cons (.var 1) (.cons (.var 1) (.cons (.var 1) (.cons (.var 1) .nil)))))) .nil) .nil) (.cons (.ife (.cmp .Eq (.var 0) (.int 2)) (.cons (.ret (.call "color_of" (.cons (.int 3) (.cons (.var 1) (.cons (.var 1) (.cons (.var 1) .nil)))))) .nil) .nil) (.cons (.ife (.cmp .Eq (.var 0) (.int 3)) (.cons (.ret (.call "parts" (.cons (.int 3) (.cons (.var 1) (.cons (.var 1) .nil))))) .nil) .nil) (.cons (.ife (.cmp .Eq (.var 0) (.int 4)) (.cons (.ret (.call "division" (.cons (.int 3) (.cons (.var 1) .nil)))) .nil) .nil) (.cons (.ife (.cmp .Eq (.var 0) (.int 5)) (.cons (.ret (.call "between_parts" (.cons (.int 3) (.cons (.tup (.cons (.int 0) (.cons (.int 1) (.cons (.int 2) .nil)))) (.cons (.var 1) .nil))))) .nil) .nil) (.cons (.ife (.cmp .Eq (.var 0) (.int 6)) (.cons (.ret (.call "between_parts" (.cons (.int 3) (.cons (.var 1) (.cons (.var 1) .nil))))) .nil) .nil) (.cons (.ife (.cmp .Eq (.var 0) (.int 7)) (.cons (.ret (.call "largest_with" (.cons (.var 1) (.cons (.var 1) (.cons (.var 1) .nil))))) .nil) .nil) (.cons (.ife (.cmp .Eq (.var 0) (.int 8)) (.cons (.ret (.call "are_alike" (.cons (.int 3) (.cons (.var 1) (.cons (.var 1) .nil))))) .nil) .nil) (.cons (.ife (.cmp .Eq (.var 0) (.int 9)) (.cons (.ret (.call "merged" (.cons (.var 1) (.cons (.var 1) (.cons (.var 1) (.cons (.var 1) .nil)))))) .nil) .nil) (.cons (.ife (.cmp .Eq (.var 0) (.int 10)) (.cons (.ret (.call "put_in" (.cons (.int 3) (.cons (.var 1) (.cons (.var 1) (.cons (.var 1) (.cons (.var 1) .nil))))))) .nil) .nil) (.cons (.ret (.call "restricted" (.cons (.int 3) (.cons (.var 1) (.cons (.var 1) .nil))))) .nil))))))))))))
def B_l_law_failed : TC.S := .nev
/-- the table holds this term under this name -/
def HasF (T : List Df) (f : Str) (n : Nat) (b : TC.S) : Prop := ∀ (k : Nat) (args : List D), Fk T (k + 1) f args = runS (Fk T k) n b args
theorem hasF {T : List Df} {f : Str} {d : Df} (h : findD f T = some d) : HasF T f d.N.length d.body := fun k args => by
  show (match findD f T with | some d => runS (Fk T k) d.N.length d.body args | none => .stuck) = _
  rw [h]
end TC
set_option linter.all false
set_option maxRecDepth 100000
set_option autoImplicit false
/-! DlV: the terms of the defs with named parts (printed by gen/mkv.py). -/
namespace TC
open PySem
def M_f_in_range : TC.S := (.cons (.ret (.and (.isi (.var 0) "int") (.and (.not (.isi (.var 0) "bool")) (.one (.chain .LtE .LtE (.var 1) (.var 0) (.var 2)))))) .nil)
def M_f_pairs_of_C1 : TC.E := (.lc2 (.tup (.cons (.var 1) (.cons (.var 2) .nil))) (.nm 1) (.rng (.var 0)) (.nm 2) (.rng2 (.bin .Add (.var 1) (.int 1)) (.var 0)))
def M_f_pairs_of : TC.S := (.cons (.ret M_f_pairs_of_C1) .nil)
def M_f_check_points : TC.S := (.cons (.ife (.not (.call "in_range" (.cons (.var 0) (.cons (.int 1) (.cons (.glo "MAX_POINTS" (.int 7)) .nil))))) (.cons (.rai "InvalidNumber") .nil) .nil) .nil)
def M_f_is_coloring_C1 : TC.E := (.lcf (.var 2) (.nm 2) (.itr (.var 1)) (.not (.call "in_range" (.cons (.var 2) (.cons (.int 0) (.cons (.glo "MAX_COLOR" (.int 5)) .nil))))))
def M_f_is_coloring : TC.S := (.cons (.ex (.call "check_points" (.cons (.var 0) .nil))) (.cons (.ife (.or (.not (.isi (.var 1) "tuple")) (.one (.cmp .NotEq (.blt "len" (.cons (.var 1) .nil)) (.blt "len" (.cons (.call "pairs_of" (.cons (.var 0) .nil)) .nil))))) (.cons (.ret (.bl false)) .nil) .nil) (.cons (.ret (.not M_f_is_coloring_C1)) .nil)))
def M_f_check_coloring : TC.S := (.cons (.ife (.not (.call "is_coloring" (.cons (.var 0) (.cons (.var 1) .nil)))) (.cons (.rai "InvalidColoring") .nil) .nil) .nil)
def M_f_check_color : TC.S := (.cons (.ife (.not (.call "in_range" (.cons (.var 0) (.cons (.int 0) (.cons (.glo "MAX_COLOR" (.int 5)) .nil))))) (.cons (.rai "InvalidColor") .nil) .nil) .nil)
def M_f_table_of_L1 : TC.S := (.cons (.put 2 (.tup (.cons (.var 3) (.cons (.var 4) .nil))) (.var 5)) (.cons (.put 2 (.tup (.cons (.var 4) (.cons (.var 3) .nil))) (.var 5)) .nil))
def M_f_table_of : TC.S := (.cons (.tab 2) (.cons (.for (.tp (.cn (.tp (.cn (.nm 3) (.cn (.nm 4) .nl))) (.cn (.nm 5) .nl))) (.zip (.call "pairs_of" (.cons (.var 0) .nil)) (.var 1)) M_f_table_of_L1) (.cons (.frz 2) (.cons (.ret (.var 2)) .nil))))
def M_f_first_triangle_L2 : TC.S := (.cons (.ife (.cmp .Eq (.lens (.lst (.cons (.sub (.var 2) (.tup (.cons (.var 3) (.cons (.var 4) .nil)))) (.cons (.sub (.var 2) (.tup (.cons (.var 3) (.cons (.var 5) .nil)))) (.cons (.sub (.var 2) (.tup (.cons (.var 4) (.cons (.var 5) .nil)))) .nil))))) (.int 3)) (.cons (.ret (.tup (.cons (.var 3) (.cons (.var 4) (.cons (.var 5) .nil))))) .nil) .nil) .nil)
def M_f_first_triangle_L1 : TC.S := (.cons (.for (.nm 5) (.rng2 (.bin .Add (.var 4) (.int 1)) (.var 0)) M_f_first_triangle_L2) .nil)
def M_f_first_triangle : TC.S := (.cons (.set (.nm 2) (.call "table_of" (.cons (.var 0) (.cons (.var 1) .nil)))) (.cons (.for (.tp (.cn (.nm 3) (.cn (.nm 4) .nl))) (.itr (.call "pairs_of" (.cons (.var 0) .nil))) M_f_first_triangle_L1) (.cons (.ret .non) .nil)))
def M_f_parts_of_C1 : TC.E := (.lc (.ife (.cmp .Eq (.var 9) (.var 8)) (.var 7) (.var 9)) (.nm 9) (.itr (.var 3)))
def M_f_parts_of_L1 : TC.S := (.cons (.ife (.cmp .Eq (.var 6) (.var 2)) (.cons (.set (.tp (.cn (.nm 7) (.cn (.nm 8) .nl))) (.blt "sorted" (.cons (.lst (.cons (.sub (.var 3) (.var 4)) (.cons (.sub (.var 3) (.var 5)) .nil))) .nil))) (.cons (.set (.nm 3) M_f_parts_of_C1) .nil)) .nil) .nil)
def M_f_parts_of_C2 : TC.E := (.lcf (.var 11) (.nm 11) (.rng (.var 0)) (.cmp .Eq (.sub (.var 3) (.var 11)) (.var 9)))
def M_f_parts_of_L2 : TC.S := (.cons (.app 10 (.blt "tuple" (.cons M_f_parts_of_C2 .nil))) .nil)
def M_f_parts_of : TC.S := (.cons (.set (.nm 3) (.lsr (.rng (.var 0)))) (.cons (.for (.tp (.cn (.tp (.cn (.nm 4) (.cn (.nm 5) .nl))) (.cn (.nm 6) .nl))) (.zip (.call "pairs_of" (.cons (.var 0) .nil)) (.var 1)) M_f_parts_of_L1) (.cons (.own 10 .nil) (.cons (.for (.nm 9) (.itr (.srts (.var 3))) M_f_parts_of_L2) (.cons (.frz 10) (.cons (.ret (.var 10)) .nil))))))
def M_f_parts : TC.S := (.cons (.ex (.call "check_coloring" (.cons (.var 0) (.cons (.var 1) .nil)))) (.cons (.ex (.call "check_color" (.cons (.var 2) .nil))) (.cons (.ret (.call "parts_of" (.cons (.var 0) (.cons (.var 1) (.cons (.var 2) .nil))))) .nil)))
def M_f_joining_of_C1 : TC.E := (.lcf (.var 2) (.nm 2) (.rng (.bin .Add (.glo "MAX_COLOR" (.int 5)) (.int 1))) (.cmp .Eq (.blt "len" (.cons (.call "parts_of" (.cons (.var 0) (.cons (.var 1) (.cons (.var 2) .nil)))) .nil)) (.int 1)))
def M_f_joining_of : TC.S := (.cons (.ret M_f_joining_of_C1) .nil)
def M_f_joining_colors : TC.S := (.cons (.ex (.call "check_coloring" (.cons (.var 0) (.cons (.var 1) .nil)))) (.cons (.ret (.call "joining_of" (.cons (.var 0) (.cons (.var 1) .nil)))) .nil))
def M_f_used_colors : TC.S := (.cons (.ex (.call "check_coloring" (.cons (.var 0) (.cons (.var 1) .nil)))) (.cons (.ret (.srts (.var 1))) .nil))
def M_f_rows_of_L2 : TC.S := (.cons (.set (.nm 5) (.bin .Add (.var 5) (.blt "str" (.cons (.sub (.var 1) (.bin .Sub (.bin .Sub (.bin .Add (.var 4) (.var 3)) (.var 6)) (.int 1))) .nil)))) (.cons (.aug 4 (.bin .Sub (.bin .Sub (.var 0) (.var 6)) (.int 1))) .nil))
def M_f_rows_of_L1 : TC.S := (.cons (.set (.nm 4) (.int 0)) (.cons (.set (.nm 5) (.str "")) (.cons (.for (.nm 6) (.rng (.var 3)) M_f_rows_of_L2) (.cons (.app 2 (.var 5)) .nil))))
def M_f_rows_of : TC.S := (.cons (.own 2 .nil) (.cons (.for (.nm 3) (.rng2 (.int 1) (.var 0)) M_f_rows_of_L1) (.cons (.frz 2) (.cons (.ret (.var 2)) .nil))))
def M_f_format_coloring : TC.S := (.cons (.ex (.call "check_coloring" (.cons (.var 0) (.cons (.var 1) .nil)))) (.cons (.ret (.mth "join" (.str "\n") (.cons (.call "rows_of" (.cons (.var 0) (.cons (.var 1) .nil))) .nil))) .nil))
def M_f_is_tame : TC.S := (.cons (.ex (.call "check_coloring" (.cons (.var 0) (.cons (.var 1) .nil)))) (.cons (.ret (.cmp .Is (.call "first_triangle" (.cons (.var 0) (.cons (.var 1) .nil))) .non)) .nil))
def M_f_colors_between_C1 : TC.E := (.lc2 (.sub (.var 0) (.tup (.cons (.var 3) (.cons (.var 4) .nil)))) (.nm 3) (.itr (.var 1)) (.nm 4) (.itr (.var 2)))
def M_f_colors_between : TC.S := (.cons (.ret (.srts M_f_colors_between_C1)) .nil)
def M_f_groups_fit_L2 : TC.S := (.cons (.set (.nm 6) (.call "colors_between" (.cons (.var 0) (.cons (.var 4) (.cons (.var 5) .nil))))) (.cons (.ife (.cmp .NotEq (.blt "len" (.cons (.var 6) .nil)) (.int 1)) (.cons (.ret (.bl false)) .nil) .nil) (.cons (.ext 2 (.var 6)) .nil)))
def M_f_groups_fit_L1 : TC.S := (.cons (.for (.nm 5) (.itr (.slcL (.var 1) (.bin .Add (.var 3) (.int 1)))) M_f_groups_fit_L2) .nil)
def M_f_groups_fit : TC.S := (.cons (.own 2 .nil) (.cons (.for (.tp (.cn (.nm 3) (.cn (.nm 4) .nl))) (.enu (.var 1)) M_f_groups_fit_L1) (.cons (.frz 2) (.cons (.ret (.cmp .LtE (.lens (.var 2)) (.int 2))) .nil))))
def M_f_is_division_C1 : TC.E := (.lcf (.var 4) (.nm 4) (.itr (.var 3)) (.not (.call "in_range" (.cons (.var 4) (.cons (.int 0) (.cons (.bin .Sub (.var 0) (.int 1)) .nil))))))
def M_f_is_division_C2 : TC.E := (.lcf (.int 1) (.tp (.cn (.nm 4) (.cn (.nm 5) .nl))) (.zip (.var 3) (.slcL (.var 3) (.int 1))) (.cmp .GtE (.var 4) (.var 5)))
def M_f_is_division_L1 : TC.S := (.cons (.ife (.or (.not (.isi (.var 3) "tuple")) (.or (.not (.var 3)) (.one M_f_is_division_C1))) (.cons (.ret (.bl false)) .nil) .nil) (.cons (.ife M_f_is_division_C2 (.cons (.ret (.bl false)) .nil) .nil) .nil))
def M_f_is_division_C3 : TC.E := (.lcf (.int 1) (.tp (.cn (.nm 4) (.cn (.nm 5) .nl))) (.zip (.var 2) (.slcL (.var 2) (.int 1))) (.cmp .GtE (.var 4) (.var 5)))
def M_f_is_division_C4 : TC.E := (.lc2 (.var 4) (.nm 3) (.itr (.var 2)) (.nm 4) (.itr (.var 3)))
def M_f_is_division : TC.S := (.cons (.ex (.call "check_coloring" (.cons (.var 0) (.cons (.var 1) .nil)))) (.cons (.ife (.or (.not (.isi (.var 2) "list")) (.one (.cmp .Lt (.blt "len" (.cons (.var 2) .nil)) (.int 2)))) (.cons (.ret (.bl false)) .nil) .nil) (.cons (.for (.nm 3) (.itr (.var 2)) M_f_is_division_L1) (.cons (.ife M_f_is_division_C3 (.cons (.ret (.bl false)) .nil) .nil) (.cons (.ife (.cmp .NotEq (.blt "sorted" (.cons M_f_is_division_C4 .nil)) (.lsr (.rng (.var 0)))) (.cons (.ret (.bl false)) .nil) .nil) (.cons (.ret (.call "groups_fit" (.cons (.call "table_of" (.cons (.var 0) (.cons (.var 1) .nil))) (.cons (.var 2) .nil)))) .nil))))))
def M_f_leaves_L1 : TC.S := (.cons (.set (.nm 3) (.call "leaves" (.cons (.var 2) .nil))) (.cons (.ife (.cmp .Is (.var 3) .non) (.cons (.ret .non) .nil) .nil) (.cons (.ext 1 (.var 3)) .nil)))
def M_f_leaves : TC.S := (.cons (.ife (.and (.isi (.var 0) "int") (.one (.not (.isi (.var 0) "bool")))) (.cons (.ret (.lst (.cons (.var 0) .nil))) .nil) .nil) (.cons (.ife (.or (.not (.isi (.var 0) "tuple")) (.one (.cmp .Lt (.blt "len" (.cons (.var 0) .nil)) (.int 2)))) (.cons (.ret .non) .nil) .nil) (.cons (.own 1 .nil) (.cons (.for (.nm 2) (.itr (.var 0)) M_f_leaves_L1) (.cons (.frz 1) (.cons (.ret (.var 1)) .nil))))))
def M_f_is_tree_of_C1 : TC.E := (.lc (.call "leaves" (.cons (.var 2) .nil)) (.nm 2) (.itr (.var 1)))
def M_f_is_tree_of_C2 : TC.E := (.lcf (.var 2) (.nm 2) (.itr (.var 1)) (.not (.call "is_tree_of" (.cons (.var 0) (.cons (.var 2) .nil)))))
def M_f_is_tree_of : TC.S := (.cons (.ife (.not (.isi (.var 1) "tuple")) (.cons (.ret (.bl true)) .nil) .nil) (.cons (.ife (.not (.call "groups_fit" (.cons (.var 0) (.cons M_f_is_tree_of_C1 .nil)))) (.cons (.ret (.bl false)) .nil) .nil) (.cons (.ret (.not M_f_is_tree_of_C2)) .nil)))
def M_f_is_tree : TC.S := (.cons (.ex (.call "check_coloring" (.cons (.var 0) (.cons (.var 1) .nil)))) (.cons (.set (.nm 3) (.call "leaves" (.cons (.var 2) .nil))) (.cons (.ife (.or (.cmp .Is (.var 3) .non) (.one (.cmp .NotEq (.blt "sorted" (.cons (.var 3) .nil)) (.lsr (.rng (.var 0)))))) (.cons (.ret (.bl false)) .nil) .nil) (.cons (.ret (.call "is_tree_of" (.cons (.call "table_of" (.cons (.var 0) (.cons (.var 1) .nil))) (.cons (.var 2) .nil)))) .nil))))
def M_f_merged_C1 : TC.E := (.lc (.ife (.cmp .Eq (.var 4) (.var 2)) (.var 3) (.var 4)) (.nm 4) (.itr (.var 1)))
def M_f_merged : TC.S := (.cons (.ex (.call "check_coloring" (.cons (.var 0) (.cons (.var 1) .nil)))) (.cons (.ex (.call "check_color" (.cons (.var 2) .nil))) (.cons (.ex (.call "check_color" (.cons (.var 3) .nil))) (.cons (.ret (.blt "tuple" (.cons M_f_merged_C1 .nil))) .nil))))
def M_l_law_cell : TC.S := (.cons (.ife (.cmp .Lt (.var 1) (.blt "len" (.cons (.var 0) .nil))) (.cons (.ret (.sub (.var 0) (.var 1))) .nil) .nil) (.cons (.ret (.int 0)) .nil))
def M_l_law_whole : TC.S := (.cons (.ret (.and (.isi (.var 0) "int") (.one (.not (.isi (.var 0) "bool"))))) .nil)
def M_l_law_row_L1 : TC.S := (.cons (.ife (.cmp .Lt (.call "_law_cell" (.cons (.var 0) (.cons (.var 1) .nil))) (.bin .Pow (.int 10) (.int 18))) (.cons (.set (.nm 2) (.bin .Mod (.bin .Add (.bin .Add (.bin .Add (.bin .Mult (.var 2) (.int 48271)) (.bin .Mult (.int 131) (.var 4))) (.int 7)) (.call "_law_cell" (.cons (.var 0) (.cons (.bin .Mod (.bin .Add (.bin .Add (.var 1) (.int 1)) (.var 4)) (.int 20)) .nil)))) (.int 2147483647))) (.cons (.app 3 (.bin .Mod (.bin .FloorDiv (.var 2) (.int 11)) (.int 1000))) .nil)) (.cons (.app 3 (.bin .Mod (.var 2) (.int 1000))) (.cons (.set (.nm 2) (.bin .FloorDiv (.var 2) (.int 1000))) .nil))) .nil)
def M_l_law_row : TC.S := (.cons (.set (.nm 2) (.call "_law_cell" (.cons (.var 0) (.cons (.var 1) .nil)))) (.cons (.own 3 .nil) (.cons (.for (.nm 4) (.rng (.int 60)) M_l_law_row_L1) (.cons (.frz 3) (.cons (.ret (.var 3)) .nil)))))
def M_l_law_in : TC.S := (.cons (.ret (.and (.call "_law_whole" (.cons (.var 0) .nil)) (.one (.chain .LtE .LtE (.var 1) (.var 0) (.var 2))))) .nil)
def M_l_law_pairs_C1 : TC.E := (.lc (.tup (.cons (.var 2) (.cons (.var 3) .nil))) (.nm 3) (.rng2 (.bin .Add (.var 2) (.int 1)) (.var 0)))
def M_l_law_pairs_L1 : TC.S := (.cons (.set (.nm 1) (.bin .Add (.var 1) M_l_law_pairs_C1)) .nil)
def M_l_law_pairs : TC.S := (.cons (.set (.nm 1) (.lst .nil)) (.cons (.for (.nm 2) (.rng (.var 0)) M_l_law_pairs_L1) (.cons (.ret (.var 1)) .nil)))
def M_l_law_tame_L2 : TC.S := (.cons (.ife (.cmp .Lt (.var 6) (.var 4)) (.cons (.put 5 (.tup (.cons (.var 8) (.cons (.var 6) .nil))) (.bin .Mod (.sub (.var 3) (.bin .Add (.int 46) (.bin .Mod (.sub (.var 3) (.bin .Mod (.bin .Add (.bin .Add (.int 10) (.bin .Mult (.int 7) (.var 8))) (.var 6)) (.int 45))) (.int 2)))) (.int 4))) .nil) (.cons (.ife (.cmp .Eq (.var 8) (.var 7)) (.cons (.put 5 (.tup (.cons (.var 8) (.cons (.var 6) .nil))) (.bin .Mod (.sub (.var 3) (.bin .Add (.int 48) (.var 6))) (.int 4))) .nil) (.cons (.put 5 (.tup (.cons (.var 8) (.cons (.var 6) .nil))) (.subO 5 (.tup (.cons (.blt "min" (.cons (.var 7) (.cons (.var 8) .nil))) (.cons (.blt "max" (.cons (.var 7) (.cons (.var 8) .nil))) .nil))))) .nil)) .nil)) .nil)
def M_l_law_tame_L1 : TC.S := (.cons (.set (.nm 7) (.bin .Mod (.sub (.var 3) (.var 6)) (.var 6))) (.cons (.for (.nm 8) (.rng (.var 6)) M_l_law_tame_L2) .nil))
def M_l_law_tame_C1 : TC.E := (.lc (.subO 5 (.var 9)) (.nm 9) (.itr (.call "_law_pairs" (.cons (.var 2) .nil))))
def M_l_law_tame : TC.S := (.cons (.set (.nm 3) (.call "_law_row" (.cons (.var 0) (.cons (.var 1) .nil)))) (.cons (.set (.nm 4) (.bin .Add (.int 1) (.bin .Mod (.sub (.var 3) (.int 0)) (.int 5)))) (.cons (.tab 5) (.cons (.for (.nm 6) (.rng2 (.int 1) (.var 2)) M_l_law_tame_L1) (.cons (.ret (.blt "tuple" (.cons M_l_law_tame_C1 .nil))) .nil)))))
def M_l_law_any_C1 : TC.E := (.lc (.bin .Mod (.bin .Mult (.sub (.var 3) (.bin .Add (.int 44) (.bin .Mod (.var 6) (.int 12)))) (.bin .Add (.var 6) (.int 1))) (.int 3)) (.nm 6) (.rng (.blt "len" (.cons (.var 5) .nil))))
def M_l_law_any : TC.S := (.cons (.set (.nm 3) (.call "_law_row" (.cons (.var 0) (.cons (.var 1) .nil)))) (.cons (.set (.nm 4) (.bin .Add (.int 1) (.bin .Mod (.sub (.var 3) (.int 40)) (.var 2)))) (.cons (.set (.nm 5) (.call "_law_tame" (.cons (.var 0) (.cons (.var 1) (.cons (.var 4) .nil))))) (.cons (.ife (.and (.cmp .Eq (.bin .Mod (.sub (.var 3) (.int 41)) (.int 3)) (.int 1)) (.one (.cmp .NotEq (.var 5) (.tup .nil)))) (.cons (.set (.nm 6) (.bin .Mod (.sub (.var 3) (.int 42)) (.blt "len" (.cons (.var 5) .nil)))) (.cons (.set (.nm 5) (.bin .Add (.bin .Add (.slcH (.var 5) (.var 6)) (.tup (.cons (.bin .Mod (.sub (.var 3) (.int 43)) (.int 6)) .nil))) (.slcL (.var 5) (.bin .Add (.var 6) (.int 1))))) .nil)) .nil) (.cons (.ife (.cmp .Eq (.bin .Mod (.sub (.var 3) (.int 41)) (.int 9)) (.int 2)) (.cons (.set (.nm 5) (.blt "tuple" (.cons M_l_law_any_C1 .nil))) .nil) .nil) (.cons (.ret (.tup (.cons (.var 4) (.cons (.var 5) .nil)))) .nil))))))
def M_l_law_error_Y1 : TC.S := (.cons (.ife (.cmp .Eq (.var 0) (.int 0)) (.cons (.ex (.call "parts" (.cons (.var 1) (.cons (.var 2) (.cons (.int 0) .nil))))) .nil) (.cons (.ife (.cmp .Eq (.var 0) (.int 1)) (.cons (.ex (.call "joining_colors" (.cons (.var 1) (.cons (.var 2) .nil)))) .nil) (.cons (.ife (.cmp .Eq (.var 0) (.int 2)) (.cons (.ex (.call "is_tame" (.cons (.var 1) (.cons (.var 2) .nil)))) .nil) (.cons (.ife (.cmp .Eq (.var 0) (.int 3)) (.cons (.ex (.call "is_tree" (.cons (.var 1) (.cons (.var 2) (.cons .non .nil))))) .nil) (.cons (.ife (.cmp .Eq (.var 0) (.int 4)) (.cons (.ex (.call "merged" (.cons (.var 1) (.cons (.var 2) (.cons (.int 0) (.cons (.int 0) .nil)))))) .nil) (.cons (.ife (.cmp .Eq (.var 0) (.int 5)) (.cons (.ex (.call "used_colors" (.cons (.var 1) (.cons (.var 2) .nil)))) .nil) (.cons (.ife (.cmp .Eq (.var 0) (.int 6)) (.cons (.ex (.call "is_division" (.cons (.var 1) (.cons (.var 2) (.cons .non .nil))))) .nil) (.cons (.ex (.call "format_coloring" (.cons (.var 1) (.cons (.var 2) .nil)))) .nil)) .nil)) .nil)) .nil)) .nil)) .nil)) .nil)) .nil)
def M_l_law_error (XS : List Str) : TC.S := (.cons (.try 3 XS M_l_law_error_Y1 [ ⟨"InvalidNumber", "InvalidColoring", "number", "other"⟩ , ⟨"InvalidColoring", "InvalidNumber", "coloring", "other"⟩ ]) (.cons (.ret (.str "none")) .nil))
def M_f_color_of : TC.S := (.cons (.ex (.call "check_coloring" (.cons (.var 0) (.cons (.var 1) .nil)))) (.cons (.ife (.or (.not (.call "in_range" (.cons (.var 2) (.cons (.int 0) (.cons (.bin .Sub (.var 0) (.int 1)) .nil))))) (.or (.not (.call "in_range" (.cons (.var 3) (.cons (.int 0) (.cons (.bin .Sub (.var 0) (.int 1)) .nil))))) (.one (.cmp .Eq (.var 2) (.var 3))))) (.cons (.rai "InvalidPoint") .nil) .nil) (.cons (.ret (.sub (.call "table_of" (.cons (.var 0) (.cons (.var 1) .nil))) (.tup (.cons (.var 2) (.cons (.var 3) .nil))))) .nil)))
def M_l_law_at : TC.S := (.cons (.ret (.sub (.var 1) (.mth "index" (.call "_law_pairs" (.cons (.var 0) .nil)) (.cons (.tup (.cons (.blt "min" (.cons (.var 2) (.cons (.var 3) .nil))) (.cons (.blt "max" (.cons (.var 2) (.cons (.var 3) .nil))) .nil))) .nil)))) .nil)
def M_l_law_parts_C1 : TC.E := (.lcf (.var 5) (.nm 5) (.itr (.var 3)) (.cmp .In (.var 4) (.var 5)))
def M_l_law_parts_C2 : TC.E := (.lcf (.var 7) (.nm 7) (.rng (.var 0)) (.cmp .NotIn (.var 7) (.var 5)))
def M_l_law_parts_C3 : TC.E := (.lc (.call "_law_at" (.cons (.var 0) (.cons (.var 1) (.cons (.var 7) (.cons (.var 9) .nil))))) (.nm 9) (.itr (.var 5)))
def M_l_law_parts_L3 : TC.S := (.cons (.ife (.cmp .In (.var 2) M_l_law_parts_C3) (.cons (.set (.nm 5) (.bin .Add (.var 5) (.lst (.cons (.var 7) .nil)))) .nil) .nil) .nil)
def M_l_law_parts_L2 : TC.S := (.cons (.set (.nm 8) M_l_law_parts_C2) (.cons (.for (.nm 7) (.itr (.var 8)) M_l_law_parts_L3) .nil))
def M_l_law_parts_L1 : TC.S := (.cons (.ife (.bor 3 (.cmp .Eq M_l_law_parts_C1 (.lst .nil))) (.cons (.set (.nm 5) (.lst (.cons (.var 4) .nil))) (.cons (.for (.nm 6) (.rng (.var 0)) M_l_law_parts_L2) (.cons (.app 3 (.blt "tuple" (.cons (.blt "sorted" (.cons (.var 5) .nil)) .nil))) .nil))) .nil) .nil)
def M_l_law_parts : TC.S := (.cons (.own 3 .nil) (.cons (.for (.nm 4) (.rng (.var 0)) M_l_law_parts_L1) (.cons (.frz 3) (.cons (.ret (.blt "sorted" (.cons (.var 3) .nil))) .nil))))
def M_l_law_colored_Y1 : TC.S := (.cons (.ife (.cmp .Eq (.var 0) (.int 0)) (.cons (.ret (.call "color_of" (.cons (.var 1) (.cons (.var 2) (.cons (.var 3) (.cons (.var 4) .nil)))))) .nil) .nil) (.cons (.ret (.ife (.cmp .Eq (.var 0) (.int 1)) (.call "parts" (.cons (.var 1) (.cons (.var 2) (.cons (.var 3) .nil)))) (.call "merged" (.cons (.var 1) (.cons (.var 2) (.cons (.var 3) (.cons (.var 4) .nil))))))) .nil))
def M_l_law_colored (XS : List Str) : TC.S := (.cons (.try 5 XS M_l_law_colored_Y1 [ ⟨"InvalidPoint", "InvalidColor", "point", "other"⟩ , ⟨"InvalidColor", "InvalidPoint", "color", "other"⟩ ]) .nil)
def M_f_check_tame : TC.S := (.cons (.ex (.call "check_coloring" (.cons (.var 0) (.cons (.var 1) .nil)))) (.cons (.ife (.cmp .IsNot (.call "first_triangle" (.cons (.var 0) (.cons (.var 1) .nil))) .non) (.cons (.rai "NotTame") .nil) .nil) .nil))
def M_f_triangle : TC.S := (.cons (.ex (.call "check_coloring" (.cons (.var 0) (.cons (.var 1) .nil)))) (.cons (.set (.nm 2) (.call "first_triangle" (.cons (.var 0) (.cons (.var 1) .nil)))) (.cons (.ife (.cmp .Is (.var 2) .non) (.cons (.rai "Tame") .nil) .nil) (.cons (.ret (.var 2)) .nil))))
def M_f_is_triangle_C1 : TC.E := (.lcf (.var 3) (.nm 3) (.itr (.var 2)) (.not (.call "in_range" (.cons (.var 3) (.cons (.int 0) (.cons (.bin .Sub (.var 0) (.int 1)) .nil))))))
def M_f_is_triangle : TC.S := (.cons (.ex (.call "check_coloring" (.cons (.var 0) (.cons (.var 1) .nil)))) (.cons (.ife (.or (.not (.isi (.var 2) "tuple")) (.one (.cmp .NotEq (.blt "len" (.cons (.var 2) .nil)) (.int 3)))) (.cons (.ret (.bl false)) .nil) .nil) (.cons (.ife M_f_is_triangle_C1 (.cons (.ret (.bl false)) .nil) .nil) (.cons (.set (.tp (.cn (.nm 4) (.cn (.nm 5) (.cn (.nm 6) .nl)))) (.var 2)) (.cons (.ife (.not (.chain .Lt .Lt (.var 4) (.var 5) (.var 6))) (.cons (.ret (.bl false)) .nil) .nil) (.cons (.set (.nm 7) (.call "table_of" (.cons (.var 0) (.cons (.var 1) .nil)))) (.cons (.ret (.cmp .Eq (.lens (.lst (.cons (.sub (.var 7) (.tup (.cons (.var 4) (.cons (.var 5) .nil)))) (.cons (.sub (.var 7) (.tup (.cons (.var 4) (.cons (.var 6) .nil)))) (.cons (.sub (.var 7) (.tup (.cons (.var 5) (.cons (.var 6) .nil)))) .nil))))) (.int 3))) .nil)))))))
def M_f_parts_without_C1 : TC.E := (.lc (.ife (.cmp .In (.var 3) (.var 2)) (.neg (.int 1)) (.int 0)) (.nm 3) (.itr (.var 1)))
def M_f_parts_without : TC.S := (.cons (.ret (.call "parts_of" (.cons (.var 0) (.cons (.blt "tuple" (.cons M_f_parts_without_C1 .nil)) (.cons (.int 0) .nil))))) .nil)
def M_f_divided_L2 : TC.S := (.cons (.set (.nm 7) (.call "parts_without" (.cons (.var 0) (.cons (.var 1) (.cons (.tup (.cons (.var 5) (.cons (.var 6) .nil))) .nil))))) (.cons (.ife (.cmp .Gt (.blt "len" (.cons (.var 7) .nil)) (.int 1)) (.cons (.app 3 (.tup (.cons (.blt "len" (.cons (.var 7) .nil)) (.cons (.var 7) .nil)))) .nil) .nil) .nil))
def M_f_divided_L1 : TC.S := (.cons (.for (.nm 6) (.itr (.slcL (.var 2) (.var 4))) M_f_divided_L2) .nil)
def M_f_divided : TC.S := (.cons (.set (.nm 2) (.srts (.var 1))) (.cons (.own 3 .nil) (.cons (.for (.tp (.cn (.nm 4) (.cn (.nm 5) .nl))) (.enu (.var 2)) M_f_divided_L1) (.cons (.frz 3) (.cons (.ret (.sub (.blt "min" (.cons (.var 3) .nil)) (.int 1))) .nil)))))
def M_f_restricted_to_C1 : TC.E := (.lc (.sub (.var 3) (.tup (.cons (.var 6) (.cons (.var 7) .nil)))) (.nm 7) (.itr (.slcL (.var 2) (.bin .Add (.var 5) (.int 1)))))
def M_f_restricted_to_L1 : TC.S := (.cons (.ext 4 M_f_restricted_to_C1) .nil)
def M_f_restricted_to : TC.S := (.cons (.set (.nm 3) (.call "table_of" (.cons (.var 0) (.cons (.var 1) .nil)))) (.cons (.own 4 .nil) (.cons (.for (.tp (.cn (.nm 5) (.cn (.nm 6) .nl))) (.enu (.var 2)) M_f_restricted_to_L1) (.cons (.frz 4) (.cons (.ret (.blt "tuple" (.cons (.var 4) .nil))) .nil)))))
def M_f_division : TC.S := (.cons (.ex (.call "check_tame" (.cons (.var 0) (.cons (.var 1) .nil)))) (.cons (.ife (.cmp .Eq (.var 0) (.int 1)) (.cons (.rai "OnePoint") .nil) .nil) (.cons (.ret (.call "divided" (.cons (.var 0) (.cons (.var 1) .nil)))) .nil)))
def M_f_tree_of_C2 : TC.E := (.lc (.sub (.var 2) (.var 5)) (.nm 5) (.itr (.var 4)))
def M_f_tree_of_C1 : TC.E := (.lc (.call "tree_of" (.cons (.var 0) (.cons (.var 1) (.cons (.blt "tuple" (.cons M_f_tree_of_C2 .nil)) .nil)))) (.nm 4) (.itr (.var 3)))
def M_f_tree_of : TC.S := (.cons (.ife (.cmp .Eq (.blt "len" (.cons (.var 2) .nil)) (.int 1)) (.cons (.ret (.sub (.var 2) (.int 0))) .nil) .nil) (.cons (.set (.nm 3) (.call "divided" (.cons (.blt "len" (.cons (.var 2) .nil)) (.cons (.call "restricted_to" (.cons (.var 0) (.cons (.var 1) (.cons (.var 2) .nil)))) .nil)))) (.cons (.ret (.blt "tuple" (.cons M_f_tree_of_C1 .nil))) .nil)))
def M_f_tree : TC.S := (.cons (.ex (.call "check_tame" (.cons (.var 0) (.cons (.var 1) .nil)))) (.cons (.ret (.call "tree_of" (.cons (.var 0) (.cons (.var 1) (.cons (.tpr (.rng (.var 0))) .nil))))) .nil))
def M_l_law_triangles_C1 : TC.E := (.lc (.call "_law_at" (.cons (.var 0) (.cons (.var 1) (.cons (.var 6) (.cons (.var 7) .nil))))) (.tp (.cn (.nm 6) (.cn (.nm 7) .nl))) (.itr (.lst (.cons (.tup (.cons (.var 3) (.cons (.var 4) .nil))) (.cons (.tup (.cons (.var 3) (.cons (.var 5) .nil))) (.cons (.tup (.cons (.var 4) (.cons (.var 5) .nil))) .nil))))))
def M_l_law_triangles_L2 : TC.S := (.cons (.set (.nm 8) M_l_law_triangles_C1) (.cons (.set (.nm 2) (.bin .Add (.var 2) (.bin .Mult (.lst (.cons (.tup (.cons (.var 3) (.cons (.var 4) (.cons (.var 5) .nil)))) .nil)) (.blt "int" (.cons (.cmp .Eq (.blt "len" (.cons (.srts (.var 8)) .nil)) (.int 3)) .nil))))) .nil))
def M_l_law_triangles_L1 : TC.S := (.cons (.for (.nm 5) (.rng2 (.bin .Add (.var 4) (.int 1)) (.var 0)) M_l_law_triangles_L2) .nil)
def M_l_law_triangles : TC.S := (.cons (.set (.nm 2) (.lst .nil)) (.cons (.for (.tp (.cn (.nm 3) (.cn (.nm 4) .nl))) (.itr (.call "_law_pairs" (.cons (.var 0) .nil))) M_l_law_triangles_L1) (.cons (.ret (.var 2)) .nil)))
def M_l_law_leaves_L1 : TC.S := (.cons (.set (.nm 3) (.call "_law_leaves" (.cons (.var 2) .nil))) (.cons (.ife (.cmp .Is (.var 3) .non) (.cons (.ret .non) .nil) .nil) (.cons (.set (.nm 1) (.bin .Add (.var 1) (.var 3))) .nil)))
def M_l_law_leaves : TC.S := (.cons (.ife (.and (.isi (.var 0) "int") (.one (.not (.isi (.var 0) "bool")))) (.cons (.ret (.lst (.cons (.var 0) .nil))) .nil) .nil) (.cons (.ife (.or (.not (.isi (.var 0) "tuple")) (.one (.cmp .Lt (.blt "len" (.cons (.var 0) .nil)) (.int 2)))) (.cons (.ret .non) .nil) .nil) (.cons (.set (.nm 1) (.lst .nil)) (.cons (.for (.nm 2) (.itr (.var 0)) M_l_law_leaves_L1) (.cons (.ret (.var 1)) .nil)))))
def M_l_law_fits_C1 : TC.E := (.lc (.call "_law_at" (.cons (.var 0) (.cons (.var 1) (.cons (.var 7) (.cons (.var 8) .nil))))) (.nm 8) (.itr (.var 5)))
def M_l_law_fits_L3 : TC.S := (.cons (.set (.nm 6) (.bin .Add (.var 6) M_l_law_fits_C1)) .nil)
def M_l_law_fits_L2 : TC.S := (.cons (.set (.nm 6) (.lst .nil)) (.cons (.for (.nm 7) (.itr (.sub (.var 2) (.var 4))) M_l_law_fits_L3) (.cons (.ife (.cmp .NotEq (.blt "len" (.cons (.srts (.var 6)) .nil)) (.int 1)) (.cons (.ret (.bl false)) .nil) .nil) (.cons (.app 3 (.sub (.var 6) (.int 0))) .nil))))
def M_l_law_fits_L1 : TC.S := (.cons (.for (.nm 5) (.itr (.slcL (.var 2) (.bin .Add (.var 4) (.int 1)))) M_l_law_fits_L2) .nil)
def M_l_law_fits : TC.S := (.cons (.own 3 .nil) (.cons (.for (.nm 4) (.rng (.blt "len" (.cons (.var 2) .nil))) M_l_law_fits_L1) (.cons (.frz 3) (.cons (.ret (.cmp .Lt (.blt "len" (.cons (.srts (.var 3)) .nil)) (.int 3))) .nil))))
def M_l_law_is_tree_C1 : TC.E := (.lc (.call "_law_leaves" (.cons (.var 3) .nil)) (.nm 3) (.itr (.var 2)))
def M_l_law_is_tree_L1 : TC.S := (.cons (.ife (.not (.call "_law_is_tree" (.cons (.var 0) (.cons (.var 1) (.cons (.var 3) .nil))))) (.cons (.ret (.bl false)) .nil) .nil) .nil)
def M_l_law_is_tree : TC.S := (.cons (.ife (.not (.isi (.var 2) "tuple")) (.cons (.ret (.bl true)) .nil) .nil) (.cons (.ife (.not (.call "_law_fits" (.cons (.var 0) (.cons (.var 1) (.cons M_l_law_is_tree_C1 .nil))))) (.cons (.ret (.bl false)) .nil) .nil) (.cons (.for (.nm 3) (.itr (.var 2)) M_l_law_is_tree_L1) (.cons (.ret (.bl true)) .nil))))
def M_l_law_found_Y1 : TC.S := (.cons (.ife (.cmp .Eq (.var 0) (.int 0)) (.cons (.ret (.call "triangle" (.cons (.var 1) (.cons (.var 2) .nil)))) .nil) .nil) (.cons (.ret (.ife (.cmp .Eq (.var 0) (.int 1)) (.call "tree" (.cons (.var 1) (.cons (.var 2) .nil))) (.call "division" (.cons (.var 1) (.cons (.var 2) .nil))))) .nil))
def M_l_law_found (XS : List Str) : TC.S := (.cons (.try 3 XS M_l_law_found_Y1 [ ⟨"Tame", "NotTame", "tame", "other"⟩ , ⟨"NotTame", "Tame", "not", "other"⟩ , ⟨"OnePoint", "NotTame", "one", "other"⟩ ]) .nil)
def M_l_law_is_division_C1 : TC.E := (.lcf (.var 5) (.nm 5) (.itr (.var 4)) (.not (.call "_law_in" (.cons (.var 5) (.cons (.int 0) (.cons (.bin .Sub (.var 0) (.int 1)) .nil))))))
def M_l_law_is_division_L1 : TC.S := (.cons (.ife (.or (.not (.isi (.var 4) "tuple")) (.one (.cmp .Eq (.var 4) (.tup .nil)))) (.cons (.ret (.bl false)) .nil) .nil) (.cons (.ife (.or (.cmp .NotEq M_l_law_is_division_C1 (.lst .nil)) (.one (.cmp .NotEq (.blt "list" (.cons (.var 4) .nil)) (.srts (.var 4))))) (.cons (.ret (.bl false)) .nil) .nil) (.cons (.set (.nm 3) (.bin .Add (.var 3) (.blt "list" (.cons (.var 4) .nil)))) .nil)))
def M_l_law_is_division : TC.S := (.cons (.ife (.or (.not (.isi (.var 2) "list")) (.one (.cmp .Lt (.blt "len" (.cons (.var 2) .nil)) (.int 2)))) (.cons (.ret (.bl false)) .nil) .nil) (.cons (.set (.nm 3) (.lst .nil)) (.cons (.for (.nm 4) (.itr (.var 2)) M_l_law_is_division_L1) (.cons (.ife (.or (.cmp .NotEq (.var 2) (.blt "sorted" (.cons (.var 2) .nil))) (.one (.cmp .NotEq (.blt "sorted" (.cons (.var 3) .nil)) (.lsr (.rng (.var 0)))))) (.cons (.ret (.bl false)) .nil) .nil) (.cons (.ret (.call "_law_fits" (.cons (.var 0) (.cons (.var 1) (.cons (.var 2) .nil))))) .nil)))))
def M_f_restricted_C1 : TC.E := (.lcf (.var 3) (.nm 3) (.itr (.var 2)) (.not (.call "in_range" (.cons (.var 3) (.cons (.int 0) (.cons (.bin .Sub (.var 0) (.int 1)) .nil))))))
def M_f_restricted_C2 : TC.E := (.lcf (.int 1) (.tp (.cn (.nm 3) (.cn (.nm 4) .nl))) (.zip (.var 2) (.slcL (.var 2) (.int 1))) (.cmp .GtE (.var 3) (.var 4)))
def M_f_restricted : TC.S := (.cons (.ex (.call "check_coloring" (.cons (.var 0) (.cons (.var 1) .nil)))) (.cons (.ife (.or (.not (.isi (.var 2) "tuple")) (.or (.not (.var 2)) (.one M_f_restricted_C1))) (.cons (.rai "InvalidPoint") .nil) .nil) (.cons (.ife M_f_restricted_C2 (.cons (.rai "InvalidPoint") .nil) .nil) (.cons (.ret (.call "restricted_to" (.cons (.var 0) (.cons (.var 1) (.cons (.var 2) .nil))))) .nil))))
def M_f_put_in_C1 : TC.E := (.lc (.tup (.cons (.var 6) (.cons (.var 7) .nil))) (.nm 7) (.rng (.ife (.cmp .Eq (.var 6) (.var 2)) (.var 3) (.int 1))))
def M_f_put_in_L1 : TC.S := (.cons (.ext 5 M_f_put_in_C1) .nil)
def M_f_put_in_L2 : TC.S := (.cons (.par 12 13 (.subO 5 (.var 6)) (.subO 5 (.var 11))) (.cons (.ife (.cmp .Eq (.sub (.var 12) (.int 0)) (.sub (.var 13) (.int 0))) (.cons (.app 10 (.sub (.var 9) (.tup (.cons (.sub (.var 12) (.int 1)) (.cons (.sub (.var 13) (.int 1)) .nil))))) .nil) (.cons (.app 10 (.sub (.var 8) (.tup (.cons (.sub (.var 12) (.int 0)) (.cons (.sub (.var 13) (.int 0)) .nil))))) .nil)) .nil))
def M_f_put_in : TC.S := (.cons (.ex (.call "check_coloring" (.cons (.var 0) (.cons (.var 1) .nil)))) (.cons (.ife (.not (.call "in_range" (.cons (.var 2) (.cons (.int 0) (.cons (.bin .Sub (.var 0) (.int 1)) .nil))))) (.cons (.rai "InvalidPoint") .nil) .nil) (.cons (.ex (.call "check_coloring" (.cons (.var 3) (.cons (.var 4) .nil)))) (.cons (.ife (.cmp .Gt (.bin .Add (.bin .Sub (.var 0) (.int 1)) (.var 3)) (.glo "MAX_POINTS" (.int 7))) (.cons (.rai "InvalidNumber") .nil) .nil) (.cons (.own 5 .nil) (.cons (.for (.nm 6) (.rng (.var 0)) M_f_put_in_L1) (.cons (.par 8 9 (.call "table_of" (.cons (.var 0) (.cons (.var 1) .nil))) (.call "table_of" (.cons (.var 3) (.cons (.var 4) .nil)))) (.cons (.own 10 .nil) (.cons (.for (.tp (.cn (.nm 6) (.cn (.nm 11) .nl))) (.itr (.call "pairs_of" (.cons (.lenO 5) .nil))) M_f_put_in_L2) (.cons (.frz 10) (.cons (.ret (.blt "tuple" (.cons (.var 10) .nil))) .nil)))))))))))
def M_l_law_made_Y1 : TC.S := (.cons (.ret (.ife (.cmp .Eq (.var 0) (.int 0)) (.call "restricted" (.cons (.var 1) (.cons (.var 2) (.cons (.var 3) .nil)))) (.call "put_in" (.cons (.var 1) (.cons (.var 2) (.cons (.var 3) (.cons (.var 4) (.cons (.var 5) .nil)))))))) .nil)
def M_l_law_made (XS : List Str) : TC.S := (.cons (.try 6 XS M_l_law_made_Y1 [ ⟨"InvalidPoint", "InvalidColoring", "point", "other"⟩ , ⟨"InvalidNumber", "InvalidColoring", "number", "other"⟩ , ⟨"InvalidColoring", "InvalidNumber", "coloring", "other"⟩ ]) .nil)
def M_l_law_put_C1 : TC.E := (.lc (.tup (.cons (.var 6) (.cons (.var 7) .nil))) (.nm 7) (.rng (.ife (.cmp .Eq (.var 6) (.var 2)) (.var 3) (.int 1))))
def M_l_law_put_L1 : TC.S := (.cons (.set (.nm 5) (.bin .Add (.var 5) M_l_law_put_C1)) .nil)
def M_l_law_put_L2 : TC.S := (.cons (.par 10 11 (.sub (.var 5) (.var 6)) (.sub (.var 5) (.var 9))) (.cons (.ife (.cmp .Eq (.sub (.var 10) (.int 0)) (.sub (.var 11) (.int 0))) (.cons (.app 8 (.call "_law_at" (.cons (.var 3) (.cons (.var 4) (.cons (.sub (.var 10) (.int 1)) (.cons (.sub (.var 11) (.int 1)) .nil)))))) .nil) (.cons (.app 8 (.call "_law_at" (.cons (.var 0) (.cons (.var 1) (.cons (.sub (.var 10) (.int 0)) (.cons (.sub (.var 11) (.int 0)) .nil)))))) .nil)) .nil))
def M_l_law_put : TC.S := (.cons (.set (.nm 5) (.lst .nil)) (.cons (.for (.nm 6) (.rng (.var 0)) M_l_law_put_L1) (.cons (.own 8 .nil) (.cons (.for (.tp (.cn (.nm 6) (.cn (.nm 9) .nl))) (.itr (.call "_law_pairs" (.cons (.blt "len" (.cons (.var 5) .nil)) .nil))) M_l_law_put_L2) (.cons (.frz 8) (.cons (.ret (.blt "tuple" (.cons (.var 8) .nil))) .nil))))))
def M_f_check_small : TC.S := (.cons (.ife (.or (.not (.call "in_range" (.cons (.var 0) (.cons (.int 1) (.cons (.int 4) .nil))))) (.one (.not (.call "in_range" (.cons (.var 1) (.cons (.int 1) (.cons (.int 3) .nil))))))) (.cons (.rai "InvalidNumber") .nil) .nil) .nil)
def M_f_every_tame_C1 : TC.E := (.lc (.bin .Add (.var 5) (.tup (.cons (.var 6) .nil))) (.nm 6) (.rng (.var 1)))
def M_f_every_tame_L2 : TC.S := (.cons (.ext 4 M_f_every_tame_C1) .nil)
def M_f_every_tame_L1 : TC.S := (.cons (.own 4 .nil) (.cons (.for (.nm 5) (.itr (.var 2)) M_f_every_tame_L2) (.cons (.frz 4) (.cons (.set (.nm 2) (.var 4)) .nil))))
def M_f_every_tame_C2 : TC.E := (.lcf (.var 5) (.nm 5) (.itr (.var 2)) (.cmp .Is (.call "first_triangle" (.cons (.var 0) (.cons (.var 5) .nil))) .non))
def M_f_every_tame : TC.S := (.cons (.set (.nm 2) (.lst (.cons (.tup .nil) .nil))) (.cons (.for (.nm 3) (.itr (.call "pairs_of" (.cons (.var 0) .nil))) M_f_every_tame_L1) (.cons (.ret M_f_every_tame_C2) .nil)))
def M_f_all_tame : TC.S := (.cons (.ex (.call "check_small" (.cons (.var 0) (.cons (.var 1) .nil)))) (.cons (.ret (.call "every_tame" (.cons (.var 0) (.cons (.var 1) .nil)))) .nil))
def M_l_law_small_Y1 : TC.S := (.cons (.ret (.call "all_tame" (.cons (.var 0) (.cons (.var 1) .nil)))) .nil)
def M_l_law_small (XS : List Str) : TC.S := (.cons (.try 2 XS M_l_law_small_Y1 [ ⟨"InvalidNumber", "InvalidColor", "number", "other"⟩ ]) .nil)
def M_f_count_unlike_C1 : TC.E := (.lcf (.int 1) (.tp (.cn (.nm 2) (.cn (.nm 3) .nl))) (.zip (.var 0) (.var 1)) (.cmp .NotEq (.var 2) (.var 3)))
def M_f_count_unlike : TC.S := (.cons (.ret (.blt "len" (.cons M_f_count_unlike_C1 .nil))) .nil)
def M_f_nearest_tame_W1 : TC.E := (.bl true)
def M_f_nearest_tame_C1 : TC.E := (.lcf (.var 4) (.nm 4) (.itr (.var 3)) (.cmp .Is (.call "first_triangle" (.cons (.var 0) (.cons (.var 4) .nil))) .non))
def M_f_nearest_tame_L4 : TC.S := (.cons (.put 6 (.bin .Add (.bin .Add (.slcH (.var 4) (.var 7)) (.tup (.cons (.var 9) .nil))) (.slcL (.var 4) (.bin .Add (.var 7) (.int 1)))) (.bl true)) .nil)
def M_f_nearest_tame_L3 : TC.S := (.cons (.ife (.cmp .Eq (.var 8) (.sub (.var 1) (.var 7))) (.cons (.for (.nm 9) (.itr (.var 2)) M_f_nearest_tame_L4) .nil) .nil) .nil)
def M_f_nearest_tame_L2 : TC.S := (.cons (.for (.tp (.cn (.nm 7) (.cn (.nm 8) .nl))) (.enu (.var 4)) M_f_nearest_tame_L3) .nil)
def M_f_nearest_tame_C2 : TC.E := (.lcf (.var 4) (.nm 4) (.itr (.var 6)) (.cmp .Gt (.call "count_unlike" (.cons (.var 4) (.cons (.var 1) .nil))) (.call "count_unlike" (.cons (.sub (.var 3) (.int 0)) (.cons (.var 1) .nil)))))
def M_f_nearest_tame_L1 : TC.S := (.cons (.set (.nm 5) M_f_nearest_tame_C1) (.cons (.ife (.var 5) (.cons (.ret (.blt "min" (.cons (.var 5) .nil))) .nil) .nil) (.cons (.tab 6) (.cons (.for (.nm 4) (.itr (.var 3)) M_f_nearest_tame_L2) (.cons (.frz 6) (.cons (.set (.nm 3) M_f_nearest_tame_C2) .nil))))))
def M_f_nearest_tame : TC.S := (.cons (.ex (.call "check_coloring" (.cons (.var 0) (.cons (.var 1) .nil)))) (.cons (.ife (.cmp .Gt (.var 0) (.int 5)) (.cons (.rai "InvalidNumber") .nil) .nil) (.cons (.set (.nm 2) (.srts (.var 1))) (.cons (.set (.nm 3) (.lst (.cons (.var 1) .nil))) (.cons (.whl 2000 M_f_nearest_tame_W1 M_f_nearest_tame_L1) .nil)))))
def M_l_law_neared_Y1 : TC.S := (.cons (.ret (.call "nearest_tame" (.cons (.var 0) (.cons (.var 1) .nil)))) .nil)
def M_l_law_neared (XS : List Str) : TC.S := (.cons (.try 2 XS M_l_law_neared_Y1 [ ⟨"InvalidNumber", "InvalidColoring", "number", "other"⟩ ]) .nil)
def M_f_check_same_C1 : TC.E := (.lcf (.var 3) (.nm 3) (.itr (.bin .Add (.var 1) (.var 2))) (.cmp .Gt (.var 3) (.int 2)))
def M_f_check_same : TC.S := (.cons (.ex (.call "check_tame" (.cons (.var 0) (.cons (.var 1) .nil)))) (.cons (.ex (.call "check_tame" (.cons (.var 0) (.cons (.var 2) .nil)))) (.cons (.ife (.cmp .Gt (.var 0) (.int 4)) (.cons (.rai "InvalidNumber") .nil) .nil) (.cons (.ife M_f_check_same_C1 (.cons (.rai "InvalidColoring") .nil) .nil) .nil))))
def M_l_law_road_Y1 : TC.S := (.cons (.ret (.call "road" (.cons (.var 0) (.cons (.var 1) (.cons (.var 2) .nil))))) .nil)
def M_l_law_road (XS : List Str) : TC.S := (.cons (.try 3 XS M_l_law_road_Y1 [ ⟨"InvalidNumber", "InvalidColoring", "number", "other"⟩ , ⟨"InvalidColoring", "NotTame", "coloring", "other"⟩ , ⟨"NotTame", "InvalidColoring", "not", "other"⟩ ]) .nil)
def M_f_check_answers_L1 : TC.S := (.cons (.ife (.or (.not (.isi (.var 3) "tuple")) (.or (.cmp .NotEq (.blt "len" (.cons (.var 3) .nil)) (.int 2)) (.one (.not (.call "in_range" (.cons (.sub (.var 3) (.int 1)) (.cons (.int 0) (.cons (.bin .Sub (.var 1) (.int 1)) .nil)))))))) (.cons (.rai "InvalidAnswers") .nil) .nil) (.cons (.ife (.not (.call "in_range" (.cons (.sub (.var 3) (.int 0)) (.cons (.int 0) (.cons (.bin .Sub (.blt "len" (.cons (.call "pairs_of" (.cons (.var 0) .nil)) .nil)) (.int 1)) .nil))))) (.cons (.rai "InvalidAnswers") .nil) .nil) .nil))
def M_f_check_answers : TC.S := (.cons (.ex (.call "check_small" (.cons (.var 0) (.cons (.var 1) .nil)))) (.cons (.ife (.not (.isi (.var 2) "tuple")) (.cons (.rai "InvalidAnswers") .nil) .nil) (.cons (.for (.nm 3) (.itr (.var 2)) M_f_check_answers_L1) .nil)))
def M_f_candidates_C2 : TC.E := (.lcf (.var 4) (.tp (.cn (.nm 4) (.cn (.nm 5) .nl))) (.itr (.var 2)) (.cmp .NotEq (.sub (.var 3) (.var 4)) (.var 5)))
def M_f_candidates_C1 : TC.E := (.lcf (.var 3) (.nm 3) (.itr (.call "every_tame" (.cons (.var 0) (.cons (.var 1) .nil)))) (.not M_f_candidates_C2))
def M_f_candidates : TC.S := (.cons (.ex (.call "check_answers" (.cons (.var 0) (.cons (.var 1) (.cons (.var 2) .nil))))) (.cons (.ret M_f_candidates_C1) .nil))
def M_f_best_pair_C1 : TC.E := (.lc (.sub (.var 6) (.var 5)) (.nm 6) (.itr (.var 3)))
def M_f_best_pair_C2 : TC.E := (.lc (.mth "count" (.var 7) (.cons (.var 8) .nil)) (.nm 8) (.rng (.var 1)))
def M_f_best_pair_L1 : TC.S := (.cons (.set (.nm 7) M_f_best_pair_C1) (.cons (.set (.nm 9) (.blt "max" (.cons M_f_best_pair_C2 .nil))) (.cons (.ife (.and (.cmp .Lt (.var 9) (.blt "len" (.cons (.var 3) .nil))) (.one (.or (.cmp .Is (.var 4) .non) (.one (.cmp .Lt (.var 9) (.sub (.var 4) (.int 0))))))) (.cons (.set (.nm 4) (.tup (.cons (.var 9) (.cons (.var 5) .nil)))) .nil) .nil) .nil)))
def M_f_best_pair : TC.S := (.cons (.set (.nm 3) (.call "candidates" (.cons (.var 0) (.cons (.var 1) (.cons (.var 2) .nil))))) (.cons (.ife (.not (.var 3)) (.cons (.rai "InvalidAnswers") .nil) .nil) (.cons (.set (.nm 4) .non) (.cons (.for (.nm 5) (.rng (.blt "len" (.cons (.sub (.var 3) (.int 0)) .nil))) M_f_best_pair_L1) (.cons (.ret (.ife (.cmp .Is (.var 4) .non) .non (.sub (.var 4) (.int 1)))) .nil)))))
def M_l_law_hidden_Y1 : TC.S := (.cons (.ret (.ife (.cmp .Eq (.var 0) (.int 0)) (.call "candidates" (.cons (.var 1) (.cons (.var 2) (.cons (.var 3) .nil)))) (.call "best_pair" (.cons (.var 1) (.cons (.var 2) (.cons (.var 3) .nil)))))) .nil)
def M_l_law_hidden (XS : List Str) : TC.S := (.cons (.try 4 XS M_l_law_hidden_Y1 [ ⟨"InvalidNumber", "InvalidAnswers", "number", "other"⟩ , ⟨"InvalidAnswers", "InvalidNumber", "answers", "other"⟩ ]) .nil)
def M_l_wall_W1 : TC.E := (.bl true)
def M_l_wall_L1 : TC.S := (.cons .pass .nil)
def M_l_wall : TC.S := (.cons (.whl 2000 M_l_wall_W1 M_l_wall_L1) .nil)
def M_f_between_parts_L2 : TC.S := (.cons (.app 5 (.tup (.cons (.var 6) (.cons (.var 8) (.cons (.sub (.var 3) (.tup (.cons (.sub (.var 7) (.int 0)) (.cons (.sub (.sub (.var 4) (.var 8)) (.int 0)) .nil)))) .nil))))) .nil)
def M_f_between_parts_L1 : TC.S := (.cons (.for (.nm 8) (.rng2 (.bin .Add (.var 6) (.int 1)) (.blt "len" (.cons (.var 4) .nil))) M_f_between_parts_L2) .nil)
def M_f_between_parts : TC.S := (.cons (.ex (.call "check_tame" (.cons (.var 0) (.cons (.var 1) .nil)))) (.cons (.ex (.call "check_color" (.cons (.var 2) .nil))) (.cons (.set (.nm 3) (.call "table_of" (.cons (.var 0) (.cons (.var 1) .nil)))) (.cons (.set (.nm 4) (.call "parts_of" (.cons (.var 0) (.cons (.var 1) (.cons (.var 2) .nil))))) (.cons (.own 5 .nil) (.cons (.for (.tp (.cn (.nm 6) (.cn (.nm 7) .nl))) (.enu (.var 4)) M_f_between_parts_L1) (.cons (.frz 5) (.cons (.ret (.var 5)) .nil))))))))
def M_f_are_colors_C1 : TC.E := (.lcf (.var 1) (.nm 1) (.itr (.var 0)) (.not (.call "in_range" (.cons (.var 1) (.cons (.int 0) (.cons (.glo "MAX_COLOR" (.int 5)) .nil))))))
def M_f_are_colors_C2 : TC.E := (.lcf (.int 1) (.tp (.cn (.nm 1) (.cn (.nm 2) .nl))) (.zip (.var 0) (.slcL (.var 0) (.int 1))) (.cmp .GtE (.var 1) (.var 2)))
def M_f_are_colors : TC.S := (.cons (.ife (.or (.not (.isi (.var 0) "tuple")) (.or (.not (.var 0)) (.one M_f_are_colors_C1))) (.cons (.ret (.bl false)) .nil) .nil) (.cons (.ret (.not M_f_are_colors_C2)) .nil))
def M_f_largest_with : TC.S := (.cons (.ex (.call "check_coloring" (.cons (.var 0) (.cons (.var 1) .nil)))) (.cons (.ife (.not (.call "are_colors" (.cons (.var 2) .nil))) (.cons (.rai "InvalidColor") .nil) .nil) (.cons (.set (.nm 3) (.lst (.cons (.tup .nil) .nil))) (.cons (.ex (.call "extend" (.cons (.var 0) (.cons (.call "table_of" (.cons (.var 0) (.cons (.var 1) .nil))) (.cons (.var 2) (.cons (.tup .nil) (.cons (.var 3) .nil))))))) (.cons (.ret (.sub (.var 3) (.int 0))) .nil)))))
def M_f_arrangements_C1 : TC.E := (.lcf (.bin .Add (.var 4) (.tup (.cons (.var 5) .nil))) (.nm 5) (.rng (.var 0)) (.cmp .NotIn (.var 5) (.var 4)))
def M_f_arrangements_L2 : TC.S := (.cons (.ext 3 M_f_arrangements_C1) .nil)
def M_f_arrangements_L1 : TC.S := (.cons (.own 3 .nil) (.cons (.for (.nm 4) (.itr (.var 1)) M_f_arrangements_L2) (.cons (.frz 3) (.cons (.set (.nm 1) (.var 3)) .nil))))
def M_f_arrangements : TC.S := (.cons (.set (.nm 1) (.lst (.cons (.tup .nil) .nil))) (.cons (.for (.nm 2) (.rng (.var 0)) M_f_arrangements_L1) (.cons (.ret (.var 1)) .nil)))
def M_f_same_shape_C1 : TC.E := (.lc (.mth "index" (.var 0) (.cons (.var 2) .nil)) (.nm 2) (.itr (.var 0)))
def M_f_same_shape_C2 : TC.E := (.lc (.mth "index" (.var 1) (.cons (.var 2) .nil)) (.nm 2) (.itr (.var 1)))
def M_f_same_shape : TC.S := (.cons (.ret (.cmp .Eq M_f_same_shape_C1 M_f_same_shape_C2)) .nil)
def M_f_are_alike_C1 : TC.E := (.lc (.sub (.var 3) (.tup (.cons (.sub (.var 4) (.var 5)) (.cons (.sub (.var 4) (.var 6)) .nil)))) (.tp (.cn (.nm 5) (.cn (.nm 6) .nl))) (.itr (.call "pairs_of" (.cons (.var 0) .nil))))
def M_f_are_alike_L1 : TC.S := (.cons (.ife (.call "same_shape" (.cons (.var 1) (.cons (.blt "tuple" (.cons M_f_are_alike_C1 .nil)) .nil))) (.cons (.ret (.bl true)) .nil) .nil) .nil)
def M_f_are_alike : TC.S := (.cons (.ex (.call "check_coloring" (.cons (.var 0) (.cons (.var 1) .nil)))) (.cons (.ex (.call "check_coloring" (.cons (.var 0) (.cons (.var 2) .nil)))) (.cons (.ife (.cmp .Gt (.var 0) (.int 5)) (.cons (.rai "InvalidNumber") .nil) .nil) (.cons (.set (.nm 3) (.call "table_of" (.cons (.var 0) (.cons (.var 2) .nil)))) (.cons (.for (.nm 4) (.itr (.call "arrangements" (.cons (.var 0) .nil))) M_f_are_alike_L1) (.cons (.ret (.bl false)) .nil))))))
def M_l_law_parted_Y1 : TC.S := (.cons (.ife (.cmp .Eq (.var 0) (.int 0)) (.cons (.ret (.call "between_parts" (.cons (.var 1) (.cons (.var 2) (.cons (.var 3) .nil))))) .nil) .nil) (.cons (.ret (.ife (.cmp .Eq (.var 0) (.int 1)) (.call "largest_with" (.cons (.var 1) (.cons (.var 2) (.cons (.var 3) .nil)))) (.call "are_alike" (.cons (.var 1) (.cons (.var 2) (.cons (.var 3) .nil)))))) .nil))
def M_l_law_parted (XS : List Str) : TC.S := (.cons (.try 4 XS M_l_law_parted_Y1 [ ⟨"NotTame", "Tame", "not", "other"⟩ , ⟨"InvalidColor", "InvalidColoring", "color", "other"⟩ , ⟨"InvalidNumber", "InvalidColoring", "number", "other"⟩ ]) .nil)
def M_l_law_asked : TC.S := (.cons (.ife (.cmp .Eq (.var 0) (.int 0)) (.cons (.ret (.call "is_coloring" (.cons (.var 1) (.cons (.var 1) .nil)))) .nil) .nil) (.cons (.ife (.cmp .Eq (.var 0) (.int 1)) (.cons (.ret (.call "color_of" (.cons (.var 1) (.cons (.var 1) (.cons (.var 1) (.cons (.var 1) .nil)))))) .nil) .nil) (.cons (.ife (.cmp .Eq (.var 0) (.int 2)) (.cons (.ret (.call "color_of" (.cons (.int 3) (.cons (.var 1) (.cons (.var 1) (.cons (.var 1) .nil)))))) .nil) .nil) (.cons (.ife (.cmp .Eq (.var 0) (.int 3)) (.cons (.ret (.call "parts" (.cons (.int 3) (.cons (.var 1) (.cons (.var 1) .nil))))) .nil) .nil) (.cons (.ife (.cmp .Eq (.var 0) (.int 4)) (.cons (.ret (.call "division" (.cons (.int 3) (.cons (.var 1) .nil)))) .nil) .nil) (.cons (.ife (.cmp .Eq (.var 0) (.int 5)) (.cons (.ret (.call "between_parts" (.cons (.int 3) (.cons (.tup (.cons (.int 0) (.cons (.int 1) (.cons (.int 2) .nil)))) (.cons (.var 1) .nil))))) .nil) .nil) (.cons (.ife (.cmp .Eq (.var 0) (.int 6)) (.cons (.ret (.call "between_parts" (.cons (.int 3) (.cons (.var 1) (.cons (.var 1) .nil))))) .nil) .nil) (.cons (.ife (.cmp .Eq (.var 0) (.int 7)) (.cons (.ret (.call "largest_with" (.cons (.var 1) (.cons (.var 1) (.cons (.var 1) .nil))))) .nil) .nil) (.cons (.ife (.cmp .Eq (.var 0) (.int 8)) (.cons (.ret (.call "are_alike" (.cons (.int 3) (.cons (.var 1) (.cons (.var 1) .nil))))) .nil) .nil) (.cons (.ife (.cmp .Eq (.var 0) (.int 9)) (.cons (.ret (.call "merged" (.cons (.var 1) (.cons (.var 1) (.cons (.var 1) (.cons (.var 1) .nil)))))) .nil) .nil) (.cons (.ife (.cmp .Eq (.var 0) (.int 10)) (.cons (.ret (.call "put_in" (.cons (.int 3) (.cons (.var 1) (.cons (.var 1) (.cons (.var 1) (.cons (.var 1) .nil))))))) .nil) .nil) (.cons (.ret (.call "restricted" (.cons (.int 3) (.cons (.var 1) (.cons (.var 1) .nil))))) .nil))))))))))))
end TC
set_option Elab.async false
set_option linter.all false
set_option maxRecDepth 100000
set_option maxHeartbeats 0
set_option autoImplicit false
namespace LW
open PySem PySem.Spec PyProof.Rows L2 TC
def top (i : Nat) : Stmt := PySem.Challenge.pw_tamecolors_k11_whole_candidates.main.body.getD i (.Pass ⟨0, 0, 0, 0⟩)
abbrev XS : List Str := ["InvalidNumber", "InvalidAnswers"]
def GL : List (Str × D) := []
abbrev b_f_in_range : TC.S := TC.B_f_in_range
abbrev d_f_in_range : Df := ⟨"in_range", ["value", "low", "high"], ["value", "low", "high"], b_f_in_range, defArgs (top 5), defBody (top 5), defScope (top 5)⟩
abbrev b_f_pairs_of : TC.S := TC.B_f_pairs_of
abbrev d_f_pairs_of : Df := ⟨"pairs_of", ["points"], ["points", "one", "other"], b_f_pairs_of, defArgs (top 6), defBody (top 6), defScope (top 6)⟩
abbrev b_f_table_of : TC.S := TC.B_f_table_of
abbrev d_f_table_of : Df := ⟨"table_of", ["points", "coloring"], ["points", "coloring", "result", "one", "other", "color"], b_f_table_of, defArgs (top 7), defBody (top 7), defScope (top 7)⟩
abbrev b_f_first_triangle : TC.S := TC.B_f_first_triangle
abbrev d_f_first_triangle : Df := ⟨"first_triangle", ["points", "coloring"], ["points", "coloring", "table", "one", "other", "last"], b_f_first_triangle, defArgs (top 8), defBody (top 8), defScope (top 8)⟩
abbrev b_f_check_small : TC.S := TC.B_f_check_small
abbrev d_f_check_small : Df := ⟨"check_small", ["points", "colors"], ["points", "colors"], b_f_check_small, defArgs (top 10), defBody (top 10), defScope (top 10)⟩
abbrev b_f_every_tame : TC.S := TC.B_f_every_tame
abbrev d_f_every_tame : Df := ⟨"every_tame", ["points", "colors"], ["points", "colors", "result", "pair", "longer", "one", "color"], b_f_every_tame, defArgs (top 11), defBody (top 11), defScope (top 11)⟩
abbrev b_f_all_tame : TC.S := TC.B_f_all_tame
abbrev d_f_all_tame : Df := ⟨"all_tame", ["points", "colors"], ["points", "colors"], b_f_all_tame, defArgs (top 12), defBody (top 12), defScope (top 12)⟩
abbrev b_f_check_answers : TC.S := TC.B_f_check_answers
abbrev d_f_check_answers : Df := ⟨"check_answers", ["points", "colors", "answers"], ["points", "colors", "answers", "answer"], b_f_check_answers, defArgs (top 13), defBody (top 13), defScope (top 13)⟩
abbrev b_f_candidates : TC.S := TC.B_f_candidates
abbrev d_f_candidates : Df := ⟨"candidates", ["points", "colors", "answers"], ["points", "colors", "answers", "one", "place", "told"], b_f_candidates, defArgs (top 14), defBody (top 14), defScope (top 14)⟩
abbrev b_f_best_pair : TC.S := TC.B_f_best_pair
abbrev d_f_best_pair : Df := ⟨"best_pair", ["points", "colors", "answers"], ["points", "colors", "answers", "found", "best", "place", "one", "here", "color", "worst"], b_f_best_pair, defArgs (top 15), defBody (top 15), defScope (top 15)⟩
abbrev b_l_law_cell : TC.S := TC.B_l_law_cell
abbrev d_l_law_cell : Df := ⟨"_law_cell", ["script", "k"], ["script", "k"], b_l_law_cell, defArgs (top 17), defBody (top 17), defScope (top 17)⟩
abbrev b_l_law_row : TC.S := TC.B_l_law_row
abbrev d_l_law_row : Df := ⟨"_law_row", ["script", "at"], ["script", "at", "cell", "found", "time"], b_l_law_row, defArgs (top 18), defBody (top 18), defScope (top 18)⟩
abbrev b_l_law_hidden : TC.S := TC.B_l_law_hidden XS
abbrev d_l_law_hidden : Df := ⟨"_law_hidden", ["mode", "points", "colors", "answers"], ["mode", "points", "colors", "answers", "e"], b_l_law_hidden, defArgs (top 19), defBody (top 19), defScope (top 19)⟩
def M_law_L1 : TC.S := (.cons (.set (.nm 8) (.bin .Mod (.sub (.var 1) (.bin .Add (.int 3) (.var 7))) (.blt "len" (.cons (.var 5) .nil)))) (.cons (.app 6 (.tup (.cons (.var 8) (.cons (.bin .Mod (.bin .Add (.sub (.var 5) (.var 8)) (.blt "int" (.cons (.cmp .Eq (.bin .Mod (.sub (.var 1) (.bin .Add (.int 10) (.var 7))) (.int 9)) (.int 0)) .nil))) (.var 3)) .nil)))) .nil))
def M_law_C2 : TC.E := (.lcf (.int 1) (.tp (.cn (.nm 8) (.cn (.nm 10) .nl))) (.itr (.var 6)) (.cmp .NotEq (.sub (.var 9) (.var 8)) (.var 10)))
def M_law_C1 : TC.E := (.lcf (.var 9) (.nm 9) (.itr (.var 4)) (.cmp .Eq M_law_C2 (.lst .nil)))
def M_law_C3 : TC.E := (.lc (.sub (.var 9) (.var 8)) (.nm 9) (.itr (.var 11)))
def M_law_C4 : TC.E := (.lc (.mth "count" (.var 16) (.cons (.var 17) .nil)) (.nm 17) (.rng (.var 3)))
def M_law_L2 : TC.S := (.cons (.set (.nm 16) M_law_C3) (.cons (.set (.nm 18) (.blt "max" (.cons M_law_C4 .nil))) (.cons (.ife (.and (.cmp .Lt (.var 18) (.blt "len" (.cons (.var 11) .nil))) (.one (.or (.cmp .Is (.var 15) .non) (.one (.cmp .Lt (.var 18) (.sub (.var 15) (.int 0))))))) (.cons (.set (.nm 15) (.tup (.cons (.var 18) (.cons (.var 8) .nil)))) .nil) .nil) .nil)))
def b_f_law : TC.S := (.cons (.set (.nm 1) (.call "_law_row" (.cons (.var 0) (.cons (.int 4) .nil)))) (.cons (.set (.tp (.cn (.nm 2) (.cn (.nm 3) .nl))) (.sub (.lst (.cons (.tup (.cons (.int 1) (.cons (.int 1) .nil))) (.cons (.tup (.cons (.int 2) (.cons (.int 3) .nil))) (.cons (.tup (.cons (.int 3) (.cons (.int 2) .nil))) (.cons (.tup (.cons (.int 3) (.cons (.int 3) .nil))) (.cons (.tup (.cons (.int 4) (.cons (.int 1) .nil))) (.cons (.tup (.cons (.int 4) (.cons (.int 2) .nil))) (.cons (.tup (.cons (.int 3) (.cons (.int 3) .nil))) (.cons (.tup (.cons (.int 4) (.cons (.int 2) .nil))) .nil))))))))) (.bin .Mod (.sub (.var 1) (.int 0)) (.int 8)))) (.cons (.set (.nm 4) (.call "all_tame" (.cons (.var 2) (.cons (.var 3) .nil)))) (.cons (.set (.nm 5) (.sub (.var 4) (.bin .Mod (.sub (.var 1) (.int 1)) (.blt "len" (.cons (.var 4) .nil))))) (.cons (.own 6 .nil) (.cons (.for (.nm 7) (.rng (.ife (.cmp .Gt (.var 2) (.int 1)) (.bin .Mod (.sub (.var 1) (.int 2)) (.int 4)) (.int 0))) M_law_L1) (.cons (.frz 6) (.cons (.set (.nm 6) (.blt "tuple" (.cons (.var 6) .nil))) (.cons (.set (.nm 11) M_law_C1) (.cons (.ife (.cmp .NotEq (.call "candidates" (.cons (.var 2) (.cons (.var 3) (.cons (.var 6) .nil)))) (.var 11)) (.cons (.ret (.bl false)) .nil) .nil) (.cons (.set (.nm 12) (.sub (.lst (.cons (.tup (.cons (.neg (.int 1)) (.cons (.int 0) .nil))) (.cons (.tup (.cons (.blt "len" (.cons (.var 5) .nil)) (.cons (.int 0) .nil))) (.cons (.tup (.cons (.int 0) (.cons (.var 3) .nil))) (.cons (.tup (.cons (.int 0) .nil)) (.cons (.lst (.cons (.int 0) (.cons (.int 0) .nil))) (.cons .non (.cons (.tup (.cons .non (.cons (.int 0) .nil))) (.cons (.tup (.cons (.int 0) (.cons .non .nil))) .nil))))))))) (.bin .Mod (.sub (.var 1) (.int 20)) (.int 8)))) (.cons (.set (.nm 13) (.bin .Mod (.sub (.var 1) (.int 21)) (.int 2))) (.cons (.ife (.cmp .NotEq (.call "_law_hidden" (.cons (.var 13) (.cons (.var 2) (.cons (.var 3) (.cons (.bin .Add (.var 6) (.tup (.cons (.var 12) .nil))) .nil))))) (.str "answers")) (.cons (.ret (.bl false)) .nil) .nil) (.cons (.ife (.cmp .NotEq (.call "_law_hidden" (.cons (.var 13) (.cons (.var 2) (.cons (.var 3) (.cons (.blt "list" (.cons (.var 6) .nil)) .nil))))) (.str "answers")) (.cons (.ret (.bl false)) .nil) .nil) (.cons (.ife (.cmp .NotEq (.call "_law_hidden" (.cons (.var 13) (.cons (.var 2) (.cons (.sub (.lst (.cons .non (.cons (.int 0) (.cons (.int 4) (.cons (.bl true) .nil))))) (.bin .Mod (.sub (.var 1) (.int 22)) (.int 4))) (.cons .non .nil))))) (.str "number")) (.cons (.ret (.bl false)) .nil) .nil) (.cons (.par 14 15 (.call "_law_hidden" (.cons (.int 1) (.cons (.var 2) (.cons (.var 3) (.cons (.var 6) .nil))))) .non) (.cons (.ife (.cmp .Eq (.var 11) (.lst .nil)) (.cons (.ret (.cmp .Eq (.var 14) (.str "answers"))) .nil) .nil) (.cons (.for (.nm 8) (.rng (.blt "len" (.cons (.var 5) .nil))) M_law_L2) (.cons (.ret (.cmp .Eq (.var 14) (.ife (.cmp .Is (.var 15) .non) .non (.sub (.var 15) (.int 1))))) .nil)))))))))))))))))))
abbrev d_f_law : Df := ⟨"law", ["script"], ["script", "draws", "points", "colors", "every", "hidden", "answers", "time", "place", "one", "told", "due", "wrong", "mode", "asked", "best", "here", "color", "worst"], b_f_law, defArgs (top 20), defBody (top 20), defScope (top 20)⟩
def T : List Df := [d_f_in_range, d_f_pairs_of, d_f_table_of, d_f_first_triangle, d_f_check_small, d_f_every_tame, d_f_all_tame, d_f_check_answers, d_f_candidates, d_f_best_pair, d_l_law_cell, d_l_law_row, d_l_law_hidden, d_f_law]
theorem ck_f_in_range : chkSs (ctOf T GL XS d_f_in_range) ⟨d_f_in_range.scope, fun _ => true⟩ d_f_in_range.body d_f_in_range.sts = true := by decide +kernel
theorem ck_f_pairs_of : chkSs (ctOf T GL XS d_f_pairs_of) ⟨d_f_pairs_of.scope, fun _ => true⟩ d_f_pairs_of.body d_f_pairs_of.sts = true := by decide +kernel
theorem ck_f_table_of : chkSs (ctOf T GL XS d_f_table_of) ⟨d_f_table_of.scope, fun _ => true⟩ d_f_table_of.body d_f_table_of.sts = true := by decide +kernel
theorem ck_f_first_triangle : chkSs (ctOf T GL XS d_f_first_triangle) ⟨d_f_first_triangle.scope, fun _ => true⟩ d_f_first_triangle.body d_f_first_triangle.sts = true := by decide +kernel
theorem ck_f_check_small : chkSs (ctOf T GL XS d_f_check_small) ⟨d_f_check_small.scope, fun _ => true⟩ d_f_check_small.body d_f_check_small.sts = true := by decide +kernel
theorem ck_f_every_tame : chkSs (ctOf T GL XS d_f_every_tame) ⟨d_f_every_tame.scope, fun _ => true⟩ d_f_every_tame.body d_f_every_tame.sts = true := by decide +kernel
theorem ck_f_all_tame : chkSs (ctOf T GL XS d_f_all_tame) ⟨d_f_all_tame.scope, fun _ => true⟩ d_f_all_tame.body d_f_all_tame.sts = true := by decide +kernel
theorem ck_f_check_answers : chkSs (ctOf T GL XS d_f_check_answers) ⟨d_f_check_answers.scope, fun _ => true⟩ d_f_check_answers.body d_f_check_answers.sts = true := by decide +kernel
theorem ck_f_candidates : chkSs (ctOf T GL XS d_f_candidates) ⟨d_f_candidates.scope, fun _ => true⟩ d_f_candidates.body d_f_candidates.sts = true := by decide +kernel
theorem ck_f_best_pair : chkSs (ctOf T GL XS d_f_best_pair) ⟨d_f_best_pair.scope, fun _ => true⟩ d_f_best_pair.body d_f_best_pair.sts = true := by decide +kernel
theorem ck_l_law_cell : chkSs (ctOf T GL XS d_l_law_cell) ⟨d_l_law_cell.scope, fun _ => true⟩ d_l_law_cell.body d_l_law_cell.sts = true := by decide +kernel
theorem ck_l_law_row : chkSs (ctOf T GL XS d_l_law_row) ⟨d_l_law_row.scope, fun _ => true⟩ d_l_law_row.body d_l_law_row.sts = true := by decide +kernel
theorem ck_l_law_hidden : chkSs (ctOf T GL XS d_l_law_hidden) ⟨d_l_law_hidden.scope, fun _ => true⟩ d_l_law_hidden.body d_l_law_hidden.sts = true := by decide +kernel
theorem ck_f_law : chkSs (ctOf T GL XS d_f_law) ⟨d_f_law.scope, fun _ => true⟩ d_f_law.body d_f_law.sts = true := by decide +kernel
theorem H_f_in_range : HasF T "in_range" 3 (TC.M_f_in_range) := hasF (d := d_f_in_range) (by kernel_rfl)
theorem H_f_pairs_of : HasF T "pairs_of" 3 (TC.M_f_pairs_of) := hasF (d := d_f_pairs_of) (by kernel_rfl)
theorem H_f_table_of : HasF T "table_of" 6 (TC.M_f_table_of) := hasF (d := d_f_table_of) (by kernel_rfl)
theorem H_f_first_triangle : HasF T "first_triangle" 6 (TC.M_f_first_triangle) := hasF (d := d_f_first_triangle) (by kernel_rfl)
theorem H_f_check_small : HasF T "check_small" 2 (TC.M_f_check_small) := hasF (d := d_f_check_small) (by kernel_rfl)
theorem H_f_every_tame : HasF T "every_tame" 7 (TC.M_f_every_tame) := hasF (d := d_f_every_tame) (by kernel_rfl)
theorem H_f_all_tame : HasF T "all_tame" 2 (TC.M_f_all_tame) := hasF (d := d_f_all_tame) (by kernel_rfl)
theorem H_f_check_answers : HasF T "check_answers" 4 (TC.M_f_check_answers) := hasF (d := d_f_check_answers) (by kernel_rfl)
theorem H_f_candidates : HasF T "candidates" 6 (TC.M_f_candidates) := hasF (d := d_f_candidates) (by kernel_rfl)
theorem H_f_best_pair : HasF T "best_pair" 10 (TC.M_f_best_pair) := hasF (d := d_f_best_pair) (by kernel_rfl)
theorem H_l_law_cell : HasF T "_law_cell" 2 (TC.M_l_law_cell) := hasF (d := d_l_law_cell) (by kernel_rfl)
theorem H_l_law_row : HasF T "_law_row" 5 (TC.M_l_law_row) := hasF (d := d_l_law_row) (by kernel_rfl)
theorem H_l_law_hidden : HasF T "_law_hidden" 5 (TC.M_l_law_hidden XS) := hasF (d := d_l_law_hidden) (by kernel_rfl)
theorem H_f_law : HasF T "law" 19 b_f_law := hasF (d := d_f_law) (by kernel_rfl)
end LW
set_option Elab.async false
set_option linter.all false
set_option maxRecDepth 100000
set_option autoImplicit false
/-! PlA: evaluating the terms in plain Lean: loops and comprehensions. -/
namespace TC
open PySem
theorem ex_next {F : Fns} {a r : TC.S} {e e1 : TC.Env} (h : exS F a e = .ok (.nx e1)) : exS F (.cons a r) e = exS F r e1 := by
  show ((exS F a e).bind fun f => match f with | .nx e1 => exS F r e1 | g => .ok g) = _
  rw [h]; rfl
theorem ex_ret {F : Fns} {a r : TC.S} {e : TC.Env} {d : D} (h : exS F a e = .ok (.rt d)) : exS F (.cons a r) e = .ok (.rt d) := by
  show ((exS F a e).bind fun f => match f with | .nx e1 => exS F r e1 | g => .ok g) = _
  rw [h]; rfl
theorem ex_exc {F : Fns} {a r : TC.S} {e : TC.Env} {c : Str} (h : exS F a e = .exc c) : exS F (.cons a r) e = .exc c := by
  show ((exS F a e).bind fun f => match f with | .nx e1 => exS F r e1 | g => .ok g) = _
  rw [h]; rfl
theorem ex_for {F : Fns} {t : Tg} {it : E} {b : TC.S} {e : TC.Env} {xs : List D} {r : R Fl} (h1 : listD (ev F it e) = .ok xs) (h2 : forG t (exS F b) xs e = r) : exS F (.for t it b) e = r := by
  show (listD (ev F it e)).bind (fun xs => forG t (exS F b) xs e) = r
  rw [h1]; exact h2
/-- a comprehension: p the test, g the element -/
theorem lc_eq {f : Env → R D} {c : Env → R Bool} {t : Tg} {e : Env} (p : D → Bool) (g : D → D) : ∀ {xs : List D}, (∀ x ∈ xs, ∃ e1, asg t x e = .ok e1 ∧ c e1 = .ok (p x) ∧ (p x = true → f e1 = .ok (g x))) → lcG f c t e xs = .ok ((xs.filter p).map g)
  | [], _ => rfl
  | x :: xs, h => by
    obtain ⟨e1, h1, h2, h3⟩ := h x List.mem_cons_self
    have ih := lc_eq p g (xs := xs) fun y hy => h y (List.mem_cons_of_mem _ hy)
    unfold lcG
    rw [h1]
    simp only [R.ok_bind, h2]
    cases hp : p x with
    | true => rw [if_pos rfl, h3 hp, ih, List.filter_cons_of_pos hp]; rfl
    | false => rw [if_neg (by decide), ih, List.filter_cons_of_neg (by rw [hp]; decide)]
/-- a loop that runs through: s the state, j what else the names hold -/
theorem for_eq {St Jk : Type} {b : Env → R Fl} {t : Tg} (emb : St → Jk → Env) (g : St → D → St) (inv : St → Prop) : ∀ {xs : List D}, (∀ s j x, x ∈ xs → inv s → inv (g s x) ∧ ∃ j', ((asg t x (emb s j)).bind b = .ok (.nx (emb (g s x) j')))) → ∀ s j, inv s → inv (xs.foldl g s) ∧ ∃ j', forG t b xs (emb s j) = .ok (.nx (emb (xs.foldl g s) j'))
  | [], _, s, j, hi => ⟨hi, j, rfl⟩
  | x :: xs, h, s, j, hi => by
    obtain ⟨hi', j', hb⟩ := h s j x List.mem_cons_self hi
    obtain ⟨hi2, j2, h2⟩ := for_eq emb g inv (xs := xs) (fun s j y hy => h s j y (List.mem_cons_of_mem _ hy)) (g s x) j' hi'
    refine ⟨hi2, j2, ?_⟩
    unfold forG
    cases ea : asg t x (emb s j) with
    | stuck => rw [ea] at hb; cases hb
    | exc c => rw [ea] at hb; cases hb
    | ok e1 =>
      rw [ea] at hb
      simp only [R.ok_bind] at hb ⊢
      rw [hb]
      exact h2
theorem for_inv {b : Env → R Fl} {t : Tg} (Inv : Nat → Env → Prop) : ∀ (xs : List D) (i : Nat) (e : Env), (∀ m x e, xs[m]? = some x → Inv (i + m) e → ∃ e', ((asg t x e).bind b) = .ok (.nx e') ∧ Inv (i + m + 1) e') → Inv i e → ∃ e', forG t b xs e = .ok (.nx e') ∧ Inv (i + xs.length) e'
  | [], i, e, _, h => ⟨e, rfl, h⟩
  | x :: xs, i, e, st, h => by
    obtain ⟨e1, h1, h2⟩ := st 0 x e rfl h
    obtain ⟨e2, h3, h4⟩ := for_inv Inv xs (i + 1) e1 (fun m y e' hy hi => by
      have := st (m + 1) y e' (by simpa using hy) (by rw [show i + (m + 1) = i + 1 + m by omega]; exact hi)
      rw [show i + (m + 1) + 1 = i + 1 + m + 1 by omega] at this
      exact this) h2
    refine ⟨e2, ?_, by rw [List.length_cons, show i + (xs.length + 1) = i + 1 + xs.length by omega]; exact h4⟩
    unfold forG
    cases ea : asg t x e with
    | stuck => rw [ea] at h1; cases h1
    | exc c => rw [ea] at h1; cases h1
    | ok e' =>
      rw [ea] at h1
      simp only [R.ok_bind] at h1 ⊢
      rw [h1]
      exact h3
section
variable {T : List Df}
def cellI (ns : List Int) (j : Int) : Int := if 0 ≤ j ∧ j < ns.length then ns.getD j.toNat 0 else 0
theorem sp_cell (h : HasF T "_law_cell" 2 B_l_law_cell) (k : Nat) (ns : List Int) (j : Int) (hj : 0 ≤ j) : Fk T (k + 1) "_law_cell" [.dict (scrD ns), .int j] = .ok (.int (cellI ns j)) := by
  rw [h]
  have : runS (Fk T k) 2 B_l_law_cell [.dict (scrD ns), .int j] = ((((R.ok (PyData.bool (decide (j < ((ns.map PyData.int).length : Int))))).bind fun x => (truD x).bind fun q => if q then (((ofOpt (TC.atI (ns.map PyData.int) j)).bind fun d => (R.ok (Fl.rt d) : R Fl)).bind fun f => match f with | .nx e1 => .ok (.nx e1) | g => .ok g) else .ok (.nx [.v (.dict (scrD ns)), .v (.int j)])).bind fun f => match f with | .nx e1 => .ok (.rt (.int 0)) | g => .ok g).bind fun f => match f with
    | .nx _ => .ok .none
    | .rt d => .ok d
    | _ => .stuck) := rfl
  rw [this, List.length_map]
  unfold cellI
  by_cases h1 : j < ns.length
  · rw [decide_eq_true h1, if_pos ⟨hj, h1⟩]
    have e : TC.atI (ns.map PyData.int) j = some (.int (ns.getD j.toNat 0)) := by
      unfold TC.atI TC.ixN
      rw [if_pos hj, if_pos (by rw [List.length_map]; exact h1)]
      have : j.toNat < ns.length := by omega
      simp [this]
    show ((((ofOpt (TC.atI (ns.map PyData.int) j)).bind fun d => (R.ok (Fl.rt d) : R Fl)).bind _).bind _).bind _ = _
    rw [e]; rfl
  · rw [decide_eq_false h1, if_neg fun z => h1 z.2]; rfl
theorem sp_in_range (h : HasF T "in_range" 3 B_f_in_range) (k : Nat) (v lo hi : Int) : Fk T (k + 1) "in_range" [.int v, .int lo, .int hi] = .ok (.bool (decide (lo ≤ v) && decide (v ≤ hi))) := by
  rw [h]
  have : runS (Fk T k) 3 B_f_in_range [.int v, .int lo, .int hi] = (((if (!decide (v < lo)) = true then R.ok (PyData.bool (!decide (hi < v))) else .ok (.bool false)).bind fun d => R.ok (Fl.rt d)).bind fun f => match f with | .nx e1 => _ | g => .ok g).bind fun f => match f with
    | .nx _ => .ok .none
    | .rt d => .ok d
    | _ => .stuck := rfl
  rw [this]
  by_cases h1 : v < lo
  · rw [decide_eq_true h1, decide_eq_false (show ¬ lo ≤ v by omega)]; rfl
  · rw [decide_eq_false h1, decide_eq_true (show lo ≤ v by omega)]
    by_cases h2 : hi < v
    · rw [decide_eq_true h2, decide_eq_false (show ¬ v ≤ hi by omega)]; rfl
    · rw [decide_eq_false h2, decide_eq_true (show v ≤ hi by omega)]; rfl
end
end TC
set_option Elab.async false
set_option linter.all false
set_option maxRecDepth 100000
set_option autoImplicit false
/-! PlB: the laws' common defs: rows, pairs. -/
namespace TC
open PySem
def nthS : TC.S → Nat → TC.S
  | .cons a _, 0 => a
  | .cons _ r, n + 1 => nthS r n
  | s, _ => s
def bodyS : TC.S → TC.S
  | .for _ _ b => b
  | .whl _ _ b => b
  | s => s
section
variable {T : List Df}
/-- sixty draws -/
def Draws (l : List Int) : Prop := l.length = 60 ∧ ∀ x ∈ l, 0 ≤ x ∧ x < 1000
def rowE (ns : List Int) (at_ cell : Int) (l : List Int) (s4 : Sl) : Env := [.v (.dict (scrD ns)), .v (.int at_), .v (.int cell), .own (l.map .int), s4]
theorem row_step (F : Fns) (ns : List Int) (at_ : Int) (hF : ∀ j : Int, 0 ≤ j → F "_law_cell" [.dict (scrD ns), .int j] = .ok (.int (cellI ns j))) (ha : 0 ≤ at_) (cell : Int) (l : List Int) (hl : l.length < 100) (s4 : Sl) (t : Int) (ht : 0 ≤ t) (hb : ∀ x ∈ l, 0 ≤ x ∧ x < 1000) :
    ∃ cell' y, (asg (.nm 4) (.int t) (rowE ns at_ cell l s4)).bind (exS F (bodyS (nthS B_l_law_row 2))) = .ok (.nx (rowE ns at_ cell' (l ++ [y]) (.v (.int t)))) ∧ 0 ≤ y ∧ y < 1000 := by
  have c1 := hF at_ ha
  have c2 := hF ((at_ + 1 + t) % 20) (by omega)
  have ok1 : okLen (l.length + 1) = true := by
    unfold okLen lim
    simp; omega
  by_cases h : cellI ns at_ < 1000000000000000000
  · refine ⟨(cell * 48271 + 131 * t + 7 + cellI ns ((at_ + 1 + t) % 20)) % 2147483647, ((cell * 48271 + 131 * t + 7 + cellI ns ((at_ + 1 + t) % 20)) % 2147483647) / 11 % 1000, ?_, by omega, by omega⟩
    simp [rowE, asg, bodyS, nthS, B_l_law_row, exS, ev, getE, getO, c1, c2, binD, addD, mulD, cmpD, ltD, mapB, truD, small64, h, ok1, isDict]
  · refine ⟨cell / 1000, cell % 1000, ?_, by omega, by omega⟩
    simp [rowE, asg, bodyS, nthS, B_l_law_row, exS, ev, getE, getO, c1, c2, binD, addD, mulD, cmpD, ltD, mapB, truD, small64, h, ok1, isDict]
theorem sp_row (hc : HasF T "_law_cell" 2 B_l_law_cell) (h : HasF T "_law_row" 5 B_l_law_row) (k : Nat) (ns : List Int) (at_ : Int) (ha : 0 ≤ at_) : ∃ l, Draws l ∧ Fk T (k + 2) "_law_row" [.dict (scrD ns), .int at_] = .ok (.list (l.map .int)) := by
  have hF : ∀ j : Int, 0 ≤ j → Fk T (k + 1) "_law_cell" [.dict (scrD ns), .int j] = .ok (.int (cellI ns j)) := fun j hj => sp_cell hc k ns j hj
  rw [h]
  obtain ⟨e', h1, l, cell, s4, rfl, hl, hb⟩ := for_inv (t := .nm 4) (b := exS (Fk T (k + 1)) (bodyS (nthS B_l_law_row 2))) (fun m e => ∃ l cell s4, e = rowE ns at_ cell l s4 ∧ (l.length = m ∧ m ≤ 60) ∧ ∀ x ∈ l, 0 ≤ x ∧ x < 1000) (rngL 0 60) 0 (rowE ns at_ (cellI ns at_) [] .no)
    (by
      rintro m x e hx ⟨l, cell, s4, rfl, ⟨hl, hm⟩, hb⟩
      have hmx : m < 60 ∧ x = .int m := by
        unfold rngL at hx
        rw [List.getElem?_map] at hx
        have hm : m < 60 := by
          rcases Nat.lt_or_ge m 60 with z | z
          · exact z
          · rw [List.getElem?_eq_none (by rw [List.length_range]; exact z)] at hx; cases hx
        rw [List.getElem?_range hm] at hx
        simp at hx
        exact ⟨hm, hx.symm⟩
      obtain ⟨hm60, rfl⟩ := hmx
      obtain ⟨cell', y, h1, h2, h3⟩ := row_step (Fk T (k + 1)) ns at_ hF ha cell l (by omega) s4 m (by omega) hb
      refine ⟨_, h1, l ++ [y], cell', _, rfl, ⟨by simp; omega, by omega⟩, fun z hz => ?_⟩
      rcases List.mem_append.mp hz with q | q
      · exact hb z q
      · rw [List.mem_singleton.mp q]; exact ⟨h2, h3⟩)
    ⟨[], _, _, rfl, ⟨rfl, by omega⟩, fun _ h => by cases h⟩
  refine ⟨l, ⟨by have := hl.1; simpa [rngL] using this, hb⟩, ?_⟩
  have c1 := hF at_ ha
  have e1 : forG (.nm 4) (exS (Fk T (k + 1)) (bodyS (nthS B_l_law_row 2))) (rngL 0 60) (rowE ns at_ (cellI ns at_) [] .no) = _ := h1
  simp only [bodyS, nthS, B_l_law_row] at e1
  simp [runS, B_l_law_row, exS, ev, getE, c1, asg, seqOk, okLen, lim, rngD, okI, listD, rowE] at e1 ⊢
  rw [e1]
  simp [frzE, getE]
end
end TC
set_option Elab.async false
set_option linter.all false
set_option maxRecDepth 100000
set_option autoImplicit false
/-! PlC: checks. -/
namespace TC
open PySem
def inR : D → Int → Int → Bool
  | .int v, lo, hi => decide (lo ≤ v) && decide (v ≤ hi)
  | _, _, _ => false
/-- a loop of checks -/
theorem for_chk {b : Env → R Fl} {t : Tg} {c : Str} (Inv : Env → Prop) (p : D → Bool) : ∀ (xs : List D) (e : Env), (∀ x ∈ xs, ∀ e, Inv e → if p x then ∃ e', ((asg t x e).bind b) = .ok (.nx e') ∧ Inv e' else ((asg t x e).bind b) = .exc c) → Inv e → if xs.all p then ∃ e', forG t b xs e = .ok (.nx e') ∧ Inv e' else forG t b xs e = .exc c
  | [], e, _, h => by
    rw [if_pos (show ([] : List D).all p = true from rfl)]
    exact ⟨e, rfl, h⟩
  | x :: xs, e, st, h => by
    have s := st x List.mem_cons_self e h
    cases hp : p x with
    | false =>
      rw [hp, if_neg (by decide)] at s
      rw [if_neg (by simp [hp])]
      unfold forG
      cases ea : asg t x e with
      | stuck => rw [ea] at s; cases s
      | exc d => rw [ea] at s; exact s
      | ok e1 =>
        rw [ea] at s
        simp only [R.ok_bind] at s ⊢
        rw [s]; rfl
    | true =>
      rw [hp, if_pos rfl] at s
      obtain ⟨e', h1, h2⟩ := s
      have ih := for_chk Inv p xs e' (fun y hy => st y (List.mem_cons_of_mem _ hy)) h2
      have step : forG t b (x :: xs) e = forG t b xs e' := by
        show ((asg t x e).bind fun e1 => (b e1).bind fun f => match f with
          | .nx e2 => forG t b xs e2
          | .ct e2 => forG t b xs e2
          | .bk e2 => .ok (.nx e2)
          | .rt d => .ok (.rt d)) = _
        cases ea : asg t x e with
        | stuck => rw [ea] at h1; cases h1
        | exc c => rw [ea] at h1; cases h1
        | ok e1 =>
          rw [ea] at h1
          simp only [R.ok_bind] at h1 ⊢
          rw [h1]; rfl
      rw [step, List.all_cons, hp, Bool.true_and]
      exact ih
section
variable {T : List Df}
theorem sp_inr (h : HasF T "in_range" 3 B_f_in_range) (k : Nat) (v : D) (hv : isDict v = false) (lo hi : Int) : Fk T (k + 1) "in_range" [v, .int lo, .int hi] = .ok (.bool (inR v lo hi)) := by
  cases v with
  | int v => exact sp_in_range h k v lo hi
  | dict kvs => cases hv
  | none => rw [h]; rfl
  | bool b => rw [h]; rfl
  | str s => rw [h]; rfl
  | list xs => rw [h]; rfl
  | tuple xs => rw [h]; rfl
theorem sp_check_small (h0 : HasF T "in_range" 3 B_f_in_range) (h : HasF T "check_small" 2 B_f_check_small) (k : Nat) (p c : D) (hp : isDict p = false) (hc : isDict c = false) : Fk T (k + 2) "check_small" [p, c] = if inR p 1 4 && inR c 1 3 then .ok .none else .exc "InvalidNumber" := by
  have a1 := sp_inr h0 k p hp 1 4
  have a2 := sp_inr h0 k c hc 1 3
  rw [h]
  cases e1 : inR p 1 4 <;> cases e2 : inR c 1 3 <;> rw [e1] at a1 <;> rw [e2] at a2 <;> simp [runS, B_f_check_small, exS, ev, getE, a1, a2, truD, boolD, listD]
end
end TC
set_option Elab.async false
set_option linter.all false
set_option maxRecDepth 100000
set_option autoImplicit false
/-! PlD: values: lists of ints, rows. -/
namespace TC
open PySem
theorem at_lt {α : Type} {xs : List α} {i : Int} (h0 : 0 ≤ i) (h1 : i < xs.length) : TC.atI xs i = xs[i.toNat]? := by
  unfold TC.atI TC.ixN
  rw [if_pos h0, if_pos h1]; rfl
theorem sub_list {xs : List D} {i : Int} {d : D} (h0 : 0 ≤ i) (h : xs[i.toNat]? = some d) : subD (.list xs) (.int i) = .ok d := by
  have h1 : i < xs.length := by
    rcases Nat.lt_or_ge i.toNat xs.length with z | z
    · omega
    · rw [List.getElem?_eq_none z] at h; cases h
  show ofOpt (TC.atI xs i) = _
  rw [at_lt h0 h1, h]; rfl
theorem sub_tup {xs : List D} {i : Int} {d : D} (h0 : 0 ≤ i) (h : xs[i.toNat]? = some d) : subD (.tuple xs) (.int i) = .ok d := by
  have h1 : i < xs.length := by
    rcases Nat.lt_or_ge i.toNat xs.length with z | z
    · omega
    · rw [List.getElem?_eq_none z] at h; cases h
  show ofOpt (TC.atI xs i) = _
  rw [at_lt h0 h1, h]; rfl
theorem sub_ints {l : List Int} {i : Int} (h0 : 0 ≤ i) (h1 : i < l.length) : subD (.list (l.map .int)) (.int i) = .ok (.int (l.getD i.toNat 0)) := by
  refine sub_list h0 ?_
  have : i.toNat < l.length := by omega
  simp [this]
theorem sub_row {l : List Int} {i : Int} (h0 : 0 ≤ i) (h1 : i < l.length) : subD (rowD l) (.int i) = .ok (.int (l.getD i.toNat 0)) := by
  refine sub_tup h0 ?_
  have : i.toNat < l.length := by omega
  simp [this]
theorem getD_mem {l : List Int} {i : Nat} (h : i < l.length) : l.getD i 0 ∈ l := by
  have : l.getD i 0 = l[i] := by simp [h]
  rw [this]; exact List.getElem_mem h
/-- one draw -/
theorem dr_ok {l : List Int} (h : Draws l) {i : Int} (h0 : 0 ≤ i) (h1 : i < 60) : subD (.list (l.map .int)) (.int i) = .ok (.int (l.getD i.toNat 0)) ∧ 0 ≤ l.getD i.toNat 0 ∧ l.getD i.toNat 0 < 1000 := by
  refine ⟨sub_ints h0 (by rw [h.1]; exact h1), ?_⟩
  exact h.2 _ (getD_mem (by rw [h.1]; omega))
/-! the greatest of a list of ints -/
theorem depth_ints : ∀ ns : List Int, PyData.depthAll (ns.map .int) = 0
  | [] => rfl
  | n :: r => by
    show max (PyData.depth (.int n)) (PyData.depthAll (r.map .int)) = 0
    rw [depth_ints r]; rfl
theorem alike_ints (ns : List Int) : allAlike (ns.map .int) = true := by
  unfold allAlike
  rw [List.all_eq_true]
  intro x hx
  rw [List.all_eq_true]
  intro y hy
  obtain ⟨a, _, rfl⟩ := List.mem_map.mp hx
  obtain ⟨b, _, rfl⟩ := List.mem_map.mp hy
  rfl
def maxI : Int → List Int → Int
  | m, [] => m
  | m, n :: r => maxI (if m < n then n else m) r
theorem maxL_ints : ∀ (ns : List Int) (m : Int), maxL (.int m) (ns.map .int) = .int (maxI m ns)
  | [], m => rfl
  | n :: r, m => by
    show maxL (if W.dataLt (.int m) (.int n) then .int n else .int m) (r.map .int) = _
    rw [lt_ints]
    unfold maxI
    by_cases h : m < n
    · rw [decide_eq_true h, if_pos rfl, if_pos h]; exact maxL_ints r n
    · rw [decide_eq_false h, if_neg (by decide), if_neg h]; exact maxL_ints r m
theorem max_ints (m : Int) (ns : List Int) : bltD "max" [.list ((m :: ns).map .int)] = .ok (.int (maxI m ns)) := by
  have e : bltD "max" [.list ((m :: ns).map .int)] = mostD maxL ((m :: ns).map .int) := rfl
  rw [e]
  show (R.guard (allAlike ((m :: ns).map .int) && (((m :: ns).map PyData.int).all fun y => !isNone y) && decide (PyData.depthAll ((m :: ns).map .int) ≤ 100))).bind (fun _ => R.ok (maxL (.int m) (ns.map .int))) = _
  have e2 : (((m :: ns).map PyData.int).all fun y => !isNone y) = true := by
    rw [List.all_eq_true]
    intro x hx
    obtain ⟨a, _, rfl⟩ := List.mem_map.mp hx
    rfl
  rw [alike_ints, e2, depth_ints, maxL_ints]; rfl
end TC
set_option Elab.async false
set_option linter.all false
set_option maxRecDepth 100000
set_option autoImplicit false
/-! PlE: answers (k11). -/
namespace TC
open PySem
theorem isi_tt (xs : List D) : isiD (.tuple xs) "tuple" = .ok true := rfl
theorem isi_tl (xs : List D) : isiD (.list xs) "tuple" = .ok false := rfl
theorem isi_ti (i : Int) : isiD (.int i) "tuple" = .ok false := rfl
theorem isi_tn : isiD .none "tuple" = .ok false := rfl
theorem isi_tb (b : Bool) : isiD (.bool b) "tuple" = .ok false := rfl
theorem isi_ts (b : Str) : isiD (.str b) "tuple" = .ok false := rfl
theorem blt_lenT (xs : List D) : bltD "len" [.tuple xs] = .ok (.int xs.length) := rfl
theorem blt_lenL (xs : List D) : bltD "len" [.list xs] = .ok (.int xs.length) := rfl
theorem eq_ints (a b : Int) : eqD (.int a) (.int b) = .ok (decide (a = b)) := by
  have e : PyData.eqv (.int a) (.int b) = decide (a = b) := by
    rw [PyData.eqv]
    first | rfl | (simp [PyData.eqv]) | (cases h : decide (a = b) <;> simp_all)
  show (R.guard (!isDict (.int a) && !isDict (.int b) && deepOk (.int a) (.int b))).bind (fun _ => R.ok (PyData.eqv (.int a) (.int b))) = _
  rw [e]; rfl
def ansOk (c N : Int) : D → Bool
  | .tuple [a, b] => inR b 0 (c - 1) && inR a 0 (N - 1)
  | _ => false
def noDict2 : D → Bool
  | .dict _ => false
  | .tuple xs => xs.all fun d => !isDict d
  | _ => true
section
variable {T : List Df}
theorem ca_step (F : Fns) (p c : Int) (ps : List D) (h1 : ∀ (v : D) (lo hi : Int), isDict v = false → F "in_range" [v, .int lo, .int hi] = .ok (.bool (inR v lo hi))) (h2 : F "pairs_of" [.int p] = .ok (.list ps)) (ans : D) (s3 : Sl) (x : D) (hx : noDict2 x = true) :
    (asg (.nm 3) x [.v (.int p), .v (.int c), .v ans, s3]).bind (exS F (bodyS (nthS B_f_check_answers 2))) = if ansOk c ps.length x then .ok (.nx [.v (.int p), .v (.int c), .v ans, .v x]) else .exc "InvalidAnswers" := by
  cases x with
  | dict kvs => cases hx
  | none => simp [asg, bodyS, nthS, B_f_check_answers, exS, ev, getE, isi_tn, truD, boolD, ansOk]
  | bool b => simp [asg, bodyS, nthS, B_f_check_answers, exS, ev, getE, isi_tb, truD, boolD, ansOk]
  | int i => simp [asg, bodyS, nthS, B_f_check_answers, exS, ev, getE, isi_ti, truD, boolD, ansOk]
  | str s => simp [asg, bodyS, nthS, B_f_check_answers, exS, ev, getE, isi_ts, truD, boolD, ansOk]
  | list xs => simp [asg, bodyS, nthS, B_f_check_answers, exS, ev, getE, isi_tl, truD, boolD, ansOk]
  | tuple xs =>
    rcases xs with _ | ⟨a, _ | ⟨b, _ | ⟨d, r⟩⟩⟩
    · simp [asg, bodyS, nthS, B_f_check_answers, exS, ev, getE, isi_tt, truD, boolD, ansOk, blt_lenT, cmpD, mapB, eq_ints, listD]
    · simp [asg, bodyS, nthS, B_f_check_answers, exS, ev, getE, isi_tt, truD, boolD, ansOk, blt_lenT, cmpD, mapB, eq_ints, listD]
    · have ha : isDict a = false := by
        have : (!isDict a && (!isDict b && true)) = true := hx
        simp at this; exact this.1
      have hb : isDict b = false := by
        have : (!isDict a && (!isDict b && true)) = true := hx
        simp at this; exact this.2
      have e1 : subD (.tuple [a, b]) (.int 1) = .ok b := rfl
      have e0 : subD (.tuple [a, b]) (.int 0) = .ok a := rfl
      have i1 := h1 b 0 (c - 1) hb
      have i0 := h1 a 0 (ps.length - 1) ha
      cases q1 : inR b 0 (c - 1) <;> cases q0 : inR a 0 (ps.length - 1) <;> rw [q1] at i1 <;> rw [q0] at i0 <;>
        simp [asg, bodyS, nthS, B_f_check_answers, exS, ev, getE, isi_tt, truD, boolD, ansOk, blt_lenT, blt_lenL, cmpD, mapB, eq_ints, listD, e0, e1, i0, i1, h2, binD, q0, q1]
    · have hl : decide (((r.length : Int) + 1 + 1 + 1) = 2) = false := decide_eq_false (by omega)
      simp [asg, bodyS, nthS, B_f_check_answers, exS, ev, getE, isi_tt, truD, boolD, ansOk, blt_lenT, cmpD, mapB, eq_ints, listD, hl]
theorem sp_check_answers (h0 : HasF T "in_range" 3 B_f_in_range) (h1 : HasF T "check_small" 2 B_f_check_small) (h : HasF T "check_answers" 4 B_f_check_answers) (k : Nat) (p c : Int) (hp : inR (.int p) 1 4 = true) (hc : inR (.int c) 1 3 = true) (ps : List D) (h2 : Fk T (k + 2) "pairs_of" [.int p] = .ok (.list ps)) (xs : List D) (hx : ∀ x ∈ xs, noDict2 x = true) :
    Fk T (k + 3) "check_answers" [.int p, .int c, .tuple xs] = if xs.all (ansOk c ps.length) then .ok .none else .exc "InvalidAnswers" := by
  have c0 := sp_check_small h0 h1 k (.int p) (.int c) rfl rfl
  rw [hp, hc] at c0
  have c0 : Fk T (k + 2) "check_small" [.int p, .int c] = .ok .none := c0
  have st := for_chk (t := .nm 3) (b := exS (Fk T (k + 2)) (bodyS (nthS B_f_check_answers 2))) (c := "InvalidAnswers") (fun e => ∃ s3, e = [.v (.int p), .v (.int c), .v (.tuple xs), s3]) (ansOk c ps.length) xs [.v (.int p), .v (.int c), .v (.tuple xs), .no]
    (by
      rintro x hxm e ⟨s3, rfl⟩
      have := ca_step (Fk T (k + 2)) p c ps (fun v lo hi hv => sp_inr h0 (k + 1) v hv lo hi) h2 (.tuple xs) s3 x (hx x hxm)
      rw [this]
      cases q : ansOk c ps.length x with
      | true => exact ⟨_, rfl, _, rfl⟩
      | false => rfl) ⟨_, rfl⟩
  rw [h]
  have x1 : exS (Fk T (k + 2)) (nthS B_f_check_answers 0) [.v (.int p), .v (.int c), .v (.tuple xs), .no] = .ok (.nx [.v (.int p), .v (.int c), .v (.tuple xs), .no]) := by
    simp [nthS, B_f_check_answers, exS, ev, getE, c0, listD]
  have x2 : exS (Fk T (k + 2)) (nthS B_f_check_answers 1) [.v (.int p), .v (.int c), .v (.tuple xs), .no] = .ok (.nx [.v (.int p), .v (.int c), .v (.tuple xs), .no]) := by
    simp [nthS, B_f_check_answers, exS, ev, getE, isi_tt, truD]
  have x3 : ∀ r, forG (.nm 3) (exS (Fk T (k + 2)) (bodyS (nthS B_f_check_answers 2))) xs [.v (.int p), .v (.int c), .v (.tuple xs), .no] = r → exS (Fk T (k + 2)) (nthS B_f_check_answers 2) [.v (.int p), .v (.int c), .v (.tuple xs), .no] = r := fun r hr =>
    ex_for (t := .nm 3) (it := .itr (.var 2)) (b := bodyS (nthS B_f_check_answers 2)) rfl hr
  show (exS (Fk T (k + 2)) (.cons (nthS B_f_check_answers 0) (.cons (nthS B_f_check_answers 1) (.cons (nthS B_f_check_answers 2) .nil))) [.v (.int p), .v (.int c), .v (.tuple xs), .no]).bind _ = _
  rw [ex_next x1, ex_next x2]
  cases q : xs.all (ansOk c ps.length) with
  | true =>
    rw [q, if_pos rfl] at st
    obtain ⟨e', s1, s3, rfl⟩ := st
    rw [ex_next (x3 _ s1)]; rfl
  | false =>
    rw [q, if_neg (by decide)] at st
    rw [ex_exc (x3 _ st)]; rfl
theorem sp_check_answersN (h0 : HasF T "in_range" 3 B_f_in_range) (h1 : HasF T "check_small" 2 B_f_check_small) (h : HasF T "check_answers" 4 B_f_check_answers) (k : Nat) (p c : Int) (hp : inR (.int p) 1 4 = true) (hc : inR (.int c) 1 3 = true) (xs : List D) :
    Fk T (k + 3) "check_answers" [.int p, .int c, .list xs] = .exc "InvalidAnswers" := by
  have c0 := sp_check_small h0 h1 k (.int p) (.int c) rfl rfl
  rw [hp, hc] at c0
  have c0 : Fk T (k + 2) "check_small" [.int p, .int c] = .ok .none := c0
  rw [h]
  simp [runS, B_f_check_answers, exS, ev, getE, c0, isi_tl, truD, listD]
theorem sp_check_answersC (h0 : HasF T "in_range" 3 B_f_in_range) (h1 : HasF T "check_small" 2 B_f_check_small) (h : HasF T "check_answers" 4 B_f_check_answers) (k : Nat) (p : Int) (c : D) (hd : isDict c = false) (hc : inR c 1 3 = false) (x : D) :
    Fk T (k + 3) "check_answers" [.int p, c, x] = .exc "InvalidNumber" := by
  have c0 := sp_check_small h0 h1 k (.int p) c rfl hd
  rw [hc, Bool.and_false] at c0
  have c0 : Fk T (k + 2) "check_small" [.int p, c] = .exc "InvalidNumber" := c0
  rw [h]
  simp [runS, B_f_check_answers, exS, ev, getE, c0, listD]
/-! answers as pairs of ints -/
def ansD (q : Int × Int) : D := .tuple [.int q.1, .int q.2]
def agree (as : List (Int × Int)) (row : List Int) : Bool := as.all fun q => decide (row.getD q.1.toNat 0 = q.2)
theorem filter_nil (as : List (Int × Int)) (row : List Int) : (as.filter fun q => !decide (row.getD q.1.toNat 0 = q.2)).isEmpty = agree as row := by
  unfold agree
  induction as with
  | nil => rfl
  | cons a r ih =>
    rw [List.filter_cons, List.all_cons]
    cases decide (row.getD a.1.toNat 0 = a.2) with
    | true => exact ih
    | false => rfl
end
end TC
set_option Elab.async false
set_option linter.all false
set_option maxRecDepth 100000
set_option autoImplicit false
/-! PlF: candidates (k11). -/
namespace TC
open PySem
theorem lc_map {α : Type} {f : Env → R D} {c : Env → R Bool} {t : Tg} {e : Env} (h : α → D) (p : α → Bool) (g : α → D) : ∀ {l : List α}, (∀ a ∈ l, ∃ e1, asg t (h a) e = .ok e1 ∧ c e1 = .ok (p a) ∧ (p a = true → f e1 = .ok (g a))) → lcG f c t e (l.map h) = .ok ((l.filter p).map g)
  | [], _ => rfl
  | x :: xs, hh => by
    obtain ⟨e1, h1, h2, h3⟩ := hh x List.mem_cons_self
    have ih := lc_map h p g (l := xs) fun y hy => hh y (List.mem_cons_of_mem _ hy)
    rw [List.map_cons]
    unfold lcG
    rw [h1]
    simp only [R.ok_bind, h2]
    cases hp : p x with
    | true => rw [if_pos rfl, h3 hp, ih, List.filter_cons_of_pos hp]; rfl
    | false => rw [if_neg (by decide), ih, List.filter_cons_of_neg (by rw [hp]; decide)]
theorem ev_lcf {F : Fns} {elt it cnd : E} {t : Tg} {e : Env} {xs ys : List D} (h1 : listD (ev F it e) = .ok xs) (h2 : lcG (ev F elt) (fun e1 => (ev F cnd e1).bind truD) t (wipeE e (slots t)) xs = .ok ys) (h3 : seqOk ys = true) : ev F (.lcf elt t it cnd) e = .ok (.list ys) := by
  show (listD (ev F it e)).bind (fun xs => (calm (lcG (ev F elt) (fun e1 => (ev F cnd e1).bind truD) t (wipeE e (slots t)) xs)).bind fun ys => (R.guard (seqOk ys)).bind fun _ => (R.ok (PyData.list ys) : R D)) = _
  rw [h1]
  simp only [R.ok_bind, h2, calm_ok, h3]; rfl
theorem ev_lc {F : Fns} {elt it : E} {t : Tg} {e : Env} {xs ys : List D} (h1 : listD (ev F it e) = .ok xs) (h2 : lcG (ev F elt) (fun _ => .ok true) t (wipeE e (slots t)) xs = .ok ys) (h3 : seqOk ys = true) : ev F (.lc elt t it) e = .ok (.list ys) := by
  show (listD (ev F it e)).bind (fun xs => (calm (lcG (ev F elt) (fun _ => .ok true) t (wipeE e (slots t)) xs)).bind fun ys => (R.guard (seqOk ys)).bind fun _ => (R.ok (PyData.list ys) : R D)) = _
  rw [h1]
  simp only [R.ok_bind, h2, calm_ok, h3]; rfl
theorem seq_of {ys : List D} (h : ∀ y ∈ ys, isDict y = false) (hl : ys.length ≤ 10000) : seqOk ys = true := by
  unfold seqOk
  rw [Bool.and_eq_true]
  refine ⟨List.all_eq_true.mpr fun y hy => by rw [h y hy]; rfl, decide_eq_true ?_⟩
  unfold lim; omega
section
variable {T : List Df}
/-- what of the rows E agrees with the answers as -/
theorem sp_candidates (h : HasF T "candidates" 6 B_f_candidates) (k : Nat) (p c N : Int) (E : List (List Int)) (hE : E.length ≤ 1000) (hr : ∀ r ∈ E, (r.length : Int) = N) (as : List (Int × Int)) (hl : as.length ≤ 1000) (ha : ∀ q ∈ as, 0 ≤ q.1 ∧ q.1 < N)
    (h1 : Fk T (k + 3) "check_answers" [.int p, .int c, .tuple (as.map ansD)] = .ok .none) (h2 : Fk T (k + 3) "every_tame" [.int p, .int c] = .ok (.list (E.map rowD))) :
    Fk T (k + 4) "candidates" [.int p, .int c, .tuple (as.map ansD)] = .ok (.list ((E.filter (agree as)).map rowD)) := by
  rw [h]
  have x1 : exS (Fk T (k + 3)) (nthS B_f_candidates 0) [.v (.int p), .v (.int c), .v (.tuple (as.map ansD)), .no, .no, .no] = .ok (.nx [.v (.int p), .v (.int c), .v (.tuple (as.map ansD)), .no, .no, .no]) := by
    simp [nthS, B_f_candidates, exS, ev, getE, h1, listD]
  have inner : ∀ r ∈ E, ev (Fk T (k + 3)) (.lcf (.var 4) (.tp (.cn (.nm 4) (.cn (.nm 5) .nl))) (.itr (.var 2)) (.cmp .NotEq (.sub (.var 3) (.var 4)) (.var 5))) [.v (.int p), .v (.int c), .v (.tuple (as.map ansD)), .v (rowD r), .no, .no] = .ok (.list ((as.filter fun q => !decide (r.getD q.1.toNat 0 = q.2)).map fun q => .int q.1)) := by
    intro r hrm
    refine ev_lcf (xs := as.map ansD) rfl ?_ (seq_of (fun y hy => ?_) ?_)
    · refine lc_map ansD (fun q => !decide (r.getD q.1.toNat 0 = q.2)) (fun q => .int q.1) fun q hq => ?_
      refine ⟨[.v (.int p), .v (.int c), .v (.tuple (as.map ansD)), .v (rowD r), .v (.int q.1), .v (.int q.2)], rfl, ?_, fun _ => rfl⟩
      obtain ⟨a1, a2⟩ := ha q hq
      have e := sub_row (l := r) a1 (by rw [hr r hrm]; exact a2)
      simp [ev, getE, e, cmpD, mapB, eq_ints, truD]
    · obtain ⟨q, _, rfl⟩ := List.mem_map.mp hy; rfl
    · rw [List.length_map]
      have := List.length_filter_le (fun q : Int × Int => !decide (r.getD q.1.toNat 0 = q.2)) as
      omega
  have x2 : exS (Fk T (k + 3)) (nthS B_f_candidates 1) [.v (.int p), .v (.int c), .v (.tuple (as.map ansD)), .no, .no, .no] = .ok (.rt (.list ((E.filter (agree as)).map rowD))) := by
    have : ev (Fk T (k + 3)) (.lcf (.var 3) (.nm 3) (.itr (.call "every_tame" (.cons (.var 0) (.cons (.var 1) .nil)))) (.not (.lcf (.var 4) (.tp (.cn (.nm 4) (.cn (.nm 5) .nl))) (.itr (.var 2)) (.cmp .NotEq (.sub (.var 3) (.var 4)) (.var 5))))) [.v (.int p), .v (.int c), .v (.tuple (as.map ansD)), .no, .no, .no] = .ok (.list ((E.filter (agree as)).map rowD)) := by
      refine ev_lcf (xs := E.map rowD) (by simp [ev, getE, listD, h2, itrD]) ?_ (seq_of (fun y hy => ?_) ?_)
      · refine lc_map rowD (agree as) rowD fun r hrm => ?_
        refine ⟨[.v (.int p), .v (.int c), .v (.tuple (as.map ansD)), .v (rowD r), .no, .no], rfl, ?_, fun _ => rfl⟩
        show (((ev (Fk T (k + 3)) (.lcf (.var 4) (.tp (.cn (.nm 4) (.cn (.nm 5) .nl))) (.itr (.var 2)) (.cmp .NotEq (.sub (.var 3) (.var 4)) (.var 5))) _).bind fun x => (truD x).bind fun b => .ok (.bool (!b))).bind truD) = _
        rw [inner r hrm, ← filter_nil as r]
        show R.ok (!(!((as.filter fun q => !decide (r.getD q.1.toNat 0 = q.2)).map fun q => (PyData.int q.1)).isEmpty)) = _
        rw [Bool.not_not, List.isEmpty_map]
      · obtain ⟨q, _, rfl⟩ := List.mem_map.mp hy; rfl
      · rw [List.length_map]
        have := List.length_filter_le (agree as) E
        omega
    show ((ev (Fk T (k + 3)) (.lcf (.var 3) (.nm 3) (.itr (.call "every_tame" (.cons (.var 0) (.cons (.var 1) .nil)))) (.not (.lcf (.var 4) (.tp (.cn (.nm 4) (.cn (.nm 5) .nl))) (.itr (.var 2)) (.cmp .NotEq (.sub (.var 3) (.var 4)) (.var 5))))) [.v (.int p), .v (.int c), .v (.tuple (as.map ansD)), .no, .no, .no]).bind fun d => (R.ok (Fl.rt d) : R Fl)) = _
    rw [this]; rfl
  show (exS (Fk T (k + 3)) (.cons (nthS B_f_candidates 0) (.cons (nthS B_f_candidates 1) .nil)) [.v (.int p), .v (.int c), .v (.tuple (as.map ansD)), .no, .no, .no]).bind _ = _
  rw [ex_next x1, ex_ret x2]; rfl
end
end TC
set_option Elab.async false
set_option linter.all false
set_option maxRecDepth 100000
set_option autoImplicit false
/-! PlG: the worst number of a place (k11). -/
namespace TC
open PySem
theorem getE_set {i : Nat} {e : Env} {d : D} (h : i < e.length) : getE i (e.set i (.v d)) = .ok d := by
  unfold getE
  rw [List.getElem?_set_self h]
theorem getE_ne {i j : Nat} {e : Env} {s : Sl} (h : j ≠ i) : getE i (e.set j s) = getE i e := by
  unfold getE
  rw [List.getElem?_set_ne h]
theorem here_ok (F : Fns) (e : Env) (a b d : Nat) (ha : a < e.length) (hab : a ≠ b) (due : List (List Int)) (pl N : Int) (hN : ∀ r ∈ due, (r.length : Int) = N) (h0 : 0 ≤ pl) (h1 : pl < N) (hl : due.length ≤ 1000) (hd : getE d e = .ok (.list (due.map rowD))) (hb : getE b e = .ok (.int pl)) :
    ev F (.lc (.sub (.var a) (.var b)) (.nm a) (.itr (.var d))) e = .ok (.list ((due.map fun r => r.getD pl.toNat 0).map .int)) := by
  refine ev_lc (xs := due.map rowD) ?_ ?_ (seq_of (fun y hy => ?_) ?_)
  · show listD ((getE d e).bind itrD) = _
    rw [hd]; rfl
  · have := lc_map (f := ev F (.sub (.var a) (.var b))) (c := fun _ => .ok true) (t := .nm a) (e := wipeE e [a]) rowD (fun _ => true) (fun r => .int (r.getD pl.toNat 0)) (l := due) (fun r hr => by
      refine ⟨((e.set a .no).set a (.v (rowD r))), rfl, rfl, fun _ => ?_⟩
      show (getE a ((e.set a .no).set a (.v (rowD r)))).bind (fun x => (getE b ((e.set a .no).set a (.v (rowD r)))).bind fun y => subD x y) = _
      rw [getE_set (by rw [List.length_set]; exact ha), getE_ne hab, getE_ne hab, hb]
      exact sub_row h0 (by rw [hN r hr]; exact h1))
    rw [List.filter_eq_self.mpr (fun _ _ => rfl)] at this
    rw [List.map_map]
    exact this
  · obtain ⟨q, _, rfl⟩ := List.mem_map.mp hy; rfl
  · rw [List.length_map, List.length_map]; omega
def cnts (hs : List Int) (c : Nat) : List Int := (List.range c).map fun q => ((hs.count ((0 : Int) + (q : Nat)) : Nat) : Int)
theorem count_ok (hs : List Int) (q : Int) : mthD "count" (.list (hs.map .int)) [.int q] = .ok (.int (hs.count q : Nat)) := by
  show (ofOpt (toInts (hs.map .int))).bind (fun ns => (R.ok (PyData.int (ns.count q : Nat)) : R D)) = _
  rw [toInts_map]; rfl
theorem cnts_ok (F : Fns) (e : Env) (h q cs : Nat) (hq : q < e.length) (hqh : q ≠ h) (hs : List Int) (c : Nat) (hc : c ≤ 1000) (h1 : getE h e = .ok (.list (hs.map .int))) (h2 : getE cs e = .ok (.int c)) :
    ev F (.lc (.mth "count" (.var h) (.cons (.var q) .nil)) (.nm q) (.rng (.var cs))) e = .ok (.list ((cnts hs c).map .int)) := by
  refine ev_lc (xs := rngL 0 c) ?_ ?_ (seq_of (fun y hy => ?_) ?_)
  · show listD ((getE cs e).bind fun x => rngD (.int 0) x) = _
    rw [h2]
    have k1 : (okI 0 && okI (c : Int)) = true := by unfold okI; simp; omega
    show listD ((R.guard (okI 0 && okI (c : Int))).bind fun _ => (R.ok (PyData.list (rngL 0 ((c : Int) - 0).toNat)) : R D)) = _
    rw [k1]
    show R.ok (rngL 0 ((c : Int) - 0).toNat) = _
    rw [Int.sub_zero, Int.toNat_natCast]
  · have := lc_map (f := ev F (.mth "count" (.var h) (.cons (.var q) .nil))) (c := fun _ => .ok true) (t := .nm q) (e := wipeE e [q]) (fun m : Nat => PyData.int (0 + (m : Nat))) (fun _ => true) (fun m => .int (hs.count ((0 : Int) + (m : Nat)) : Nat)) (l := List.range c) (fun m hm => by
      refine ⟨((e.set q .no).set q (.v (.int (0 + (m : Nat))))), rfl, rfl, fun _ => ?_⟩
      show (getE h ((e.set q .no).set q (.v (.int (0 + (m : Nat)))))).bind (fun x => (R.guard (mthTy "count" x)).bind fun _ => (listD ((getE q ((e.set q .no).set q (.v (.int (0 + (m : Nat)))))).bind fun x => (R.ok (PyData.list [x]) : R D))).bind fun xs => mthD "count" x xs) = _
      rw [getE_set (by rw [List.length_set]; exact hq), getE_ne hqh, getE_ne hqh, h1]
      exact count_ok hs _)
    rw [List.filter_eq_self.mpr (fun _ _ => rfl)] at this
    unfold cnts
    rw [List.map_map]
    exact this
  · obtain ⟨q, _, rfl⟩ := List.mem_map.mp hy; rfl
  · unfold cnts; simp; omega
def worstOf (hs : List Int) (c : Nat) : Int := match cnts hs c with
  | [] => 0
  | m :: r => maxI m r
theorem worst_ok (F : Fns) (e : Env) (h q cs : Nat) (hq : q < e.length) (hqh : q ≠ h) (hs : List Int) (c : Nat) (hc : c ≤ 1000) (hc1 : 1 ≤ c) (h1 : getE h e = .ok (.list (hs.map .int))) (h2 : getE cs e = .ok (.int c)) :
    ev F (.blt "max" (.cons (.lc (.mth "count" (.var h) (.cons (.var q) .nil)) (.nm q) (.rng (.var cs))) .nil)) e = .ok (.int (worstOf hs c)) := by
  have e1 := cnts_ok F e h q cs hq hqh hs c hc h1 h2
  show (listD ((ev F (.lc (.mth "count" (.var h) (.cons (.var q) .nil)) (.nm q) (.rng (.var cs))) e).bind fun x => (R.ok (PyData.list [x]) : R D))).bind (fun xs => bltD "max" xs) = _
  rw [e1]
  show bltD "max" [.list ((cnts hs c).map .int)] = _
  unfold worstOf
  cases ec : cnts hs c with
  | nil =>
    have : (cnts hs c).length = c := by unfold cnts; simp
    rw [ec] at this
    simp at this
    omega
  | cons m r => exact max_ints m r
end TC
set_option Elab.async false
set_option linter.all false
set_option maxRecDepth 100000
set_option autoImplicit false
/-! PlH: the best place (k11). -/
namespace TC
open PySem
def bestD : Option (Int × Int) → D
  | none => .none
  | some q => .tuple [.int q.1, .int q.2]
def lessB (w : Int) : Option (Int × Int) → Bool
  | none => true
  | some q => decide (w < q.1)
def stepB (due : List (List Int)) (c : Nat) (b : Option (Int × Int)) (pl : Nat) : Option (Int × Int) :=
  let w := worstOf (due.map fun r => r.getD pl 0) c
  if (decide (w < due.length) && lessB w b) = true then some (w, pl) else b
def bestN (due : List (List Int)) (c : Nat) (n : Nat) : Option (Int × Int) := (List.range n).foldl (stepB due c) none
/-- the loop's body, by its slots -/
def bodyB (a b d best h q cs w : Nat) : TC.S := (.cons (.set (.nm h) (.lc (.sub (.var a) (.var b)) (.nm a) (.itr (.var d)))) (.cons (.set (.nm w) (.blt "max" (.cons (.lc (.mth "count" (.var h) (.cons (.var q) .nil)) (.nm q) (.rng (.var cs))) .nil))) (.cons (.ife (.and (.cmp .Lt (.var w) (.blt "len" (.cons (.var d) .nil))) (.one (.or (.cmp .Is (.var best) .non) (.one (.cmp .Lt (.var w) (.sub (.var best) (.int 0))))))) (.cons (.set (.nm best) (.tup (.cons (.var w) (.cons (.var b) .nil)))) .nil) .nil) .nil)))
theorem lt_intsD (a b : Int) : cmpD .Lt (.int a) (.int b) = .ok (.bool (decide (a < b))) := rfl
theorem best_step (F : Fns) (e : Env) (a b d best h q cs w : Nat) (hal : a < e.length) (hhl : h < e.length) (hql : q < e.length) (hwl : w < e.length) (hbl : best < e.length)
    (n1 : a ≠ b) (n2 : q ≠ h) (n3 : h ≠ d) (n4 : h ≠ b) (n5 : h ≠ best) (n6 : h ≠ cs) (n7 : w ≠ d) (n8 : w ≠ b) (n9 : w ≠ best)
    (due : List (List Int)) (pl : Nat) (N : Int) (c : Nat) (B : Option (Int × Int)) (hN : ∀ r ∈ due, (r.length : Int) = N) (h1 : (pl : Int) < N) (hl : due.length ≤ 1000) (hc : c ≤ 1000) (hc1 : 1 ≤ c)
    (ed : getE d e = .ok (.list (due.map rowD))) (eb : getE b e = .ok (.int pl)) (ecs : getE cs e = .ok (.int c)) (ebest : getE best e = .ok (bestD B)) :
    ∃ e', exS F (bodyB a b d best h q cs w) e = .ok (.nx e') ∧ e'.length = e.length ∧ getE best e' = .ok (bestD (stepB due c B pl)) ∧ ∀ i, i ≠ h → i ≠ w → i ≠ best → e'[i]? = e[i]? := by
  have hs := here_ok F e a b d hal n1 due pl N hN (by omega) h1 hl ed eb
  rw [Int.toNat_natCast] at hs
  let H := due.map fun r => r.getD pl 0
  let W := worstOf H c
  let e1 := e.set h (.v (.list (H.map .int)))
  let e2 := e1.set w (.v (.int W))
  have x1 : exS F (.set (.nm h) (.lc (.sub (.var a) (.var b)) (.nm a) (.itr (.var d)))) e = .ok (.nx e1) := by
    show ((ev F (.lc (.sub (.var a) (.var b)) (.nm a) (.itr (.var d))) e).bind fun d => (asg (.nm h) d e).bind fun e1 => (R.ok (Fl.nx e1) : R Fl)) = _
    rw [hs]; rfl
  have wo := worst_ok F e1 h q cs (by show q < (e.set h _).length; rw [List.length_set]; exact hql) n2 H c hc hc1 (getE_set hhl) ((getE_ne n6).trans ecs)
  have x2 : exS F (.set (.nm w) (.blt "max" (.cons (.lc (.mth "count" (.var h) (.cons (.var q) .nil)) (.nm q) (.rng (.var cs))) .nil))) e1 = .ok (.nx e2) := by
    show ((ev F (.blt "max" (.cons (.lc (.mth "count" (.var h) (.cons (.var q) .nil)) (.nm q) (.rng (.var cs))) .nil)) e1).bind fun d => (asg (.nm w) d e1).bind fun e2 => (R.ok (Fl.nx e2) : R Fl)) = _
    rw [wo]; rfl
  have gw : getE w e2 = .ok (.int W) := getE_set (by show w < (e.set h _).length; rw [List.length_set]; exact hwl)
  have gd : getE d e2 = .ok (.list (due.map rowD)) := (getE_ne n7).trans ((getE_ne n3).trans ed)
  have gb : getE b e2 = .ok (.int pl) := (getE_ne n8).trans ((getE_ne n4).trans eb)
  have gB : getE best e2 = .ok (bestD B) := (getE_ne n9).trans ((getE_ne n5).trans ebest)
  have l2 : e2.length = e.length := by show ((e.set h _).set w _).length = _; rw [List.length_set, List.length_set]
  have keep : ∀ i, i ≠ h → i ≠ w → e2[i]? = e[i]? := fun i i1 i2 => by
    show ((e.set h _).set w _)[i]? = _
    rw [List.getElem?_set_ne (Ne.symm i2), List.getElem?_set_ne (Ne.symm i1)]
  have cnd : ev F (.and (.cmp .Lt (.var w) (.blt "len" (.cons (.var d) .nil))) (.one (.or (.cmp .Is (.var best) .non) (.one (.cmp .Lt (.var w) (.sub (.var best) (.int 0))))))) e2 = .ok (.bool (decide (W < due.length) && lessB W B)) := by
    have c1 : ev F (.cmp .Lt (.var w) (.blt "len" (.cons (.var d) .nil))) e2 = .ok (.bool (decide (W < due.length))) := by
      show (getE w e2).bind (fun x => (listD ((getE d e2).bind fun x => (R.ok (PyData.list [x]) : R D))).bind (fun xs => bltD "len" xs) |>.bind fun y => cmpD .Lt x y) = _
      rw [gw, gd]
      show cmpD .Lt (.int W) (.int (due.map rowD).length) = _
      rw [List.length_map]; rfl
    show (ev F (.cmp .Lt (.var w) (.blt "len" (.cons (.var d) .nil))) e2).bind (fun x => (boolD x).bind fun k => if k then ev F (.one (.or (.cmp .Is (.var best) .non) (.one (.cmp .Lt (.var w) (.sub (.var best) (.int 0)))))) e2 else .ok (.bool false)) = _
    rw [c1]
    cases hw : decide (W < due.length) with
    | false => rfl
    | true =>
      show ((getE best e2).bind fun x => cmpD .Is x .none).bind (fun x => (boolD x).bind fun k => if k then .ok (.bool true) else (getE w e2).bind fun x => ((getE best e2).bind fun y => subD y (.int 0)).bind fun y => cmpD .Lt x y) = _
      rw [gB, gw]
      cases B with
      | none => rfl
      | some q => rfl
  by_cases ht : (decide (W < due.length) && lessB W B) = true
  · refine ⟨e2.set best (.v (.tuple [.int W, .int pl])), ?_, by rw [List.length_set, l2], ?_, fun i i1 i2 i3 => by rw [List.getElem?_set_ne (Ne.symm i3)]; exact keep i i1 i2⟩
    · unfold bodyB
      rw [ex_next x1, ex_next x2]
      have x3 : exS F (.ife (.and (.cmp .Lt (.var w) (.blt "len" (.cons (.var d) .nil))) (.one (.or (.cmp .Is (.var best) .non) (.one (.cmp .Lt (.var w) (.sub (.var best) (.int 0))))))) (.cons (.set (.nm best) (.tup (.cons (.var w) (.cons (.var b) .nil)))) .nil) .nil) e2 = .ok (.nx (e2.set best (.v (.tuple [.int W, .int pl])))) := by
        show (ev F _ e2).bind (fun x => (truD x).bind fun k => if k then exS F (.cons (.set (.nm best) (.tup (.cons (.var w) (.cons (.var b) .nil)))) .nil) e2 else exS F .nil e2) = _
        rw [cnd, ht]
        show exS F (.cons (.set (.nm best) (.tup (.cons (.var w) (.cons (.var b) .nil)))) .nil) e2 = _
        have : exS F (.set (.nm best) (.tup (.cons (.var w) (.cons (.var b) .nil)))) e2 = .ok (.nx (e2.set best (.v (.tuple [.int W, .int pl])))) := by
          simp [exS, ev, gw, gb, listD, asg, seqOk, isDict, okLen, lim]
        rw [ex_next this]; rfl
      rw [ex_next x3]; rfl
    · rw [getE_set (by rw [l2]; exact hbl)]
      unfold stepB
      rw [if_pos ht]; rfl
  · refine ⟨e2, ?_, l2, ?_, fun i i1 i2 _ => keep i i1 i2⟩
    · unfold bodyB
      rw [ex_next x1, ex_next x2]
      have x3 : exS F (.ife (.and (.cmp .Lt (.var w) (.blt "len" (.cons (.var d) .nil))) (.one (.or (.cmp .Is (.var best) .non) (.one (.cmp .Lt (.var w) (.sub (.var best) (.int 0))))))) (.cons (.set (.nm best) (.tup (.cons (.var w) (.cons (.var b) .nil)))) .nil) .nil) e2 = .ok (.nx e2) := by
        show (ev F _ e2).bind (fun x => (truD x).bind fun k => if k then exS F (.cons (.set (.nm best) (.tup (.cons (.var w) (.cons (.var b) .nil)))) .nil) e2 else exS F .nil e2) = _
        rw [cnd, Bool.eq_false_iff.mpr ht]; rfl
      rw [ex_next x3]; rfl
    · rw [gB]
      unfold stepB
      rw [if_neg ht]
end TC
set_option Elab.async false
set_option linter.all false
set_option maxRecDepth 100000
set_option autoImplicit false
/-! PlI: the loop over the places; best_pair (k11). -/
namespace TC
open PySem
theorem rng_get {n m : Nat} {x : D} (h : (rngL 0 n)[m]? = some x) : m < n ∧ x = .int m := by
  unfold rngL at h
  rw [List.getElem?_map] at h
  have hm : m < n := by
    rcases Nat.lt_or_ge m n with z | z
    · exact z
    · rw [List.getElem?_eq_none (by rw [List.length_range]; exact z)] at h; cases h
  rw [List.getElem?_range hm] at h
  simp at h
  exact ⟨hm, h.symm⟩
theorem bestN_succ (due : List (List Int)) (c n : Nat) : bestN due c (n + 1) = stepB due c (bestN due c n) n := by
  unfold bestN
  rw [List.range_succ, List.foldl_append]; rfl
theorem best_loop (F : Fns) (e0 : Env) (a b d best h q cs w : Nat) (hal : a < e0.length) (hb0 : b < e0.length) (hhl : h < e0.length) (hql : q < e0.length) (hwl : w < e0.length) (hbl : best < e0.length)
    (n1 : a ≠ b) (n2 : q ≠ h) (n3 : h ≠ d) (n4 : h ≠ b) (n5 : h ≠ best) (n6 : h ≠ cs) (n7 : w ≠ d) (n8 : w ≠ b) (n9 : w ≠ best) (m1 : b ≠ d) (m2 : b ≠ best) (m3 : b ≠ cs) (m4 : w ≠ cs) (m5 : best ≠ d) (m6 : best ≠ cs)
    (due : List (List Int)) (N : Int) (c n : Nat) (hN : ∀ r ∈ due, (r.length : Int) = N) (hn : (n : Int) ≤ N) (hl : due.length ≤ 1000) (hc : c ≤ 1000) (hc1 : 1 ≤ c)
    (ed : getE d e0 = .ok (.list (due.map rowD))) (ecs : getE cs e0 = .ok (.int c)) (ebest : getE best e0 = .ok .none) :
    ∃ e', forG (.nm b) (exS F (bodyB a b d best h q cs w)) (rngL 0 n) e0 = .ok (.nx e') ∧ e'.length = e0.length ∧ getE best e' = .ok (bestD (bestN due c n)) ∧ ∀ i, i ≠ b → i ≠ h → i ≠ w → i ≠ best → e'[i]? = e0[i]? := by
  obtain ⟨e', h1, h2, h3, h4⟩ := for_inv (t := .nm b) (b := exS F (bodyB a b d best h q cs w)) (fun m e => e.length = e0.length ∧ getE best e = .ok (bestD (bestN due c m)) ∧ ∀ i, i ≠ b → i ≠ h → i ≠ w → i ≠ best → e[i]? = e0[i]?) (rngL 0 n) 0 e0
    (by
      rintro m x e hx ⟨l, g, kp⟩
      obtain ⟨hm, rfl⟩ := rng_get hx
      have gk : ∀ i, i ≠ b → i ≠ h → i ≠ w → i ≠ best → getE i (e.set b (.v (.int m))) = getE i e0 := fun i i1 i2 i3 i4 => by
        rw [getE_ne (Ne.symm i1)]
        unfold getE
        rw [kp i i1 i2 i3 i4]
      obtain ⟨e', q1, q2, q3, q4⟩ := best_step F (e.set b (.v (.int m))) a b d best h q cs w (by rw [List.length_set, l]; exact hal) (by rw [List.length_set, l]; exact hhl) (by rw [List.length_set, l]; exact hql) (by rw [List.length_set, l]; exact hwl) (by rw [List.length_set, l]; exact hbl)
        n1 n2 n3 n4 n5 n6 n7 n8 n9 due m N c (bestN due c (0 + m)) hN (by omega) hl hc hc1 ((gk d (Ne.symm m1) (Ne.symm n3) (Ne.symm n7) (Ne.symm m5)).trans ed) (getE_set (by rw [l]; exact hb0)) ((gk cs (Ne.symm m3) (Ne.symm n6) (Ne.symm m4) (Ne.symm m6)).trans ecs) ((getE_ne m2).trans g)
      refine ⟨e', q1, by rw [q2, List.length_set, l], ?_, fun i i1 i2 i3 i4 => ?_⟩
      · rw [q3, show 0 + m = m by omega, bestN_succ]
      · rw [q4 i i2 i3 i4, List.getElem?_set_ne (Ne.symm i1)]
        exact kp i i1 i2 i3 i4)
    ⟨rfl, ebest, fun _ _ _ _ _ => rfl⟩
  refine ⟨e', h1, h2, ?_, h4⟩
  rw [h3]
  congr 3
  unfold rngL; simp
def bestR : Option (Int × Int) → D
  | none => .none
  | some q => .int q.2
section
variable {T : List Df}
theorem sp_best_pair (h : HasF T "best_pair" 10 B_f_best_pair) (k : Nat) (p : Int) (c : Nat) (hc : c ≤ 1000) (hc1 : 1 ≤ c) (N : Nat) (hNN : N ≤ 1000) (ans : D) (due : List (List Int)) (hl : due.length ≤ 1000) (hN : ∀ r ∈ due, (r.length : Int) = N)
    (h1 : Fk T (k + 4) "candidates" [.int p, .int c, ans] = .ok (.list (due.map rowD))) : Fk T (k + 5) "best_pair" [.int p, .int c, ans] = if due = [] then .exc "InvalidAnswers" else .ok (bestR (bestN due c N)) := by
  rw [h]
  have x1 : exS (Fk T (k + 4)) (nthS B_f_best_pair 0) [.v (.int p), .v (.int c), .v ans, .no, .no, .no, .no, .no, .no, .no] = .ok (.nx [.v (.int p), .v (.int c), .v ans, .v (.list (due.map rowD)), .no, .no, .no, .no, .no, .no]) := by
    simp [nthS, B_f_best_pair, exS, ev, getE, h1, listD, asg]
  show (exS (Fk T (k + 4)) (.cons (nthS B_f_best_pair 0) (.cons (nthS B_f_best_pair 1) (.cons (nthS B_f_best_pair 2) (.cons (nthS B_f_best_pair 3) (.cons (nthS B_f_best_pair 4) .nil))))) [.v (.int p), .v (.int c), .v ans, .no, .no, .no, .no, .no, .no, .no]).bind _ = _
  rw [ex_next x1]
  cases due with
  | nil =>
    rw [if_pos rfl]
    have x2 : exS (Fk T (k + 4)) (nthS B_f_best_pair 1) [.v (.int p), .v (.int c), .v ans, .v (.list (([] : List (List Int)).map rowD)), .no, .no, .no, .no, .no, .no] = .exc "InvalidAnswers" := by
      simp [nthS, B_f_best_pair, exS, ev, getE, truD]
    rw [ex_exc x2]; rfl
  | cons r0 rs =>
    rw [if_neg (by simp)]
    have x2 : exS (Fk T (k + 4)) (nthS B_f_best_pair 1) [.v (.int p), .v (.int c), .v ans, .v (.list ((r0 :: rs).map rowD)), .no, .no, .no, .no, .no, .no] = .ok (.nx [.v (.int p), .v (.int c), .v ans, .v (.list ((r0 :: rs).map rowD)), .no, .no, .no, .no, .no, .no]) := by
      simp [nthS, B_f_best_pair, exS, ev, getE, truD]
    have x3 : exS (Fk T (k + 4)) (nthS B_f_best_pair 2) [.v (.int p), .v (.int c), .v ans, .v (.list ((r0 :: rs).map rowD)), .no, .no, .no, .no, .no, .no] = .ok (.nx [.v (.int p), .v (.int c), .v ans, .v (.list ((r0 :: rs).map rowD)), .v .none, .no, .no, .no, .no, .no]) := rfl
    obtain ⟨e', q1, q2, q3, q4⟩ := best_loop (Fk T (k + 4)) [.v (.int p), .v (.int c), .v ans, .v (.list ((r0 :: rs).map rowD)), .v .none, .no, .no, .no, .no, .no] 6 5 3 4 7 8 1 9 (by simp) (by simp) (by simp) (by simp) (by simp) (by simp) (by decide) (by decide) (by decide) (by decide) (by decide) (by decide) (by decide) (by decide) (by decide) (by decide) (by decide) (by decide) (by decide) (by decide) (by decide)
      (r0 :: rs) N c N hN (Int.le_refl _) hl hc hc1 rfl rfl rfl
    have hr0 : (r0.length : Int) = N := hN r0 List.mem_cons_self
    have it : listD (ev (Fk T (k + 4)) (.rng (.blt "len" (.cons (.sub (.var 3) (.int 0)) .nil))) [.v (.int p), .v (.int c), .v ans, .v (.list ((r0 :: rs).map rowD)), .v .none, .no, .no, .no, .no, .no]) = .ok (rngL 0 N) := by
      have e0 : subD (.list ((r0 :: rs).map rowD)) (.int 0) = .ok (rowD r0) := sub_list (by omega) rfl
      show listD ((listD ((subD (.list ((r0 :: rs).map rowD)) (.int 0)).bind fun x => (R.ok (PyData.list [x]) : R D))).bind (fun xs => bltD "len" xs) |>.bind fun x => rngD (.int 0) x) = _
      rw [e0]
      show listD (rngD (.int 0) (.int (r0.map PyData.int).length)) = _
      rw [List.length_map, hr0]
      have k1 : (okI 0 && okI (N : Int)) = true := by unfold okI; simp; omega
      show listD ((R.guard (okI 0 && okI (N : Int))).bind fun _ => (R.ok (PyData.list (rngL 0 ((N : Int) - 0).toNat)) : R D)) = _
      rw [k1]
      show R.ok (rngL 0 ((N : Int) - 0).toNat) = _
      rw [Int.sub_zero, Int.toNat_natCast]
    have x4 : exS (Fk T (k + 4)) (nthS B_f_best_pair 3) [.v (.int p), .v (.int c), .v ans, .v (.list ((r0 :: rs).map rowD)), .v .none, .no, .no, .no, .no, .no] = .ok (.nx e') := ex_for (b := bodyB 6 5 3 4 7 8 1 9) it q1
    have x5 : exS (Fk T (k + 4)) (nthS B_f_best_pair 4) e' = .ok (.rt (bestR (bestN (r0 :: rs) c N))) := by
      show (((getE 4 e').bind fun x => cmpD .Is x .none).bind fun x => (truD x).bind fun k => if k then R.ok PyData.none else (getE 4 e').bind fun y => subD y (.int 1)).bind (fun d => (R.ok (Fl.rt d) : R Fl)) = _
      rw [q3]
      cases bestN (r0 :: rs) c N <;> rfl
    rw [ex_next x2, ex_next x3, ex_next x4, ex_ret x5]; rfl
end
end TC
set_option Elab.async false
set_option linter.all false
set_option maxRecDepth 100000
set_option maxHeartbeats 0
set_option autoImplicit false
namespace LW
open PySem PySem.Spec PyProof.Rows L2 TC
theorem H_in_range : HasF T "in_range" 3 B_f_in_range := hasF (d := d_f_in_range) (by kernel_rfl)
theorem H_check_small : HasF T "check_small" 2 B_f_check_small := hasF (d := d_f_check_small) (by kernel_rfl)
theorem H_check_answers : HasF T "check_answers" 4 B_f_check_answers := hasF (d := d_f_check_answers) (by kernel_rfl)
theorem H_candidates : HasF T "candidates" 6 B_f_candidates := hasF (d := d_f_candidates) (by kernel_rfl)
theorem H_best_pair : HasF T "best_pair" 10 B_f_best_pair := hasF (d := d_f_best_pair) (by kernel_rfl)
theorem H_all_tame : HasF T "all_tame" 2 B_f_all_tame := hasF (d := d_f_all_tame) (by kernel_rfl)
theorem H_cell : HasF T "_law_cell" 2 B_l_law_cell := hasF (d := d_l_law_cell) (by kernel_rfl)
theorem H_row : HasF T "_law_row" 5 B_l_law_row := hasF (d := d_l_law_row) (by kernel_rfl)
theorem H_hidden : HasF T "_law_hidden" 5 (B_l_law_hidden XS) := hasF (d := d_l_law_hidden) (by kernel_rfl)
/-- the rows that every_tame gives -/
def Et (p c : Nat) : List (List Int) := match Fk T 6 "every_tame" [.int p, .int c] with
  | .ok (.list ds) => (toRows ds).getD []
  | _ => []
def pcs : List (Nat × Nat) := [(1, 1), (2, 3), (3, 2), (3, 3), (4, 1), (4, 2), (3, 3), (4, 2)]
def rOk : R D → List (List Int) → Bool
  | .ok (.list ds), E => decide (toRows ds = some E)
  | _, _ => false
theorem rOk_eq {r : R D} {E : List (List Int)} (h : rOk r E = true) : r = .ok (.list (E.map rowD)) := by
  unfold rOk at h
  split at h
  · rw [toRows_some (of_decide_eq_true h)]
  · cases h
theorem et_all (k : Nat) : (pcs.all fun q => rOk (Fk T (k + 4) "every_tame" [.int q.1, .int q.2]) (Et q.1 q.2) && (decide ((Et q.1 q.2).length ≤ 100) && (!(Et q.1 q.2).isEmpty && (Et q.1 q.2).all fun r => decide (r.length = q.1 * (q.1 - 1) / 2) && r.all fun x => decide (0 ≤ x) && decide (x < (q.2 : Int))))) = true := by kernel_rfl
end LW
set_option Elab.async false
set_option linter.all false
set_option maxRecDepth 100000
set_option autoImplicit false
/-! PmA: loops and comprehensions over typed lists; the operations' facts. -/
namespace TC
open PySem
/-- a loop that runs through: what holds behind each of the first turns -/
theorem for_pre {α : Type} {b : Env → R Fl} {t : Tg} (h : α → D) (Em : List α → Env → Prop) (l : List α) (step : ∀ p a r, l = p ++ a :: r → ∀ e, Em p e → ∃ e', (asg t (h a) e).bind b = .ok (.nx e') ∧ Em (p ++ [a]) e') (e : Env) (h0 : Em [] e) :
    ∃ e', forG t b (l.map h) e = .ok (.nx e') ∧ Em l e' := by
  suffices H : ∀ (r p : List α) (e : Env), l = p ++ r → Em p e → ∃ e', forG t b (r.map h) e = .ok (.nx e') ∧ Em l e' from H l [] e rfl h0
  intro r
  induction r with
  | nil => intro p e hl he; rw [List.append_nil] at hl; exact ⟨e, rfl, hl ▸ he⟩
  | cons a r ih =>
    intro p e hl he
    obtain ⟨e1, h1, h2⟩ := step p a r hl e he
    obtain ⟨e2, h3, h4⟩ := ih (p ++ [a]) e1 (by rw [hl]; simp) h2
    refine ⟨e2, ?_, h4⟩
    rw [List.map_cons]
    unfold forG
    cases ea : asg t (h a) e with
    | stuck => rw [ea] at h1; cases h1
    | exc c => rw [ea] at h1; cases h1
    | ok e' =>
      rw [ea] at h1
      simp only [R.ok_bind] at h1 ⊢
      rw [h1]
      exact h3
/-- a loop that may end early with an answer -/
theorem for_stop {α : Type} {b : Env → R Fl} {t : Tg} (h : α → D) (f : α → Option (D ⊕ Str)) (Em : List α → Env → Prop) (l : List α)
    (step : ∀ p a r, l = p ++ a :: r → ∀ e, Em p e → match f a with
      | some (.inl d) => (asg t (h a) e).bind b = .ok (.rt d)
      | some (.inr c) => (asg t (h a) e).bind b = .exc c
      | none => ∃ e', (asg t (h a) e).bind b = .ok (.nx e') ∧ Em (p ++ [a]) e') (e : Env) (h0 : Em [] e) :
    match l.findSome? f with
      | some (.inl d) => forG t b (l.map h) e = .ok (.rt d)
      | some (.inr c) => forG t b (l.map h) e = .exc c
      | none => ∃ e', forG t b (l.map h) e = .ok (.nx e') ∧ Em l e' := by
  suffices H : ∀ (r p : List α) (e : Env), l = p ++ r → Em p e → match r.findSome? f with
      | some (.inl d) => forG t b (r.map h) e = .ok (.rt d)
      | some (.inr c) => forG t b (r.map h) e = .exc c
      | none => ∃ e', forG t b (r.map h) e = .ok (.nx e') ∧ Em l e' from H l [] e rfl h0
  intro r
  induction r with
  | nil => intro p e hl he; rw [List.append_nil] at hl; exact ⟨e, rfl, hl ▸ he⟩
  | cons a r ih =>
    intro p e hl he
    have s := step p a r hl e he
    rw [List.findSome?_cons]
    cases ef : f a with
    | some q =>
      rw [ef] at s
      cases q with
      | inl d =>
        show forG t b ((a :: r).map h) e = .ok (.rt d)
        have s : (asg t (h a) e).bind b = .ok (.rt d) := s
        rw [List.map_cons]
        unfold forG
        cases ea : asg t (h a) e with
        | stuck => rw [ea] at s; cases s
        | exc c => rw [ea] at s; cases s
        | ok e' =>
          rw [ea] at s
          simp only [R.ok_bind] at s ⊢
          rw [s]; rfl
      | inr c =>
        show forG t b ((a :: r).map h) e = .exc c
        have s : (asg t (h a) e).bind b = .exc c := s
        rw [List.map_cons]
        unfold forG
        cases ea : asg t (h a) e with
        | stuck => rw [ea] at s; cases s
        | exc c => rw [ea] at s; exact s
        | ok e' =>
          rw [ea] at s
          simp only [R.ok_bind] at s ⊢
          rw [s]; rfl
    | none =>
      rw [ef] at s
      obtain ⟨e1, h1, h2⟩ := s
      have i := ih (p ++ [a]) e1 (by rw [hl]; simp) h2
      have es : forG t b ((a :: r).map h) e = forG t b (r.map h) e1 := by
        rw [List.map_cons]
        conv => lhs; unfold forG
        cases ea : asg t (h a) e with
        | stuck => rw [ea] at h1; cases h1
        | exc c => rw [ea] at h1; cases h1
        | ok e' =>
          rw [ea] at h1
          simp only [R.ok_bind] at h1 ⊢
          rw [h1]; rfl
      rw [es]
      exact i
theorem lcf_ok {α : Type} {F : Fns} {elt it cnd : E} {t : Tg} {e : Env} (h : α → D) (p : α → Bool) (g : α → D) (l : List α) (h1 : listD (ev F it e) = .ok (l.map h))
    (step : ∀ a ∈ l, ∃ e1, asg t (h a) (wipeE e (slots t)) = .ok e1 ∧ (ev F cnd e1).bind truD = .ok (p a) ∧ (p a = true → ev F elt e1 = .ok (g a)))
    (h3 : seqOk ((l.filter p).map g) = true) : ev F (.lcf elt t it cnd) e = .ok (.list ((l.filter p).map g)) :=
  ev_lcf h1 (lc_map h p g step) h3
theorem lc_ok {α : Type} {F : Fns} {elt it : E} {t : Tg} {e : Env} (h : α → D) (g : α → D) (l : List α) (h1 : listD (ev F it e) = .ok (l.map h))
    (step : ∀ a ∈ l, ∃ e1, asg t (h a) (wipeE e (slots t)) = .ok e1 ∧ ev F elt e1 = .ok (g a))
    (h3 : seqOk (l.map g) = true) : ev F (.lc elt t it) e = .ok (.list (l.map g)) := by
  have := lc_map (f := ev F elt) (c := fun _ => .ok true) (t := t) (e := wipeE e (slots t)) h (fun _ => true) g (l := l) (fun a ha => by
    obtain ⟨e1, h1, h2⟩ := step a ha
    exact ⟨e1, h1, rfl, fun _ => h2⟩)
  rw [List.filter_eq_self.mpr (fun _ _ => rfl)] at this
  exact ev_lc h1 this h3
theorem lc2_map {α : Type} {g : Env → R (List D)} {t : Tg} {e : Env} (h : α → D) (f : α → List D) : ∀ {l : List α}, (∀ a ∈ l, ∃ e1, asg t (h a) e = .ok e1 ∧ g e1 = .ok (f a)) → lcG2 g t e (l.map h) = .ok (l.flatMap f)
  | [], _ => rfl
  | x :: xs, hh => by
    obtain ⟨e1, h1, h2⟩ := hh x List.mem_cons_self
    have ih := lc2_map h f (l := xs) fun y hy => hh y (List.mem_cons_of_mem _ hy)
    rw [List.map_cons]
    unfold lcG2
    rw [h1]
    simp only [R.ok_bind, h2, ih, List.flatMap_cons]
theorem lc2_ok {α β : Type} {F : Fns} {elt it it1 : E} {t t1 : Tg} {e : Env} (h : α → D) (h' : β → D) (m : α → List β) (g : α → β → D) (l : List α) (h1 : listD (ev F it e) = .ok (l.map h))
    (step : ∀ a ∈ l, ∃ e1, asg t (h a) (wipeE e (slots t ++ slots t1)) = .ok e1 ∧ listD (ev F it1 e1) = .ok ((m a).map h') ∧ ∀ b ∈ m a, ∃ e2, asg t1 (h' b) (wipeE e1 (slots t1)) = .ok e2 ∧ ev F elt e2 = .ok (g a b))
    (h3 : seqOk (l.flatMap fun a => (m a).map (g a)) = true) : ev F (.lc2 elt t it t1 it1) e = .ok (.list (l.flatMap fun a => (m a).map (g a))) := by
  show ((listD (ev F it e)).bind fun xs => (calm (lcG2 (fun e1 => (listD (ev F it1 e1)).bind fun zs => lcG (ev F elt) (fun _ => .ok true) t1 (wipeE e1 (slots t1)) zs) t (wipeE e (slots t ++ slots t1)) xs)).bind fun ys => (R.guard (seqOk ys)).bind fun _ => (R.ok (PyData.list ys) : R D)) = _
  rw [h1]
  have := lc2_map (g := fun e1 => (listD (ev F it1 e1)).bind fun zs => lcG (ev F elt) (fun _ => .ok true) t1 (wipeE e1 (slots t1)) zs) (t := t) (e := wipeE e (slots t ++ slots t1)) h (fun a => (m a).map (g a)) (l := l) (fun a ha => by
    obtain ⟨e1, s1, s2, s3⟩ := step a ha
    refine ⟨e1, s1, ?_⟩
    show (listD (ev F it1 e1)).bind _ = _
    rw [s2]
    have := lc_map (f := ev F elt) (c := fun _ => .ok true) (t := t1) (e := wipeE e1 (slots t1)) h' (fun _ => true) (g a) (l := m a) (fun b hb => by
      obtain ⟨e2, h1, h2⟩ := s3 b hb
      exact ⟨e2, h1, rfl, fun _ => h2⟩)
    rw [List.filter_eq_self.mpr (fun _ _ => rfl)] at this
    exact this)
  simp only [R.ok_bind, this, calm_ok, h3]; rfl
/-! ### ranges -/
def rI (lo hi : Int) : List Int := (List.range (hi - lo).toNat).map fun k => lo + (k : Nat)
theorem rng_map (lo : Int) (n : Nat) : rngL lo n = (rI lo (lo + n)).map .int := by
  unfold rngL rI
  rw [List.map_map, show (lo + (n : Int) - lo).toNat = n by omega]; rfl
theorem rng_ok {a b : Int} (h1 : -16777216 ≤ a) (h2 : a ≤ 16777216) (h3 : -16777216 ≤ b) (h4 : b ≤ 16777216) : rngD (.int a) (.int b) = .ok (.list ((rI a b).map .int)) := by
  have k1 : (okI a && okI b) = true := by unfold okI; simp; omega
  show (R.guard (okI a && okI b)).bind (fun _ => (R.ok (PyData.list (rngL a (b - a).toNat)) : R D)) = _
  rw [k1]
  show R.ok (PyData.list (rngL a (b - a).toNat)) = _
  rw [rng_map]
  unfold rI
  rw [show (a + ((b - a).toNat : Int) - a).toNat = (b - a).toNat by omega]
theorem mem_rI {a b x : Int} : x ∈ rI a b ↔ a ≤ x ∧ x < b := by
  unfold rI
  simp only [List.mem_map, List.mem_range]
  constructor
  · rintro ⟨k, hk, rfl⟩; omega
  · intro h; exact ⟨(x - a).toNat, by omega, by omega⟩
theorem rI_length (a b : Int) : (rI a b).length = (b - a).toNat := by unfold rI; simp
theorem rI_nil {a b : Int} (h : b ≤ a) : rI a b = [] := by
  unfold rI
  rw [show (b - a).toNat = 0 by omega]; rfl
theorem rI_cons {a b : Int} (h : a < b) : rI a b = a :: rI (a + 1) b := by
  unfold rI
  rw [show (b - a).toNat = (b - (a + 1)).toNat + 1 by omega, List.range_succ_eq_map, List.map_cons, List.map_map]
  simp only [Int.natCast_zero, Int.add_zero]
  congr 1
  apply List.map_congr_left
  intro k _
  simp only [Function.comp]
  omega
theorem rI_snoc {a b : Int} (h : a ≤ b) : rI a (b + 1) = rI a b ++ [b] := by
  unfold rI
  rw [show (b + 1 - a).toNat = (b - a).toNat + 1 by omega, List.range_succ, List.map_append]
  congr 1
  simp; omega
/-! ### operations, typed -/
def pairD (q : Int × Int) : D := .tuple [.int q.1, .int q.2]
theorem okN {n : Nat} (h : n ≤ 16777216) : okLen n = true := by unfold okLen lim; exact decide_eq_true h
theorem seqOk_map {α : Type} {l : List α} {g : α → D} (hl : l.length ≤ 16777216) (h : ∀ a, isDict (g a) = false) : seqOk (l.map g) = true := by
  unfold seqOk
  rw [Bool.and_eq_true]
  refine ⟨List.all_eq_true.mpr fun y hy => ?_, okN (by rw [List.length_map]; exact hl)⟩
  obtain ⟨a, _, rfl⟩ := List.mem_map.mp hy
  rw [h a]; rfl
theorem seqOk_filter {α : Type} {l : List α} {p : α → Bool} {g : α → D} (hl : l.length ≤ 16777216) (h : ∀ a, isDict (g a) = false) : seqOk ((l.filter p).map g) = true :=
  seqOk_map (Nat.le_trans (List.length_filter_le _ _) hl) h
theorem itr_list (xs : List D) : itrD (.list xs) = .ok (.list xs) := rfl
theorem itr_tup (xs : List D) : itrD (.tuple xs) = .ok (.list xs) := rfl
theorem itr_row (l : List Int) : itrD (rowD l) = .ok (.list (l.map .int)) := rfl
theorem seq_row (l : List Int) : seqD (rowD l) = .ok (l.map .int) := rfl
theorem seq_list (xs : List D) : seqD (.list xs) = .ok xs := rfl
theorem seq_tup (xs : List D) : seqD (.tuple xs) = .ok xs := rfl
theorem len_list (xs : List D) : bltD "len" [.list xs] = .ok (.int xs.length) := rfl
theorem len_tup (xs : List D) : bltD "len" [.tuple xs] = .ok (.int xs.length) := rfl
theorem len_row (l : List Int) : bltD "len" [rowD l] = .ok (.int l.length) := by
  show R.ok (PyData.int (l.map PyData.int).length) = _
  rw [List.length_map]
theorem tup_list (xs : List D) : bltD "tuple" [.list xs] = .ok (.tuple xs) := rfl
theorem list_tup (xs : List D) : bltD "list" [.tuple xs] = .ok (.list xs) := rfl
theorem list_row (l : List Int) : bltD "list" [rowD l] = .ok (.list (l.map .int)) := rfl
theorem tup_ints (l : List Int) : PyData.tuple (l.map .int) = rowD l := rfl
theorem min_two (a b : Int) : bltD "min" [.int a, .int b] = .ok (.int (min a b)) := by
  show R.ok (PyData.int (if b < a then b else a)) = _
  congr 2
  split <;> omega
theorem max_two (a b : Int) : bltD "max" [.int a, .int b] = .ok (.int (max a b)) := by
  show R.ok (PyData.int (if b > a then b else a)) = _
  congr 2
  split <;> omega
theorem int_bool (b : Bool) : bltD "int" [.bool b] = .ok (.int (if b then 1 else 0)) := rfl
theorem int_int (b : Int) : bltD "int" [.int b] = .ok (.int b) := rfl
theorem zip_map {α β : Type} (f : α → D) (g : β → D) : ∀ (l : List α) (m : List β), zipL (l.map f) (m.map g) = (l.zip m).map fun q => .tuple [f q.1, g q.2]
  | [], _ => rfl
  | _ :: _, [] => rfl
  | a :: l, b :: m => by
    show PyData.tuple [f a, g b] :: zipL (l.map f) (m.map g) = _
    rw [zip_map f g l m]; rfl
def enuI {α : Type} : Int → List α → List (Int × α)
  | _, [] => []
  | k, x :: xs => (k, x) :: enuI (k + 1) xs
theorem enu_map {α : Type} (f : α → D) : ∀ (l : List α) (k : Nat), enuL k (l.map f) = (enuI k l).map fun q => .tuple [.int q.1, f q.2]
  | [], _ => rfl
  | a :: l, k => by
    show PyData.tuple [.int k, f a] :: enuL (k + 1) (l.map f) = _
    rw [enu_map f l (k + 1)]; rfl
theorem enu_map0 {α : Type} (f : α → D) (l : List α) : enuL 0 (l.map f) = (enuI 0 l).map fun q => .tuple [.int q.1, f q.2] := enu_map f l 0
theorem mulI {a b : Int} (h1 : -18446744073709551616 < a) (h2 : a < 18446744073709551616) : mulD (.int a) (.int b) = .ok (.int (a * b)) := by
  have : (small64 a || small64 b) = true := by unfold small64; rw [decide_eq_true (show -(2 ^ 64) < a from h1), decide_eq_true (show a < 2 ^ 64 from h2)]; rfl
  show (R.guard (small64 a || small64 b)).bind (fun _ => R.ok (PyData.int (a * b))) = _
  rw [this]; rfl
theorem addI (a b : Int) : addD (.int a) (.int b) = .ok (.int (a + b)) := rfl
theorem addL {a b : List D} (h : a.length + b.length ≤ 16777216) : addD (.list a) (.list b) = .ok (.list (a ++ b)) := by
  show (R.guard (okLen (a.length + b.length))).bind (fun _ => R.ok (PyData.list (a ++ b))) = _
  rw [okN h]; rfl
theorem addT {a b : List D} (h : a.length + b.length ≤ 16777216) : addD (.tuple a) (.tuple b) = .ok (.tuple (a ++ b)) := by
  show (R.guard (okLen (a.length + b.length))).bind (fun _ => R.ok (PyData.tuple (a ++ b))) = _
  rw [okN h]; rfl
theorem addR {a b : List Int} (h : a.length + b.length ≤ 16777216) : addD (rowD a) (rowD b) = .ok (rowD (a ++ b)) := by
  unfold rowD
  rw [addT (by rw [List.length_map, List.length_map]; exact h), List.map_append]
theorem eqD_ints (a b : Int) : cmpD .Eq (.int a) (.int b) = .ok (.bool (decide (a = b))) := by
  show mapB id (eqD (.int a) (.int b)) = _
  rw [eq_ints]; rfl
theorem neD_ints (a b : Int) : cmpD .NotEq (.int a) (.int b) = .ok (.bool (!decide (a = b))) := by
  show mapB Bool.not (eqD (.int a) (.int b)) = _
  rw [eq_ints]; rfl
theorem ltD_ints (a b : Int) : cmpD .Lt (.int a) (.int b) = .ok (.bool (decide (a < b))) := rfl
theorem gtD_ints (a b : Int) : cmpD .Gt (.int a) (.int b) = .ok (.bool (decide (b < a))) := rfl
theorem leD_ints (a b : Int) : cmpD .LtE (.int a) (.int b) = .ok (.bool (!decide (b < a))) := rfl
theorem geD_ints (a b : Int) : cmpD .GtE (.int a) (.int b) = .ok (.bool (!decide (a < b))) := rfl
theorem isN (a : D) : cmpD .Is a .none = .ok (.bool (isNone a)) := rfl
theorem isNN (a : D) : cmpD .IsNot a .none = .ok (.bool (!isNone a)) := rfl
theorem modI {a b : Int} (h : 0 < b) : binD .Mod (.int a) (.int b) = .ok (.int (a % b)) := by
  show (R.guard (decide (0 < b))).bind (fun _ => R.ok (PyData.int (a % b))) = _
  rw [decide_eq_true h]; rfl
theorem divI {a b : Int} (h : 0 < b) (h2 : b < 1073741824) : binD .FloorDiv (.int a) (.int b) = .ok (.int (a / b)) := by
  show (R.guard (decide (0 < b) && decide (b < 1073741824))).bind (fun _ => R.ok (PyData.int (a / b))) = _
  rw [decide_eq_true h, decide_eq_true h2]; rfl
theorem bin_add (a b : D) : binD .Add a b = addD a b := rfl
theorem bin_mul (a b : D) : binD .Mult a b = mulD a b := rfl
theorem bin_sub (a b : Int) : binD .Sub (.int a) (.int b) = .ok (.int (a - b)) := rfl
theorem tru_bool (b : Bool) : truD (.bool b) = .ok b := rfl
theorem tru_list (xs : List D) : truD (.list xs) = .ok (!xs.isEmpty) := rfl
theorem tru_tup (xs : List D) : truD (.tuple xs) = .ok (!xs.isEmpty) := rfl
theorem tru_row (l : List Int) : truD (rowD l) = .ok (!l.isEmpty) := by
  show R.ok (!(l.map PyData.int).isEmpty) = _
  rw [List.isEmpty_map]
theorem isDict_row (l : List Int) : isDict (rowD l) = false := rfl
theorem isDict_tup (l : List D) : isDict (.tuple l) = false := rfl
theorem isDict_list (l : List D) : isDict (.list l) = false := rfl
theorem isDict_none : isDict .none = false := rfl
theorem isDict_bool (b : Bool) : isDict (.bool b) = false := rfl
theorem isDict_str (b : Str) : isDict (.str b) = false := rfl
theorem isDict_pair (q : Int × Int) : isDict (pairD q) = false := rfl
theorem isDict_int (l : Int) : isDict (.int l) = false := rfl
end TC
set_option Elab.async false
set_option linter.all false
set_option maxRecDepth 100000
set_option maxHeartbeats 0
set_option autoImplicit false
/-! PmC: equality and membership, typed. -/
namespace TC
open PySem
mutual
def pl : D → Bool
  | .bool _ => false
  | .dict _ => false
  | .list xs => plAll xs
  | .tuple xs => plAll xs
  | _ => true
def plAll : List D → Bool
  | [] => true
  | x :: xs => pl x && plAll xs
end
mutual
theorem eqv_pl : ∀ (x y : D), pl x = true → pl y = true → (PyData.eqv x y = true ↔ x = y)
  | .none, y, _, hy => by cases y <;> simp [PyData.eqv]
  | .bool b, y, hx, hy => by cases hx
  | .int i, y, hx, hy => by
    cases y with
    | bool b => cases hy
    | int j => simp [PyData.eqv]
    | _ => simp [PyData.eqv]
  | .str s, y, hx, hy => by cases y <;> simp [PyData.eqv]
  | .list xs, y, hx, hy => by
    cases y with
    | list ys =>
      have := eqvAll_pl xs ys hx hy
      simp only [PyData.eqv, PyData.list.injEq]
      exact this
    | _ => simp [PyData.eqv]
  | .tuple xs, y, hx, hy => by
    cases y with
    | tuple ys =>
      have := eqvAll_pl xs ys hx hy
      simp only [PyData.eqv, PyData.tuple.injEq]
      exact this
    | _ => simp [PyData.eqv]
  | .dict kvs, y, hx, hy => by cases hx
theorem eqvAll_pl : ∀ (xs ys : List D), plAll xs = true → plAll ys = true → (PyData.eqvAll xs ys = true ↔ xs = ys)
  | [], [], _, _ => by simp [PyData.eqvAll]
  | [], _ :: _, _, _ => by simp [PyData.eqvAll]
  | _ :: _, [], _, _ => by simp [PyData.eqvAll]
  | x :: xs, y :: ys, hx, hy => by
    have hx' : (pl x && plAll xs) = true := hx
    have hy' : (pl y && plAll ys) = true := hy
    rw [Bool.and_eq_true] at hx' hy'
    have h1 := eqv_pl x y hx'.1 hy'.1
    have h2 := eqvAll_pl xs ys hx'.2 hy'.2
    simp only [PyData.eqvAll, Bool.and_eq_true, List.cons.injEq, h1, h2]
end
theorem plAll_map {α : Type} {f : α → D} (h : ∀ a, pl (f a) = true) : ∀ l : List α, plAll (l.map f) = true
  | [] => rfl
  | a :: l => by
    show (pl (f a) && plAll (l.map f)) = true
    rw [h a, plAll_map h l]; rfl
theorem pl_row (l : List Int) : pl (rowD l) = true := plAll_map (fun _ => rfl) l
theorem pl_pair (q : Int × Int) : pl (pairD q) = true := rfl
theorem depthAll_le {α : Type} {f : α → D} {n : Nat} (h : ∀ a, (f a).depth ≤ n) : ∀ l : List α, PyData.depthAll (l.map f) ≤ n
  | [] => Nat.zero_le _
  | a :: l => by
    show max (PyData.depth (f a)) (PyData.depthAll (l.map f)) ≤ n
    have := depthAll_le h l
    have := h a
    omega
theorem dp_row (l : List Int) : (rowD l).depth ≤ 1 := by
  show PyData.depthAll (l.map .int) + 1 ≤ 1
  rw [depth_ints]; omega
theorem dp_pair (q : Int × Int) : (pairD q).depth ≤ 1 := by
  show PyData.depthAll (([q.1, q.2]).map .int) + 1 ≤ 1
  rw [depth_ints]; omega
theorem row_inj {a b : List Int} : rowD a = rowD b ↔ a = b := by
  unfold rowD
  constructor
  · intro h
    have h := PyData.tuple.inj h
    exact (List.map_inj_right (fun x y h => by cases h; rfl)).mp h
  · intro h; rw [h]
theorem pair_inj {a b : Int × Int} : pairD a = pairD b ↔ a = b := by
  unfold pairD
  constructor
  · intro h
    cases a; cases b
    simp at h
    simp [h]
  · intro h; rw [h]
theorem ints_inj {a b : List Int} : a.map PyData.int = b.map PyData.int ↔ a = b :=
  ⟨fun h => (List.map_inj_right (fun x y h => by cases h; rfl)).mp h, fun h => by rw [h]⟩
theorem rows_inj {a b : List (List Int)} : a.map rowD = b.map rowD ↔ a = b :=
  ⟨fun h => (List.map_inj_right (fun x y h => row_inj.mp h)).mp h, fun h => by rw [h]⟩
theorem dec_eq {p q : Prop} [Decidable q] {b : Bool} (h : b = true ↔ p) (h' : p ↔ q) : b = decide q := by
  cases b with
  | true => exact (decide_eq_true (h'.mp (h.mp rfl))).symm
  | false => exact (decide_eq_false fun z => by have := h.mpr (h'.mpr z); cases this).symm
theorem eqv_row (a b : List Int) : PyData.eqv (rowD a) (rowD b) = decide (a = b) := dec_eq (eqv_pl _ _ (pl_row a) (pl_row b)) row_inj
theorem eqv_pair (a b : Int × Int) : PyData.eqv (pairD a) (pairD b) = decide (a = b) := dec_eq (eqv_pl _ _ (pl_pair a) (pl_pair b)) pair_inj
theorem eqv_int (a b : Int) : PyData.eqv (.int a) (.int b) = decide (a = b) := dec_eq (eqv_pl _ _ rfl rfl) ⟨fun h => by cases h; rfl, fun h => by rw [h]⟩
theorem eqv_ints (a b : List Int) : PyData.eqv (.list (a.map .int)) (.list (b.map .int)) = decide (a = b) :=
  dec_eq (eqv_pl _ _ (plAll_map (fun _ => rfl) a) (plAll_map (fun _ => rfl) b)) ⟨fun h => ints_inj.mp (PyData.list.inj h), fun h => by rw [h]⟩
theorem eqv_rows (a b : List (List Int)) : PyData.eqv (.list (a.map rowD)) (.list (b.map rowD)) = decide (a = b) :=
  dec_eq (eqv_pl _ _ (plAll_map pl_row a) (plAll_map pl_row b)) ⟨fun h => rows_inj.mp (PyData.list.inj h), fun h => by rw [h]⟩
theorem eqD_of {a b : D} (ha : isDict a = false) (hb : isDict b = false) (hd : a.depth ≤ 100 ∨ b.depth ≤ 100) : eqD a b = .ok (PyData.eqv a b) := by
  have : deepOk a b = true := by unfold deepOk; exact decide_eq_true (by omega)
  show (R.guard (!isDict a && !isDict b && deepOk a b)).bind (fun _ => R.ok (PyData.eqv a b)) = _
  rw [ha, hb, this]; rfl
theorem eq_rows (a b : List Int) : eqD (rowD a) (rowD b) = .ok (decide (a = b)) := by
  rw [eqD_of rfl rfl (.inl (by have := dp_row a; omega)), eqv_row]
theorem dp_ints (a : List Int) : (PyData.list (a.map .int)).depth ≤ 100 := by
  show PyData.depthAll (a.map .int) + 1 ≤ 100
  rw [depth_ints]; omega
theorem dp_rows (a : List (List Int)) : (PyData.list (a.map rowD)).depth ≤ 100 := by
  show PyData.depthAll (a.map rowD) + 1 ≤ 100
  have := depthAll_le dp_row a; omega
theorem eq_intL (a b : List Int) : eqD (.list (a.map .int)) (.list (b.map .int)) = .ok (decide (a = b)) := by
  rw [eqD_of rfl rfl (.inl (dp_ints a)), eqv_ints]
theorem eq_rowL (a b : List (List Int)) : eqD (.list (a.map rowD)) (.list (b.map rowD)) = .ok (decide (a = b)) := by
  rw [eqD_of rfl rfl (.inl (dp_rows a)), eqv_rows]
theorem eqv_nil (xs : List D) : PyData.eqv (.list xs) (.list []) = xs.isEmpty := by cases xs <;> simp [PyData.eqv, PyData.eqvAll]
theorem eqv_nilT (xs : List D) : PyData.eqv (.tuple xs) (.tuple []) = xs.isEmpty := by cases xs <;> simp [PyData.eqv, PyData.eqvAll]
theorem eq_nil (xs : List D) : eqD (.list xs) (.list []) = .ok xs.isEmpty := by
  rw [eqD_of rfl rfl (.inr (by decide)), eqv_nil]
theorem eq_nilT (xs : List D) : eqD (.tuple xs) (.tuple []) = .ok xs.isEmpty := by
  rw [eqD_of rfl rfl (.inr (by decide)), eqv_nilT]
theorem eq_nilR (l : List Int) : eqD (rowD l) (.tuple []) = .ok l.isEmpty := by
  unfold rowD
  rw [eq_nilT, List.isEmpty_map]
theorem cEq {a b : D} {q : Bool} (h : eqD a b = .ok q) : cmpD .Eq a b = .ok (.bool q) := by
  show mapB id (eqD a b) = _
  rw [h]; rfl
theorem cNe {a b : D} {q : Bool} (h : eqD a b = .ok q) : cmpD .NotEq a b = .ok (.bool (!q)) := by
  show mapB Bool.not (eqD a b) = _
  rw [h]; rfl
theorem cIn {a b : D} {q : Bool} (h : inD a b = .ok q) : cmpD .In a b = .ok (.bool q) := by
  show mapB id (inD a b) = _
  rw [h]; rfl
theorem cNin {a b : D} {q : Bool} (h : inD a b = .ok q) : cmpD .NotIn a b = .ok (.bool (!q)) := by
  show mapB Bool.not (inD a b) = _
  rw [h]; rfl
theorem eqD_rows (a b : List Int) : cmpD .Eq (rowD a) (rowD b) = .ok (.bool (decide (a = b))) := cEq (eq_rows a b)
theorem neD_rows (a b : List Int) : cmpD .NotEq (rowD a) (rowD b) = .ok (.bool (!decide (a = b))) := cNe (eq_rows a b)
theorem eqD_intL (a b : List Int) : cmpD .Eq (.list (a.map .int)) (.list (b.map .int)) = .ok (.bool (decide (a = b))) := cEq (eq_intL a b)
theorem neD_intL (a b : List Int) : cmpD .NotEq (.list (a.map .int)) (.list (b.map .int)) = .ok (.bool (!decide (a = b))) := cNe (eq_intL a b)
theorem eqD_rowL (a b : List (List Int)) : cmpD .Eq (.list (a.map rowD)) (.list (b.map rowD)) = .ok (.bool (decide (a = b))) := cEq (eq_rowL a b)
theorem neD_rowL (a b : List (List Int)) : cmpD .NotEq (.list (a.map rowD)) (.list (b.map rowD)) = .ok (.bool (!decide (a = b))) := cNe (eq_rowL a b)
theorem eqD_nil (xs : List D) : cmpD .Eq (.list xs) (.list []) = .ok (.bool xs.isEmpty) := cEq (eq_nil xs)
theorem neD_nil (xs : List D) : cmpD .NotEq (.list xs) (.list []) = .ok (.bool (!xs.isEmpty)) := cNe (eq_nil xs)
theorem eqD_nilT (xs : List D) : cmpD .Eq (.tuple xs) (.tuple []) = .ok (.bool xs.isEmpty) := cEq (eq_nilT xs)
theorem neD_nilT (xs : List D) : cmpD .NotEq (.tuple xs) (.tuple []) = .ok (.bool (!xs.isEmpty)) := cNe (eq_nilT xs)
theorem eqD_nilR (l : List Int) : cmpD .Eq (rowD l) (.tuple []) = .ok (.bool l.isEmpty) := cEq (eq_nilR l)
theorem neD_nilR (l : List Int) : cmpD .NotEq (rowD l) (.tuple []) = .ok (.bool (!l.isEmpty)) := cNe (eq_nilR l)
theorem any_dec {α : Type} [DecidableEq α] (f : α → D) (x : α) (h : ∀ a, PyData.eqv (f a) (f x) = decide (a = x)) : ∀ l : List α, ((l.map f).any fun y => PyData.eqv y (f x)) = decide (x ∈ l)
  | [] => by simp
  | a :: l => by
    rw [List.map_cons, List.any_cons, any_dec f x h l, h a]
    by_cases e : a = x
    · simp [e]
    · have e' : ¬ x = a := fun z => e z.symm
      simp [e, e']
theorem in_of {x : D} {ys : List D} (hx : isDict x = false) (hd : x.depth ≤ 100) : inD x (.list ys) = .ok (ys.any fun y => PyData.eqv y x) := by
  show (R.guard (!isDict x && decide (min (PyData.depthAll ys) x.depth ≤ 100))).bind (fun _ => R.ok (ys.any fun y => PyData.eqv y x)) = _
  rw [hx, decide_eq_true (show min (PyData.depthAll ys) x.depth ≤ 100 by omega)]; rfl
theorem in_ofT {x : D} {ys : List D} (hx : isDict x = false) (hd : x.depth ≤ 100) : inD x (.tuple ys) = .ok (ys.any fun y => PyData.eqv y x) := by
  show (R.guard (!isDict x && decide (min (PyData.depthAll ys) x.depth ≤ 100))).bind (fun _ => R.ok (ys.any fun y => PyData.eqv y x)) = _
  rw [hx, decide_eq_true (show min (PyData.depthAll ys) x.depth ≤ 100 by omega)]; rfl
theorem in_ints (x : Int) (l : List Int) : inD (.int x) (.list (l.map .int)) = .ok (decide (x ∈ l)) := by
  rw [in_of (x := .int x) rfl (Nat.zero_le 100), any_dec PyData.int x (fun a => eqv_int a x)]
theorem in_row (x : Int) (l : List Int) : inD (.int x) (rowD l) = .ok (decide (x ∈ l)) := by
  unfold rowD
  rw [in_ofT (x := .int x) rfl (Nat.zero_le 100), any_dec PyData.int x (fun a => eqv_int a x)]
theorem in_rows (x : List Int) (l : List (List Int)) : inD (rowD x) (.list (l.map rowD)) = .ok (decide (x ∈ l)) := by
  rw [in_of rfl (by have := dp_row x; omega), any_dec rowD x (fun a => eqv_row a x)]
  congr
theorem inD_ints (x : Int) (l : List Int) : cmpD .In (.int x) (.list (l.map .int)) = .ok (.bool (decide (x ∈ l))) := cIn (in_ints x l)
theorem ninD_ints (x : Int) (l : List Int) : cmpD .NotIn (.int x) (.list (l.map .int)) = .ok (.bool (!decide (x ∈ l))) := cNin (in_ints x l)
theorem inD_row (x : Int) (l : List Int) : cmpD .In (.int x) (rowD l) = .ok (.bool (decide (x ∈ l))) := cIn (in_row x l)
theorem ninD_row (x : Int) (l : List Int) : cmpD .NotIn (.int x) (rowD l) = .ok (.bool (!decide (x ∈ l))) := cNin (in_row x l)
theorem inD_rows (x : List Int) (l : List (List Int)) : cmpD .In (rowD x) (.list (l.map rowD)) = .ok (.bool (decide (x ∈ l))) := cIn (in_rows x l)
theorem ninD_rows (x : List Int) (l : List (List Int)) : cmpD .NotIn (rowD x) (.list (l.map rowD)) = .ok (.bool (!decide (x ∈ l))) := cNin (in_rows x l)
/-! the first place -/
theorem first_map {α : Type} [BEq α] [LawfulBEq α] (f : α → D) (x : α) (h : ∀ a, PyData.eqv (f a) (f x) = (a == x)) : ∀ l : List α, x ∈ l → firstAt (f x) (l.map f) = some (l.idxOf x)
  | [], hx => by cases hx
  | a :: l, hx => by
    show (if PyData.eqv (f a) (f x) then some 0 else (firstAt (f x) (l.map f)).map (· + 1)) = _
    rw [h a]
    rw [List.idxOf_cons]
    cases e : (a == x) with
    | true => simp
    | false =>
      have hx' : x ∈ l := by
        rcases List.mem_cons.mp hx with z | z
        · rw [z] at e; simp at e
        · exact z
      rw [if_neg (by decide), first_map f x h l hx']; simp
theorem idx_pairs {q : Int × Int} {l : List (Int × Int)} (h : q ∈ l) : mthD "index" (.list (l.map pairD)) [pairD q] = .ok (.int (l.idxOf q : Nat)) := by
  have e : mthD "index" (.list (l.map pairD)) [pairD q] = ((R.guard (idxOk (pairD q) (l.map pairD))).bind fun _ => (ofOpt (firstAt (pairD q) (l.map pairD))).bind fun k => R.ok (PyData.int (k : Nat))) := rfl
  have g : idxOk (pairD q) (l.map pairD) = true := by
    unfold idxOk
    rw [show isDict (pairD q) = false from rfl, decide_eq_true (show min (PyData.depthAll (l.map pairD)) (pairD q).depth ≤ 100 by have := dp_pair q; omega)]; rfl
  rw [e, g, first_map pairD q (fun a => by rw [eqv_pair, Bool.eq_iff_iff]; simp) l h]; rfl
theorem idx_ints {q : Int} {l : List Int} (h : q ∈ l) : mthD "index" (.list (l.map .int)) [.int q] = .ok (.int (l.idxOf q : Nat)) := by
  have e : mthD "index" (.list (l.map .int)) [.int q] = ((R.guard (idxOk (.int q) (l.map .int))).bind fun _ => (ofOpt (firstAt (.int q) (l.map .int))).bind fun k => R.ok (PyData.int (k : Nat))) := rfl
  have g : idxOk (.int q) (l.map .int) = true := by
    unfold idxOk
    rw [show isDict (.int q) = false from rfl, decide_eq_true (show min (PyData.depthAll (l.map .int)) (PyData.int q).depth ≤ 100 by rw [depth_ints]; omega)]; rfl
  rw [e, g, first_map PyData.int q (fun a => by rw [eqv_int, Bool.eq_iff_iff]; simp) l h]; rfl
theorem mthTy_idx (xs : List D) : mthTy "index" (.list xs) = true := rfl
theorem mthTy_cnt (xs : List D) : mthTy "count" (.list xs) = true := rfl
/-! sets of ints -/
theorem lens_ints {l : List Int} (h : l.length ≤ 1000) : lenSetD (l.map .int) = .ok (.int (ddup l).length) := by
  show (ofOpt (toInts (l.map .int))).bind _ = _
  rw [toInts_map]
  show (R.guard (decide (l.length ≤ 1000))).bind _ = _
  rw [decide_eq_true h]; rfl
theorem srts_ints {l : List Int} (h : l.length ≤ 60) : srtSetD (l.map .int) = .ok (.list ((isort leI (ddup l)).map .int)) := by
  show (ofOpt (toInts (l.map .int))).bind _ = _
  rw [toInts_map]
  show (R.guard (decide (l.length ≤ 60))).bind _ = _
  rw [decide_eq_true h]; rfl
theorem sorted_ints (l : List Int) : bltD "sorted" [.list (l.map .int)] = .ok (.list ((isort leI l).map .int)) := by
  have e : bltD "sorted" [.list (l.map .int)] = sortD (l.map .int) := rfl
  rw [e]
  unfold sortD
  rw [toInts_map]
end TC
set_option Elab.async false
set_option linter.all false
set_option maxRecDepth 100000
set_option maxHeartbeats 0
set_option autoImplicit false
/-! PmB: pairs. -/
namespace TC
open PySem
def pairsI (n : Int) : List (Int × Int) := (rI 0 n).flatMap fun a => (rI (a + 1) n).map fun b => (a, b)
theorem mem_pairsI {n : Int} {q : Int × Int} : q ∈ pairsI n ↔ 0 ≤ q.1 ∧ q.1 < q.2 ∧ q.2 < n := by
  unfold pairsI
  simp only [List.mem_flatMap, List.mem_map, mem_rI]
  constructor
  · rintro ⟨a, ⟨h1, h2⟩, b, ⟨h3, h4⟩, rfl⟩
    exact ⟨h1, by show a < b; omega, h4⟩
  · rintro ⟨h1, h2, h3⟩
    exact ⟨q.1, ⟨h1, by omega⟩, q.2, ⟨by omega, h3⟩, rfl⟩
theorem pairs_len : ∀ n : Nat, n ≤ 7 → (pairsI n).length = n * (n - 1) / 2 := by decide +kernel
theorem pairs_len_le {n : Int} (h : n ≤ 7) : (pairsI n).length ≤ 21 := by
  rcases Int.lt_or_le n 0 with z | z
  · rw [show pairsI n = [] by unfold pairsI; rw [rI_nil (by omega)]; rfl]; decide
  · obtain ⟨m, rfl⟩ := Int.eq_ofNat_of_zero_le z
    have : ∀ m : Nat, m ≤ 7 → (pairsI (m : Int)).length ≤ 21 := by decide +kernel
    exact this m (by omega)
theorem pairs_nodup : ∀ n : Nat, n ≤ 7 → (pairsI n).Nodup := by decide +kernel
section
variable {T : List Df}
theorem sp_pairs_of (h : HasF T "pairs_of" 3 M_f_pairs_of) (k : Nat) {n : Int} (hn : 0 ≤ n) (hn7 : n ≤ 7) : Fk T (k + 1) "pairs_of" [.int n] = .ok (.list ((pairsI n).map pairD)) := by
  rw [h]
  have c : ev (Fk T k) M_f_pairs_of_C1 [.v (.int n), .no, .no] = .ok (.list ((pairsI n).map pairD)) := by
    have := lc2_ok (F := Fk T k) (elt := .tup (.cons (.var 1) (.cons (.var 2) .nil))) (t := .nm 1) (it := .rng (.var 0)) (t1 := .nm 2) (it1 := .rng2 (.bin .Add (.var 1) (.int 1)) (.var 0)) (e := [.v (.int n), .no, .no]) PyData.int PyData.int (fun a => rI (a + 1) n) (fun a b => pairD (a, b)) (rI 0 n)
      (by simp (disch := omega) [exS, ev, getE, getO, getTb, asg, asgs, boolD_bool, bin_add, bin_sub, bin_mul, addI, modI, divI, mulI, eqD_ints, neD_ints, ltD_ints, gtD_ints, leD_ints, geD_ints, isN, isNN, tru_bool, tru_list, tru_tup, tru_row, len_list, len_tup, len_row, tup_list, list_tup, list_row, min_two, max_two, int_bool, int_int, itr_list, itr_tup, itr_row, seq_row, seq_list, seq_tup, rng_ok, frzE, R.ok_bind, R.exc_bind, listD_ok, calm_ok, okN, R.guard_true, isDict_row, isDict_int, isDict_tup, isDict_list, isDict_none, isDict_bool, isDict_str, isDict_pair, bndD, seqOk, List.all_cons, List.all_nil, Bool.not_false, Bool.not_true, Bool.and_self, Bool.true_and, Bool.and_true, Bool.false_and, Bool.and_false, List.length_cons, List.length_nil, List.length_map, if_true, if_false, ite_true, ite_false, Bool.false_eq_true, reduceIte, id, ofOpt_some, eqD_rows, neD_rows, eqD_intL, neD_intL, eqD_rowL, neD_rowL, eqD_nil, neD_nil, eqD_nilT, neD_nilT, eqD_nilR, neD_nilR, inD_ints, ninD_ints, inD_row, ninD_row, inD_rows, ninD_rows, mthTy_idx, mthTy_cnt, lens_ints, srts_ints, sorted_ints, List.getElem?_cons_zero, List.getElem?_cons_succ, List.set_cons_zero, List.set_cons_succ])
      (fun a ha => by
        rw [mem_rI] at ha
        refine ⟨_, rfl, by simp (disch := omega) [exS, ev, getE, getO, getTb, asg, asgs, boolD_bool, bin_add, bin_sub, bin_mul, addI, modI, divI, mulI, eqD_ints, neD_ints, ltD_ints, gtD_ints, leD_ints, geD_ints, isN, isNN, tru_bool, tru_list, tru_tup, tru_row, len_list, len_tup, len_row, tup_list, list_tup, list_row, min_two, max_two, int_bool, int_int, itr_list, itr_tup, itr_row, seq_row, seq_list, seq_tup, rng_ok, frzE, R.ok_bind, R.exc_bind, listD_ok, calm_ok, okN, R.guard_true, isDict_row, isDict_int, isDict_tup, isDict_list, isDict_none, isDict_bool, isDict_str, isDict_pair, bndD, seqOk, List.all_cons, List.all_nil, Bool.not_false, Bool.not_true, Bool.and_self, Bool.true_and, Bool.and_true, Bool.false_and, Bool.and_false, List.length_cons, List.length_nil, List.length_map, if_true, if_false, ite_true, ite_false, Bool.false_eq_true, reduceIte, id, ofOpt_some, eqD_rows, neD_rows, eqD_intL, neD_intL, eqD_rowL, neD_rowL, eqD_nil, neD_nil, eqD_nilT, neD_nilT, eqD_nilR, neD_nilR, inD_ints, ninD_ints, inD_row, ninD_row, inD_rows, ninD_rows, mthTy_idx, mthTy_cnt, lens_ints, srts_ints, sorted_ints, List.getElem?_cons_zero, List.getElem?_cons_succ, List.set_cons_zero, List.set_cons_succ, wipeE, slots], fun b hb => ⟨_, rfl, ?_⟩⟩
        rw [mem_rI] at hb
        simp (disch := omega) [exS, ev, getE, getO, getTb, asg, asgs, boolD_bool, bin_add, bin_sub, bin_mul, addI, modI, divI, mulI, eqD_ints, neD_ints, ltD_ints, gtD_ints, leD_ints, geD_ints, isN, isNN, tru_bool, tru_list, tru_tup, tru_row, len_list, len_tup, len_row, tup_list, list_tup, list_row, min_two, max_two, int_bool, int_int, itr_list, itr_tup, itr_row, seq_row, seq_list, seq_tup, rng_ok, frzE, R.ok_bind, R.exc_bind, listD_ok, calm_ok, okN, R.guard_true, isDict_row, isDict_int, isDict_tup, isDict_list, isDict_none, isDict_bool, isDict_str, isDict_pair, bndD, seqOk, List.all_cons, List.all_nil, Bool.not_false, Bool.not_true, Bool.and_self, Bool.true_and, Bool.and_true, Bool.false_and, Bool.and_false, List.length_cons, List.length_nil, List.length_map, if_true, if_false, ite_true, ite_false, Bool.false_eq_true, reduceIte, id, ofOpt_some, eqD_rows, neD_rows, eqD_intL, neD_intL, eqD_rowL, neD_rowL, eqD_nil, neD_nil, eqD_nilT, neD_nilT, eqD_nilR, neD_nilR, inD_ints, ninD_ints, inD_row, ninD_row, inD_rows, ninD_rows, mthTy_idx, mthTy_cnt, lens_ints, srts_ints, sorted_ints, List.getElem?_cons_zero, List.getElem?_cons_succ, List.set_cons_zero, List.set_cons_succ, wipeE, slots, seqOk, pairD])
      (by
        have : ((rI 0 n).flatMap fun a => (rI (a + 1) n).map fun b => pairD (a, b)) = (pairsI n).map pairD := by
          unfold pairsI
          rw [List.map_flatMap]
          simp [Function.comp_def]
        rw [this]
        exact seqOk_map (Nat.le_trans (pairs_len_le hn7) (by omega)) (fun _ => rfl))
    refine this.trans ?_
    unfold pairsI
    rw [List.map_flatMap]
    simp [Function.comp_def]
  simp (disch := omega) [runS, M_f_pairs_of, exS, ev, getE, getO, getTb, asg, asgs, boolD_bool, bin_add, bin_sub, bin_mul, addI, modI, divI, mulI, eqD_ints, neD_ints, ltD_ints, gtD_ints, leD_ints, geD_ints, isN, isNN, tru_bool, tru_list, tru_tup, tru_row, len_list, len_tup, len_row, tup_list, list_tup, list_row, min_two, max_two, int_bool, int_int, itr_list, itr_tup, itr_row, seq_row, seq_list, seq_tup, rng_ok, frzE, R.ok_bind, R.exc_bind, listD_ok, calm_ok, okN, R.guard_true, isDict_row, isDict_int, isDict_tup, isDict_list, isDict_none, isDict_bool, isDict_str, isDict_pair, bndD, seqOk, List.all_cons, List.all_nil, Bool.not_false, Bool.not_true, Bool.and_self, Bool.true_and, Bool.and_true, Bool.false_and, Bool.and_false, List.length_cons, List.length_nil, List.length_map, if_true, if_false, ite_true, ite_false, Bool.false_eq_true, reduceIte, id, ofOpt_some, eqD_rows, neD_rows, eqD_intL, neD_intL, eqD_rowL, neD_rowL, eqD_nil, neD_nil, eqD_nilT, neD_nilT, eqD_nilR, neD_nilR, inD_ints, ninD_ints, inD_row, ninD_row, inD_rows, ninD_rows, mthTy_idx, mthTy_cnt, lens_ints, srts_ints, sorted_ints, List.getElem?_cons_zero, List.getElem?_cons_succ, List.set_cons_zero, List.set_cons_succ, c]
end
end TC
set_option Elab.async false
set_option linter.all false
set_option maxRecDepth 100000
set_option maxHeartbeats 0
set_option autoImplicit false
/-! PmD: the laws' pairs and colors of pairs; tables; triangles. -/
namespace TC
open PySem
/-- the color of a pair -/
def col (n : Int) (c : List Int) (a b : Int) : Int := c.getD ((pairsI n).idxOf (min a b, max a b)) 0
theorem col_comm (n : Int) (c : List Int) (a b : Int) : col n c a b = col n c b a := by
  unfold col
  rw [Int.min_comm, Int.max_comm]
/-- a coloring's form -/
structure Colo (n : Int) (c : List Int) : Prop where
  lo : 1 ≤ n
  hi : n ≤ 7
  len : c.length = (pairsI n).length
section
variable {T : List Df}
theorem pairs_snoc (n : Int) (p : List Int) (a : Int) : (p ++ [a]).flatMap (fun a => (rI (a + 1) n).map fun b => (a, b)) = p.flatMap (fun a => (rI (a + 1) n).map fun b => (a, b)) ++ (rI (a + 1) n).map fun b => (a, b) := by
  rw [List.flatMap_append]; simp
theorem sp_law_pairs (h : HasF T "_law_pairs" 4 M_l_law_pairs) (k : Nat) {n : Int} (hn : 0 ≤ n) (hn7 : n ≤ 7) : Fk T (k + 1) "_law_pairs" [.int n] = .ok (.list ((pairsI n).map pairD)) := by
  rw [h]
  have c : ∀ (a : Int) (x y : Sl), 0 ≤ a → a < n → ev (Fk T k) M_l_law_pairs_C1 [.v (.int n), x, .v (.int a), y] = .ok (.list (((rI (a + 1) n).map fun b => (a, b)).map pairD)) := fun a x y h1 h2 => by
    have := lc_ok (F := Fk T k) (elt := .tup (.cons (.var 2) (.cons (.var 3) .nil))) (t := .nm 3) (it := .rng2 (.bin .Add (.var 2) (.int 1)) (.var 0)) (e := [.v (.int n), x, .v (.int a), y]) PyData.int (fun b => pairD (a, b)) (rI (a + 1) n)
      (by simp (disch := omega) [exS, ev, getE, getO, getTb, asg, asgs, boolD_bool, bin_add, bin_sub, bin_mul, addI, modI, divI, mulI, eqD_ints, neD_ints, ltD_ints, gtD_ints, leD_ints, geD_ints, isN, isNN, tru_bool, tru_list, tru_tup, tru_row, len_list, len_tup, len_row, tup_list, list_tup, list_row, min_two, max_two, int_bool, int_int, itr_list, itr_tup, itr_row, seq_row, seq_list, seq_tup, rng_ok, frzE, R.ok_bind, R.exc_bind, listD_ok, calm_ok, okN, R.guard_true, isDict_row, isDict_int, isDict_tup, isDict_list, isDict_none, isDict_bool, isDict_str, isDict_pair, bndD, seqOk, List.all_cons, List.all_nil, Bool.not_false, Bool.not_true, Bool.and_self, Bool.true_and, Bool.and_true, Bool.false_and, Bool.and_false, List.length_cons, List.length_nil, List.length_map, if_true, if_false, ite_true, ite_false, Bool.false_eq_true, reduceIte, id, ofOpt_some, eqD_rows, neD_rows, eqD_intL, neD_intL, eqD_rowL, neD_rowL, eqD_nil, neD_nil, eqD_nilT, neD_nilT, eqD_nilR, neD_nilR, inD_ints, ninD_ints, inD_row, ninD_row, inD_rows, ninD_rows, mthTy_idx, mthTy_cnt, lens_ints, srts_ints, sorted_ints, List.getElem?_cons_zero, List.getElem?_cons_succ, List.set_cons_zero, List.set_cons_succ]) (fun b hb => ⟨_, rfl, by simp (disch := omega) [exS, ev, getE, getO, getTb, asg, asgs, boolD_bool, bin_add, bin_sub, bin_mul, addI, modI, divI, mulI, eqD_ints, neD_ints, ltD_ints, gtD_ints, leD_ints, geD_ints, isN, isNN, tru_bool, tru_list, tru_tup, tru_row, len_list, len_tup, len_row, tup_list, list_tup, list_row, min_two, max_two, int_bool, int_int, itr_list, itr_tup, itr_row, seq_row, seq_list, seq_tup, rng_ok, frzE, R.ok_bind, R.exc_bind, listD_ok, calm_ok, okN, R.guard_true, isDict_row, isDict_int, isDict_tup, isDict_list, isDict_none, isDict_bool, isDict_str, isDict_pair, bndD, seqOk, List.all_cons, List.all_nil, Bool.not_false, Bool.not_true, Bool.and_self, Bool.true_and, Bool.and_true, Bool.false_and, Bool.and_false, List.length_cons, List.length_nil, List.length_map, if_true, if_false, ite_true, ite_false, Bool.false_eq_true, reduceIte, id, ofOpt_some, eqD_rows, neD_rows, eqD_intL, neD_intL, eqD_rowL, neD_rowL, eqD_nil, neD_nil, eqD_nilT, neD_nilT, eqD_nilR, neD_nilR, inD_ints, ninD_ints, inD_row, ninD_row, inD_rows, ninD_rows, mthTy_idx, mthTy_cnt, lens_ints, srts_ints, sorted_ints, List.getElem?_cons_zero, List.getElem?_cons_succ, List.set_cons_zero, List.set_cons_succ, wipeE, slots, seqOk, pairD]⟩) (seqOk_map (by rw [rI_length]; omega) (fun _ => rfl))
    rw [List.map_map]
    exact this
  obtain ⟨e', h1, s2, s3, rfl⟩ := for_pre (t := .nm 2) (b := exS (Fk T k) M_l_law_pairs_L1) PyData.int (fun p e => ∃ x y, e = [.v (.int n), .v (.list ((p.flatMap fun a => (rI (a + 1) n).map fun b => (a, b)).map pairD)), x, y]) (rI 0 n)
    (by
      rintro p a r hl e ⟨x, y, rfl⟩
      have ha : a ∈ rI 0 n := by rw [hl]; simp
      rw [mem_rI] at ha
      have hp : ∀ q ∈ p, q ∈ rI 0 n := fun q hq => by rw [hl]; simp [hq]
      have := c a (.v (.list ((p.flatMap fun a => (rI (a + 1) n).map fun b => (a, b)).map pairD))) y ha.1 ha.2
      have len : (p.flatMap fun a => (rI (a + 1) n).map fun b => (a, b)).length + (rI (a + 1) n).length ≤ 21 := by
        have e1 := pairs_len_le hn7
        unfold pairsI at e1
        rw [hl, List.flatMap_append, List.flatMap_cons, List.length_append, List.length_append, List.length_map] at e1
        omega
      refine ⟨[.v (.int n), .v (.list (((p ++ [a]).flatMap fun a => (rI (a + 1) n).map fun b => (a, b)).map pairD)), .v (.int a), y], ?_, _, _, rfl⟩
      have ad : addD (.list ((p.flatMap fun a => (rI (a + 1) n).map fun b => (a, b)).map pairD)) (.list (((rI (a + 1) n).map fun b => (a, b)).map pairD)) = .ok (.list (((p ++ [a]).flatMap fun a => (rI (a + 1) n).map fun b => (a, b)).map pairD)) := by
        rw [addL (by simp only [List.length_map]; omega), pairs_snoc, List.map_append]
      simp only [M_l_law_pairs_L1, exS, ev, getE, getO, getTb, asg, asgs, boolD_bool, bin_add, bin_sub, bin_mul, addI, modI, divI, mulI, eqD_ints, neD_ints, ltD_ints, gtD_ints, leD_ints, geD_ints, isN, isNN, tru_bool, tru_list, tru_tup, tru_row, len_list, len_tup, len_row, tup_list, list_tup, list_row, min_two, max_two, int_bool, int_int, itr_list, itr_tup, itr_row, seq_row, seq_list, seq_tup, rng_ok, frzE, R.ok_bind, R.exc_bind, listD_ok, calm_ok, okN, R.guard_true, isDict_row, isDict_int, isDict_tup, isDict_list, isDict_none, isDict_bool, isDict_str, isDict_pair, bndD, seqOk, List.all_cons, List.all_nil, Bool.not_false, Bool.not_true, Bool.and_self, Bool.true_and, Bool.and_true, Bool.false_and, Bool.and_false, List.length_cons, List.length_nil, List.length_map, if_true, if_false, ite_true, ite_false, Bool.false_eq_true, reduceIte, id, ofOpt_some, eqD_rows, neD_rows, eqD_intL, neD_intL, eqD_rowL, neD_rowL, eqD_nil, neD_nil, eqD_nilT, neD_nilT, eqD_nilR, neD_nilR, inD_ints, ninD_ints, inD_row, ninD_row, inD_rows, ninD_rows, mthTy_idx, mthTy_cnt, lens_ints, srts_ints, sorted_ints, List.getElem?_cons_zero, List.getElem?_cons_succ, List.set_cons_zero, List.set_cons_succ, this, ad])
    [.v (.int n), .v (.list []), .no, .no] ⟨_, _, rfl⟩
  have h1 : forG (.nm 2) (exS (Fk T k) M_l_law_pairs_L1) ((rI 0 n).map .int) [.v (.int n), .v (.list []), .no, .no] = .ok (.nx [.v (.int n), .v (.list ((pairsI n).map pairD)), s2, s3]) := h1
  simp (disch := omega) [runS, M_l_law_pairs, exS, ev, getE, getO, getTb, asg, asgs, boolD_bool, bin_add, bin_sub, bin_mul, addI, modI, divI, mulI, eqD_ints, neD_ints, ltD_ints, gtD_ints, leD_ints, geD_ints, isN, isNN, tru_bool, tru_list, tru_tup, tru_row, len_list, len_tup, len_row, tup_list, list_tup, list_row, min_two, max_two, int_bool, int_int, itr_list, itr_tup, itr_row, seq_row, seq_list, seq_tup, rng_ok, frzE, R.ok_bind, R.exc_bind, listD_ok, calm_ok, okN, R.guard_true, isDict_row, isDict_int, isDict_tup, isDict_list, isDict_none, isDict_bool, isDict_str, isDict_pair, bndD, seqOk, List.all_cons, List.all_nil, Bool.not_false, Bool.not_true, Bool.and_self, Bool.true_and, Bool.and_true, Bool.false_and, Bool.and_false, List.length_cons, List.length_nil, List.length_map, if_true, if_false, ite_true, ite_false, Bool.false_eq_true, reduceIte, id, ofOpt_some, eqD_rows, neD_rows, eqD_intL, neD_intL, eqD_rowL, neD_rowL, eqD_nil, neD_nil, eqD_nilT, neD_nilT, eqD_nilR, neD_nilR, inD_ints, ninD_ints, inD_row, ninD_row, inD_rows, ninD_rows, mthTy_idx, mthTy_cnt, lens_ints, srts_ints, sorted_ints, List.getElem?_cons_zero, List.getElem?_cons_succ, List.set_cons_zero, List.set_cons_succ, seqOk, h1]
theorem sub_row' {l : List Int} {i : Nat} (h1 : i < l.length) : subD (rowD l) (.int i) = .ok (.int (l.getD i 0)) := by
  have := sub_row (l := l) (i := i) (by omega) (by omega)
  rw [this, Int.toNat_natCast]
theorem idx_lt {n a b : Int} (h0 : 0 ≤ a) (h1 : 0 ≤ b) (h2 : a < n) (h3 : b < n) (h4 : a ≠ b) : (min a b, max a b) ∈ pairsI n := by
  rw [mem_pairsI]; simp only; omega
theorem sp_law_at (h0 : HasF T "_law_pairs" 4 M_l_law_pairs) (h : HasF T "_law_at" 4 M_l_law_at) (k : Nat) {n : Int} {c : List Int} (hc : Colo n c) {a b : Int} (ha : 0 ≤ a) (ha' : a < n) (hb : 0 ≤ b) (hb' : b < n) (hab : a ≠ b) :
    Fk T (k + 2) "_law_at" [.int n, rowD c, .int a, .int b] = .ok (.int (col n c a b)) := by
  have c1 := sp_law_pairs h0 k (n := n) (by have := hc.lo; omega) hc.hi
  have m := idx_lt ha hb ha' hb' hab
  have c2 : mthD "index" (.list ((pairsI n).map pairD)) [.tuple [.int (min a b), .int (max a b)]] = .ok (.int ((pairsI n).idxOf (min a b, max a b) : Nat)) := idx_pairs m
  have c3 : subD (rowD c) (.int ((pairsI n).idxOf (min a b, max a b) : Nat)) = .ok (.int (col n c a b)) := sub_row' (by rw [hc.len]; exact List.idxOf_lt_length_of_mem m)
  rw [h]
  simp (disch := omega) [runS, M_l_law_at, exS, ev, getE, getO, getTb, asg, asgs, boolD_bool, bin_add, bin_sub, bin_mul, addI, modI, divI, mulI, eqD_ints, neD_ints, ltD_ints, gtD_ints, leD_ints, geD_ints, isN, isNN, tru_bool, tru_list, tru_tup, tru_row, len_list, len_tup, len_row, tup_list, list_tup, list_row, min_two, max_two, int_bool, int_int, itr_list, itr_tup, itr_row, seq_row, seq_list, seq_tup, rng_ok, frzE, R.ok_bind, R.exc_bind, listD_ok, calm_ok, okN, R.guard_true, isDict_row, isDict_int, isDict_tup, isDict_list, isDict_none, isDict_bool, isDict_str, isDict_pair, bndD, seqOk, List.all_cons, List.all_nil, Bool.not_false, Bool.not_true, Bool.and_self, Bool.true_and, Bool.and_true, Bool.false_and, Bool.and_false, List.length_cons, List.length_nil, List.length_map, if_true, if_false, ite_true, ite_false, Bool.false_eq_true, reduceIte, id, ofOpt_some, eqD_rows, neD_rows, eqD_intL, neD_intL, eqD_rowL, neD_rowL, eqD_nil, neD_nil, eqD_nilT, neD_nilT, eqD_nilR, neD_nilR, inD_ints, ninD_ints, inD_row, ninD_row, inD_rows, ninD_rows, mthTy_idx, mthTy_cnt, lens_ints, srts_ints, sorted_ints, List.getElem?_cons_zero, List.getElem?_cons_succ, List.set_cons_zero, List.set_cons_succ, c1, seqOk, c2, c3]
end
end TC
set_option Elab.async false
set_option linter.all false
set_option maxRecDepth 100000
set_option maxHeartbeats 0
set_option autoImplicit false
/-! PmE: tables; triangles. -/
namespace TC
open PySem
theorem put_get (q x : List Int) (v : D) (kvs : List (List Int × D)) : (putT q v kvs).lookup x = if x = q then some v else kvs.lookup x := by
  unfold putT
  have key : ∀ kvs : List (List Int × D), (kvs.any fun kv => decide (kv.1 = q)) = true → (kvs.map (fun kv => if kv.1 = q then (kv.1, v) else kv)).lookup x = if x = q then some v else kvs.lookup x := by
    intro kvs
    induction kvs with
    | nil => intro h; cases h
    | cons kv r ih =>
      intro h
      obtain ⟨k, u⟩ := kv
      rw [List.map_cons]
      by_cases hk : k = q
      · subst hk
        rw [if_pos rfl]
        by_cases hx : x = k
        · subst hx
          simp [List.lookup_cons]
        · rw [if_neg hx]
          have hx' : (x == k) = false := by simpa using hx
          rw [List.lookup_cons, List.lookup_cons, hx']
          by_cases h2 : (r.any fun kv => decide (kv.1 = k)) = true
          · have := ih h2
            rw [if_neg hx] at this
            exact this
          · have e : r.map (fun kv => if kv.1 = k then (kv.1, v) else kv) = r := by
              conv => rhs; rw [← List.map_id r]
              apply List.map_congr_left
              intro a ha
              rw [if_neg]; rfl
              intro z
              exact h2 (List.any_eq_true.mpr ⟨a, ha, decide_eq_true z⟩)
            show (r.map _).lookup x = r.lookup x
            rw [e]
      · rw [if_neg (by exact hk)]
        have h2 : (r.any fun kv => decide (kv.1 = q)) = true := by
          rw [List.any_cons] at h
          simpa [hk] using h
        rw [List.lookup_cons, List.lookup_cons]
        cases hx : (x == k) with
        | true =>
          have : x = k := by simpa using hx
          rw [if_neg (by rw [this]; exact hk)]
        | false => exact ih h2
  by_cases h : (kvs.any fun kv => decide (kv.1 = q)) = true
  · rw [if_pos h]; exact key kvs h
  · rw [if_neg h]
    induction kvs with
    | nil =>
      by_cases hx : x = q
      · subst hx; simp [List.lookup_cons]
      · have hx' : (x == q) = false := by simpa using hx
        rw [if_neg hx]
        simp [List.lookup_cons, hx']
    | cons kv r ih =>
      obtain ⟨k, u⟩ := kv
      rw [List.any_cons] at h
      have hk : ¬ k = q := fun z => h (by simp [z])
      have h2 : ¬ (r.any fun kv => decide (kv.1 = q)) = true := fun z => h (by rw [z]; simp)
      rw [List.cons_append, List.lookup_cons, List.lookup_cons]
      cases hx : (x == k) with
      | true =>
        have : x = k := by simpa using hx
        rw [if_neg (by rw [this]; exact hk)]
      | false => exact ih h2
theorem put_len (q : List Int) (v : D) (kvs : List (List Int × D)) : (putT q v kvs).length ≤ kvs.length + 1 := by
  unfold putT
  split
  · rw [List.length_map]; omega
  · simp
def stepT (kvs : List (List Int × D)) (q : (Int × Int) × Int) : List (List Int × D) := putT [q.1.2, q.1.1] (.int q.2) (putT [q.1.1, q.1.2] (.int q.2) kvs)
def tabK (z : List ((Int × Int) × Int)) : List (List Int × D) := z.foldl stepT []
theorem tabK_snoc (p : List ((Int × Int) × Int)) (q : (Int × Int) × Int) : tabK (p ++ [q]) = stepT (tabK p) q := by
  unfold tabK
  rw [List.foldl_append]; rfl
theorem tabK_len (p : List ((Int × Int) × Int)) : (tabK p).length ≤ 2 * p.length := by
  unfold tabK
  suffices H : ∀ (p : List ((Int × Int) × Int)) (kvs : List (List Int × D)), (p.foldl stepT kvs).length ≤ kvs.length + 2 * p.length by
    have := H p []
    simpa using this
  intro p
  induction p with
  | nil => intro kvs; simp
  | cons q p ih =>
    intro kvs
    have h1 := ih (stepT kvs q)
    have h2 : (stepT kvs q).length ≤ kvs.length + 2 := by
      unfold stepT
      have := put_len [q.1.2, q.1.1] (.int q.2) (putT [q.1.1, q.1.2] (.int q.2) kvs)
      have := put_len [q.1.1, q.1.2] (.int q.2) kvs
      omega
    rw [List.foldl_cons, List.length_cons]
    omega
theorem tab_get {a b : Int} (hab : a ≠ b) : ∀ (P : List (Int × Int)) (c : List Int) (kvs : List (List Int × D)), P.Nodup → (∀ p ∈ P, p.1 < p.2) → c.length = P.length →
    ((P.zip c).foldl stepT kvs).lookup [a, b] = if (min a b, max a b) ∈ P then some (.int (c.getD (P.idxOf (min a b, max a b)) 0)) else kvs.lookup [a, b]
  | [], c, kvs, _, _, _ => by simp
  | p :: P, [], kvs, _, _, hl => by simp at hl
  | p :: P, x :: c, kvs, hn, hp, hl => by
    rw [List.zip_cons_cons, List.foldl_cons]
    have hn' := List.nodup_cons.mp hn
    rw [tab_get hab P c (stepT kvs (p, x)) hn'.2 (fun q hq => hp q (List.mem_cons_of_mem _ hq)) (by simpa using hl)]
    have h12 := hp p List.mem_cons_self
    obtain ⟨p1, p2⟩ := p
    have h12 : p1 < p2 := h12
    unfold stepT
    rw [put_get, put_get]
    simp only [List.cons.injEq, and_true]
    by_cases e : (p1, p2) = (min a b, max a b)
    · have hm : (min a b, max a b) ∉ P := e ▸ hn'.1
      have mem : (min a b, max a b) ∈ (p1, p2) :: P := by rw [e]; exact List.mem_cons_self
      rw [if_neg hm, if_pos mem]
      rw [Prod.mk.injEq] at e
      obtain ⟨e1, e2⟩ := e
      have : (a = p2 ∧ b = p1) ∨ (a = p1 ∧ b = p2) := by omega
      rw [List.idxOf_cons, show ((p1, p2) == (min a b, max a b)) = true by rw [e1, e2]; simp]
      rcases this with z | z
      · rw [if_pos z]; rfl
      · rw [if_pos z]
        split <;> rfl
    · have n1 : ¬ (a = p2 ∧ b = p1) := fun z => e (by rw [Prod.mk.injEq]; omega)
      have n2 : ¬ (a = p1 ∧ b = p2) := fun z => e (by rw [Prod.mk.injEq]; omega)
      rw [if_neg n1, if_neg n2, List.idxOf_cons, show ((p1, p2) == (min a b, max a b)) = false by simpa using e]
      have : ((min a b, max a b) ∈ (p1, p2) :: P) ↔ (min a b, max a b) ∈ P := by
        rw [List.mem_cons]
        exact ⟨fun z => z.elim (fun y => absurd y.symm e) id, .inr⟩
      by_cases hm : (min a b, max a b) ∈ P
      · rw [if_pos hm, if_pos (this.mpr hm)]; rfl
      · rw [if_neg hm, if_neg (fun z => hm (this.mp z))]
def tblK (n : Int) (c : List Int) : List (List Int × D) := tabK ((pairsI n).zip c)
def tblD (n : Int) (c : List Int) : D := .dict (tabD (tblK n c))
theorem tbl_lookup {n : Int} {c : List Int} (hc : Colo n c) {a b : Int} (ha : 0 ≤ a) (ha' : a < n) (hb : 0 ≤ b) (hb' : b < n) (hab : a ≠ b) : (tblK n c).lookup [a, b] = some (.int (col n c a b)) := by
  obtain ⟨m, rfl⟩ := Int.eq_ofNat_of_zero_le (show 0 ≤ n by have := hc.lo; omega)
  have := tab_get hab (pairsI m) c [] (pairs_nodup m (by have := hc.hi; omega)) (fun p hp => (mem_pairsI.mp hp).2.1) hc.len
  rw [if_pos (idx_lt ha hb ha' hb' hab)] at this
  exact this
theorem tbl_get {n : Int} {c : List Int} (hc : Colo n c) {a b : Int} (ha : 0 ≤ a) (ha' : a < n) (hb : 0 ≤ b) (hb' : b < n) (hab : a ≠ b) : subD (tblD n c) (.tuple [.int a, .int b]) = .ok (.int (col n c a b)) := by
  show (ofOpt (some [a, b])).bind (fun q => ofOpt (getT (tabD (tblK n c)) q)) = _
  show ofOpt (getT (tabD (tblK n c)) [a, b]) = _
  rw [getT_tab, tbl_lookup hc ha ha' hb hb' hab]; rfl
section
variable {T : List Df}
theorem sp_table_of (h0 : HasF T "pairs_of" 3 M_f_pairs_of) (h : HasF T "table_of" 6 M_f_table_of) (k : Nat) {n : Int} {c : List Int} (hc : Colo n c) : Fk T (k + 2) "table_of" [.int n, rowD c] = .ok (tblD n c) := by
  have c1 := sp_pairs_of h0 k (n := n) (by have := hc.lo; omega) hc.hi
  have l21 := pairs_len_le hc.hi
  rw [h]
  obtain ⟨e', h1, s3, s4, s5, rfl⟩ := for_pre (t := .tp (.cn (.tp (.cn (.nm 3) (.cn (.nm 4) .nl))) (.cn (.nm 5) .nl))) (b := exS (Fk T (k + 1)) M_f_table_of_L1) (fun q : (Int × Int) × Int => .tuple [pairD q.1, .int q.2]) (fun p e => ∃ s3 s4 s5, e = [.v (.int n), .v (rowD c), .tab (tabK p), s3, s4, s5]) ((pairsI n).zip c)
    (by
      rintro p q r hl e ⟨s3, s4, s5, rfl⟩
      refine ⟨_, ?_, .v (.int q.1.1), .v (.int q.1.2), .v (.int q.2), rfl⟩
      have len : p.length ≤ 21 := by
        have := congrArg List.length hl
        rw [List.length_zip, List.length_append] at this
        omega
      have l2 := tabK_len p
      have l3 := put_len [q.1.1, q.1.2] (.int q.2) (tabK p)
      have ko : ∀ a b : Int, keyOf (.tuple [.int a, .int b]) = some [a, b] := fun _ _ => rfl
      rw [tabK_snoc, stepT]
      simp (disch := omega) [M_f_table_of_L1, pairD, exS, ev, getE, getO, getTb, asg, asgs, boolD_bool, bin_add, bin_sub, bin_mul, addI, modI, divI, mulI, eqD_ints, neD_ints, ltD_ints, gtD_ints, leD_ints, geD_ints, isN, isNN, tru_bool, tru_list, tru_tup, tru_row, len_list, len_tup, len_row, tup_list, list_tup, list_row, min_two, max_two, int_bool, int_int, itr_list, itr_tup, itr_row, seq_row, seq_list, seq_tup, rng_ok, frzE, R.ok_bind, R.exc_bind, listD_ok, calm_ok, okN, R.guard_true, isDict_row, isDict_int, isDict_tup, isDict_list, isDict_none, isDict_bool, isDict_str, isDict_pair, bndD, seqOk, List.all_cons, List.all_nil, Bool.not_false, Bool.not_true, Bool.and_self, Bool.true_and, Bool.and_true, Bool.false_and, Bool.and_false, List.length_cons, List.length_nil, List.length_map, if_true, if_false, ite_true, ite_false, Bool.false_eq_true, reduceIte, id, ofOpt_some, eqD_rows, neD_rows, eqD_intL, neD_intL, eqD_rowL, neD_rowL, eqD_nil, neD_nil, eqD_nilT, neD_nilT, eqD_nilR, neD_nilR, inD_ints, ninD_ints, inD_row, ninD_row, inD_rows, ninD_rows, mthTy_idx, mthTy_cnt, lens_ints, srts_ints, sorted_ints, List.getElem?_cons_zero, List.getElem?_cons_succ, List.set_cons_zero, List.set_cons_succ, seqOk, ko])
    [.v (.int n), .v (rowD c), .tab [], .no, .no, .no] ⟨_, _, _, rfl⟩
  have z : zipL ((pairsI n).map pairD) (c.map .int) = ((pairsI n).zip c).map (fun q : (Int × Int) × Int => .tuple [pairD q.1, .int q.2]) := zip_map pairD PyData.int _ _
  simp (disch := omega) [runS, M_f_table_of, exS, ev, getE, getO, getTb, asg, asgs, boolD_bool, bin_add, bin_sub, bin_mul, addI, modI, divI, mulI, eqD_ints, neD_ints, ltD_ints, gtD_ints, leD_ints, geD_ints, isN, isNN, tru_bool, tru_list, tru_tup, tru_row, len_list, len_tup, len_row, tup_list, list_tup, list_row, min_two, max_two, int_bool, int_int, itr_list, itr_tup, itr_row, seq_row, seq_list, seq_tup, rng_ok, frzE, R.ok_bind, R.exc_bind, listD_ok, calm_ok, okN, R.guard_true, isDict_row, isDict_int, isDict_tup, isDict_list, isDict_none, isDict_bool, isDict_str, isDict_pair, bndD, seqOk, List.all_cons, List.all_nil, Bool.not_false, Bool.not_true, Bool.and_self, Bool.true_and, Bool.and_true, Bool.false_and, Bool.and_false, List.length_cons, List.length_nil, List.length_map, if_true, if_false, ite_true, ite_false, Bool.false_eq_true, reduceIte, id, ofOpt_some, eqD_rows, neD_rows, eqD_intL, neD_intL, eqD_rowL, neD_rowL, eqD_nil, neD_nil, eqD_nilT, neD_nilT, eqD_nilR, neD_nilR, inD_ints, ninD_ints, inD_row, ninD_row, inD_rows, ninD_rows, mthTy_idx, mthTy_cnt, lens_ints, srts_ints, sorted_ints, List.getElem?_cons_zero, List.getElem?_cons_succ, List.set_cons_zero, List.set_cons_succ, c1, z, h1, tblD, tblK]
end
end TC
set_option Elab.async false
set_option linter.all false
set_option maxRecDepth 100000
set_option maxHeartbeats 0
set_option autoImplicit false
/-! PmF: triangles; checks of colorings. -/
namespace TC
open PySem
theorem findSome_map {α β γ : Type} (f : α → Option β) (g : β → γ) : ∀ l : List α, l.findSome? (fun a => (f a).map g) = (l.findSome? f).map g
  | [] => rfl
  | a :: l => by
    rw [List.findSome?_cons, List.findSome?_cons]
    cases f a with
    | some b => rfl
    | none => exact findSome_map f g l
/-- an early answer, or the loop's end -/
structure FR {β : Type} (o : Option β) (x : R Fl) (g : β → D) (Q : Env → Prop) : Prop where
  rt : ∀ d, o = some d → x = .ok (.rt (g d))
  nx : o = none → ∃ e', x = .ok (.nx e') ∧ Q e'
theorem for_ret {α β : Type} {b : Env → R Fl} {t : Tg} (h : α → D) (f : α → Option β) (g : β → D) (Em : List α → Env → Prop) (l : List α)
    (step : ∀ p a r, l = p ++ a :: r → ∀ e, Em p e → FR (f a) ((asg t (h a) e).bind b) g (Em (p ++ [a]))) (e : Env) (h0 : Em [] e) :
    FR (l.findSome? f) (forG t b (l.map h) e) g (Em l) := by
  have := for_stop (b := b) (t := t) h (fun a => (f a).map (fun d => (Sum.inl (g d) : D ⊕ Str))) Em l (fun p a r hl e he => by
    have := step p a r hl e he
    show match (f a).map (fun d => (Sum.inl (g d) : D ⊕ Str)) with
      | some (.inl d) => (asg t (h a) e).bind b = .ok (.rt d)
      | some (.inr c) => (asg t (h a) e).bind b = .exc c
      | none => ∃ e', (asg t (h a) e).bind b = .ok (.nx e') ∧ Em (p ++ [a]) e'
    cases ef : f a with
    | some d => exact this.rt d ef
    | none => exact this.nx ef) e h0
  rw [findSome_map f (fun d => (Sum.inl (g d) : D ⊕ Str)) l] at this
  constructor
  · intro d ef; rw [ef] at this; exact this
  · intro ef; rw [ef] at this; exact this
/-- three colors -/
def rb (f : Int → Int → Int) (a b l : Int) : Bool := decide (((ddup [f a b, f a l, f b l]).length : Int) = 3)
def triL (f : Int → Int → Int) (n a b : Int) : Option (List Int) := (rI (b + 1) n).findSome? fun l => if rb f a b l then some [a, b, l] else none
def firstTri (f : Int → Int → Int) (n : Int) : Option (List Int) := (pairsI n).findSome? fun q => triL f n q.1 q.2
def triD : Option (List Int) → D
  | none => .none
  | some t => rowD t
theorem isNone_triD (o : Option (List Int)) : isNone (triD o) = o.isNone := by cases o <;> rfl
section
variable {T : List Df}
theorem sp_first_triangle (h0 : HasF T "pairs_of" 3 M_f_pairs_of) (h1 : HasF T "table_of" 6 M_f_table_of) (h : HasF T "first_triangle" 6 M_f_first_triangle) (k : Nat) {n : Int} {c : List Int} (hc : Colo n c) : Fk T (k + 3) "first_triangle" [.int n, rowD c] = .ok (triD (firstTri (col n c) n)) := by
  have c1 := sp_pairs_of h0 (k + 1) (n := n) (by have := hc.lo; omega) hc.hi
  have c2 := sp_table_of h0 h1 k hc
  have hn1 := hc.lo
  have hn7 := hc.hi
  rw [h]
  have inner : ∀ (a b : Int) (s5 : Sl), 0 ≤ a → a < b → b < n → FR (triL (col n c) n a b) (forG (.nm 5) (exS (Fk T (k + 2)) M_f_first_triangle_L2) ((rI (b + 1) n).map .int) [.v (.int n), .v (rowD c), .v (tblD n c), .v (.int a), .v (.int b), s5]) rowD (fun e' => ∃ s5, e' = [.v (.int n), .v (rowD c), .v (tblD n c), .v (.int a), .v (.int b), s5]) := fun a b s5 ha hab hb => by
    refine for_ret PyData.int _ rowD (fun _ e' => ∃ s5, e' = [.v (.int n), .v (rowD c), .v (tblD n c), .v (.int a), .v (.int b), s5]) _ ?_ _ ⟨_, rfl⟩
    rintro p l r hl e ⟨s5, rfl⟩
    have hm : l ∈ rI (b + 1) n := by rw [hl]; simp
    rw [mem_rI] at hm
    have g1 := tbl_get hc (a := a) (b := b) (by omega) (by omega) (by omega) (by omega) (by omega)
    have g2 := tbl_get hc (a := a) (b := l) (by omega) (by omega) (by omega) (by omega) (by omega)
    have g3 := tbl_get hc (a := b) (b := l) (by omega) (by omega) (by omega) (by omega) (by omega)
    have ls : lenSetD [.int (col n c a b), .int (col n c a l), .int (col n c b l)] = .ok (.int (ddup [col n c a b, col n c a l, col n c b l]).length) := lens_ints (l := [col n c a b, col n c a l, col n c b l]) (by simp)
    cases hr : rb (col n c) a b l with
    | true =>
      refine ⟨fun d hd => ?_, fun z => by simp at z⟩
      simp at hd
      unfold rb at hr
      have hr := of_decide_eq_true hr
      simp (disch := omega) [M_f_first_triangle_L2, exS, ev, getE, getO, getTb, asg, asgs, boolD_bool, bin_add, bin_sub, bin_mul, addI, modI, divI, mulI, eqD_ints, neD_ints, ltD_ints, gtD_ints, leD_ints, geD_ints, isN, isNN, tru_bool, tru_list, tru_tup, tru_row, len_list, len_tup, len_row, tup_list, list_tup, list_row, min_two, max_two, int_bool, int_int, itr_list, itr_tup, itr_row, seq_row, seq_list, seq_tup, rng_ok, frzE, R.ok_bind, R.exc_bind, listD_ok, calm_ok, okN, R.guard_true, isDict_row, isDict_int, isDict_tup, isDict_list, isDict_none, isDict_bool, isDict_str, isDict_pair, bndD, seqOk, List.all_cons, List.all_nil, Bool.not_false, Bool.not_true, Bool.and_self, Bool.true_and, Bool.and_true, Bool.false_and, Bool.and_false, List.length_cons, List.length_nil, List.length_map, if_true, if_false, ite_true, ite_false, Bool.false_eq_true, reduceIte, id, ofOpt_some, eqD_rows, neD_rows, eqD_intL, neD_intL, eqD_rowL, neD_rowL, eqD_nil, neD_nil, eqD_nilT, neD_nilT, eqD_nilR, neD_nilR, inD_ints, ninD_ints, inD_row, ninD_row, inD_rows, ninD_rows, mthTy_idx, mthTy_cnt, lens_ints, srts_ints, sorted_ints, List.getElem?_cons_zero, List.getElem?_cons_succ, List.set_cons_zero, List.set_cons_succ, seqOk, g1, g2, g3, ls, hr, rowD, ← hd]
    | false =>
      refine ⟨fun d hd => by simp at hd, fun _ => ?_⟩
      unfold rb at hr
      have hr := of_decide_eq_false hr
      refine ⟨[.v (.int n), .v (rowD c), .v (tblD n c), .v (.int a), .v (.int b), .v (.int l)], ?_, _, rfl⟩
      simp (disch := omega) [M_f_first_triangle_L2, exS, ev, getE, getO, getTb, asg, asgs, boolD_bool, bin_add, bin_sub, bin_mul, addI, modI, divI, mulI, eqD_ints, neD_ints, ltD_ints, gtD_ints, leD_ints, geD_ints, isN, isNN, tru_bool, tru_list, tru_tup, tru_row, len_list, len_tup, len_row, tup_list, list_tup, list_row, min_two, max_two, int_bool, int_int, itr_list, itr_tup, itr_row, seq_row, seq_list, seq_tup, rng_ok, frzE, R.ok_bind, R.exc_bind, listD_ok, calm_ok, okN, R.guard_true, isDict_row, isDict_int, isDict_tup, isDict_list, isDict_none, isDict_bool, isDict_str, isDict_pair, bndD, seqOk, List.all_cons, List.all_nil, Bool.not_false, Bool.not_true, Bool.and_self, Bool.true_and, Bool.and_true, Bool.false_and, Bool.and_false, List.length_cons, List.length_nil, List.length_map, if_true, if_false, ite_true, ite_false, Bool.false_eq_true, reduceIte, id, ofOpt_some, eqD_rows, neD_rows, eqD_intL, neD_intL, eqD_rowL, neD_rowL, eqD_nil, neD_nil, eqD_nilT, neD_nilT, eqD_nilR, neD_nilR, inD_ints, ninD_ints, inD_row, ninD_row, inD_rows, ninD_rows, mthTy_idx, mthTy_cnt, lens_ints, srts_ints, sorted_ints, List.getElem?_cons_zero, List.getElem?_cons_succ, List.set_cons_zero, List.set_cons_succ, seqOk, g1, g2, g3, ls, hr]
  have outer := for_ret (t := .tp (.cn (.nm 3) (.cn (.nm 4) .nl))) (b := exS (Fk T (k + 2)) M_f_first_triangle_L1) pairD (fun q => triL (col n c) n q.1 q.2) rowD (fun _ e' => ∃ s3 s4 s5, e' = [.v (.int n), .v (rowD c), .v (tblD n c), s3, s4, s5]) (pairsI n) (by
      rintro p ⟨a, b⟩ r hl e ⟨s3, s4, s5, rfl⟩
      have hm : (a, b) ∈ pairsI n := by rw [hl]; simp
      rw [mem_pairsI] at hm
      have i := inner a b s5 hm.1 hm.2.1 hm.2.2
      refine ⟨fun t ht => ?_, fun ht => ?_⟩
      · have i := i.rt t ht
        simp (disch := omega) [M_f_first_triangle_L1, exS, ev, getE, getO, getTb, asg, asgs, boolD_bool, bin_add, bin_sub, bin_mul, addI, modI, divI, mulI, eqD_ints, neD_ints, ltD_ints, gtD_ints, leD_ints, geD_ints, isN, isNN, tru_bool, tru_list, tru_tup, tru_row, len_list, len_tup, len_row, tup_list, list_tup, list_row, min_two, max_two, int_bool, int_int, itr_list, itr_tup, itr_row, seq_row, seq_list, seq_tup, rng_ok, frzE, R.ok_bind, R.exc_bind, listD_ok, calm_ok, okN, R.guard_true, isDict_row, isDict_int, isDict_tup, isDict_list, isDict_none, isDict_bool, isDict_str, isDict_pair, bndD, seqOk, List.all_cons, List.all_nil, Bool.not_false, Bool.not_true, Bool.and_self, Bool.true_and, Bool.and_true, Bool.false_and, Bool.and_false, List.length_cons, List.length_nil, List.length_map, if_true, if_false, ite_true, ite_false, Bool.false_eq_true, reduceIte, id, ofOpt_some, eqD_rows, neD_rows, eqD_intL, neD_intL, eqD_rowL, neD_rowL, eqD_nil, neD_nil, eqD_nilT, neD_nilT, eqD_nilR, neD_nilR, inD_ints, ninD_ints, inD_row, ninD_row, inD_rows, ninD_rows, mthTy_idx, mthTy_cnt, lens_ints, srts_ints, sorted_ints, List.getElem?_cons_zero, List.getElem?_cons_succ, List.set_cons_zero, List.set_cons_succ, pairD, i]
      · obtain ⟨e', i1, s5, rfl⟩ := i.nx ht
        refine ⟨_, ?_, .v (.int a), .v (.int b), s5, rfl⟩
        simp (disch := omega) [M_f_first_triangle_L1, exS, ev, getE, getO, getTb, asg, asgs, boolD_bool, bin_add, bin_sub, bin_mul, addI, modI, divI, mulI, eqD_ints, neD_ints, ltD_ints, gtD_ints, leD_ints, geD_ints, isN, isNN, tru_bool, tru_list, tru_tup, tru_row, len_list, len_tup, len_row, tup_list, list_tup, list_row, min_two, max_two, int_bool, int_int, itr_list, itr_tup, itr_row, seq_row, seq_list, seq_tup, rng_ok, frzE, R.ok_bind, R.exc_bind, listD_ok, calm_ok, okN, R.guard_true, isDict_row, isDict_int, isDict_tup, isDict_list, isDict_none, isDict_bool, isDict_str, isDict_pair, bndD, seqOk, List.all_cons, List.all_nil, Bool.not_false, Bool.not_true, Bool.and_self, Bool.true_and, Bool.and_true, Bool.false_and, Bool.and_false, List.length_cons, List.length_nil, List.length_map, if_true, if_false, ite_true, ite_false, Bool.false_eq_true, reduceIte, id, ofOpt_some, eqD_rows, neD_rows, eqD_intL, neD_intL, eqD_rowL, neD_rowL, eqD_nil, neD_nil, eqD_nilT, neD_nilT, eqD_nilR, neD_nilR, inD_ints, ninD_ints, inD_row, ninD_row, inD_rows, ninD_rows, mthTy_idx, mthTy_cnt, lens_ints, srts_ints, sorted_ints, List.getElem?_cons_zero, List.getElem?_cons_succ, List.set_cons_zero, List.set_cons_succ, pairD, i1]) [.v (.int n), .v (rowD c), .v (tblD n c), .no, .no, .no] ⟨_, _, _, rfl⟩
  cases ht : firstTri (col n c) n with
  | some t =>
    have o1 := outer.rt t ht
    simp (disch := omega) [runS, M_f_first_triangle, exS, ev, getE, getO, getTb, asg, asgs, boolD_bool, bin_add, bin_sub, bin_mul, addI, modI, divI, mulI, eqD_ints, neD_ints, ltD_ints, gtD_ints, leD_ints, geD_ints, isN, isNN, tru_bool, tru_list, tru_tup, tru_row, len_list, len_tup, len_row, tup_list, list_tup, list_row, min_two, max_two, int_bool, int_int, itr_list, itr_tup, itr_row, seq_row, seq_list, seq_tup, rng_ok, frzE, R.ok_bind, R.exc_bind, listD_ok, calm_ok, okN, R.guard_true, isDict_row, isDict_int, isDict_tup, isDict_list, isDict_none, isDict_bool, isDict_str, isDict_pair, bndD, seqOk, List.all_cons, List.all_nil, Bool.not_false, Bool.not_true, Bool.and_self, Bool.true_and, Bool.and_true, Bool.false_and, Bool.and_false, List.length_cons, List.length_nil, List.length_map, if_true, if_false, ite_true, ite_false, Bool.false_eq_true, reduceIte, id, ofOpt_some, eqD_rows, neD_rows, eqD_intL, neD_intL, eqD_rowL, neD_rowL, eqD_nil, neD_nil, eqD_nilT, neD_nilT, eqD_nilR, neD_nilR, inD_ints, ninD_ints, inD_row, ninD_row, inD_rows, ninD_rows, mthTy_idx, mthTy_cnt, lens_ints, srts_ints, sorted_ints, List.getElem?_cons_zero, List.getElem?_cons_succ, List.set_cons_zero, List.set_cons_succ, c1, c2, o1, triD]
  | none =>
    obtain ⟨e', o1, _⟩ := outer.nx ht
    simp (disch := omega) [runS, M_f_first_triangle, exS, ev, getE, getO, getTb, asg, asgs, boolD_bool, bin_add, bin_sub, bin_mul, addI, modI, divI, mulI, eqD_ints, neD_ints, ltD_ints, gtD_ints, leD_ints, geD_ints, isN, isNN, tru_bool, tru_list, tru_tup, tru_row, len_list, len_tup, len_row, tup_list, list_tup, list_row, min_two, max_two, int_bool, int_int, itr_list, itr_tup, itr_row, seq_row, seq_list, seq_tup, rng_ok, frzE, R.ok_bind, R.exc_bind, listD_ok, calm_ok, okN, R.guard_true, isDict_row, isDict_int, isDict_tup, isDict_list, isDict_none, isDict_bool, isDict_str, isDict_pair, bndD, seqOk, List.all_cons, List.all_nil, Bool.not_false, Bool.not_true, Bool.and_self, Bool.true_and, Bool.and_true, Bool.false_and, Bool.and_false, List.length_cons, List.length_nil, List.length_map, if_true, if_false, ite_true, ite_false, Bool.false_eq_true, reduceIte, id, ofOpt_some, eqD_rows, neD_rows, eqD_intL, neD_intL, eqD_rowL, neD_rowL, eqD_nil, neD_nil, eqD_nilT, neD_nilT, eqD_nilR, neD_nilR, inD_ints, ninD_ints, inD_row, ninD_row, inD_rows, ninD_rows, mthTy_idx, mthTy_cnt, lens_ints, srts_ints, sorted_ints, List.getElem?_cons_zero, List.getElem?_cons_succ, List.set_cons_zero, List.set_cons_succ, c1, c2, o1, triD]
end
end TC
set_option Elab.async false
set_option linter.all false
set_option maxRecDepth 100000
set_option maxHeartbeats 0
set_option autoImplicit false
/-! PmG: the laws' triangles; checks of colorings. -/
namespace TC
open PySem
def trisOf (f : Int → Int → Int) (n : Int) : List (List Int) := (pairsI n).flatMap fun q => (rI (q.2 + 1) n).flatMap fun l => if rb f q.1 q.2 l then [[q.1, q.2, l]] else []
theorem isort_len {α : Type} (le : α → α → Bool) (l : List α) : (isort le l).length = l.length := (isort_perm le l).length_eq
section
variable {T : List Df}
theorem rep_one (x : D) : rep [x] 1 = [x] := rfl
theorem mul_bool (x : D) (b : Bool) : mulD (.list [x]) (.int (if b then 1 else 0)) = .ok (.list (if b then [x] else [])) := by cases b <;> rfl
theorem flat_len (n : Int) (hn : n ≤ 7) (g : Int × Int → Int → List (List Int)) (hg : ∀ q l, (g q l).length ≤ 1) : ∀ (P : List (Int × Int)), (∀ q ∈ P, q ∈ pairsI n) → (P.flatMap fun q => (rI (q.2 + 1) n).flatMap (g q)).length ≤ 7 * P.length
  | [], _ => by simp
  | q :: P, h => by
    rw [List.flatMap_cons, List.length_append, List.length_cons]
    have ih := flat_len n hn g hg P (fun x hx => h x (List.mem_cons_of_mem _ hx))
    have h1 := mem_pairsI.mp (h q List.mem_cons_self)
    have : ∀ L : List Int, (L.flatMap (g q)).length ≤ L.length := fun L => by
      induction L with
      | nil => simp
      | cons a L ih => rw [List.flatMap_cons, List.length_append, List.length_cons]; have := hg q a; omega
    have h2 := this (rI (q.2 + 1) n)
    rw [rI_length] at h2
    omega
theorem flat_len1 (n : Int) (hn : n ≤ 7) (g : Int → List (List Int)) (hg : ∀ l, (g l).length ≤ 1) : ∀ (L : List Int), (L.flatMap g).length ≤ L.length
  | [] => by simp
  | q :: P => by
    rw [List.flatMap_cons, List.length_append, List.length_cons]
    have ih := flat_len1 n hn g hg P
    have := hg q
    omega
theorem sp_law_triangles (h0 : HasF T "_law_pairs" 4 M_l_law_pairs) (h1 : HasF T "_law_at" 4 M_l_law_at) (h : HasF T "_law_triangles" 9 M_l_law_triangles) (k : Nat) {n : Int} {c : List Int} (hc : Colo n c) : Fk T (k + 3) "_law_triangles" [.int n, rowD c] = .ok (.list ((trisOf (col n c) n).map rowD)) := by
  have c1 := sp_law_pairs h0 (k + 1) (n := n) (by have := hc.lo; omega) hc.hi
  have hn1 := hc.lo
  have hn7 := hc.hi
  have at_ : ∀ {a b : Int}, 0 ≤ a → a < n → 0 ≤ b → b < n → a ≠ b → Fk T (k + 2) "_law_at" [.int n, rowD c, .int a, .int b] = .ok (.int (col n c a b)) := fun ha ha' hb hb' hab => sp_law_at h0 h1 k hc ha ha' hb hb' hab
  rw [h]
  have comp : ∀ (a b l : Int) (s2 s6 s7 s8 : Sl), 0 ≤ a → a < b → b < l → l < n → ev (Fk T (k + 2)) M_l_law_triangles_C1 [.v (.int n), .v (rowD c), s2, .v (.int a), .v (.int b), .v (.int l), s6, s7, s8] = .ok (.list ([col n c a b, col n c a l, col n c b l].map .int)) := fun a b l s2 s6 s7 s8 ha hab hbl hl => by
    have := lc_ok (F := Fk T (k + 2)) (elt := .call "_law_at" (.cons (.var 0) (.cons (.var 1) (.cons (.var 6) (.cons (.var 7) .nil))))) (t := .tp (.cn (.nm 6) (.cn (.nm 7) .nl))) (it := .itr (.lst (.cons (.tup (.cons (.var 3) (.cons (.var 4) .nil))) (.cons (.tup (.cons (.var 3) (.cons (.var 5) .nil))) (.cons (.tup (.cons (.var 4) (.cons (.var 5) .nil))) .nil)))))
      (e := [.v (.int n), .v (rowD c), s2, .v (.int a), .v (.int b), .v (.int l), s6, s7, s8]) pairD (fun q => .int (col n c q.1 q.2)) [(a, b), (a, l), (b, l)]
      (by simp (disch := omega) [exS, ev, getE, getO, getTb, asg, asgs, boolD_bool, bin_add, bin_sub, bin_mul, addI, modI, divI, mulI, eqD_ints, neD_ints, ltD_ints, gtD_ints, leD_ints, geD_ints, isN, isNN, tru_bool, tru_list, tru_tup, tru_row, len_list, len_tup, len_row, tup_list, list_tup, list_row, min_two, max_two, int_bool, int_int, itr_list, itr_tup, itr_row, seq_row, seq_list, seq_tup, rng_ok, frzE, R.ok_bind, R.exc_bind, listD_ok, calm_ok, okN, R.guard_true, isDict_row, isDict_int, isDict_tup, isDict_list, isDict_none, isDict_bool, isDict_str, isDict_pair, bndD, seqOk, List.all_cons, List.all_nil, Bool.not_false, Bool.not_true, Bool.and_self, Bool.true_and, Bool.and_true, Bool.false_and, Bool.and_false, List.length_cons, List.length_nil, List.length_map, if_true, if_false, ite_true, ite_false, Bool.false_eq_true, reduceIte, id, ofOpt_some, eqD_rows, neD_rows, eqD_intL, neD_intL, eqD_rowL, neD_rowL, eqD_nil, neD_nil, eqD_nilT, neD_nilT, eqD_nilR, neD_nilR, inD_ints, ninD_ints, inD_row, ninD_row, inD_rows, ninD_rows, mthTy_idx, mthTy_cnt, lens_ints, srts_ints, sorted_ints, List.getElem?_cons_zero, List.getElem?_cons_succ, List.set_cons_zero, List.set_cons_succ, seqOk, pairD])
      (fun q hq => by
        have hq' : 0 ≤ q.1 ∧ q.1 < q.2 ∧ q.2 < n := by
          simp only [List.mem_cons, List.not_mem_nil, or_false] at hq
          rcases hq with rfl | rfl | rfl <;> simp only <;> omega
        refine ⟨_, rfl, ?_⟩
        have := at_ (a := q.1) (b := q.2) (by omega) (by omega) (by omega) (by omega) (by omega)
        simp (disch := omega) [exS, ev, getE, getO, getTb, asg, asgs, boolD_bool, bin_add, bin_sub, bin_mul, addI, modI, divI, mulI, eqD_ints, neD_ints, ltD_ints, gtD_ints, leD_ints, geD_ints, isN, isNN, tru_bool, tru_list, tru_tup, tru_row, len_list, len_tup, len_row, tup_list, list_tup, list_row, min_two, max_two, int_bool, int_int, itr_list, itr_tup, itr_row, seq_row, seq_list, seq_tup, rng_ok, frzE, R.ok_bind, R.exc_bind, listD_ok, calm_ok, okN, R.guard_true, isDict_row, isDict_int, isDict_tup, isDict_list, isDict_none, isDict_bool, isDict_str, isDict_pair, bndD, seqOk, List.all_cons, List.all_nil, Bool.not_false, Bool.not_true, Bool.and_self, Bool.true_and, Bool.and_true, Bool.false_and, Bool.and_false, List.length_cons, List.length_nil, List.length_map, if_true, if_false, ite_true, ite_false, Bool.false_eq_true, reduceIte, id, ofOpt_some, eqD_rows, neD_rows, eqD_intL, neD_intL, eqD_rowL, neD_rowL, eqD_nil, neD_nil, eqD_nilT, neD_nilT, eqD_nilR, neD_nilR, inD_ints, ninD_ints, inD_row, ninD_row, inD_rows, ninD_rows, mthTy_idx, mthTy_cnt, lens_ints, srts_ints, sorted_ints, List.getElem?_cons_zero, List.getElem?_cons_succ, List.set_cons_zero, List.set_cons_succ, wipeE, slots, pairD, this])
      (seqOk_map (by simp) (fun _ => rfl))
    exact this
  have inner : ∀ (a b : Int) (acc : List (List Int)) (s5 s6 s7 s8 : Sl), 0 ≤ a → a < b → b < n → acc.length ≤ 1000 → ∃ e', forG (.nm 5) (exS (Fk T (k + 2)) M_l_law_triangles_L2) ((rI (b + 1) n).map .int) [.v (.int n), .v (rowD c), .v (.list (acc.map rowD)), .v (.int a), .v (.int b), s5, s6, s7, s8] = .ok (.nx e') ∧
      ∃ s5 s6 s7 s8, e' = [.v (.int n), .v (rowD c), .v (.list ((acc ++ (rI (b + 1) n).flatMap fun l => if rb (col n c) a b l then [[a, b, l]] else []).map rowD)), .v (.int a), .v (.int b), s5, s6, s7, s8] := fun a b acc s5 s6 s7 s8 ha hab hb hacc => by
    refine for_pre PyData.int (fun p e' => ∃ s5 s6 s7 s8, e' = [.v (.int n), .v (rowD c), .v (.list ((acc ++ p.flatMap fun l => if rb (col n c) a b l then [[a, b, l]] else []).map rowD)), .v (.int a), .v (.int b), s5, s6, s7, s8]) _ ?_ _ ⟨s5, s6, s7, s8, by simp⟩
    rintro p l r hl e ⟨s5, s6, s7, s8, rfl⟩
    have hm : l ∈ rI (b + 1) n := by rw [hl]; simp
    rw [mem_rI] at hm
    have cc := comp a b l (.v (.list ((acc ++ p.flatMap fun l => if rb (col n c) a b l then [[a, b, l]] else []).map rowD))) s6 s7 s8 ha hab (by omega) hm.2
    have ss : srtSetD ([col n c a b, col n c a l, col n c b l].map .int) = .ok (.list ((isort leI (ddup [col n c a b, col n c a l, col n c b l])).map .int)) := srts_ints (by simp)
    have ln : (acc ++ p.flatMap fun l => if rb (col n c) a b l then [[a, b, l]] else []).length + 1 ≤ 2000 := by
      rw [List.length_append]
      have h1 := flat_len1 n hn7 (fun l => if rb (col n c) a b l then [[a, b, l]] else []) (fun l => by split <;> simp) p
      have h2 : p.length ≤ (rI (b + 1) n).length := by rw [hl]; simp
      rw [rI_length] at h2
      omega
    have ad : addD (.list ((acc ++ p.flatMap fun l => if rb (col n c) a b l then [[a, b, l]] else []).map rowD)) (.list (if rb (col n c) a b l then [rowD [a, b, l]] else [])) = .ok (.list ((acc ++ (p ++ [l]).flatMap fun l => if rb (col n c) a b l then [[a, b, l]] else []).map rowD)) := by
      rw [addL (by rw [List.length_map]; have : (if rb (col n c) a b l = true then [rowD [a, b, l]] else []).length ≤ 1 := by split <;> simp
                   omega)]
      rw [List.flatMap_append]
      cases hrb : rb (col n c) a b l <;> simp [hrb]
    refine ⟨_, ?_, .v (.int l), s6, s7, .v (.list ([col n c a b, col n c a l, col n c b l].map .int)), rfl⟩
    have mb : mulD (.list [.tuple [.int a, .int b, .int l]]) (.int (if decide (((ddup [col n c a b, col n c a l, col n c b l]).length : Int) = 3) then 1 else 0)) = .ok (.list (if rb (col n c) a b l then [rowD [a, b, l]] else [])) := mul_bool (rowD [a, b, l]) (rb (col n c) a b l)
    simp (disch := omega) only [M_l_law_triangles_L2, exS, ev, getE, getO, getTb, asg, asgs, boolD_bool, bin_add, bin_sub, bin_mul, addI, modI, divI, mulI, eqD_ints, neD_ints, ltD_ints, gtD_ints, leD_ints, geD_ints, isN, isNN, tru_bool, tru_list, tru_tup, tru_row, len_list, len_tup, len_row, tup_list, list_tup, list_row, min_two, max_two, int_bool, int_int, itr_list, itr_tup, itr_row, seq_row, seq_list, seq_tup, rng_ok, frzE, R.ok_bind, R.exc_bind, listD_ok, calm_ok, okN, R.guard_true, isDict_row, isDict_int, isDict_tup, isDict_list, isDict_none, isDict_bool, isDict_str, isDict_pair, bndD, seqOk, List.all_cons, List.all_nil, Bool.not_false, Bool.not_true, Bool.and_self, Bool.true_and, Bool.and_true, Bool.false_and, Bool.and_false, List.length_cons, List.length_nil, List.length_map, if_true, if_false, ite_true, ite_false, Bool.false_eq_true, reduceIte, id, ofOpt_some, eqD_rows, neD_rows, eqD_intL, neD_intL, eqD_rowL, neD_rowL, eqD_nil, neD_nil, eqD_nilT, neD_nilT, eqD_nilR, neD_nilR, inD_ints, ninD_ints, inD_row, ninD_row, inD_rows, ninD_rows, mthTy_idx, mthTy_cnt, lens_ints, srts_ints, sorted_ints, List.getElem?_cons_zero, List.getElem?_cons_succ, List.set_cons_zero, List.set_cons_succ, cc, ss, isort_len, mb, ad]
  obtain ⟨e', o1, s3, s4, s5, s6, s7, s8, rfl⟩ := for_pre (t := .tp (.cn (.nm 3) (.cn (.nm 4) .nl))) (b := exS (Fk T (k + 2)) M_l_law_triangles_L1) pairD (fun p e' => ∃ s3 s4 s5 s6 s7 s8, e' = [.v (.int n), .v (rowD c), .v (.list ((p.flatMap fun q => (rI (q.2 + 1) n).flatMap fun l => if rb (col n c) q.1 q.2 l then [[q.1, q.2, l]] else []).map rowD)), s3, s4, s5, s6, s7, s8]) (pairsI n)
    (by
      rintro p ⟨a, b⟩ r hl e ⟨s3, s4, s5, s6, s7, s8, rfl⟩
      have hm : (a, b) ∈ pairsI n := by rw [hl]; simp
      rw [mem_pairsI] at hm
      have ln := flat_len n hn7 (fun q l => if rb (col n c) q.1 q.2 l then [[q.1, q.2, l]] else []) (fun q l => by split <;> simp) p (fun q hq => by rw [hl]; simp [hq])
      have lp : p.length ≤ (pairsI n).length := by rw [hl]; simp
      have := pairs_len_le hn7
      obtain ⟨e', i1, s5, s6, s7, s8, rfl⟩ := inner a b (p.flatMap fun q => (rI (q.2 + 1) n).flatMap fun l => if rb (col n c) q.1 q.2 l then [[q.1, q.2, l]] else []) s5 s6 s7 s8 hm.1 hm.2.1 hm.2.2 (by omega)
      refine ⟨_, ?_, .v (.int a), .v (.int b), s5, s6, s7, s8, rfl⟩
      have e2 : ((p ++ [(a, b)]).flatMap fun q => (rI (q.2 + 1) n).flatMap fun l => if rb (col n c) q.1 q.2 l then [[q.1, q.2, l]] else []) = (p.flatMap fun q => (rI (q.2 + 1) n).flatMap fun l => if rb (col n c) q.1 q.2 l then [[q.1, q.2, l]] else []) ++ (rI (b + 1) n).flatMap fun l => if rb (col n c) a b l then [[a, b, l]] else [] := by
        rw [List.flatMap_append]; simp
      rw [e2]
      have hm1 := hm.2.2
      have hm2 := hm.2.1
      have hm0 := hm.1
      simp only at hm0 hm1 hm2
      simp (disch := omega) only [M_l_law_triangles_L1, exS, ev, getE, getO, getTb, asg, asgs, boolD_bool, bin_add, bin_sub, bin_mul, addI, modI, divI, mulI, eqD_ints, neD_ints, ltD_ints, gtD_ints, leD_ints, geD_ints, isN, isNN, tru_bool, tru_list, tru_tup, tru_row, len_list, len_tup, len_row, tup_list, list_tup, list_row, min_two, max_two, int_bool, int_int, itr_list, itr_tup, itr_row, seq_row, seq_list, seq_tup, rng_ok, frzE, R.ok_bind, R.exc_bind, listD_ok, calm_ok, okN, R.guard_true, isDict_row, isDict_int, isDict_tup, isDict_list, isDict_none, isDict_bool, isDict_str, isDict_pair, bndD, seqOk, List.all_cons, List.all_nil, Bool.not_false, Bool.not_true, Bool.and_self, Bool.true_and, Bool.and_true, Bool.false_and, Bool.and_false, List.length_cons, List.length_nil, List.length_map, if_true, if_false, ite_true, ite_false, Bool.false_eq_true, reduceIte, id, ofOpt_some, eqD_rows, neD_rows, eqD_intL, neD_intL, eqD_rowL, neD_rowL, eqD_nil, neD_nil, eqD_nilT, neD_nilT, eqD_nilR, neD_nilR, inD_ints, ninD_ints, inD_row, ninD_row, inD_rows, ninD_rows, mthTy_idx, mthTy_cnt, lens_ints, srts_ints, sorted_ints, List.getElem?_cons_zero, List.getElem?_cons_succ, List.set_cons_zero, List.set_cons_succ, pairD, i1])
    [.v (.int n), .v (rowD c), .v (.list []), .no, .no, .no, .no, .no, .no] ⟨_, _, _, _, _, _, rfl⟩
  simp (disch := omega) only [runS, List.map_cons, List.map_nil, List.length_cons, List.length_nil, List.replicate, Nat.reduceAdd, Nat.reduceSub, List.cons_append, List.nil_append, M_l_law_triangles, exS, ev, getE, getO, getTb, asg, asgs, boolD_bool, bin_add, bin_sub, bin_mul, addI, modI, divI, mulI, eqD_ints, neD_ints, ltD_ints, gtD_ints, leD_ints, geD_ints, isN, isNN, tru_bool, tru_list, tru_tup, tru_row, len_list, len_tup, len_row, tup_list, list_tup, list_row, min_two, max_two, int_bool, int_int, itr_list, itr_tup, itr_row, seq_row, seq_list, seq_tup, rng_ok, frzE, R.ok_bind, R.exc_bind, listD_ok, calm_ok, okN, R.guard_true, isDict_row, isDict_int, isDict_tup, isDict_list, isDict_none, isDict_bool, isDict_str, isDict_pair, bndD, seqOk, List.all_cons, List.all_nil, Bool.not_false, Bool.not_true, Bool.and_self, Bool.true_and, Bool.and_true, Bool.false_and, Bool.and_false, List.length_cons, List.length_nil, List.length_map, if_true, if_false, ite_true, ite_false, Bool.false_eq_true, reduceIte, id, ofOpt_some, eqD_rows, neD_rows, eqD_intL, neD_intL, eqD_rowL, neD_rowL, eqD_nil, neD_nil, eqD_nilT, neD_nilT, eqD_nilR, neD_nilR, inD_ints, ninD_ints, inD_row, ninD_row, inD_rows, ninD_rows, mthTy_idx, mthTy_cnt, lens_ints, srts_ints, sorted_ints, List.getElem?_cons_zero, List.getElem?_cons_succ, List.set_cons_zero, List.set_cons_succ, c1, o1]
  rfl
end
end TC
set_option Elab.async false
set_option linter.all false
set_option maxRecDepth 100000
set_option maxHeartbeats 0
set_option autoImplicit false
/-! PmH: the laws' colorings. -/
namespace TC
open PySem
theorem rI_at {lo hi : Int} {p r : List Int} {a : Int} (h : rI lo hi = p ++ a :: r) : a = lo + p.length ∧ lo + p.length < hi := by
  have h1 : (rI lo hi)[p.length]? = some a := by rw [h]; simp
  have h2 : p.length < (rI lo hi).length := by rw [h]; simp
  rw [rI_length] at h2
  unfold rI at h1
  rw [List.getElem?_map, List.getElem?_range h2] at h1
  simp at h1
  omega
theorem col_map {n : Int} (g : Int → Int → Int) {a b : Int} (h : (min a b, max a b) ∈ pairsI n) : col n ((pairsI n).map fun q => g q.1 q.2) a b = g (min a b) (max a b) := by
  unfold col
  have hl := List.idxOf_lt_length_of_mem h
  rw [List.getD_eq_getElem?_getD, List.getElem?_map, List.getElem?_eq_getElem hl, List.getElem_idxOf hl]; rfl
/-- no three points of three colors -/
def NoTri (f : Int → Int → Int) (n : Int) : Prop := ∀ a b l : Int, 0 ≤ a → a < b → b < l → l < n → f a b = f a l ∨ f a b = f b l ∨ f a l = f b l
theorem rb_iff (f : Int → Int → Int) (a b l : Int) : rb f a b l = true ↔ f a b ≠ f a l ∧ f a b ≠ f b l ∧ f a l ≠ f b l := by
  unfold rb
  rw [decide_eq_true_eq]
  by_cases h1 : f a b = f a l <;> by_cases h2 : f a b = f b l <;> by_cases h3 : f a l = f b l <;> simp [ddup, h1, h2, h3] <;> simp_all
theorem rb_false (f : Int → Int → Int) (a b l : Int) : rb f a b l = false ↔ f a b = f a l ∨ f a b = f b l ∨ f a l = f b l := by
  rw [← Bool.not_eq_true, rb_iff]
  omega
theorem firstTri_none (f : Int → Int → Int) (n : Int) : firstTri f n = none ↔ NoTri f n := by
  unfold firstTri triL NoTri
  simp only [List.findSome?_eq_none_iff, mem_pairsI, mem_rI]
  constructor
  · intro h a b l h0 h1 h2 h3
    have := h (a, b) ⟨h0, h1, by show b < n; omega⟩ l ⟨by show b + 1 ≤ l; omega, h3⟩
    rw [← rb_false]
    cases e : rb f a b l with
    | false => rfl
    | true => simp [e] at this
  · intro h q hq l hl
    have := (rb_false f q.1 q.2 l).mpr (h q.1 q.2 l hq.1 hq.2.1 (by omega) hl.2)
    simp [this]
theorem trisOf_nil (f : Int → Int → Int) (n : Int) : trisOf f n = [] ↔ NoTri f n := by
  unfold trisOf NoTri
  simp only [List.flatMap_eq_nil_iff, mem_pairsI, mem_rI]
  constructor
  · intro h a b l h0 h1 h2 h3
    have := h (a, b) ⟨h0, h1, by show b < n; omega⟩ l ⟨by show b + 1 ≤ l; omega, h3⟩
    rw [← rb_false]
    cases e : rb f a b l with
    | false => rfl
    | true => simp [e] at this
  · intro h q hq l hl
    have := (rb_false f q.1 q.2 l).mpr (h q.1 q.2 l hq.1 hq.2.1 (by omega) hl.2)
    simp [this]
theorem noTri_congr {f g : Int → Int → Int} {n : Int} (h : ∀ a b, 0 ≤ a → a < b → b < n → f a b = g a b) : NoTri f n ↔ NoTri g n := by
  unfold NoTri
  constructor <;> intro H a b l h0 h1 h2 h3 <;> have := H a b l h0 h1 h2 h3
  · rw [h a b h0 h1 (by omega), h a l h0 (by omega) h3, h b l (by omega) h2 h3] at this; exact this
  · rw [h a b h0 h1 (by omega), h a l h0 (by omega) h3, h b l (by omega) h2 h3]; exact this
structure TameC (n : Int) (c : List Int) : Prop where
  co : Colo n c
  bd : ∀ x ∈ c, 0 ≤ x ∧ x < 4
  nt : NoTri (col n c) n
structure AnyC (n : Int) (c : List Int) : Prop where
  co : Colo n c
  bd : ∀ x ∈ c, 0 ≤ x ∧ x < 6
def tmH (l : List Int) (base p t : Int) (g : Int → Int → Int) (o : Int) : Int :=
  if p < base then l.getD (46 + l.getD ((10 + 7 * o + p) % 45).toNat 0 % 2).toNat 0 % 4 else if o = t then l.getD (48 + p).toNat 0 % 4 else g (min t o) (max t o)
structure TmI (l : List Int) (base p : Int) (kvs : List (List Int × D)) (g : Int → Int → Int) : Prop where
  lk : ∀ a b, 0 ≤ a → a < b → b < p → kvs.lookup [a, b] = some (.int (g a b)) ∧ 0 ≤ g a b ∧ g a b < 4
  nt : NoTri g p
  two : ∀ a b, 0 ≤ a → a < b → b < p → b < base → g a b = l.getD 46 0 % 4 ∨ g a b = l.getD 47 0 % 4
  len : (kvs.length : Int) ≤ p * 10
theorem tm_fold (p : Int) (h : Int → Int) : ∀ (os : List Int) (kvs : List (List Int × D)) (a b : Int), (os.foldl (fun kvs o => putT [o, p] (.int (h o)) kvs) kvs).lookup [a, b] = if b = p ∧ a ∈ os then some (.int (h a)) else kvs.lookup [a, b]
  | [], kvs, a, b => by simp
  | o :: os, kvs, a, b => by
    rw [List.foldl_cons, tm_fold p h os, put_get]
    simp only [List.cons.injEq, and_true, List.mem_cons]
    by_cases h1 : b = p
    · subst h1
      by_cases h2 : a ∈ os
      · simp [h2]
      · by_cases h3 : a = o
        · subst h3; simp [h2]
        · simp [h2, h3]
    · have : ¬ (a = o ∧ b = p) := fun z => h1 z.2
      simp [h1]
theorem tm_foldLen (p : Int) (h : Int → Int) : ∀ (os : List Int) (kvs : List (List Int × D)), (os.foldl (fun kvs o => putT [o, p] (.int (h o)) kvs) kvs).length ≤ kvs.length + os.length
  | [], kvs => by simp
  | o :: os, kvs => by
    rw [List.foldl_cons, List.length_cons]
    have := tm_foldLen p h os (putT [o, p] (.int (h o)) kvs)
    have := put_len [o, p] (.int (h o)) kvs
    omega
theorem tm_next {l : List Int} (hl : Draws l) {base p t : Int} {kvs : List (List Int × D)} {g : Int → Int → Int} (hp : 1 ≤ p) (hp7 : p < 7) (ht : 0 ≤ t) (htp : t < p) (I : TmI l base p kvs g) :
    TmI l base (p + 1) ((rI 0 p).foldl (fun kvs o => putT [o, p] (.int (tmH l base p t g o)) kvs) kvs) (fun a b => if b = p then tmH l base p t g a else g a b) := by
  have two : ∀ o, 0 ≤ o → o < p → p < base → tmH l base p t g o = l.getD 46 0 % 4 ∨ tmH l base p t g o = l.getD 47 0 % 4 := fun o h0 h1 hb => by
    unfold tmH
    rw [if_pos hb]
    have : l.getD ((10 + 7 * o + p) % 45).toNat 0 % 2 = 0 ∨ l.getD ((10 + 7 * o + p) % 45).toNat 0 % 2 = 1 := by omega
    rcases this with z | z <;> rw [z]
    · exact .inl rfl
    · exact .inr rfl
  have rng : ∀ o, 0 ≤ o → o < p → 0 ≤ tmH l base p t g o ∧ tmH l base p t g o < 4 := fun o h0 h1 => by
    unfold tmH
    split
    · omega
    · split
      · omega
      · rename_i z
        exact (I.lk (min t o) (max t o) (by omega) (by omega) (by omega)).2
  refine ⟨fun a b h0 h1 h2 => ?_, fun a b x h0 h1 h2 h3 => ?_, fun a b h0 h1 h2 h3 => ?_, ?_⟩
  · rw [tm_fold]
    by_cases hb : b = p
    · have hm : a ∈ rI 0 p := by rw [mem_rI]; omega
      rw [if_pos ⟨hb, hm⟩, if_pos hb]
      exact ⟨rfl, rng a h0 (by omega)⟩
    · rw [if_neg (fun z => hb z.1), if_neg hb]
      exact I.lk a b h0 h1 (by omega)
  · by_cases hx : x = p
    · have hb : ¬ b = p := by omega
      simp only [hx, hb, if_true, if_false]
      by_cases hbase : p < base
      · have q1 := I.two a b h0 h1 (by omega) (by omega)
        have q2 := two a h0 (by omega) hbase
        have q3 := two b (by omega) (by omega) hbase
        omega
      · unfold tmH
        rw [if_neg hbase, if_neg hbase]
        by_cases ea : a = t
        · rw [if_pos ea, if_neg (show ¬ b = t by omega)]
          right; left
          rw [ea, Int.min_eq_left (by omega), Int.max_eq_right (by omega)]
        · rw [if_neg ea]
          by_cases eb : b = t
          · left
            rw [eb, Int.min_eq_right (by omega), Int.max_eq_left (by omega)]
          · rw [if_neg eb]
            rcases Int.lt_trichotomy t a with z | z | z
            · have := I.nt t a b ht z h1 (by omega)
              rw [Int.min_eq_left (by omega), Int.max_eq_right (by omega), Int.min_eq_left (by omega), Int.max_eq_right (by omega)]
              omega
            · omega
            · rcases Int.lt_trichotomy t b with y | y | y
              · have := I.nt a t b h0 z y (by omega)
                rw [Int.min_eq_right (by omega), Int.max_eq_left (by omega), Int.min_eq_left (by omega), Int.max_eq_right (by omega)]
                omega
              · omega
              · have := I.nt a b t h0 h1 y (by omega)
                rw [Int.min_eq_right (by omega), Int.max_eq_left (by omega), Int.min_eq_right (by omega), Int.max_eq_left (by omega)]
                omega
    · have hb : ¬ b = p := by omega
      simp only [hx, hb, if_false]
      exact I.nt a b x h0 h1 h2 (by omega)
  · by_cases hb : b = p
    · simp only [hb, if_true]
      exact two a h0 (by omega) (by omega)
    · simp only [hb, if_false]
      exact I.two a b h0 h1 (by omega) h3
  · have := tm_foldLen p (tmH l base p t g) (rI 0 p) kvs
    rw [rI_length] at this
    have := I.len
    omega
end TC
set_option Elab.async false
set_option linter.all false
set_option maxRecDepth 100000
set_option maxHeartbeats 0
set_option autoImplicit false
/-! PmI: the laws' colorings, from the terms. -/
namespace TC
open PySem
theorem ev_or (F : Fns) (a b : E) (e : Env) : ev F (.or a b) e = (ev F a e).bind fun x => (boolD x).bind fun k => if k then .ok (.bool true) else ev F b e := rfl
section
variable {T : List Df}
theorem sp_law_tame (hcl : HasF T "_law_cell" 2 B_l_law_cell) (hr : HasF T "_law_row" 5 B_l_law_row) (h0 : HasF T "_law_pairs" 4 M_l_law_pairs) (h : HasF T "_law_tame" 10 M_l_law_tame) (k : Nat) (ns : List Int) (at_ : Int) (ha : 0 ≤ at_) {n : Int} (hn : 1 ≤ n) (hn7 : n ≤ 7) :
    ∃ c, TameC n c ∧ Fk T (k + 3) "_law_tame" [.dict (scrD ns), .int at_, .int n] = .ok (rowD c) := by
  obtain ⟨l, hl, r1⟩ := sp_row hcl hr k ns at_ ha
  have c1 := sp_law_pairs h0 (k + 1) (n := n) (by omega) hn7
  have dr : ∀ {i : Int}, 0 ≤ i → i < 60 → subD (.list (l.map .int)) (.int i) = .ok (.int (l.getD i.toNat 0)) := fun h1 h2 => (dr_ok hl h1 h2).1
  let base : Int := 1 + l.getD 0 0 % 5
  have hb : base = 1 + l.getD 0 0 % 5 := rfl
  generalize base = bs at hb
  have inner : ∀ (p t : Int) (kvs : List (List Int × D)) (g : Int → Int → Int) (s8 s9 : Sl), 1 ≤ p → p < 7 → 0 ≤ t → t < p → TmI l bs p kvs g → ∃ e', forG (.nm 8) (exS (Fk T (k + 2)) M_l_law_tame_L2) ((rI 0 p).map .int) [.v (.dict (scrD ns)), .v (.int at_), .v (.int n), .v (.list (l.map .int)), .v (.int bs), .tab kvs, .v (.int p), .v (.int t), s8, s9] = .ok (.nx e') ∧
      ∃ s8 s9, e' = [.v (.dict (scrD ns)), .v (.int at_), .v (.int n), .v (.list (l.map .int)), .v (.int bs), .tab ((rI 0 p).foldl (fun kvs o => putT [o, p] (.int (tmH l bs p t g o)) kvs) kvs), .v (.int p), .v (.int t), s8, s9] := fun p t kvs g s8 s9 hp hp7 ht htp I => by
    refine for_pre PyData.int (fun P e' => ∃ s8 s9, e' = [.v (.dict (scrD ns)), .v (.int at_), .v (.int n), .v (.list (l.map .int)), .v (.int bs), .tab (P.foldl (fun kvs o => putT [o, p] (.int (tmH l bs p t g o)) kvs) kvs), .v (.int p), .v (.int t), s8, s9]) _ ?_ _ ⟨s8, s9, rfl⟩
    rintro P o r hP e ⟨s8, s9, rfl⟩
    obtain ⟨ho, ho2⟩ := rI_at hP
    have ol := tm_foldLen p (tmH l bs p t g) P kvs
    have il := I.len
    have ko : ∀ a b : Int, keyOf (.tuple [.int a, .int b]) = some [a, b] := fun _ _ => rfl
    refine ⟨_, ?_, .v (.int o), s9, rfl⟩
    rw [List.foldl_append]
    show _ = R.ok (Fl.nx [_, _, _, _, _, .tab (putT [o, p] (.int (tmH l bs p t g o)) (P.foldl (fun kvs o => putT [o, p] (.int (tmH l bs p t g o)) kvs) kvs)), _, _, _, _])
    generalize hK : P.foldl (fun kvs o => putT [o, p] (.int (tmH l bs p t g o)) kvs) kvs = K at *
    have d1 := (dr_ok hl (i := (10 + 7 * o + p) % 45) (by omega) (by omega)).2
    by_cases h1 : p < bs
    · have e1 : tmH l bs p t g o = l.getD (46 + l.getD ((10 + 7 * o + p) % 45).toNat 0 % 2).toNat 0 % 4 := by unfold tmH; rw [if_pos h1]
      rw [e1]
      simp (disch := omega) only [M_l_law_tame_L2, exS, ev, getE, getO, getTb, asg, asgs, boolD_bool, bin_add, bin_sub, bin_mul, addI, modI, divI, mulI, eqD_ints, neD_ints, ltD_ints, gtD_ints, leD_ints, geD_ints, isN, isNN, tru_bool, tru_list, tru_tup, tru_row, len_list, len_tup, len_row, tup_list, list_tup, list_row, min_two, max_two, int_bool, int_int, itr_list, itr_tup, itr_row, seq_row, seq_list, seq_tup, rng_ok, frzE, R.ok_bind, R.exc_bind, listD_ok, calm_ok, okN, R.guard_true, isDict_row, isDict_int, isDict_tup, isDict_list, isDict_none, isDict_bool, isDict_str, isDict_pair, bndD, seqOk, List.all_cons, List.all_nil, Bool.not_false, Bool.not_true, Bool.and_self, Bool.true_and, Bool.and_true, Bool.false_and, Bool.and_false, List.length_cons, List.length_nil, List.length_map, if_true, if_false, ite_true, ite_false, Bool.false_eq_true, reduceIte, id, ofOpt_some, eqD_rows, neD_rows, eqD_intL, neD_intL, eqD_rowL, neD_rowL, eqD_nil, neD_nil, eqD_nilT, neD_nilT, eqD_nilR, neD_nilR, inD_ints, ninD_ints, inD_row, ninD_row, inD_rows, ninD_rows, mthTy_idx, mthTy_cnt, lens_ints, srts_ints, sorted_ints, List.getElem?_cons_zero, List.getElem?_cons_succ, List.set_cons_zero, List.set_cons_succ, decide_eq_true h1, dr, ko]
    · by_cases h2 : o = t
      · have e1 : tmH l bs p t g o = l.getD (48 + p).toNat 0 % 4 := by unfold tmH; rw [if_neg h1, if_pos h2]
        rw [e1]
        simp (disch := omega) only [M_l_law_tame_L2, exS, ev, getE, getO, getTb, asg, asgs, boolD_bool, bin_add, bin_sub, bin_mul, addI, modI, divI, mulI, eqD_ints, neD_ints, ltD_ints, gtD_ints, leD_ints, geD_ints, isN, isNN, tru_bool, tru_list, tru_tup, tru_row, len_list, len_tup, len_row, tup_list, list_tup, list_row, min_two, max_two, int_bool, int_int, itr_list, itr_tup, itr_row, seq_row, seq_list, seq_tup, rng_ok, frzE, R.ok_bind, R.exc_bind, listD_ok, calm_ok, okN, R.guard_true, isDict_row, isDict_int, isDict_tup, isDict_list, isDict_none, isDict_bool, isDict_str, isDict_pair, bndD, seqOk, List.all_cons, List.all_nil, Bool.not_false, Bool.not_true, Bool.and_self, Bool.true_and, Bool.and_true, Bool.false_and, Bool.and_false, List.length_cons, List.length_nil, List.length_map, if_true, if_false, ite_true, ite_false, Bool.false_eq_true, reduceIte, id, ofOpt_some, eqD_rows, neD_rows, eqD_intL, neD_intL, eqD_rowL, neD_rowL, eqD_nil, neD_nil, eqD_nilT, neD_nilT, eqD_nilR, neD_nilR, inD_ints, ninD_ints, inD_row, ninD_row, inD_rows, ninD_rows, mthTy_idx, mthTy_cnt, lens_ints, srts_ints, sorted_ints, List.getElem?_cons_zero, List.getElem?_cons_succ, List.set_cons_zero, List.set_cons_succ, decide_eq_false h1, decide_eq_true h2, dr, ko]
      · have e1 : tmH l bs p t g o = g (min t o) (max t o) := by unfold tmH; rw [if_neg h1, if_neg h2]
        rw [e1]
        have lk : K.lookup [min t o, max t o] = some (.int (g (min t o) (max t o))) := by
          rw [← hK, tm_fold, if_neg (fun z => by omega)]
          exact (I.lk _ _ (by omega) (by omega) (by omega)).1
        simp (disch := omega) only [M_l_law_tame_L2, exS, ev, getE, getO, getTb, asg, asgs, boolD_bool, bin_add, bin_sub, bin_mul, addI, modI, divI, mulI, eqD_ints, neD_ints, ltD_ints, gtD_ints, leD_ints, geD_ints, isN, isNN, tru_bool, tru_list, tru_tup, tru_row, len_list, len_tup, len_row, tup_list, list_tup, list_row, min_two, max_two, int_bool, int_int, itr_list, itr_tup, itr_row, seq_row, seq_list, seq_tup, rng_ok, frzE, R.ok_bind, R.exc_bind, listD_ok, calm_ok, okN, R.guard_true, isDict_row, isDict_int, isDict_tup, isDict_list, isDict_none, isDict_bool, isDict_str, isDict_pair, bndD, seqOk, List.all_cons, List.all_nil, Bool.not_false, Bool.not_true, Bool.and_self, Bool.true_and, Bool.and_true, Bool.false_and, Bool.and_false, List.length_cons, List.length_nil, List.length_map, if_true, if_false, ite_true, ite_false, Bool.false_eq_true, reduceIte, id, ofOpt_some, eqD_rows, neD_rows, eqD_intL, neD_intL, eqD_rowL, neD_rowL, eqD_nil, neD_nil, eqD_nilT, neD_nilT, eqD_nilR, neD_nilR, inD_ints, ninD_ints, inD_row, ninD_row, inD_rows, ninD_rows, mthTy_idx, mthTy_cnt, lens_ints, srts_ints, sorted_ints, List.getElem?_cons_zero, List.getElem?_cons_succ, List.set_cons_zero, List.set_cons_succ, decide_eq_false h1, decide_eq_false h2, dr, ko, ownSl, subOD, lk]
  obtain ⟨e', o1, kvs, g, s6, s7, s8, s9, rfl, I⟩ := for_pre (t := .nm 6) (b := exS (Fk T (k + 2)) M_l_law_tame_L1) PyData.int (fun P e' => ∃ kvs g s6 s7 s8 s9, e' = [.v (.dict (scrD ns)), .v (.int at_), .v (.int n), .v (.list (l.map .int)), .v (.int bs), .tab kvs, s6, s7, s8, s9] ∧ TmI l bs (1 + P.length) kvs g) (rI 1 n)
    (by
      rintro P p r hP e ⟨kvs, g, s6, s7, s8, s9, rfl, I⟩
      obtain ⟨hp, hp2⟩ := rI_at hP
      rw [← hp] at I
      have d1 := (dr_ok hl (i := p) (by omega) (by omega)).2
      have m0 : 0 ≤ l.getD p.toNat 0 % p := Int.emod_nonneg _ (by omega)
      have m1 : l.getD p.toNat 0 % p < p := Int.emod_lt_of_pos _ (by omega)
      obtain ⟨e', i1, s8', s9', rfl⟩ := inner p (l.getD p.toNat 0 % p) kvs g s8 s9 (by omega) (by omega) m0 m1 I
      have nx := tm_next hl (by omega) (by omega) m0 m1 I
      rw [← show ((1 : Int) + ((P ++ [p]).length : Nat)) = p + 1 by rw [List.length_append, List.length_singleton]; omega] at nx
      refine ⟨_, ?_, _, _, .v (.int p), .v (.int (l.getD p.toNat 0 % p)), s8', s9', rfl, nx⟩
      simp (disch := omega) only [M_l_law_tame_L1, exS, ev, getE, getO, getTb, asg, asgs, boolD_bool, bin_add, bin_sub, bin_mul, addI, modI, divI, mulI, eqD_ints, neD_ints, ltD_ints, gtD_ints, leD_ints, geD_ints, isN, isNN, tru_bool, tru_list, tru_tup, tru_row, len_list, len_tup, len_row, tup_list, list_tup, list_row, min_two, max_two, int_bool, int_int, itr_list, itr_tup, itr_row, seq_row, seq_list, seq_tup, rng_ok, frzE, R.ok_bind, R.exc_bind, listD_ok, calm_ok, okN, R.guard_true, isDict_row, isDict_int, isDict_tup, isDict_list, isDict_none, isDict_bool, isDict_str, isDict_pair, bndD, seqOk, List.all_cons, List.all_nil, Bool.not_false, Bool.not_true, Bool.and_self, Bool.true_and, Bool.and_true, Bool.false_and, Bool.and_false, List.length_cons, List.length_nil, List.length_map, if_true, if_false, ite_true, ite_false, Bool.false_eq_true, reduceIte, id, ofOpt_some, eqD_rows, neD_rows, eqD_intL, neD_intL, eqD_rowL, neD_rowL, eqD_nil, neD_nil, eqD_nilT, neD_nilT, eqD_nilR, neD_nilR, inD_ints, ninD_ints, inD_row, ninD_row, inD_rows, ninD_rows, mthTy_idx, mthTy_cnt, lens_ints, srts_ints, sorted_ints, List.getElem?_cons_zero, List.getElem?_cons_succ, List.set_cons_zero, List.set_cons_succ, dr, i1])
    [.v (.dict (scrD ns)), .v (.int at_), .v (.int n), .v (.list (l.map .int)), .v (.int bs), .tab [], .no, .no, .no, .no]
    ⟨[], fun _ _ => 0, _, _, _, _, rfl, fun a b _ _ _ => by simp at *; omega, fun a b l _ _ _ _ => by simp at *, fun a b _ _ _ _ => by simp at *; omega, by simp⟩
  have hlen : (1 : Int) + ((rI 1 n).length : Nat) = n := by rw [rI_length]; omega
  rw [hlen] at I
  have comp : ev (Fk T (k + 2)) M_l_law_tame_C1 [.v (.dict (scrD ns)), .v (.int at_), .v (.int n), .v (.list (l.map .int)), .v (.int bs), .tab kvs, s6, s7, s8, s9] = .ok (.list ((pairsI n).map fun q => .int (g q.1 q.2))) := by
    refine lc_ok (F := Fk T (k + 2)) (elt := .subO 5 (.var 9)) (t := .nm 9) (it := .itr (.call "_law_pairs" (.cons (.var 2) .nil))) pairD (fun q => .int (g q.1 q.2)) (pairsI n) ?_ ?_ (seqOk_map (by have := pairs_len_le hn7; omega) (fun _ => rfl))
    · simp (disch := omega) only [exS, ev, getE, getO, getTb, asg, asgs, boolD_bool, bin_add, bin_sub, bin_mul, addI, modI, divI, mulI, eqD_ints, neD_ints, ltD_ints, gtD_ints, leD_ints, geD_ints, isN, isNN, tru_bool, tru_list, tru_tup, tru_row, len_list, len_tup, len_row, tup_list, list_tup, list_row, min_two, max_two, int_bool, int_int, itr_list, itr_tup, itr_row, seq_row, seq_list, seq_tup, rng_ok, frzE, R.ok_bind, R.exc_bind, listD_ok, calm_ok, okN, R.guard_true, isDict_row, isDict_int, isDict_tup, isDict_list, isDict_none, isDict_bool, isDict_str, isDict_pair, bndD, seqOk, List.all_cons, List.all_nil, Bool.not_false, Bool.not_true, Bool.and_self, Bool.true_and, Bool.and_true, Bool.false_and, Bool.and_false, List.length_cons, List.length_nil, List.length_map, if_true, if_false, ite_true, ite_false, Bool.false_eq_true, reduceIte, id, ofOpt_some, eqD_rows, neD_rows, eqD_intL, neD_intL, eqD_rowL, neD_rowL, eqD_nil, neD_nil, eqD_nilT, neD_nilT, eqD_nilR, neD_nilR, inD_ints, ninD_ints, inD_row, ninD_row, inD_rows, ninD_rows, mthTy_idx, mthTy_cnt, lens_ints, srts_ints, sorted_ints, List.getElem?_cons_zero, List.getElem?_cons_succ, List.set_cons_zero, List.set_cons_succ, c1]
    · intro q hq
      have hq := mem_pairsI.mp hq
      refine ⟨_, rfl, ?_⟩
      have ko : keyOf (pairD q) = some [q.1, q.2] := rfl
      have lk := (I.lk q.1 q.2 hq.1 hq.2.1 hq.2.2).1
      simp (disch := omega) only [exS, ev, getE, getO, getTb, asg, asgs, boolD_bool, bin_add, bin_sub, bin_mul, addI, modI, divI, mulI, eqD_ints, neD_ints, ltD_ints, gtD_ints, leD_ints, geD_ints, isN, isNN, tru_bool, tru_list, tru_tup, tru_row, len_list, len_tup, len_row, tup_list, list_tup, list_row, min_two, max_two, int_bool, int_int, itr_list, itr_tup, itr_row, seq_row, seq_list, seq_tup, rng_ok, frzE, R.ok_bind, R.exc_bind, listD_ok, calm_ok, okN, R.guard_true, isDict_row, isDict_int, isDict_tup, isDict_list, isDict_none, isDict_bool, isDict_str, isDict_pair, bndD, seqOk, List.all_cons, List.all_nil, Bool.not_false, Bool.not_true, Bool.and_self, Bool.true_and, Bool.and_true, Bool.false_and, Bool.and_false, List.length_cons, List.length_nil, List.length_map, if_true, if_false, ite_true, ite_false, Bool.false_eq_true, reduceIte, id, ofOpt_some, eqD_rows, neD_rows, eqD_intL, neD_intL, eqD_rowL, neD_rowL, eqD_nil, neD_nil, eqD_nilT, neD_nilT, eqD_nilR, neD_nilR, inD_ints, ninD_ints, inD_row, ninD_row, inD_rows, ninD_rows, mthTy_idx, mthTy_cnt, lens_ints, srts_ints, sorted_ints, List.getElem?_cons_zero, List.getElem?_cons_succ, List.set_cons_zero, List.set_cons_succ, wipeE, slots, ownSl, subOD, ko, lk]
  have cm : ∀ a b, 0 ≤ a → a < b → b < n → col n ((pairsI n).map fun q => g q.1 q.2) a b = g a b := fun a b h1 h2 h3 => by
    rw [col_map g (idx_lt h1 (by omega) (by omega) h3 (by omega)), Int.min_eq_left (by omega), Int.max_eq_right (by omega)]
  refine ⟨(pairsI n).map fun q => g q.1 q.2, ⟨⟨hn, hn7, by simp⟩, fun x hx => ?_, (noTri_congr cm).mpr I.nt⟩, ?_⟩
  · obtain ⟨q, hq, rfl⟩ := List.mem_map.mp hx
    have hq := mem_pairsI.mp hq
    exact (I.lk q.1 q.2 hq.1 hq.2.1 hq.2.2).2
  · rw [h]
    have r2 : rowD ((pairsI n).map fun q => g q.1 q.2) = .tuple ((pairsI n).map fun q => .int (g q.1 q.2)) := by
      unfold rowD; rw [List.map_map]; rfl
    rw [r2]
    have d0 := dr (i := 0) (by omega) (by omega)
    have d0 : subD (.list (l.map .int)) (.int 0) = .ok (.int (l.getD 0 0)) := d0
    simp (disch := omega) only [runS, List.map_cons, List.map_nil, List.length_cons, List.length_nil, List.replicate, Nat.reduceAdd, Nat.reduceSub, List.cons_append, List.nil_append, M_l_law_tame, exS, ev, getE, getO, getTb, asg, asgs, boolD_bool, bin_add, bin_sub, bin_mul, addI, modI, divI, mulI, eqD_ints, neD_ints, ltD_ints, gtD_ints, leD_ints, geD_ints, isN, isNN, tru_bool, tru_list, tru_tup, tru_row, len_list, len_tup, len_row, tup_list, list_tup, list_row, min_two, max_two, int_bool, int_int, itr_list, itr_tup, itr_row, seq_row, seq_list, seq_tup, rng_ok, frzE, R.ok_bind, R.exc_bind, listD_ok, calm_ok, okN, R.guard_true, isDict_row, isDict_int, isDict_tup, isDict_list, isDict_none, isDict_bool, isDict_str, isDict_pair, bndD, seqOk, List.all_cons, List.all_nil, Bool.not_false, Bool.not_true, Bool.and_self, Bool.true_and, Bool.and_true, Bool.false_and, Bool.and_false, List.length_cons, List.length_nil, List.length_map, if_true, if_false, ite_true, ite_false, Bool.false_eq_true, reduceIte, id, ofOpt_some, eqD_rows, neD_rows, eqD_intL, neD_intL, eqD_rowL, neD_rowL, eqD_nil, neD_nil, eqD_nilT, neD_nilT, eqD_nilR, neD_nilR, inD_ints, ninD_ints, inD_row, ninD_row, inD_rows, ninD_rows, mthTy_idx, mthTy_cnt, lens_ints, srts_ints, sorted_ints, List.getElem?_cons_zero, List.getElem?_cons_succ, List.set_cons_zero, List.set_cons_succ, r1, d0, ← hb, o1, comp]
end
end TC
set_option Elab.async false
set_option linter.all false
set_option maxRecDepth 100000
set_option maxHeartbeats 0
set_option autoImplicit false
/-! PmJ: slices; any coloring. -/
namespace TC
open PySem
theorem cut_take {α : Type} (xs : List α) {v : Int} (h : 0 ≤ v) : cut xs none (some v) = xs.take v.toNat := by
  unfold cut sIx
  simp only [if_neg (show ¬ v < 0 by omega), List.drop_zero, Nat.sub_zero]
  rcases Nat.le_total v.toNat xs.length with z | z
  · rw [Nat.min_eq_left z]
  · rw [Nat.min_eq_right z, List.take_of_length_le (Nat.le_refl _), List.take_of_length_le z]
theorem cut_drop {α : Type} (xs : List α) {v : Int} (h : 0 ≤ v) : cut xs (some v) none = xs.drop v.toNat := by
  unfold cut sIx
  simp only [if_neg (show ¬ v < 0 by omega)]
  rcases Nat.le_total v.toNat xs.length with z | z
  · rw [Nat.min_eq_left z, List.take_of_length_le (by rw [List.length_drop]; exact Nat.le_refl _)]
  · rw [Nat.min_eq_right z, List.drop_of_length_le (Nat.le_refl _), List.drop_of_length_le z]; simp
theorem slcH_row (l : List Int) {v : Int} (h : 0 ≤ v) : slcD (rowD l) none (some v) = .ok (rowD (l.take v.toNat)) := by
  show R.ok (PyData.tuple (cut (l.map .int) none (some v))) = _
  rw [cut_take _ h, ← List.map_take]; rfl
theorem slcL_row (l : List Int) {v : Int} (h : 0 ≤ v) : slcD (rowD l) (some v) none = .ok (rowD (l.drop v.toNat)) := by
  show R.ok (PyData.tuple (cut (l.map .int) (some v) none)) = _
  rw [cut_drop _ h, ← List.map_drop]; rfl
theorem slcH_list (l : List D) {v : Int} (h : 0 ≤ v) : slcD (.list l) none (some v) = .ok (.list (l.take v.toNat)) := by
  show R.ok (PyData.list (cut l none (some v))) = _
  rw [cut_take _ h]
theorem slcL_list (l : List D) {v : Int} (h : 0 ≤ v) : slcD (.list l) (some v) none = .ok (.list (l.drop v.toNat)) := by
  show R.ok (PyData.list (cut l (some v) none)) = _
  rw [cut_drop _ h]
theorem slcH_tup (l : List D) {v : Int} (h : 0 ≤ v) : slcD (.tuple l) none (some v) = .ok (.tuple (l.take v.toNat)) := by
  show R.ok (PyData.tuple (cut l none (some v))) = _
  rw [cut_take _ h]
theorem slcL_tup (l : List D) {v : Int} (h : 0 ≤ v) : slcD (.tuple l) (some v) none = .ok (.tuple (l.drop v.toNat)) := by
  show R.ok (PyData.tuple (cut l (some v) none)) = _
  rw [cut_drop _ h]
theorem row_one (x : Int) : PyData.tuple [.int x] = rowD [x] := rfl
theorem set_cut {α : Type} (c : List α) (i : Nat) (x : α) (h : i < c.length) : c.take i ++ [x] ++ c.drop (i + 1) = c.set i x := by
  rw [List.set_eq_take_append_cons_drop, if_pos h]
  simp
section
variable {T : List Df}
theorem sp_law_any (hcl : HasF T "_law_cell" 2 B_l_law_cell) (hr : HasF T "_law_row" 5 B_l_law_row) (h0 : HasF T "_law_pairs" 4 M_l_law_pairs) (h1 : HasF T "_law_tame" 10 M_l_law_tame) (h : HasF T "_law_any" 7 M_l_law_any) (k : Nat) (ns : List Int) (at_ : Int) (ha : 0 ≤ at_) {m : Int} (hm : 1 ≤ m) (hm7 : m ≤ 7) :
    ∃ n c, AnyC n c ∧ n ≤ m ∧ Fk T (k + 4) "_law_any" [.dict (scrD ns), .int at_, .int m] = .ok (.tuple [.int n, rowD c]) := by
  obtain ⟨l, hl, r1⟩ := sp_row hcl hr (k + 1) ns at_ ha
  have dr : ∀ {i : Int}, 0 ≤ i → i < 60 → subD (.list (l.map .int)) (.int i) = .ok (.int (l.getD i.toNat 0)) := fun h1 h2 => (dr_ok hl h1 h2).1
  have n0 : 0 ≤ l.getD (40 : Int).toNat 0 % m := Int.emod_nonneg _ (by omega)
  have n1 : l.getD (40 : Int).toNat 0 % m < m := Int.emod_lt_of_pos _ (by omega)
  obtain ⟨c, tc, r2⟩ := sp_law_tame hcl hr h0 h1 k ns at_ ha (n := 1 + l.getD (40 : Int).toNat 0 % m) (by omega) (by omega)
  generalize hn : 1 + l.getD (40 : Int).toNat 0 % m = n at *
  have clen := tc.co.len
  have c21 := pairs_len_le tc.co.hi
  have comp : ∀ (c : List Int), c.length ≤ 21 → ∀ s6 : Sl, ev (Fk T (k + 3)) M_l_law_any_C1 [.v (.dict (scrD ns)), .v (.int at_), .v (.int m), .v (.list (l.map .int)), .v (.int n), .v (rowD c), s6] = .ok (.list (((rI 0 c.length).map fun x => l.getD (44 + x % 12).toNat 0 * (x + 1) % 3).map .int)) := fun c hcl s6 => by
    rw [List.map_map]
    refine lc_ok (F := Fk T (k + 3)) (t := .nm 6) PyData.int (fun x => .int (l.getD (44 + x % 12).toNat 0 * (x + 1) % 3)) (rI 0 c.length) ?_ ?_ (seqOk_map (by rw [rI_length]; omega) (fun _ => rfl))
    · simp (disch := omega) only [exS, ev, getE, getO, getTb, asg, asgs, boolD_bool, bin_add, bin_sub, bin_mul, addI, modI, divI, mulI, eqD_ints, neD_ints, ltD_ints, gtD_ints, leD_ints, geD_ints, isN, isNN, tru_bool, tru_list, tru_tup, tru_row, len_list, len_tup, len_row, tup_list, list_tup, list_row, min_two, max_two, int_bool, int_int, itr_list, itr_tup, itr_row, seq_row, seq_list, seq_tup, rng_ok, frzE, R.ok_bind, R.exc_bind, listD_ok, calm_ok, okN, R.guard_true, isDict_row, isDict_int, isDict_tup, isDict_list, isDict_none, isDict_bool, isDict_str, isDict_pair, bndD, seqOk, List.all_cons, List.all_nil, Bool.not_false, Bool.not_true, Bool.and_self, Bool.true_and, Bool.and_true, Bool.false_and, Bool.and_false, List.length_cons, List.length_nil, List.length_map, if_true, if_false, ite_true, ite_false, Bool.false_eq_true, reduceIte, id, ofOpt_some, eqD_rows, neD_rows, eqD_intL, neD_intL, eqD_rowL, neD_rowL, eqD_nil, neD_nil, eqD_nilT, neD_nilT, eqD_nilR, neD_nilR, inD_ints, ninD_ints, inD_row, ninD_row, inD_rows, ninD_rows, mthTy_idx, mthTy_cnt, lens_ints, srts_ints, sorted_ints, List.getElem?_cons_zero, List.getElem?_cons_succ, List.set_cons_zero, List.set_cons_succ]
    · intro x hx
      rw [mem_rI] at hx
      have d1 := (dr_ok hl (i := 44 + x % 12) (by omega) (by omega)).2
      refine ⟨_, rfl, ?_⟩
      simp (disch := omega) only [exS, ev, getE, getO, getTb, asg, asgs, boolD_bool, bin_add, bin_sub, bin_mul, addI, modI, divI, mulI, eqD_ints, neD_ints, ltD_ints, gtD_ints, leD_ints, geD_ints, isN, isNN, tru_bool, tru_list, tru_tup, tru_row, len_list, len_tup, len_row, tup_list, list_tup, list_row, min_two, max_two, int_bool, int_int, itr_list, itr_tup, itr_row, seq_row, seq_list, seq_tup, rng_ok, frzE, R.ok_bind, R.exc_bind, listD_ok, calm_ok, okN, R.guard_true, isDict_row, isDict_int, isDict_tup, isDict_list, isDict_none, isDict_bool, isDict_str, isDict_pair, bndD, seqOk, List.all_cons, List.all_nil, Bool.not_false, Bool.not_true, Bool.and_self, Bool.true_and, Bool.and_true, Bool.false_and, Bool.and_false, List.length_cons, List.length_nil, List.length_map, if_true, if_false, ite_true, ite_false, Bool.false_eq_true, reduceIte, id, ofOpt_some, eqD_rows, neD_rows, eqD_intL, neD_intL, eqD_rowL, neD_rowL, eqD_nil, neD_nil, eqD_nilT, neD_nilT, eqD_nilR, neD_nilR, inD_ints, ninD_ints, inD_row, ninD_row, inD_rows, ninD_rows, mthTy_idx, mthTy_cnt, lens_ints, srts_ints, sorted_ints, List.getElem?_cons_zero, List.getElem?_cons_succ, List.set_cons_zero, List.set_cons_succ, wipeE, slots, dr]
  have key : ∃ c1 : List Int, ∃ s6 : Sl, (c1.length = c.length ∧ ∀ x ∈ c1, 0 ≤ x ∧ x < 6) ∧ exS (Fk T (k + 3)) (nthS M_l_law_any 3) [.v (.dict (scrD ns)), .v (.int at_), .v (.int m), .v (.list (l.map .int)), .v (.int n), .v (rowD c), .no] = .ok (.nx [.v (.dict (scrD ns)), .v (.int at_), .v (.int m), .v (.list (l.map .int)), .v (.int n), .v (rowD c1), s6]) := by
    by_cases q1 : l.getD (41 : Int).toNat 0 % 3 = 1
    · cases q2 : c.isEmpty with
      | true =>
        refine ⟨c, .no, ⟨rfl, fun x hx => by have := tc.bd x hx; omega⟩, ?_⟩
        simp (disch := omega) only [M_l_law_any, nthS, exS, ev, getE, getO, getTb, asg, asgs, boolD_bool, bin_add, bin_sub, bin_mul, addI, modI, divI, mulI, eqD_ints, neD_ints, ltD_ints, gtD_ints, leD_ints, geD_ints, isN, isNN, tru_bool, tru_list, tru_tup, tru_row, len_list, len_tup, len_row, tup_list, list_tup, list_row, min_two, max_two, int_bool, int_int, itr_list, itr_tup, itr_row, seq_row, seq_list, seq_tup, rng_ok, frzE, R.ok_bind, R.exc_bind, listD_ok, calm_ok, okN, R.guard_true, isDict_row, isDict_int, isDict_tup, isDict_list, isDict_none, isDict_bool, isDict_str, isDict_pair, bndD, seqOk, List.all_cons, List.all_nil, Bool.not_false, Bool.not_true, Bool.and_self, Bool.true_and, Bool.and_true, Bool.false_and, Bool.and_false, List.length_cons, List.length_nil, List.length_map, if_true, if_false, ite_true, ite_false, Bool.false_eq_true, reduceIte, id, ofOpt_some, eqD_rows, neD_rows, eqD_intL, neD_intL, eqD_rowL, neD_rowL, eqD_nil, neD_nil, eqD_nilT, neD_nilT, eqD_nilR, neD_nilR, inD_ints, ninD_ints, inD_row, ninD_row, inD_rows, ninD_rows, mthTy_idx, mthTy_cnt, lens_ints, srts_ints, sorted_ints, List.getElem?_cons_zero, List.getElem?_cons_succ, List.set_cons_zero, List.set_cons_succ, dr, decide_eq_true q1, q2]
      | false =>
        have hpos : 0 < c.length := by
          cases c with
          | nil => cases q2
          | cons a r => simp
        have p0 : 0 ≤ l.getD (42 : Int).toNat 0 % (c.length : Int) := Int.emod_nonneg _ (by omega)
        have p1 : l.getD (42 : Int).toNat 0 % (c.length : Int) < c.length := Int.emod_lt_of_pos _ (by omega)
        generalize hp : l.getD (42 : Int).toNat 0 % (c.length : Int) = p at p0 p1
        have sc := set_cut c p.toNat (l.getD (43 : Int).toNat 0 % 6) (by omega)
        refine ⟨c.set p.toNat (l.getD (43 : Int).toNat 0 % 6), .v (.int p), ⟨by simp, fun x hx => ?_⟩, ?_⟩
        · rcases List.mem_or_eq_of_mem_set hx with z | z
          · have := tc.bd x z; omega
          · rw [z]; omega
        · have tk : (c.take p.toNat).length ≤ 21 := by rw [List.length_take]; omega
          have dk : (c.drop (p + 1).toNat).length ≤ 21 := by rw [List.length_drop]; omega
          have tk2 : (c.take p.toNat ++ [l.getD (43 : Int).toNat 0 % 6]).length ≤ 22 := by rw [List.length_append]; simp; omega
          have e2 : (p + 1).toNat = p.toNat + 1 := by omega
          rw [e2] at dk
          rw [← sc]
          have a1 : addD (rowD (c.take p.toNat)) (rowD [l.getD (43 : Int).toNat 0 % 6]) = .ok (rowD (c.take p.toNat ++ [l.getD (43 : Int).toNat 0 % 6])) := addR (by simp; omega)
          have a2 : addD (rowD (c.take p.toNat ++ [l.getD (43 : Int).toNat 0 % 6])) (rowD (c.drop (p.toNat + 1))) = .ok (rowD (c.take p.toNat ++ [l.getD (43 : Int).toNat 0 % 6] ++ c.drop (p.toNat + 1))) := addR (by omega)
          simp (disch := omega) only [M_l_law_any, nthS, exS, ev, getE, getO, getTb, asg, asgs, boolD_bool, bin_add, bin_sub, bin_mul, addI, modI, divI, mulI, eqD_ints, neD_ints, ltD_ints, gtD_ints, leD_ints, geD_ints, isN, isNN, tru_bool, tru_list, tru_tup, tru_row, len_list, len_tup, len_row, tup_list, list_tup, list_row, min_two, max_two, int_bool, int_int, itr_list, itr_tup, itr_row, seq_row, seq_list, seq_tup, rng_ok, frzE, R.ok_bind, R.exc_bind, listD_ok, calm_ok, okN, R.guard_true, isDict_row, isDict_int, isDict_tup, isDict_list, isDict_none, isDict_bool, isDict_str, isDict_pair, bndD, seqOk, List.all_cons, List.all_nil, Bool.not_false, Bool.not_true, Bool.and_self, Bool.true_and, Bool.and_true, Bool.false_and, Bool.and_false, List.length_cons, List.length_nil, List.length_map, if_true, if_false, ite_true, ite_false, Bool.false_eq_true, reduceIte, id, ofOpt_some, eqD_rows, neD_rows, eqD_intL, neD_intL, eqD_rowL, neD_rowL, eqD_nil, neD_nil, eqD_nilT, neD_nilT, eqD_nilR, neD_nilR, inD_ints, ninD_ints, inD_row, ninD_row, inD_rows, ninD_rows, mthTy_idx, mthTy_cnt, lens_ints, srts_ints, sorted_ints, List.getElem?_cons_zero, List.getElem?_cons_succ, List.set_cons_zero, List.set_cons_succ, dr, decide_eq_true q1, q2, hp, slcH_row, slcL_row, e2, row_one, a1, a2]
    · refine ⟨c, .no, ⟨rfl, fun x hx => by have := tc.bd x hx; omega⟩, ?_⟩
      simp (disch := omega) only [M_l_law_any, nthS, exS, ev, getE, getO, getTb, asg, asgs, boolD_bool, bin_add, bin_sub, bin_mul, addI, modI, divI, mulI, eqD_ints, neD_ints, ltD_ints, gtD_ints, leD_ints, geD_ints, isN, isNN, tru_bool, tru_list, tru_tup, tru_row, len_list, len_tup, len_row, tup_list, list_tup, list_row, min_two, max_two, int_bool, int_int, itr_list, itr_tup, itr_row, seq_row, seq_list, seq_tup, rng_ok, frzE, R.ok_bind, R.exc_bind, listD_ok, calm_ok, okN, R.guard_true, isDict_row, isDict_int, isDict_tup, isDict_list, isDict_none, isDict_bool, isDict_str, isDict_pair, bndD, seqOk, List.all_cons, List.all_nil, Bool.not_false, Bool.not_true, Bool.and_self, Bool.true_and, Bool.and_true, Bool.false_and, Bool.and_false, List.length_cons, List.length_nil, List.length_map, if_true, if_false, ite_true, ite_false, Bool.false_eq_true, reduceIte, id, ofOpt_some, eqD_rows, neD_rows, eqD_intL, neD_intL, eqD_rowL, neD_rowL, eqD_nil, neD_nil, eqD_nilT, neD_nilT, eqD_nilR, neD_nilR, inD_ints, ninD_ints, inD_row, ninD_row, inD_rows, ninD_rows, mthTy_idx, mthTy_cnt, lens_ints, srts_ints, sorted_ints, List.getElem?_cons_zero, List.getElem?_cons_succ, List.set_cons_zero, List.set_cons_succ, dr, decide_eq_false q1]
  obtain ⟨c1, s6, ⟨hc1, hb1⟩, k1⟩ := key
  have key2 : ∃ c2 : List Int, ∃ s6' : Sl, (c2.length = c.length ∧ ∀ x ∈ c2, 0 ≤ x ∧ x < 6) ∧ exS (Fk T (k + 3)) (nthS M_l_law_any 4) [.v (.dict (scrD ns)), .v (.int at_), .v (.int m), .v (.list (l.map .int)), .v (.int n), .v (rowD c1), s6] = .ok (.nx [.v (.dict (scrD ns)), .v (.int at_), .v (.int m), .v (.list (l.map .int)), .v (.int n), .v (rowD c2), s6']) := by
    by_cases q1 : l.getD (41 : Int).toNat 0 % 9 = 2
    · refine ⟨(rI 0 c1.length).map fun x => l.getD (44 + x % 12).toNat 0 * (x + 1) % 3, s6, ⟨by rw [List.length_map, rI_length]; omega, fun x hx => ?_⟩, ?_⟩
      · obtain ⟨y, _, rfl⟩ := List.mem_map.mp hx
        omega
      · have := comp c1 (by omega) s6
        simp (disch := omega) only [M_l_law_any, nthS, exS, ev, getE, getO, getTb, asg, asgs, boolD_bool, bin_add, bin_sub, bin_mul, addI, modI, divI, mulI, eqD_ints, neD_ints, ltD_ints, gtD_ints, leD_ints, geD_ints, isN, isNN, tru_bool, tru_list, tru_tup, tru_row, len_list, len_tup, len_row, tup_list, list_tup, list_row, min_two, max_two, int_bool, int_int, itr_list, itr_tup, itr_row, seq_row, seq_list, seq_tup, rng_ok, frzE, R.ok_bind, R.exc_bind, listD_ok, calm_ok, okN, R.guard_true, isDict_row, isDict_int, isDict_tup, isDict_list, isDict_none, isDict_bool, isDict_str, isDict_pair, bndD, seqOk, List.all_cons, List.all_nil, Bool.not_false, Bool.not_true, Bool.and_self, Bool.true_and, Bool.and_true, Bool.false_and, Bool.and_false, List.length_cons, List.length_nil, List.length_map, if_true, if_false, ite_true, ite_false, Bool.false_eq_true, reduceIte, id, ofOpt_some, eqD_rows, neD_rows, eqD_intL, neD_intL, eqD_rowL, neD_rowL, eqD_nil, neD_nil, eqD_nilT, neD_nilT, eqD_nilR, neD_nilR, inD_ints, ninD_ints, inD_row, ninD_row, inD_rows, ninD_rows, mthTy_idx, mthTy_cnt, lens_ints, srts_ints, sorted_ints, List.getElem?_cons_zero, List.getElem?_cons_succ, List.set_cons_zero, List.set_cons_succ, dr, decide_eq_true q1, this, tup_ints]
    · refine ⟨c1, s6, ⟨hc1, hb1⟩, ?_⟩
      simp (disch := omega) only [M_l_law_any, nthS, exS, ev, getE, getO, getTb, asg, asgs, boolD_bool, bin_add, bin_sub, bin_mul, addI, modI, divI, mulI, eqD_ints, neD_ints, ltD_ints, gtD_ints, leD_ints, geD_ints, isN, isNN, tru_bool, tru_list, tru_tup, tru_row, len_list, len_tup, len_row, tup_list, list_tup, list_row, min_two, max_two, int_bool, int_int, itr_list, itr_tup, itr_row, seq_row, seq_list, seq_tup, rng_ok, frzE, R.ok_bind, R.exc_bind, listD_ok, calm_ok, okN, R.guard_true, isDict_row, isDict_int, isDict_tup, isDict_list, isDict_none, isDict_bool, isDict_str, isDict_pair, bndD, seqOk, List.all_cons, List.all_nil, Bool.not_false, Bool.not_true, Bool.and_self, Bool.true_and, Bool.and_true, Bool.false_and, Bool.and_false, List.length_cons, List.length_nil, List.length_map, if_true, if_false, ite_true, ite_false, Bool.false_eq_true, reduceIte, id, ofOpt_some, eqD_rows, neD_rows, eqD_intL, neD_intL, eqD_rowL, neD_rowL, eqD_nil, neD_nil, eqD_nilT, neD_nilT, eqD_nilR, neD_nilR, inD_ints, ninD_ints, inD_row, ninD_row, inD_rows, ninD_rows, mthTy_idx, mthTy_cnt, lens_ints, srts_ints, sorted_ints, List.getElem?_cons_zero, List.getElem?_cons_succ, List.set_cons_zero, List.set_cons_succ, dr, decide_eq_false q1]
  obtain ⟨c2, s6', ⟨hc2, hb2⟩, k2⟩ := key2
  refine ⟨n, c2, ⟨⟨tc.co.lo, tc.co.hi, by rw [hc2, clen]⟩, hb2⟩, by omega, ?_⟩
  rw [h]
  have x0 : exS (Fk T (k + 3)) (nthS M_l_law_any 0) [.v (.dict (scrD ns)), .v (.int at_), .v (.int m), .no, .no, .no, .no] = .ok (.nx [.v (.dict (scrD ns)), .v (.int at_), .v (.int m), .v (.list (l.map .int)), .no, .no, .no]) := by
    simp (disch := omega) only [M_l_law_any, nthS, exS, ev, getE, getO, getTb, asg, asgs, boolD_bool, bin_add, bin_sub, bin_mul, addI, modI, divI, mulI, eqD_ints, neD_ints, ltD_ints, gtD_ints, leD_ints, geD_ints, isN, isNN, tru_bool, tru_list, tru_tup, tru_row, len_list, len_tup, len_row, tup_list, list_tup, list_row, min_two, max_two, int_bool, int_int, itr_list, itr_tup, itr_row, seq_row, seq_list, seq_tup, rng_ok, frzE, R.ok_bind, R.exc_bind, listD_ok, calm_ok, okN, R.guard_true, isDict_row, isDict_int, isDict_tup, isDict_list, isDict_none, isDict_bool, isDict_str, isDict_pair, bndD, seqOk, List.all_cons, List.all_nil, Bool.not_false, Bool.not_true, Bool.and_self, Bool.true_and, Bool.and_true, Bool.false_and, Bool.and_false, List.length_cons, List.length_nil, List.length_map, if_true, if_false, ite_true, ite_false, Bool.false_eq_true, reduceIte, id, ofOpt_some, eqD_rows, neD_rows, eqD_intL, neD_intL, eqD_rowL, neD_rowL, eqD_nil, neD_nil, eqD_nilT, neD_nilT, eqD_nilR, neD_nilR, inD_ints, ninD_ints, inD_row, ninD_row, inD_rows, ninD_rows, mthTy_idx, mthTy_cnt, lens_ints, srts_ints, sorted_ints, List.getElem?_cons_zero, List.getElem?_cons_succ, List.set_cons_zero, List.set_cons_succ, r1]
  have x1 : exS (Fk T (k + 3)) (nthS M_l_law_any 1) [.v (.dict (scrD ns)), .v (.int at_), .v (.int m), .v (.list (l.map .int)), .no, .no, .no] = .ok (.nx [.v (.dict (scrD ns)), .v (.int at_), .v (.int m), .v (.list (l.map .int)), .v (.int n), .no, .no]) := by
    simp (disch := omega) only [M_l_law_any, nthS, exS, ev, getE, getO, getTb, asg, asgs, boolD_bool, bin_add, bin_sub, bin_mul, addI, modI, divI, mulI, eqD_ints, neD_ints, ltD_ints, gtD_ints, leD_ints, geD_ints, isN, isNN, tru_bool, tru_list, tru_tup, tru_row, len_list, len_tup, len_row, tup_list, list_tup, list_row, min_two, max_two, int_bool, int_int, itr_list, itr_tup, itr_row, seq_row, seq_list, seq_tup, rng_ok, frzE, R.ok_bind, R.exc_bind, listD_ok, calm_ok, okN, R.guard_true, isDict_row, isDict_int, isDict_tup, isDict_list, isDict_none, isDict_bool, isDict_str, isDict_pair, bndD, seqOk, List.all_cons, List.all_nil, Bool.not_false, Bool.not_true, Bool.and_self, Bool.true_and, Bool.and_true, Bool.false_and, Bool.and_false, List.length_cons, List.length_nil, List.length_map, if_true, if_false, ite_true, ite_false, Bool.false_eq_true, reduceIte, id, ofOpt_some, eqD_rows, neD_rows, eqD_intL, neD_intL, eqD_rowL, neD_rowL, eqD_nil, neD_nil, eqD_nilT, neD_nilT, eqD_nilR, neD_nilR, inD_ints, ninD_ints, inD_row, ninD_row, inD_rows, ninD_rows, mthTy_idx, mthTy_cnt, lens_ints, srts_ints, sorted_ints, List.getElem?_cons_zero, List.getElem?_cons_succ, List.set_cons_zero, List.set_cons_succ, dr, hn]
  have x2 : exS (Fk T (k + 3)) (nthS M_l_law_any 2) [.v (.dict (scrD ns)), .v (.int at_), .v (.int m), .v (.list (l.map .int)), .v (.int n), .no, .no] = .ok (.nx [.v (.dict (scrD ns)), .v (.int at_), .v (.int m), .v (.list (l.map .int)), .v (.int n), .v (rowD c), .no]) := by
    simp (disch := omega) only [M_l_law_any, nthS, exS, ev, getE, getO, getTb, asg, asgs, boolD_bool, bin_add, bin_sub, bin_mul, addI, modI, divI, mulI, eqD_ints, neD_ints, ltD_ints, gtD_ints, leD_ints, geD_ints, isN, isNN, tru_bool, tru_list, tru_tup, tru_row, len_list, len_tup, len_row, tup_list, list_tup, list_row, min_two, max_two, int_bool, int_int, itr_list, itr_tup, itr_row, seq_row, seq_list, seq_tup, rng_ok, frzE, R.ok_bind, R.exc_bind, listD_ok, calm_ok, okN, R.guard_true, isDict_row, isDict_int, isDict_tup, isDict_list, isDict_none, isDict_bool, isDict_str, isDict_pair, bndD, seqOk, List.all_cons, List.all_nil, Bool.not_false, Bool.not_true, Bool.and_self, Bool.true_and, Bool.and_true, Bool.false_and, Bool.and_false, List.length_cons, List.length_nil, List.length_map, if_true, if_false, ite_true, ite_false, Bool.false_eq_true, reduceIte, id, ofOpt_some, eqD_rows, neD_rows, eqD_intL, neD_intL, eqD_rowL, neD_rowL, eqD_nil, neD_nil, eqD_nilT, neD_nilT, eqD_nilR, neD_nilR, inD_ints, ninD_ints, inD_row, ninD_row, inD_rows, ninD_rows, mthTy_idx, mthTy_cnt, lens_ints, srts_ints, sorted_ints, List.getElem?_cons_zero, List.getElem?_cons_succ, List.set_cons_zero, List.set_cons_succ, r2]
  have x5 : exS (Fk T (k + 3)) (nthS M_l_law_any 5) [.v (.dict (scrD ns)), .v (.int at_), .v (.int m), .v (.list (l.map .int)), .v (.int n), .v (rowD c2), s6'] = .ok (.rt (.tuple [.int n, rowD c2])) := by
    simp (disch := omega) only [M_l_law_any, nthS, exS, ev, getE, getO, getTb, asg, asgs, boolD_bool, bin_add, bin_sub, bin_mul, addI, modI, divI, mulI, eqD_ints, neD_ints, ltD_ints, gtD_ints, leD_ints, geD_ints, isN, isNN, tru_bool, tru_list, tru_tup, tru_row, len_list, len_tup, len_row, tup_list, list_tup, list_row, min_two, max_two, int_bool, int_int, itr_list, itr_tup, itr_row, seq_row, seq_list, seq_tup, rng_ok, frzE, R.ok_bind, R.exc_bind, listD_ok, calm_ok, okN, R.guard_true, isDict_row, isDict_int, isDict_tup, isDict_list, isDict_none, isDict_bool, isDict_str, isDict_pair, bndD, seqOk, List.all_cons, List.all_nil, Bool.not_false, Bool.not_true, Bool.and_self, Bool.true_and, Bool.and_true, Bool.false_and, Bool.and_false, List.length_cons, List.length_nil, List.length_map, if_true, if_false, ite_true, ite_false, Bool.false_eq_true, reduceIte, id, ofOpt_some, eqD_rows, neD_rows, eqD_intL, neD_intL, eqD_rowL, neD_rowL, eqD_nil, neD_nil, eqD_nilT, neD_nilT, eqD_nilR, neD_nilR, inD_ints, ninD_ints, inD_row, ninD_row, inD_rows, ninD_rows, mthTy_idx, mthTy_cnt, lens_ints, srts_ints, sorted_ints, List.getElem?_cons_zero, List.getElem?_cons_succ, List.set_cons_zero, List.set_cons_succ]
  show (exS (Fk T (k + 3)) (.cons (nthS M_l_law_any 0) (.cons (nthS M_l_law_any 1) (.cons (nthS M_l_law_any 2) (.cons (nthS M_l_law_any 3) (.cons (nthS M_l_law_any 4) (.cons (nthS M_l_law_any 5) .nil)))))) [.v (.dict (scrD ns)), .v (.int at_), .v (.int m), .no, .no, .no, .no]).bind _ = _
  rw [ex_next x0, ex_next x1, ex_next x2, ex_next k1, ex_next k2, ex_ret x5]; rfl
end
end TC
set_option Elab.async false
set_option linter.all false
set_option maxRecDepth 100000
set_option maxHeartbeats 0
set_option autoImplicit false
/-! PmK: checks of numbers and colorings. -/
namespace TC
open PySem
structure HB (T : List Df) : Prop where
  in_range : HasF T "in_range" 3 B_f_in_range
  pairs_of : HasF T "pairs_of" 3 M_f_pairs_of
  check_points : HasF T "check_points" 1 M_f_check_points
  is_coloring : HasF T "is_coloring" 3 M_f_is_coloring
  check_coloring : HasF T "check_coloring" 2 M_f_check_coloring
def isCol (n : Int) : D → Bool
  | .tuple xs => decide ((xs.length : Int) = (pairsI n).length) && xs.all fun d => inR d 0 5
  | _ => false
theorem isCol_row {n : Int} {c : List Int} (h : AnyC n c) : isCol n (rowD c) = true := by
  show (decide (((c.map PyData.int).length : Int) = (pairsI n).length) && (c.map PyData.int).all fun d => inR d 0 5) = true
  rw [List.length_map, h.co.len, decide_eq_true rfl, Bool.true_and, List.all_map, List.all_eq_true]
  intro x hx
  have := h.bd x hx
  show (decide (0 ≤ x) && decide (x ≤ 5)) = true
  rw [decide_eq_true this.1, decide_eq_true (show x ≤ 5 by omega)]; rfl
theorem inR_pts {n : Int} (h1 : 1 ≤ n) (h2 : n ≤ 7) : inR (.int n) 1 7 = true := by
  show (decide (1 ≤ n) && decide (n ≤ 7)) = true
  rw [decide_eq_true h1, decide_eq_true h2]; rfl
theorem isi_list_t (xs : List D) : isiD (.tuple xs) "list" = .ok false := rfl
theorem isi_list_l (xs : List D) : isiD (.list xs) "list" = .ok true := rfl
theorem isi_list_n : isiD .none "list" = .ok false := rfl
theorem isi_row (l : List Int) : isiD (rowD l) "tuple" = .ok true := rfl
section
variable {T : List Df}
theorem sp_check_points (h : HB T) (k : Nat) (p : D) (hp : isDict p = false) : Fk T (k + 2) "check_points" [p] = if inR p 1 7 then .ok .none else .exc "InvalidNumber" := by
  have a1 := sp_inr h.in_range k p hp 1 7
  rw [h.check_points]
  cases e1 : inR p 1 7 <;> rw [e1] at a1 <;> simp (disch := omega) only [runS, List.map_cons, List.map_nil, List.length_cons, List.length_nil, List.replicate, Nat.reduceAdd, Nat.reduceSub, List.cons_append, List.nil_append, M_f_check_points, exS, ev, getE, getO, getTb, asg, asgs, boolD_bool, bin_add, bin_sub, bin_mul, addI, modI, divI, mulI, eqD_ints, neD_ints, ltD_ints, gtD_ints, leD_ints, geD_ints, isN, isNN, tru_bool, tru_list, tru_tup, tru_row, len_list, len_tup, len_row, tup_list, list_tup, list_row, min_two, max_two, int_bool, int_int, itr_list, itr_tup, itr_row, seq_row, seq_list, seq_tup, rng_ok, frzE, R.ok_bind, R.exc_bind, listD_ok, calm_ok, okN, R.guard_true, isDict_row, isDict_int, isDict_tup, isDict_list, isDict_none, isDict_bool, isDict_str, isDict_pair, bndD, seqOk, List.all_cons, List.all_nil, Bool.not_false, Bool.not_true, Bool.and_self, Bool.true_and, Bool.and_true, Bool.false_and, Bool.and_false, List.length_cons, List.length_nil, List.length_map, if_true, if_false, ite_true, ite_false, Bool.false_eq_true, reduceIte, id, ofOpt_some, eqD_rows, neD_rows, eqD_intL, neD_intL, eqD_rowL, neD_rowL, eqD_nil, neD_nil, eqD_nilT, neD_nilT, eqD_nilR, neD_nilR, inD_ints, ninD_ints, inD_row, ninD_row, inD_rows, ninD_rows, mthTy_idx, mthTy_cnt, lens_ints, srts_ints, sorted_ints, List.getElem?_cons_zero, List.getElem?_cons_succ, List.set_cons_zero, List.set_cons_succ, a1]
theorem sp_is_coloring (h : HB T) (k : Nat) {n : Int} (h1 : 1 ≤ n) (h7 : n ≤ 7) (v : D) (hv : noDict2 v = true) : Fk T (k + 3) "is_coloring" [.int n, v] = .ok (.bool (isCol n v)) := by
  have a1 := sp_check_points h k (.int n) rfl
  rw [inR_pts h1 h7] at a1
  have a1 : Fk T (k + 2) "check_points" [.int n] = .ok .none := a1
  have a2 := sp_pairs_of h.pairs_of (k + 1) (n := n) (by omega) h7
  rw [h.is_coloring]
  cases v with
  | dict kvs => cases hv
  | none => simp (disch := omega) only [runS, List.map_cons, List.map_nil, List.length_cons, List.length_nil, List.replicate, Nat.reduceAdd, Nat.reduceSub, List.cons_append, List.nil_append, M_f_is_coloring, exS, ev, getE, getO, getTb, asg, asgs, boolD_bool, bin_add, bin_sub, bin_mul, addI, modI, divI, mulI, eqD_ints, neD_ints, ltD_ints, gtD_ints, leD_ints, geD_ints, isN, isNN, tru_bool, tru_list, tru_tup, tru_row, len_list, len_tup, len_row, tup_list, list_tup, list_row, min_two, max_two, int_bool, int_int, itr_list, itr_tup, itr_row, seq_row, seq_list, seq_tup, rng_ok, frzE, R.ok_bind, R.exc_bind, listD_ok, calm_ok, okN, R.guard_true, isDict_row, isDict_int, isDict_tup, isDict_list, isDict_none, isDict_bool, isDict_str, isDict_pair, bndD, seqOk, List.all_cons, List.all_nil, Bool.not_false, Bool.not_true, Bool.and_self, Bool.true_and, Bool.and_true, Bool.false_and, Bool.and_false, List.length_cons, List.length_nil, List.length_map, if_true, if_false, ite_true, ite_false, Bool.false_eq_true, reduceIte, id, ofOpt_some, eqD_rows, neD_rows, eqD_intL, neD_intL, eqD_rowL, neD_rowL, eqD_nil, neD_nil, eqD_nilT, neD_nilT, eqD_nilR, neD_nilR, inD_ints, ninD_ints, inD_row, ninD_row, inD_rows, ninD_rows, mthTy_idx, mthTy_cnt, lens_ints, srts_ints, sorted_ints, List.getElem?_cons_zero, List.getElem?_cons_succ, List.set_cons_zero, List.set_cons_succ, a1, isi_tn, isCol]
  | bool b => simp (disch := omega) only [runS, List.map_cons, List.map_nil, List.length_cons, List.length_nil, List.replicate, Nat.reduceAdd, Nat.reduceSub, List.cons_append, List.nil_append, M_f_is_coloring, exS, ev, getE, getO, getTb, asg, asgs, boolD_bool, bin_add, bin_sub, bin_mul, addI, modI, divI, mulI, eqD_ints, neD_ints, ltD_ints, gtD_ints, leD_ints, geD_ints, isN, isNN, tru_bool, tru_list, tru_tup, tru_row, len_list, len_tup, len_row, tup_list, list_tup, list_row, min_two, max_two, int_bool, int_int, itr_list, itr_tup, itr_row, seq_row, seq_list, seq_tup, rng_ok, frzE, R.ok_bind, R.exc_bind, listD_ok, calm_ok, okN, R.guard_true, isDict_row, isDict_int, isDict_tup, isDict_list, isDict_none, isDict_bool, isDict_str, isDict_pair, bndD, seqOk, List.all_cons, List.all_nil, Bool.not_false, Bool.not_true, Bool.and_self, Bool.true_and, Bool.and_true, Bool.false_and, Bool.and_false, List.length_cons, List.length_nil, List.length_map, if_true, if_false, ite_true, ite_false, Bool.false_eq_true, reduceIte, id, ofOpt_some, eqD_rows, neD_rows, eqD_intL, neD_intL, eqD_rowL, neD_rowL, eqD_nil, neD_nil, eqD_nilT, neD_nilT, eqD_nilR, neD_nilR, inD_ints, ninD_ints, inD_row, ninD_row, inD_rows, ninD_rows, mthTy_idx, mthTy_cnt, lens_ints, srts_ints, sorted_ints, List.getElem?_cons_zero, List.getElem?_cons_succ, List.set_cons_zero, List.set_cons_succ, a1, isi_tb, isCol]
  | int i => simp (disch := omega) only [runS, List.map_cons, List.map_nil, List.length_cons, List.length_nil, List.replicate, Nat.reduceAdd, Nat.reduceSub, List.cons_append, List.nil_append, M_f_is_coloring, exS, ev, getE, getO, getTb, asg, asgs, boolD_bool, bin_add, bin_sub, bin_mul, addI, modI, divI, mulI, eqD_ints, neD_ints, ltD_ints, gtD_ints, leD_ints, geD_ints, isN, isNN, tru_bool, tru_list, tru_tup, tru_row, len_list, len_tup, len_row, tup_list, list_tup, list_row, min_two, max_two, int_bool, int_int, itr_list, itr_tup, itr_row, seq_row, seq_list, seq_tup, rng_ok, frzE, R.ok_bind, R.exc_bind, listD_ok, calm_ok, okN, R.guard_true, isDict_row, isDict_int, isDict_tup, isDict_list, isDict_none, isDict_bool, isDict_str, isDict_pair, bndD, seqOk, List.all_cons, List.all_nil, Bool.not_false, Bool.not_true, Bool.and_self, Bool.true_and, Bool.and_true, Bool.false_and, Bool.and_false, List.length_cons, List.length_nil, List.length_map, if_true, if_false, ite_true, ite_false, Bool.false_eq_true, reduceIte, id, ofOpt_some, eqD_rows, neD_rows, eqD_intL, neD_intL, eqD_rowL, neD_rowL, eqD_nil, neD_nil, eqD_nilT, neD_nilT, eqD_nilR, neD_nilR, inD_ints, ninD_ints, inD_row, ninD_row, inD_rows, ninD_rows, mthTy_idx, mthTy_cnt, lens_ints, srts_ints, sorted_ints, List.getElem?_cons_zero, List.getElem?_cons_succ, List.set_cons_zero, List.set_cons_succ, a1, isi_ti, isCol]
  | str s => simp (disch := omega) only [runS, List.map_cons, List.map_nil, List.length_cons, List.length_nil, List.replicate, Nat.reduceAdd, Nat.reduceSub, List.cons_append, List.nil_append, M_f_is_coloring, exS, ev, getE, getO, getTb, asg, asgs, boolD_bool, bin_add, bin_sub, bin_mul, addI, modI, divI, mulI, eqD_ints, neD_ints, ltD_ints, gtD_ints, leD_ints, geD_ints, isN, isNN, tru_bool, tru_list, tru_tup, tru_row, len_list, len_tup, len_row, tup_list, list_tup, list_row, min_two, max_two, int_bool, int_int, itr_list, itr_tup, itr_row, seq_row, seq_list, seq_tup, rng_ok, frzE, R.ok_bind, R.exc_bind, listD_ok, calm_ok, okN, R.guard_true, isDict_row, isDict_int, isDict_tup, isDict_list, isDict_none, isDict_bool, isDict_str, isDict_pair, bndD, seqOk, List.all_cons, List.all_nil, Bool.not_false, Bool.not_true, Bool.and_self, Bool.true_and, Bool.and_true, Bool.false_and, Bool.and_false, List.length_cons, List.length_nil, List.length_map, if_true, if_false, ite_true, ite_false, Bool.false_eq_true, reduceIte, id, ofOpt_some, eqD_rows, neD_rows, eqD_intL, neD_intL, eqD_rowL, neD_rowL, eqD_nil, neD_nil, eqD_nilT, neD_nilT, eqD_nilR, neD_nilR, inD_ints, ninD_ints, inD_row, ninD_row, inD_rows, ninD_rows, mthTy_idx, mthTy_cnt, lens_ints, srts_ints, sorted_ints, List.getElem?_cons_zero, List.getElem?_cons_succ, List.set_cons_zero, List.set_cons_succ, a1, isi_ts, isCol]
  | list xs => simp (disch := omega) only [runS, List.map_cons, List.map_nil, List.length_cons, List.length_nil, List.replicate, Nat.reduceAdd, Nat.reduceSub, List.cons_append, List.nil_append, M_f_is_coloring, exS, ev, getE, getO, getTb, asg, asgs, boolD_bool, bin_add, bin_sub, bin_mul, addI, modI, divI, mulI, eqD_ints, neD_ints, ltD_ints, gtD_ints, leD_ints, geD_ints, isN, isNN, tru_bool, tru_list, tru_tup, tru_row, len_list, len_tup, len_row, tup_list, list_tup, list_row, min_two, max_two, int_bool, int_int, itr_list, itr_tup, itr_row, seq_row, seq_list, seq_tup, rng_ok, frzE, R.ok_bind, R.exc_bind, listD_ok, calm_ok, okN, R.guard_true, isDict_row, isDict_int, isDict_tup, isDict_list, isDict_none, isDict_bool, isDict_str, isDict_pair, bndD, seqOk, List.all_cons, List.all_nil, Bool.not_false, Bool.not_true, Bool.and_self, Bool.true_and, Bool.and_true, Bool.false_and, Bool.and_false, List.length_cons, List.length_nil, List.length_map, if_true, if_false, ite_true, ite_false, Bool.false_eq_true, reduceIte, id, ofOpt_some, eqD_rows, neD_rows, eqD_intL, neD_intL, eqD_rowL, neD_rowL, eqD_nil, neD_nil, eqD_nilT, neD_nilT, eqD_nilR, neD_nilR, inD_ints, ninD_ints, inD_row, ninD_row, inD_rows, ninD_rows, mthTy_idx, mthTy_cnt, lens_ints, srts_ints, sorted_ints, List.getElem?_cons_zero, List.getElem?_cons_succ, List.set_cons_zero, List.set_cons_succ, a1, isi_tl, isCol]
  | tuple xs =>
    have hx : ∀ x ∈ xs, isDict x = false := fun x hx => by
      have := List.all_eq_true.mp (show (xs.all fun d => !isDict d) = true from hv) x hx
      simpa using this
    have c : xs.length ≤ 100 → ev (Fk T (k + 2)) M_f_is_coloring_C1 [.v (.int n), .v (.tuple xs), .no] = .ok (.list ((xs.filter fun d => !inR d 0 5).map fun d => d)) := fun hl => by
      refine lcf_ok (F := Fk T (k + 2)) (t := .nm 2) (fun d => d) (fun d => !inR d 0 5) (fun d => d) xs ?_ ?_ ?_
      · simp (disch := omega) only [exS, ev, getE, getO, getTb, asg, asgs, boolD_bool, bin_add, bin_sub, bin_mul, addI, modI, divI, mulI, eqD_ints, neD_ints, ltD_ints, gtD_ints, leD_ints, geD_ints, isN, isNN, tru_bool, tru_list, tru_tup, tru_row, len_list, len_tup, len_row, tup_list, list_tup, list_row, min_two, max_two, int_bool, int_int, itr_list, itr_tup, itr_row, seq_row, seq_list, seq_tup, rng_ok, frzE, R.ok_bind, R.exc_bind, listD_ok, calm_ok, okN, R.guard_true, isDict_row, isDict_int, isDict_tup, isDict_list, isDict_none, isDict_bool, isDict_str, isDict_pair, bndD, seqOk, List.all_cons, List.all_nil, Bool.not_false, Bool.not_true, Bool.and_self, Bool.true_and, Bool.and_true, Bool.false_and, Bool.and_false, List.length_cons, List.length_nil, List.length_map, if_true, if_false, ite_true, ite_false, Bool.false_eq_true, reduceIte, id, ofOpt_some, eqD_rows, neD_rows, eqD_intL, neD_intL, eqD_rowL, neD_rowL, eqD_nil, neD_nil, eqD_nilT, neD_nilT, eqD_nilR, neD_nilR, inD_ints, ninD_ints, inD_row, ninD_row, inD_rows, ninD_rows, mthTy_idx, mthTy_cnt, lens_ints, srts_ints, sorted_ints, List.getElem?_cons_zero, List.getElem?_cons_succ, List.set_cons_zero, List.set_cons_succ]
        rw [List.map_id']
      · intro d hd
        have := sp_inr h.in_range (k + 1) d (hx d hd) 0 5
        refine ⟨_, rfl, ?_, fun _ => ?_⟩
        · simp (disch := omega) only [exS, ev, getE, getO, getTb, asg, asgs, boolD_bool, bin_add, bin_sub, bin_mul, addI, modI, divI, mulI, eqD_ints, neD_ints, ltD_ints, gtD_ints, leD_ints, geD_ints, isN, isNN, tru_bool, tru_list, tru_tup, tru_row, len_list, len_tup, len_row, tup_list, list_tup, list_row, min_two, max_two, int_bool, int_int, itr_list, itr_tup, itr_row, seq_row, seq_list, seq_tup, rng_ok, frzE, R.ok_bind, R.exc_bind, listD_ok, calm_ok, okN, R.guard_true, isDict_row, isDict_int, isDict_tup, isDict_list, isDict_none, isDict_bool, isDict_str, isDict_pair, bndD, seqOk, List.all_cons, List.all_nil, Bool.not_false, Bool.not_true, Bool.and_self, Bool.true_and, Bool.and_true, Bool.false_and, Bool.and_false, List.length_cons, List.length_nil, List.length_map, if_true, if_false, ite_true, ite_false, Bool.false_eq_true, reduceIte, id, ofOpt_some, eqD_rows, neD_rows, eqD_intL, neD_intL, eqD_rowL, neD_rowL, eqD_nil, neD_nil, eqD_nilT, neD_nilT, eqD_nilR, neD_nilR, inD_ints, ninD_ints, inD_row, ninD_row, inD_rows, ninD_rows, mthTy_idx, mthTy_cnt, lens_ints, srts_ints, sorted_ints, List.getElem?_cons_zero, List.getElem?_cons_succ, List.set_cons_zero, List.set_cons_succ, wipeE, slots, this]
        · simp (disch := omega) only [exS, ev, getE, getO, getTb, asg, asgs, boolD_bool, bin_add, bin_sub, bin_mul, addI, modI, divI, mulI, eqD_ints, neD_ints, ltD_ints, gtD_ints, leD_ints, geD_ints, isN, isNN, tru_bool, tru_list, tru_tup, tru_row, len_list, len_tup, len_row, tup_list, list_tup, list_row, min_two, max_two, int_bool, int_int, itr_list, itr_tup, itr_row, seq_row, seq_list, seq_tup, rng_ok, frzE, R.ok_bind, R.exc_bind, listD_ok, calm_ok, okN, R.guard_true, isDict_row, isDict_int, isDict_tup, isDict_list, isDict_none, isDict_bool, isDict_str, isDict_pair, bndD, seqOk, List.all_cons, List.all_nil, Bool.not_false, Bool.not_true, Bool.and_self, Bool.true_and, Bool.and_true, Bool.false_and, Bool.and_false, List.length_cons, List.length_nil, List.length_map, if_true, if_false, ite_true, ite_false, Bool.false_eq_true, reduceIte, id, ofOpt_some, eqD_rows, neD_rows, eqD_intL, neD_intL, eqD_rowL, neD_rowL, eqD_nil, neD_nil, eqD_nilT, neD_nilT, eqD_nilR, neD_nilR, inD_ints, ninD_ints, inD_row, ninD_row, inD_rows, ninD_rows, mthTy_idx, mthTy_cnt, lens_ints, srts_ints, sorted_ints, List.getElem?_cons_zero, List.getElem?_cons_succ, List.set_cons_zero, List.set_cons_succ, wipeE, slots]
      · rw [List.map_id']
        unfold seqOk
        rw [Bool.and_eq_true]
        refine ⟨List.all_eq_true.mpr fun y hy => by rw [hx y (List.mem_filter.mp hy).1]; rfl, okN ?_⟩
        have := List.length_filter_le (fun d => !inR d 0 5) xs
        omega
    by_cases hl : (xs.length : Int) = (pairsI n).length
    · have c21 := pairs_len_le h7
      have c := c (by omega)
      have e : isCol n (.tuple xs) = !(!((xs.filter fun d => !inR d 0 5).map fun d => d).isEmpty) := by
        show (decide ((xs.length : Int) = (pairsI n).length) && xs.all fun d => inR d 0 5) = _
        rw [decide_eq_true hl, Bool.true_and, Bool.not_not, List.map_id']
        rw [Bool.eq_iff_iff]
        simp [List.filter_eq_nil_iff]
      rw [e]
      simp (disch := omega) only [runS, List.map_cons, List.map_nil, List.length_cons, List.length_nil, List.replicate, Nat.reduceAdd, Nat.reduceSub, List.cons_append, List.nil_append, M_f_is_coloring, exS, ev, getE, getO, getTb, asg, asgs, boolD_bool, bin_add, bin_sub, bin_mul, addI, modI, divI, mulI, eqD_ints, neD_ints, ltD_ints, gtD_ints, leD_ints, geD_ints, isN, isNN, tru_bool, tru_list, tru_tup, tru_row, len_list, len_tup, len_row, tup_list, list_tup, list_row, min_two, max_two, int_bool, int_int, itr_list, itr_tup, itr_row, seq_row, seq_list, seq_tup, rng_ok, frzE, R.ok_bind, R.exc_bind, listD_ok, calm_ok, okN, R.guard_true, isDict_row, isDict_int, isDict_tup, isDict_list, isDict_none, isDict_bool, isDict_str, isDict_pair, bndD, seqOk, List.all_cons, List.all_nil, Bool.not_false, Bool.not_true, Bool.and_self, Bool.true_and, Bool.and_true, Bool.false_and, Bool.and_false, List.length_cons, List.length_nil, List.length_map, if_true, if_false, ite_true, ite_false, Bool.false_eq_true, reduceIte, id, ofOpt_some, eqD_rows, neD_rows, eqD_intL, neD_intL, eqD_rowL, neD_rowL, eqD_nil, neD_nil, eqD_nilT, neD_nilT, eqD_nilR, neD_nilR, inD_ints, ninD_ints, inD_row, ninD_row, inD_rows, ninD_rows, mthTy_idx, mthTy_cnt, lens_ints, srts_ints, sorted_ints, List.getElem?_cons_zero, List.getElem?_cons_succ, List.set_cons_zero, List.set_cons_succ, a1, isi_tt, a2, decide_eq_true hl, c]
    · have e : isCol n (.tuple xs) = false := by
        show (decide ((xs.length : Int) = (pairsI n).length) && xs.all fun d => inR d 0 5) = _
        rw [decide_eq_false hl]; rfl
      rw [e]
      simp (disch := omega) only [runS, List.map_cons, List.map_nil, List.length_cons, List.length_nil, List.replicate, Nat.reduceAdd, Nat.reduceSub, List.cons_append, List.nil_append, M_f_is_coloring, exS, ev, getE, getO, getTb, asg, asgs, boolD_bool, bin_add, bin_sub, bin_mul, addI, modI, divI, mulI, eqD_ints, neD_ints, ltD_ints, gtD_ints, leD_ints, geD_ints, isN, isNN, tru_bool, tru_list, tru_tup, tru_row, len_list, len_tup, len_row, tup_list, list_tup, list_row, min_two, max_two, int_bool, int_int, itr_list, itr_tup, itr_row, seq_row, seq_list, seq_tup, rng_ok, frzE, R.ok_bind, R.exc_bind, listD_ok, calm_ok, okN, R.guard_true, isDict_row, isDict_int, isDict_tup, isDict_list, isDict_none, isDict_bool, isDict_str, isDict_pair, bndD, seqOk, List.all_cons, List.all_nil, Bool.not_false, Bool.not_true, Bool.and_self, Bool.true_and, Bool.and_true, Bool.false_and, Bool.and_false, List.length_cons, List.length_nil, List.length_map, if_true, if_false, ite_true, ite_false, Bool.false_eq_true, reduceIte, id, ofOpt_some, eqD_rows, neD_rows, eqD_intL, neD_intL, eqD_rowL, neD_rowL, eqD_nil, neD_nil, eqD_nilT, neD_nilT, eqD_nilR, neD_nilR, inD_ints, ninD_ints, inD_row, ninD_row, inD_rows, ninD_rows, mthTy_idx, mthTy_cnt, lens_ints, srts_ints, sorted_ints, List.getElem?_cons_zero, List.getElem?_cons_succ, List.set_cons_zero, List.set_cons_succ, a1, isi_tt, a2, decide_eq_false hl]
theorem sp_is_coloringN (h : HB T) (k : Nat) (p : D) (hp : isDict p = false) (hr : inR p 1 7 = false) (v : D) : Fk T (k + 3) "is_coloring" [p, v] = .exc "InvalidNumber" := by
  have a1 := sp_check_points h k p hp
  rw [hr] at a1
  have a1 : Fk T (k + 2) "check_points" [p] = .exc "InvalidNumber" := a1
  rw [h.is_coloring]
  simp (disch := omega) only [runS, List.map_cons, List.map_nil, List.length_cons, List.length_nil, List.replicate, Nat.reduceAdd, Nat.reduceSub, List.cons_append, List.nil_append, M_f_is_coloring, exS, ev, getE, getO, getTb, asg, asgs, boolD_bool, bin_add, bin_sub, bin_mul, addI, modI, divI, mulI, eqD_ints, neD_ints, ltD_ints, gtD_ints, leD_ints, geD_ints, isN, isNN, tru_bool, tru_list, tru_tup, tru_row, len_list, len_tup, len_row, tup_list, list_tup, list_row, min_two, max_two, int_bool, int_int, itr_list, itr_tup, itr_row, seq_row, seq_list, seq_tup, rng_ok, frzE, R.ok_bind, R.exc_bind, listD_ok, calm_ok, okN, R.guard_true, isDict_row, isDict_int, isDict_tup, isDict_list, isDict_none, isDict_bool, isDict_str, isDict_pair, bndD, seqOk, List.all_cons, List.all_nil, Bool.not_false, Bool.not_true, Bool.and_self, Bool.true_and, Bool.and_true, Bool.false_and, Bool.and_false, List.length_cons, List.length_nil, List.length_map, if_true, if_false, ite_true, ite_false, Bool.false_eq_true, reduceIte, id, ofOpt_some, eqD_rows, neD_rows, eqD_intL, neD_intL, eqD_rowL, neD_rowL, eqD_nil, neD_nil, eqD_nilT, neD_nilT, eqD_nilR, neD_nilR, inD_ints, ninD_ints, inD_row, ninD_row, inD_rows, ninD_rows, mthTy_idx, mthTy_cnt, lens_ints, srts_ints, sorted_ints, List.getElem?_cons_zero, List.getElem?_cons_succ, List.set_cons_zero, List.set_cons_succ, a1]
theorem sp_check_coloring (h : HB T) (k : Nat) {n : Int} (h1 : 1 ≤ n) (h7 : n ≤ 7) (v : D) (hv : noDict2 v = true) : Fk T (k + 4) "check_coloring" [.int n, v] = if isCol n v then .ok .none else .exc "InvalidColoring" := by
  have a1 := sp_is_coloring h k h1 h7 v hv
  rw [h.check_coloring]
  cases e1 : isCol n v <;> rw [e1] at a1 <;> simp (disch := omega) only [runS, List.map_cons, List.map_nil, List.length_cons, List.length_nil, List.replicate, Nat.reduceAdd, Nat.reduceSub, List.cons_append, List.nil_append, M_f_check_coloring, exS, ev, getE, getO, getTb, asg, asgs, boolD_bool, bin_add, bin_sub, bin_mul, addI, modI, divI, mulI, eqD_ints, neD_ints, ltD_ints, gtD_ints, leD_ints, geD_ints, isN, isNN, tru_bool, tru_list, tru_tup, tru_row, len_list, len_tup, len_row, tup_list, list_tup, list_row, min_two, max_two, int_bool, int_int, itr_list, itr_tup, itr_row, seq_row, seq_list, seq_tup, rng_ok, frzE, R.ok_bind, R.exc_bind, listD_ok, calm_ok, okN, R.guard_true, isDict_row, isDict_int, isDict_tup, isDict_list, isDict_none, isDict_bool, isDict_str, isDict_pair, bndD, seqOk, List.all_cons, List.all_nil, Bool.not_false, Bool.not_true, Bool.and_self, Bool.true_and, Bool.and_true, Bool.false_and, Bool.and_false, List.length_cons, List.length_nil, List.length_map, if_true, if_false, ite_true, ite_false, Bool.false_eq_true, reduceIte, id, ofOpt_some, eqD_rows, neD_rows, eqD_intL, neD_intL, eqD_rowL, neD_rowL, eqD_nil, neD_nil, eqD_nilT, neD_nilT, eqD_nilR, neD_nilR, inD_ints, ninD_ints, inD_row, ninD_row, inD_rows, ninD_rows, mthTy_idx, mthTy_cnt, lens_ints, srts_ints, sorted_ints, List.getElem?_cons_zero, List.getElem?_cons_succ, List.set_cons_zero, List.set_cons_succ, a1]
theorem sp_check_coloringN (h : HB T) (k : Nat) (p : D) (hp : isDict p = false) (hr : inR p 1 7 = false) (v : D) : Fk T (k + 4) "check_coloring" [p, v] = .exc "InvalidNumber" := by
  have a1 := sp_is_coloringN h k p hp hr v
  rw [h.check_coloring]
  simp (disch := omega) only [runS, List.map_cons, List.map_nil, List.length_cons, List.length_nil, List.replicate, Nat.reduceAdd, Nat.reduceSub, List.cons_append, List.nil_append, M_f_check_coloring, exS, ev, getE, getO, getTb, asg, asgs, boolD_bool, bin_add, bin_sub, bin_mul, addI, modI, divI, mulI, eqD_ints, neD_ints, ltD_ints, gtD_ints, leD_ints, geD_ints, isN, isNN, tru_bool, tru_list, tru_tup, tru_row, len_list, len_tup, len_row, tup_list, list_tup, list_row, min_two, max_two, int_bool, int_int, itr_list, itr_tup, itr_row, seq_row, seq_list, seq_tup, rng_ok, frzE, R.ok_bind, R.exc_bind, listD_ok, calm_ok, okN, R.guard_true, isDict_row, isDict_int, isDict_tup, isDict_list, isDict_none, isDict_bool, isDict_str, isDict_pair, bndD, seqOk, List.all_cons, List.all_nil, Bool.not_false, Bool.not_true, Bool.and_self, Bool.true_and, Bool.and_true, Bool.false_and, Bool.and_false, List.length_cons, List.length_nil, List.length_map, if_true, if_false, ite_true, ite_false, Bool.false_eq_true, reduceIte, id, ofOpt_some, eqD_rows, neD_rows, eqD_intL, neD_intL, eqD_rowL, neD_rowL, eqD_nil, neD_nil, eqD_nilT, neD_nilT, eqD_nilR, neD_nilR, inD_ints, ninD_ints, inD_row, ninD_row, inD_rows, ninD_rows, mthTy_idx, mthTy_cnt, lens_ints, srts_ints, sorted_ints, List.getElem?_cons_zero, List.getElem?_cons_succ, List.set_cons_zero, List.set_cons_succ, a1]
theorem nd_row (c : List Int) : noDict2 (rowD c) = true := by
  show ((c.map PyData.int).all fun d => !isDict d) = true
  rw [List.all_map, List.all_eq_true]
  exact fun _ _ => rfl
theorem sp_check_ok (h : HB T) (k : Nat) {n : Int} {c : List Int} (hc : AnyC n c) : Fk T (k + 4) "check_coloring" [.int n, rowD c] = .ok .none := by
  rw [sp_check_coloring h k hc.co.lo hc.co.hi (rowD c) (nd_row c), isCol_row hc]; rfl
theorem sp_check_color (h : HB T) (hk : HasF T "check_color" 1 M_f_check_color) (k : Nat) (p : D) (hp : isDict p = false) : Fk T (k + 2) "check_color" [p] = if inR p 0 5 then .ok .none else .exc "InvalidColor" := by
  have a1 := sp_inr h.in_range k p hp 0 5
  rw [hk]
  cases e1 : inR p 0 5 <;> rw [e1] at a1 <;> simp (disch := omega) only [runS, List.map_cons, List.map_nil, List.length_cons, List.length_nil, List.replicate, Nat.reduceAdd, Nat.reduceSub, List.cons_append, List.nil_append, M_f_check_color, exS, ev, getE, getO, getTb, asg, asgs, boolD_bool, bin_add, bin_sub, bin_mul, addI, modI, divI, mulI, eqD_ints, neD_ints, ltD_ints, gtD_ints, leD_ints, geD_ints, isN, isNN, tru_bool, tru_list, tru_tup, tru_row, len_list, len_tup, len_row, tup_list, list_tup, list_row, min_two, max_two, int_bool, int_int, itr_list, itr_tup, itr_row, seq_row, seq_list, seq_tup, rng_ok, frzE, R.ok_bind, R.exc_bind, listD_ok, calm_ok, okN, R.guard_true, isDict_row, isDict_int, isDict_tup, isDict_list, isDict_none, isDict_bool, isDict_str, isDict_pair, bndD, seqOk, List.all_cons, List.all_nil, Bool.not_false, Bool.not_true, Bool.and_self, Bool.true_and, Bool.and_true, Bool.false_and, Bool.and_false, List.length_cons, List.length_nil, List.length_map, if_true, if_false, ite_true, ite_false, Bool.false_eq_true, reduceIte, id, ofOpt_some, eqD_rows, neD_rows, eqD_intL, neD_intL, eqD_rowL, neD_rowL, eqD_nil, neD_nil, eqD_nilT, neD_nilT, eqD_nilR, neD_nilR, inD_ints, ninD_ints, inD_row, ninD_row, inD_rows, ninD_rows, mthTy_idx, mthTy_cnt, lens_ints, srts_ints, sorted_ints, List.getElem?_cons_zero, List.getElem?_cons_succ, List.set_cons_zero, List.set_cons_succ, a1]
theorem sp_is_tame (h : HB T) (h1 : HasF T "table_of" 6 M_f_table_of) (h2 : HasF T "first_triangle" 6 M_f_first_triangle) (h3 : HasF T "is_tame" 2 M_f_is_tame) (k : Nat) {n : Int} {c : List Int} (hc : AnyC n c) : Fk T (k + 5) "is_tame" [.int n, rowD c] = .ok (.bool (firstTri (col n c) n).isNone) := by
  have a1 := sp_check_ok h k hc
  have a2 := sp_first_triangle h.pairs_of h1 h2 (k + 1) hc.co
  rw [h3]
  simp (disch := omega) only [runS, List.map_cons, List.map_nil, List.length_cons, List.length_nil, List.replicate, Nat.reduceAdd, Nat.reduceSub, List.cons_append, List.nil_append, M_f_is_tame, exS, ev, getE, getO, getTb, asg, asgs, boolD_bool, bin_add, bin_sub, bin_mul, addI, modI, divI, mulI, eqD_ints, neD_ints, ltD_ints, gtD_ints, leD_ints, geD_ints, isN, isNN, tru_bool, tru_list, tru_tup, tru_row, len_list, len_tup, len_row, tup_list, list_tup, list_row, min_two, max_two, int_bool, int_int, itr_list, itr_tup, itr_row, seq_row, seq_list, seq_tup, rng_ok, frzE, R.ok_bind, R.exc_bind, listD_ok, calm_ok, okN, R.guard_true, isDict_row, isDict_int, isDict_tup, isDict_list, isDict_none, isDict_bool, isDict_str, isDict_pair, bndD, seqOk, List.all_cons, List.all_nil, Bool.not_false, Bool.not_true, Bool.and_self, Bool.true_and, Bool.and_true, Bool.false_and, Bool.and_false, List.length_cons, List.length_nil, List.length_map, if_true, if_false, ite_true, ite_false, Bool.false_eq_true, reduceIte, id, ofOpt_some, eqD_rows, neD_rows, eqD_intL, neD_intL, eqD_rowL, neD_rowL, eqD_nil, neD_nil, eqD_nilT, neD_nilT, eqD_nilR, neD_nilR, inD_ints, ninD_ints, inD_row, ninD_row, inD_rows, ninD_rows, mthTy_idx, mthTy_cnt, lens_ints, srts_ints, sorted_ints, List.getElem?_cons_zero, List.getElem?_cons_succ, List.set_cons_zero, List.set_cons_succ, a1, a2, isNone_triD]
theorem sp_check_tame (h : HB T) (h1 : HasF T "table_of" 6 M_f_table_of) (h2 : HasF T "first_triangle" 6 M_f_first_triangle) (h3 : HasF T "check_tame" 2 M_f_check_tame) (k : Nat) {n : Int} {c : List Int} (hc : AnyC n c) : Fk T (k + 5) "check_tame" [.int n, rowD c] = if (firstTri (col n c) n).isNone then .ok .none else .exc "NotTame" := by
  have a1 := sp_check_ok h k hc
  have a2 := sp_first_triangle h.pairs_of h1 h2 (k + 1) hc.co
  rw [h3]
  cases e : (firstTri (col n c) n).isNone <;> simp (disch := omega) only [runS, List.map_cons, List.map_nil, List.length_cons, List.length_nil, List.replicate, Nat.reduceAdd, Nat.reduceSub, List.cons_append, List.nil_append, M_f_check_tame, exS, ev, getE, getO, getTb, asg, asgs, boolD_bool, bin_add, bin_sub, bin_mul, addI, modI, divI, mulI, eqD_ints, neD_ints, ltD_ints, gtD_ints, leD_ints, geD_ints, isN, isNN, tru_bool, tru_list, tru_tup, tru_row, len_list, len_tup, len_row, tup_list, list_tup, list_row, min_two, max_two, int_bool, int_int, itr_list, itr_tup, itr_row, seq_row, seq_list, seq_tup, rng_ok, frzE, R.ok_bind, R.exc_bind, listD_ok, calm_ok, okN, R.guard_true, isDict_row, isDict_int, isDict_tup, isDict_list, isDict_none, isDict_bool, isDict_str, isDict_pair, bndD, seqOk, List.all_cons, List.all_nil, Bool.not_false, Bool.not_true, Bool.and_self, Bool.true_and, Bool.and_true, Bool.false_and, Bool.and_false, List.length_cons, List.length_nil, List.length_map, if_true, if_false, ite_true, ite_false, Bool.false_eq_true, reduceIte, id, ofOpt_some, eqD_rows, neD_rows, eqD_intL, neD_intL, eqD_rowL, neD_rowL, eqD_nil, neD_nil, eqD_nilT, neD_nilT, eqD_nilR, neD_nilR, inD_ints, ninD_ints, inD_row, ninD_row, inD_rows, ninD_rows, mthTy_idx, mthTy_cnt, lens_ints, srts_ints, sorted_ints, List.getElem?_cons_zero, List.getElem?_cons_succ, List.set_cons_zero, List.set_cons_succ, a1, a2, isNone_triD, e]
end
end TC
set_option Elab.async false
set_option linter.all false
set_option maxRecDepth 100000
set_option maxHeartbeats 0
set_option autoImplicit false
/-! PmL: parts. -/
namespace TC
open PySem
def mStep (color : Int) (marks : List Int) (q : (Int × Int) × Int) : List Int :=
  if q.2 = color then marks.map fun m => if m = max (marks.getD q.1.1.toNat 0) (marks.getD q.1.2.toNat 0) then min (marks.getD q.1.1.toNat 0) (marks.getD q.1.2.toNat 0) else m else marks
def marksOf (n : Int) (c : List Int) (color : Int) : List Int := ((pairsI n).zip c).foldl (mStep color) (rI 0 n)
def partsL (n : Int) (c : List Int) (color : Int) : List (List Int) := (isort leI (ddup (marksOf n c color))).map fun m => (rI 0 n).filter fun p => decide ((marksOf n c color).getD p.toNat 0 = m)
theorem mStep_len (color : Int) (marks : List Int) (q : (Int × Int) × Int) : (mStep color marks q).length = marks.length := by
  unfold mStep; split <;> simp
theorem marks_len' (color : Int) : ∀ (z : List ((Int × Int) × Int)) (m : List Int), (z.foldl (mStep color) m).length = m.length
  | [], m => rfl
  | q :: z, m => by rw [List.foldl_cons, marks_len' color z, mStep_len]
theorem marks_len (n : Int) (c : List Int) (color : Int) : (marksOf n c color).length = n.toNat := by
  unfold marksOf
  rw [marks_len', rI_length, Int.sub_zero]
theorem isort_two (a b : Int) : isort leI [a, b] = [min a b, max a b] := by
  show ins leI a [b] = _
  unfold ins leI
  by_cases h : a ≤ b
  · rw [decide_eq_true h, if_pos rfl, Int.min_eq_left h, Int.max_eq_right h]
  · rw [decide_eq_false h, if_neg (by decide), Int.min_eq_right (by omega), Int.max_eq_left (by omega)]; rfl
section
variable {T : List Df}
theorem sp_parts_of (h0 : HasF T "pairs_of" 3 M_f_pairs_of) (h : HasF T "parts_of" 12 M_f_parts_of) (k : Nat) {n : Int} {c : List Int} (hc : Colo n c) (color : Int) : Fk T (k + 2) "parts_of" [.int n, rowD c, .int color] = .ok (.list ((partsL n c color).map rowD)) := by
  have c1 := sp_pairs_of h0 k (n := n) (by have := hc.lo; omega) hc.hi
  have hn1 := hc.lo
  have hn7 := hc.hi
  have comp1 : ∀ (marks : List Int) (lo hi : Int) (s4 s5 s6 s9 s10 s11 : Sl), marks.length ≤ 7 → ev (Fk T (k + 1)) M_f_parts_of_C1 [.v (.int n), .v (rowD c), .v (.int color), .v (.list (marks.map .int)), s4, s5, s6, .v (.int lo), .v (.int hi), s9, s10, s11] = .ok (.list ((marks.map fun m => if m = hi then lo else m).map .int)) := fun marks lo hi s4 s5 s6 s9 s10 s11 hm => by
    rw [List.map_map]
    refine lc_ok (F := Fk T (k + 1)) (t := .nm 9) PyData.int (fun m => .int (if m = hi then lo else m)) marks ?_ ?_ (seqOk_map (by omega) (fun _ => rfl))
    · simp (disch := omega) only [exS, ev, getE, getO, getTb, asg, asgs, boolD_bool, bin_add, bin_sub, bin_mul, addI, modI, divI, mulI, eqD_ints, neD_ints, ltD_ints, gtD_ints, leD_ints, geD_ints, isN, isNN, tru_bool, tru_list, tru_tup, tru_row, len_list, len_tup, len_row, tup_list, list_tup, list_row, min_two, max_two, int_bool, int_int, itr_list, itr_tup, itr_row, seq_row, seq_list, seq_tup, rng_ok, frzE, R.ok_bind, R.exc_bind, listD_ok, calm_ok, okN, R.guard_true, isDict_row, isDict_int, isDict_tup, isDict_list, isDict_none, isDict_bool, isDict_str, isDict_pair, bndD, seqOk, List.all_cons, List.all_nil, Bool.not_false, Bool.not_true, Bool.and_self, Bool.true_and, Bool.and_true, Bool.false_and, Bool.and_false, List.length_cons, List.length_nil, List.length_map, if_true, if_false, ite_true, ite_false, Bool.false_eq_true, reduceIte, id, ofOpt_some, eqD_rows, neD_rows, eqD_intL, neD_intL, eqD_rowL, neD_rowL, eqD_nil, neD_nil, eqD_nilT, neD_nilT, eqD_nilR, neD_nilR, inD_ints, ninD_ints, inD_row, ninD_row, inD_rows, ninD_rows, mthTy_idx, mthTy_cnt, lens_ints, srts_ints, sorted_ints, List.getElem?_cons_zero, List.getElem?_cons_succ, List.set_cons_zero, List.set_cons_succ]
    · intro m hm
      refine ⟨_, rfl, ?_⟩
      by_cases e : m = hi
      · simp (disch := omega) only [exS, ev, getE, getO, getTb, asg, asgs, boolD_bool, bin_add, bin_sub, bin_mul, addI, modI, divI, mulI, eqD_ints, neD_ints, ltD_ints, gtD_ints, leD_ints, geD_ints, isN, isNN, tru_bool, tru_list, tru_tup, tru_row, len_list, len_tup, len_row, tup_list, list_tup, list_row, min_two, max_two, int_bool, int_int, itr_list, itr_tup, itr_row, seq_row, seq_list, seq_tup, rng_ok, frzE, R.ok_bind, R.exc_bind, listD_ok, calm_ok, okN, R.guard_true, isDict_row, isDict_int, isDict_tup, isDict_list, isDict_none, isDict_bool, isDict_str, isDict_pair, bndD, seqOk, List.all_cons, List.all_nil, Bool.not_false, Bool.not_true, Bool.and_self, Bool.true_and, Bool.and_true, Bool.false_and, Bool.and_false, List.length_cons, List.length_nil, List.length_map, if_true, if_false, ite_true, ite_false, Bool.false_eq_true, reduceIte, id, ofOpt_some, eqD_rows, neD_rows, eqD_intL, neD_intL, eqD_rowL, neD_rowL, eqD_nil, neD_nil, eqD_nilT, neD_nilT, eqD_nilR, neD_nilR, inD_ints, ninD_ints, inD_row, ninD_row, inD_rows, ninD_rows, mthTy_idx, mthTy_cnt, lens_ints, srts_ints, sorted_ints, List.getElem?_cons_zero, List.getElem?_cons_succ, List.set_cons_zero, List.set_cons_succ, wipeE, slots, decide_eq_true e, if_pos e]
      · simp (disch := omega) only [exS, ev, getE, getO, getTb, asg, asgs, boolD_bool, bin_add, bin_sub, bin_mul, addI, modI, divI, mulI, eqD_ints, neD_ints, ltD_ints, gtD_ints, leD_ints, geD_ints, isN, isNN, tru_bool, tru_list, tru_tup, tru_row, len_list, len_tup, len_row, tup_list, list_tup, list_row, min_two, max_two, int_bool, int_int, itr_list, itr_tup, itr_row, seq_row, seq_list, seq_tup, rng_ok, frzE, R.ok_bind, R.exc_bind, listD_ok, calm_ok, okN, R.guard_true, isDict_row, isDict_int, isDict_tup, isDict_list, isDict_none, isDict_bool, isDict_str, isDict_pair, bndD, seqOk, List.all_cons, List.all_nil, Bool.not_false, Bool.not_true, Bool.and_self, Bool.true_and, Bool.and_true, Bool.false_and, Bool.and_false, List.length_cons, List.length_nil, List.length_map, if_true, if_false, ite_true, ite_false, Bool.false_eq_true, reduceIte, id, ofOpt_some, eqD_rows, neD_rows, eqD_intL, neD_intL, eqD_rowL, neD_rowL, eqD_nil, neD_nil, eqD_nilT, neD_nilT, eqD_nilR, neD_nilR, inD_ints, ninD_ints, inD_row, ninD_row, inD_rows, ninD_rows, mthTy_idx, mthTy_cnt, lens_ints, srts_ints, sorted_ints, List.getElem?_cons_zero, List.getElem?_cons_succ, List.set_cons_zero, List.set_cons_succ, wipeE, slots, decide_eq_false e, if_neg e]
  obtain ⟨e', o1, s4, s5, s6, s7, s8, s9, s10, s11, rfl⟩ := for_pre (t := .tp (.cn (.tp (.cn (.nm 4) (.cn (.nm 5) .nl))) (.cn (.nm 6) .nl))) (b := exS (Fk T (k + 1)) M_f_parts_of_L1) (fun q : (Int × Int) × Int => .tuple [pairD q.1, .int q.2])
    (fun p e' => ∃ s4 s5 s6 s7 s8 s9 s10 s11, e' = [.v (.int n), .v (rowD c), .v (.int color), .v (.list ((p.foldl (mStep color) (rI 0 n)).map .int)), s4, s5, s6, s7, s8, s9, s10, s11]) ((pairsI n).zip c)
    (by
      rintro p ⟨⟨a, b⟩, x⟩ r hl e ⟨s4, s5, s6, s7, s8, s9, s10, s11, rfl⟩
      have hm : (a, b) ∈ pairsI n := by
        have : ((a, b), x) ∈ (pairsI n).zip c := by rw [hl]; simp
        exact (List.of_mem_zip this).1
      rw [mem_pairsI] at hm
      have ml : (p.foldl (mStep color) (rI 0 n)).length = n.toNat := by rw [marks_len', rI_length, Int.sub_zero]
      rw [List.foldl_append, List.foldl_cons, List.foldl_nil]
      generalize p.foldl (mStep color) (rI 0 n) = M at *
      have hm1 := hm.1
      have hm2 := hm.2.1
      have hm3 := hm.2.2
      simp only at hm1 hm2 hm3
      by_cases e : x = color
      · have d1 : subD (.list (M.map .int)) (.int a) = .ok (.int (M.getD a.toNat 0)) := sub_ints (by omega) (by omega)
        have d2 : subD (.list (M.map .int)) (.int b) = .ok (.int (M.getD b.toNat 0)) := sub_ints (by omega) (by omega)
        have st : bltD "sorted" [.list [.int (M.getD a.toNat 0), .int (M.getD b.toNat 0)]] = .ok (.list [.int (min (M.getD a.toNat 0) (M.getD b.toNat 0)), .int (max (M.getD a.toNat 0) (M.getD b.toNat 0))]) := by
          have := sorted_ints [M.getD a.toNat 0, M.getD b.toNat 0]
          rw [isort_two] at this
          exact this
        have cc := comp1 M (min (M.getD a.toNat 0) (M.getD b.toNat 0)) (max (M.getD a.toNat 0) (M.getD b.toNat 0)) (.v (.int a)) (.v (.int b)) (.v (.int x)) s9 s10 s11 (by omega)
        have es : mStep color M ((a, b), x) = M.map fun m => if m = max (M.getD a.toNat 0) (M.getD b.toNat 0) then min (M.getD a.toNat 0) (M.getD b.toNat 0) else m := by
          unfold mStep; rw [if_pos e]
        rw [es]
        refine ⟨_, ?_, .v (.int a), .v (.int b), .v (.int x), .v (.int (min (M.getD a.toNat 0) (M.getD b.toNat 0))), .v (.int (max (M.getD a.toNat 0) (M.getD b.toNat 0))), s9, s10, s11, rfl⟩
        simp (disch := omega) only [M_f_parts_of_L1, exS, ev, getE, getO, getTb, asg, asgs, boolD_bool, bin_add, bin_sub, bin_mul, addI, modI, divI, mulI, eqD_ints, neD_ints, ltD_ints, gtD_ints, leD_ints, geD_ints, isN, isNN, tru_bool, tru_list, tru_tup, tru_row, len_list, len_tup, len_row, tup_list, list_tup, list_row, min_two, max_two, int_bool, int_int, itr_list, itr_tup, itr_row, seq_row, seq_list, seq_tup, rng_ok, frzE, R.ok_bind, R.exc_bind, listD_ok, calm_ok, okN, R.guard_true, isDict_row, isDict_int, isDict_tup, isDict_list, isDict_none, isDict_bool, isDict_str, isDict_pair, bndD, seqOk, List.all_cons, List.all_nil, Bool.not_false, Bool.not_true, Bool.and_self, Bool.true_and, Bool.and_true, Bool.false_and, Bool.and_false, List.length_cons, List.length_nil, List.length_map, if_true, if_false, ite_true, ite_false, Bool.false_eq_true, reduceIte, id, ofOpt_some, eqD_rows, neD_rows, eqD_intL, neD_intL, eqD_rowL, neD_rowL, eqD_nil, neD_nil, eqD_nilT, neD_nilT, eqD_nilR, neD_nilR, inD_ints, ninD_ints, inD_row, ninD_row, inD_rows, ninD_rows, mthTy_idx, mthTy_cnt, lens_ints, srts_ints, sorted_ints, List.getElem?_cons_zero, List.getElem?_cons_succ, List.set_cons_zero, List.set_cons_succ, pairD, decide_eq_true e, d1, d2, st, cc]
      · have es : mStep color M ((a, b), x) = M := by
          unfold mStep; rw [if_neg e]
        rw [es]
        refine ⟨_, ?_, .v (.int a), .v (.int b), .v (.int x), s7, s8, s9, s10, s11, rfl⟩
        simp (disch := omega) only [M_f_parts_of_L1, exS, ev, getE, getO, getTb, asg, asgs, boolD_bool, bin_add, bin_sub, bin_mul, addI, modI, divI, mulI, eqD_ints, neD_ints, ltD_ints, gtD_ints, leD_ints, geD_ints, isN, isNN, tru_bool, tru_list, tru_tup, tru_row, len_list, len_tup, len_row, tup_list, list_tup, list_row, min_two, max_two, int_bool, int_int, itr_list, itr_tup, itr_row, seq_row, seq_list, seq_tup, rng_ok, frzE, R.ok_bind, R.exc_bind, listD_ok, calm_ok, okN, R.guard_true, isDict_row, isDict_int, isDict_tup, isDict_list, isDict_none, isDict_bool, isDict_str, isDict_pair, bndD, seqOk, List.all_cons, List.all_nil, Bool.not_false, Bool.not_true, Bool.and_self, Bool.true_and, Bool.and_true, Bool.false_and, Bool.and_false, List.length_cons, List.length_nil, List.length_map, if_true, if_false, ite_true, ite_false, Bool.false_eq_true, reduceIte, id, ofOpt_some, eqD_rows, neD_rows, eqD_intL, neD_intL, eqD_rowL, neD_rowL, eqD_nil, neD_nil, eqD_nilT, neD_nilT, eqD_nilR, neD_nilR, inD_ints, ninD_ints, inD_row, ninD_row, inD_rows, ninD_rows, mthTy_idx, mthTy_cnt, lens_ints, srts_ints, sorted_ints, List.getElem?_cons_zero, List.getElem?_cons_succ, List.set_cons_zero, List.set_cons_succ, pairD, decide_eq_false e])
    [.v (.int n), .v (rowD c), .v (.int color), .v (.list ((rI 0 n).map .int)), .no, .no, .no, .no, .no, .no, .no, .no] ⟨_, _, _, _, _, _, _, _, rfl⟩
  have z : zipL ((pairsI n).map pairD) (c.map .int) = ((pairsI n).zip c).map (fun q : (Int × Int) × Int => .tuple [pairD q.1, .int q.2]) := zip_map pairD PyData.int _ _
  have ml := marks_len n c color
  have eM : ((pairsI n).zip c).foldl (mStep color) (rI 0 n) = marksOf n c color := rfl
  rw [eM] at o1
  have eP : partsL n c color = (isort leI (ddup (marksOf n c color))).map fun m => (rI 0 n).filter fun p => decide ((marksOf n c color).getD p.toNat 0 = m) := rfl
  rw [eP]
  generalize marksOf n c color = M at *
  have comp2 : ∀ (m : Int) (xs : List D) (s11 : Sl), ev (Fk T (k + 1)) M_f_parts_of_C2 [.v (.int n), .v (rowD c), .v (.int color), .v (.list (M.map .int)), s4, s5, s6, s7, s8, .v (.int m), .own xs, s11] = .ok (.list (((rI 0 n).filter fun p => decide (M.getD p.toNat 0 = m)).map .int)) := fun m xs s11 => by
    refine lcf_ok (F := Fk T (k + 1)) (t := .nm 11) PyData.int (fun p => decide (M.getD p.toNat 0 = m)) PyData.int (rI 0 n) ?_ ?_ (seqOk_filter (by rw [rI_length]; omega) (fun _ => rfl))
    · simp (disch := omega) only [exS, ev, getE, getO, getTb, asg, asgs, boolD_bool, bin_add, bin_sub, bin_mul, addI, modI, divI, mulI, eqD_ints, neD_ints, ltD_ints, gtD_ints, leD_ints, geD_ints, isN, isNN, tru_bool, tru_list, tru_tup, tru_row, len_list, len_tup, len_row, tup_list, list_tup, list_row, min_two, max_two, int_bool, int_int, itr_list, itr_tup, itr_row, seq_row, seq_list, seq_tup, rng_ok, frzE, R.ok_bind, R.exc_bind, listD_ok, calm_ok, okN, R.guard_true, isDict_row, isDict_int, isDict_tup, isDict_list, isDict_none, isDict_bool, isDict_str, isDict_pair, bndD, seqOk, List.all_cons, List.all_nil, Bool.not_false, Bool.not_true, Bool.and_self, Bool.true_and, Bool.and_true, Bool.false_and, Bool.and_false, List.length_cons, List.length_nil, List.length_map, if_true, if_false, ite_true, ite_false, Bool.false_eq_true, reduceIte, id, ofOpt_some, eqD_rows, neD_rows, eqD_intL, neD_intL, eqD_rowL, neD_rowL, eqD_nil, neD_nil, eqD_nilT, neD_nilT, eqD_nilR, neD_nilR, inD_ints, ninD_ints, inD_row, ninD_row, inD_rows, ninD_rows, mthTy_idx, mthTy_cnt, lens_ints, srts_ints, sorted_ints, List.getElem?_cons_zero, List.getElem?_cons_succ, List.set_cons_zero, List.set_cons_succ]
    · intro p hp
      rw [mem_rI] at hp
      have d1 : subD (.list (M.map .int)) (.int p) = .ok (.int (M.getD p.toNat 0)) := sub_ints (by omega) (by omega)
      refine ⟨_, rfl, ?_, fun _ => ?_⟩
      · simp (disch := omega) only [exS, ev, getE, getO, getTb, asg, asgs, boolD_bool, bin_add, bin_sub, bin_mul, addI, modI, divI, mulI, eqD_ints, neD_ints, ltD_ints, gtD_ints, leD_ints, geD_ints, isN, isNN, tru_bool, tru_list, tru_tup, tru_row, len_list, len_tup, len_row, tup_list, list_tup, list_row, min_two, max_two, int_bool, int_int, itr_list, itr_tup, itr_row, seq_row, seq_list, seq_tup, rng_ok, frzE, R.ok_bind, R.exc_bind, listD_ok, calm_ok, okN, R.guard_true, isDict_row, isDict_int, isDict_tup, isDict_list, isDict_none, isDict_bool, isDict_str, isDict_pair, bndD, seqOk, List.all_cons, List.all_nil, Bool.not_false, Bool.not_true, Bool.and_self, Bool.true_and, Bool.and_true, Bool.false_and, Bool.and_false, List.length_cons, List.length_nil, List.length_map, if_true, if_false, ite_true, ite_false, Bool.false_eq_true, reduceIte, id, ofOpt_some, eqD_rows, neD_rows, eqD_intL, neD_intL, eqD_rowL, neD_rowL, eqD_nil, neD_nil, eqD_nilT, neD_nilT, eqD_nilR, neD_nilR, inD_ints, ninD_ints, inD_row, ninD_row, inD_rows, ninD_rows, mthTy_idx, mthTy_cnt, lens_ints, srts_ints, sorted_ints, List.getElem?_cons_zero, List.getElem?_cons_succ, List.set_cons_zero, List.set_cons_succ, wipeE, slots, d1]
      · simp (disch := omega) only [exS, ev, getE, getO, getTb, asg, asgs, boolD_bool, bin_add, bin_sub, bin_mul, addI, modI, divI, mulI, eqD_ints, neD_ints, ltD_ints, gtD_ints, leD_ints, geD_ints, isN, isNN, tru_bool, tru_list, tru_tup, tru_row, len_list, len_tup, len_row, tup_list, list_tup, list_row, min_two, max_two, int_bool, int_int, itr_list, itr_tup, itr_row, seq_row, seq_list, seq_tup, rng_ok, frzE, R.ok_bind, R.exc_bind, listD_ok, calm_ok, okN, R.guard_true, isDict_row, isDict_int, isDict_tup, isDict_list, isDict_none, isDict_bool, isDict_str, isDict_pair, bndD, seqOk, List.all_cons, List.all_nil, Bool.not_false, Bool.not_true, Bool.and_self, Bool.true_and, Bool.and_true, Bool.false_and, Bool.and_false, List.length_cons, List.length_nil, List.length_map, if_true, if_false, ite_true, ite_false, Bool.false_eq_true, reduceIte, id, ofOpt_some, eqD_rows, neD_rows, eqD_intL, neD_intL, eqD_rowL, neD_rowL, eqD_nil, neD_nil, eqD_nilT, neD_nilT, eqD_nilR, neD_nilR, inD_ints, ninD_ints, inD_row, ninD_row, inD_rows, ninD_rows, mthTy_idx, mthTy_cnt, lens_ints, srts_ints, sorted_ints, List.getElem?_cons_zero, List.getElem?_cons_succ, List.set_cons_zero, List.set_cons_succ, wipeE, slots]
  have ddl := ddup_len M
  have isl := isort_len leI (ddup M)
  obtain ⟨e', o2, s9', s11', rfl⟩ := for_pre (t := .nm 9) (b := exS (Fk T (k + 1)) M_f_parts_of_L2) PyData.int
    (fun p e' => ∃ s9 s11, e' = [.v (.int n), .v (rowD c), .v (.int color), .v (.list (M.map .int)), s4, s5, s6, s7, s8, s9, .own ((p.map fun m => (rI 0 n).filter fun p => decide (M.getD p.toNat 0 = m)).map rowD), s11]) (isort leI (ddup M))
    (by
      rintro p m r hl e ⟨s9, s11, rfl⟩
      have cc := comp2 m ((p.map fun m => (rI 0 n).filter fun p => decide (M.getD p.toNat 0 = m)).map rowD) s11
      have pl : p.length ≤ 7 := by
        have := congrArg List.length hl
        rw [List.length_append] at this
        omega
      refine ⟨_, ?_, .v (.int m), s11, rfl⟩
      rw [List.map_append, List.map_append]
      simp (disch := omega) only [M_f_parts_of_L2, exS, ev, getE, getO, getTb, asg, asgs, boolD_bool, bin_add, bin_sub, bin_mul, addI, modI, divI, mulI, eqD_ints, neD_ints, ltD_ints, gtD_ints, leD_ints, geD_ints, isN, isNN, tru_bool, tru_list, tru_tup, tru_row, len_list, len_tup, len_row, tup_list, list_tup, list_row, min_two, max_two, int_bool, int_int, itr_list, itr_tup, itr_row, seq_row, seq_list, seq_tup, rng_ok, frzE, R.ok_bind, R.exc_bind, listD_ok, calm_ok, okN, R.guard_true, isDict_row, isDict_int, isDict_tup, isDict_list, isDict_none, isDict_bool, isDict_str, isDict_pair, bndD, seqOk, List.all_cons, List.all_nil, Bool.not_false, Bool.not_true, Bool.and_self, Bool.true_and, Bool.and_true, Bool.false_and, Bool.and_false, List.length_cons, List.length_nil, List.length_map, if_true, if_false, ite_true, ite_false, Bool.false_eq_true, reduceIte, id, ofOpt_some, eqD_rows, neD_rows, eqD_intL, neD_intL, eqD_rowL, neD_rowL, eqD_nil, neD_nil, eqD_nilT, neD_nilT, eqD_nilR, neD_nilR, inD_ints, ninD_ints, inD_row, ninD_row, inD_rows, ninD_rows, mthTy_idx, mthTy_cnt, lens_ints, srts_ints, sorted_ints, List.getElem?_cons_zero, List.getElem?_cons_succ, List.set_cons_zero, List.set_cons_succ, cc, tup_ints, List.map_cons, List.map_nil])
    [.v (.int n), .v (rowD c), .v (.int color), .v (.list (M.map .int)), s4, s5, s6, s7, s8, s9, .own [], s11] ⟨_, _, rfl⟩
  have ss : srtSetD (M.map .int) = .ok (.list ((isort leI (ddup M)).map .int)) := srts_ints (by omega)
  have rg : rgGuard ((rI 0 n).map .int) = .ok (.list ((rI 0 n).map .int)) := by
    unfold rgGuard
    rw [okN (by rw [List.length_map, rI_length]; omega)]; rfl
  rw [h]
  simp (disch := omega) only [runS, List.map_cons, List.map_nil, List.length_cons, List.length_nil, List.replicate, Nat.reduceAdd, Nat.reduceSub, List.cons_append, List.nil_append, M_f_parts_of, exS, ev, getE, getO, getTb, asg, asgs, boolD_bool, bin_add, bin_sub, bin_mul, addI, modI, divI, mulI, eqD_ints, neD_ints, ltD_ints, gtD_ints, leD_ints, geD_ints, isN, isNN, tru_bool, tru_list, tru_tup, tru_row, len_list, len_tup, len_row, tup_list, list_tup, list_row, min_two, max_two, int_bool, int_int, itr_list, itr_tup, itr_row, seq_row, seq_list, seq_tup, rng_ok, frzE, R.ok_bind, R.exc_bind, listD_ok, calm_ok, okN, R.guard_true, isDict_row, isDict_int, isDict_tup, isDict_list, isDict_none, isDict_bool, isDict_str, isDict_pair, bndD, seqOk, List.all_cons, List.all_nil, Bool.not_false, Bool.not_true, Bool.and_self, Bool.true_and, Bool.and_true, Bool.false_and, Bool.and_false, List.length_cons, List.length_nil, List.length_map, if_true, if_false, ite_true, ite_false, Bool.false_eq_true, reduceIte, id, ofOpt_some, eqD_rows, neD_rows, eqD_intL, neD_intL, eqD_rowL, neD_rowL, eqD_nil, neD_nil, eqD_nilT, neD_nilT, eqD_nilR, neD_nilR, inD_ints, ninD_ints, inD_row, ninD_row, inD_rows, ninD_rows, mthTy_idx, mthTy_cnt, lens_ints, srts_ints, sorted_ints, List.getElem?_cons_zero, List.getElem?_cons_succ, List.set_cons_zero, List.set_cons_succ, c1, z, rg, o1, ss, o2]
end
end TC
set_option Elab.async false
set_option linter.all false
set_option maxRecDepth 100000
set_option maxHeartbeats 0
set_option autoImplicit false
/-! PmM: parts, joining colors, used colors, merged colorings, colors of pairs, texts. -/
namespace TC
open PySem
def joinL (n : Int) (c : List Int) : List Int := (rI 0 6).filter fun x => decide (((partsL n c x).length : Int) = 1)
def mergedL (c : List Int) (a b : Int) : List Int := c.map fun x => if x = a then b else x
def digS (l : List Int) : Str := ⟨(l.map fun x => 48 + x.toNat).toArray⟩
theorem digS_app (l m : List Int) : digS l ++ digS m = digS (l ++ m) := by
  show Str.append (digS l) (digS m) = _
  unfold Str.append digS
  simp
theorem digS_len (l : List Int) : (digS l).length = l.length := by
  unfold digS Str.length; simp
theorem strI_dig {x : Int} (h0 : 0 ≤ x) (h1 : x < 6) : strI x = digS [x] := by
  have : x = 0 ∨ x = 1 ∨ x = 2 ∨ x = 3 ∨ x = 4 ∨ x = 5 := by omega
  rcases this with rfl | rfl | rfl | rfl | rfl | rfl <;> decide +kernel
def stOf (n o : Int) : Int := (rI 0 o).foldl (fun s i => s + (n - i - 1)) 0
theorem st_idx : ∀ n : Nat, n ≤ 7 → ∀ p : Nat, p < n → ∀ o : Nat, o < p → stOf n o + p - o - 1 = ((pairsI n).idxOf ((o : Int), (p : Int)) : Nat) := by decide +kernel
def rowsL (n : Int) (c : List Int) : List (List Int) := (rI 1 n).map fun p => (rI 0 p).map fun o => col n c o p
theorem str_dig {x : Int} (h0 : 0 ≤ x) (h1 : x < 6) : bltD "str" [.int x] = .ok (.str (digS [x])) := by
  have e : bltD "str" [.int x] = (R.guard (small64 x)).bind fun _ => R.ok (PyData.str (strI x)) := rfl
  have s : small64 x = true := by unfold small64; simp; omega
  rw [e, s, strI_dig h0 h1]; rfl
theorem addS {a b : Str} (h : a.length + b.length ≤ 16777216) : addD (.str a) (.str b) = .ok (.str (a ++ b)) := by
  show (R.guard (okLen (a.length + b.length))).bind (fun _ => R.ok (PyData.str (a ++ b))) = _
  rw [okN h]; rfl
theorem toStrs_map {α : Type} (f : α → Str) : ∀ l : List α, toStrs (l.map fun a => .str (f a)) = some (l.map f)
  | [] => rfl
  | a :: l => by
    show (toStrs (l.map fun a => .str (f a))).map (f a :: ·) = _
    rw [toStrs_map f l]; rfl
section
variable {T : List Df}
theorem sp_parts (h : HB T) (h1 : HasF T "check_color" 1 M_f_check_color) (h2 : HasF T "parts_of" 12 M_f_parts_of) (h3 : HasF T "parts" 3 M_f_parts) (k : Nat) {n : Int} {c : List Int} (hc : AnyC n c) {x : Int} (hx : 0 ≤ x) (hx' : x < 6) : Fk T (k + 5) "parts" [.int n, rowD c, .int x] = .ok (.list ((partsL n c x).map rowD)) := by
  have a1 := sp_check_ok h k hc
  have a2 := sp_check_color h h1 (k + 2) (.int x) rfl
  have e : inR (.int x) 0 5 = true := by
    show (decide (0 ≤ x) && decide (x ≤ 5)) = true
    rw [decide_eq_true hx, decide_eq_true (show x ≤ 5 by omega)]; rfl
  rw [e] at a2
  have a2 : Fk T (k + 4) "check_color" [.int x] = .ok .none := a2
  have a3 := sp_parts_of h.pairs_of h2 (k + 2) hc.co x
  rw [h3]
  simp (disch := omega) only [runS, List.map_cons, List.map_nil, List.length_cons, List.length_nil, List.replicate, Nat.reduceAdd, Nat.reduceSub, List.cons_append, List.nil_append, M_f_parts, exS, ev, getE, getO, getTb, asg, asgs, boolD_bool, bin_add, bin_sub, bin_mul, addI, modI, divI, mulI, eqD_ints, neD_ints, ltD_ints, gtD_ints, leD_ints, geD_ints, isN, isNN, tru_bool, tru_list, tru_tup, tru_row, len_list, len_tup, len_row, tup_list, list_tup, list_row, min_two, max_two, int_bool, int_int, itr_list, itr_tup, itr_row, seq_row, seq_list, seq_tup, rng_ok, frzE, R.ok_bind, R.exc_bind, listD_ok, calm_ok, okN, R.guard_true, isDict_row, isDict_int, isDict_tup, isDict_list, isDict_none, isDict_bool, isDict_str, isDict_pair, bndD, seqOk, List.all_cons, List.all_nil, Bool.not_false, Bool.not_true, Bool.and_self, Bool.true_and, Bool.and_true, Bool.false_and, Bool.and_false, List.length_cons, List.length_nil, List.length_map, if_true, if_false, ite_true, ite_false, Bool.false_eq_true, reduceIte, id, ofOpt_some, eqD_rows, neD_rows, eqD_intL, neD_intL, eqD_rowL, neD_rowL, eqD_nil, neD_nil, eqD_nilT, neD_nilT, eqD_nilR, neD_nilR, inD_ints, ninD_ints, inD_row, ninD_row, inD_rows, ninD_rows, mthTy_idx, mthTy_cnt, lens_ints, srts_ints, sorted_ints, List.getElem?_cons_zero, List.getElem?_cons_succ, List.set_cons_zero, List.set_cons_succ, a1, a2, a3]
theorem sp_partsC (h : HB T) (h1 : HasF T "check_color" 1 M_f_check_color) (h3 : HasF T "parts" 3 M_f_parts) (k : Nat) {n : Int} {c : List Int} (hc : AnyC n c) {x : D} (hx : isDict x = false) (hx' : inR x 0 5 = false) : Fk T (k + 5) "parts" [.int n, rowD c, x] = .exc "InvalidColor" := by
  have a1 := sp_check_ok h k hc
  have a2 := sp_check_color h h1 (k + 2) x hx
  rw [hx'] at a2
  have a2 : Fk T (k + 4) "check_color" [x] = .exc "InvalidColor" := a2
  rw [h3]
  simp (disch := omega) only [runS, List.map_cons, List.map_nil, List.length_cons, List.length_nil, List.replicate, Nat.reduceAdd, Nat.reduceSub, List.cons_append, List.nil_append, M_f_parts, exS, ev, getE, getO, getTb, asg, asgs, boolD_bool, bin_add, bin_sub, bin_mul, addI, modI, divI, mulI, eqD_ints, neD_ints, ltD_ints, gtD_ints, leD_ints, geD_ints, isN, isNN, tru_bool, tru_list, tru_tup, tru_row, len_list, len_tup, len_row, tup_list, list_tup, list_row, min_two, max_two, int_bool, int_int, itr_list, itr_tup, itr_row, seq_row, seq_list, seq_tup, rng_ok, frzE, R.ok_bind, R.exc_bind, listD_ok, calm_ok, okN, R.guard_true, isDict_row, isDict_int, isDict_tup, isDict_list, isDict_none, isDict_bool, isDict_str, isDict_pair, bndD, seqOk, List.all_cons, List.all_nil, Bool.not_false, Bool.not_true, Bool.and_self, Bool.true_and, Bool.and_true, Bool.false_and, Bool.and_false, List.length_cons, List.length_nil, List.length_map, if_true, if_false, ite_true, ite_false, Bool.false_eq_true, reduceIte, id, ofOpt_some, eqD_rows, neD_rows, eqD_intL, neD_intL, eqD_rowL, neD_rowL, eqD_nil, neD_nil, eqD_nilT, neD_nilT, eqD_nilR, neD_nilR, inD_ints, ninD_ints, inD_row, ninD_row, inD_rows, ninD_rows, mthTy_idx, mthTy_cnt, lens_ints, srts_ints, sorted_ints, List.getElem?_cons_zero, List.getElem?_cons_succ, List.set_cons_zero, List.set_cons_succ, a1, a2]
theorem sp_joining_of (h : HB T) (h2 : HasF T "parts_of" 12 M_f_parts_of) (h3 : HasF T "joining_of" 3 M_f_joining_of) (k : Nat) {n : Int} {c : List Int} (hc : Colo n c) : Fk T (k + 3) "joining_of" [.int n, rowD c] = .ok (.list ((joinL n c).map .int)) := by
  rw [h3]
  have cc : ev (Fk T (k + 2)) M_f_joining_of_C1 [.v (.int n), .v (rowD c), .no] = .ok (.list ((joinL n c).map .int)) := by
    refine lcf_ok (F := Fk T (k + 2)) (t := .nm 2) PyData.int (fun x => decide (((partsL n c x).length : Int) = 1)) PyData.int (rI 0 6) ?_ ?_ (seqOk_filter (by rw [rI_length]; decide) (fun _ => rfl))
    · simp (disch := omega) only [exS, ev, getE, getO, getTb, asg, asgs, boolD_bool, bin_add, bin_sub, bin_mul, addI, modI, divI, mulI, eqD_ints, neD_ints, ltD_ints, gtD_ints, leD_ints, geD_ints, isN, isNN, tru_bool, tru_list, tru_tup, tru_row, len_list, len_tup, len_row, tup_list, list_tup, list_row, min_two, max_two, int_bool, int_int, itr_list, itr_tup, itr_row, seq_row, seq_list, seq_tup, rng_ok, frzE, R.ok_bind, R.exc_bind, listD_ok, calm_ok, okN, R.guard_true, isDict_row, isDict_int, isDict_tup, isDict_list, isDict_none, isDict_bool, isDict_str, isDict_pair, bndD, seqOk, List.all_cons, List.all_nil, Bool.not_false, Bool.not_true, Bool.and_self, Bool.true_and, Bool.and_true, Bool.false_and, Bool.and_false, List.length_cons, List.length_nil, List.length_map, if_true, if_false, ite_true, ite_false, Bool.false_eq_true, reduceIte, id, ofOpt_some, eqD_rows, neD_rows, eqD_intL, neD_intL, eqD_rowL, neD_rowL, eqD_nil, neD_nil, eqD_nilT, neD_nilT, eqD_nilR, neD_nilR, inD_ints, ninD_ints, inD_row, ninD_row, inD_rows, ninD_rows, mthTy_idx, mthTy_cnt, lens_ints, srts_ints, sorted_ints, List.getElem?_cons_zero, List.getElem?_cons_succ, List.set_cons_zero, List.set_cons_succ]
      rfl
    · intro x hx
      have a3 := sp_parts_of h.pairs_of h2 k hc x
      refine ⟨_, rfl, ?_, fun _ => ?_⟩
      · simp (disch := omega) only [exS, ev, getE, getO, getTb, asg, asgs, boolD_bool, bin_add, bin_sub, bin_mul, addI, modI, divI, mulI, eqD_ints, neD_ints, ltD_ints, gtD_ints, leD_ints, geD_ints, isN, isNN, tru_bool, tru_list, tru_tup, tru_row, len_list, len_tup, len_row, tup_list, list_tup, list_row, min_two, max_two, int_bool, int_int, itr_list, itr_tup, itr_row, seq_row, seq_list, seq_tup, rng_ok, frzE, R.ok_bind, R.exc_bind, listD_ok, calm_ok, okN, R.guard_true, isDict_row, isDict_int, isDict_tup, isDict_list, isDict_none, isDict_bool, isDict_str, isDict_pair, bndD, seqOk, List.all_cons, List.all_nil, Bool.not_false, Bool.not_true, Bool.and_self, Bool.true_and, Bool.and_true, Bool.false_and, Bool.and_false, List.length_cons, List.length_nil, List.length_map, if_true, if_false, ite_true, ite_false, Bool.false_eq_true, reduceIte, id, ofOpt_some, eqD_rows, neD_rows, eqD_intL, neD_intL, eqD_rowL, neD_rowL, eqD_nil, neD_nil, eqD_nilT, neD_nilT, eqD_nilR, neD_nilR, inD_ints, ninD_ints, inD_row, ninD_row, inD_rows, ninD_rows, mthTy_idx, mthTy_cnt, lens_ints, srts_ints, sorted_ints, List.getElem?_cons_zero, List.getElem?_cons_succ, List.set_cons_zero, List.set_cons_succ, wipeE, slots, a3]
      · simp (disch := omega) only [exS, ev, getE, getO, getTb, asg, asgs, boolD_bool, bin_add, bin_sub, bin_mul, addI, modI, divI, mulI, eqD_ints, neD_ints, ltD_ints, gtD_ints, leD_ints, geD_ints, isN, isNN, tru_bool, tru_list, tru_tup, tru_row, len_list, len_tup, len_row, tup_list, list_tup, list_row, min_two, max_two, int_bool, int_int, itr_list, itr_tup, itr_row, seq_row, seq_list, seq_tup, rng_ok, frzE, R.ok_bind, R.exc_bind, listD_ok, calm_ok, okN, R.guard_true, isDict_row, isDict_int, isDict_tup, isDict_list, isDict_none, isDict_bool, isDict_str, isDict_pair, bndD, seqOk, List.all_cons, List.all_nil, Bool.not_false, Bool.not_true, Bool.and_self, Bool.true_and, Bool.and_true, Bool.false_and, Bool.and_false, List.length_cons, List.length_nil, List.length_map, if_true, if_false, ite_true, ite_false, Bool.false_eq_true, reduceIte, id, ofOpt_some, eqD_rows, neD_rows, eqD_intL, neD_intL, eqD_rowL, neD_rowL, eqD_nil, neD_nil, eqD_nilT, neD_nilT, eqD_nilR, neD_nilR, inD_ints, ninD_ints, inD_row, ninD_row, inD_rows, ninD_rows, mthTy_idx, mthTy_cnt, lens_ints, srts_ints, sorted_ints, List.getElem?_cons_zero, List.getElem?_cons_succ, List.set_cons_zero, List.set_cons_succ, wipeE, slots]
  simp (disch := omega) only [runS, List.map_cons, List.map_nil, List.length_cons, List.length_nil, List.replicate, Nat.reduceAdd, Nat.reduceSub, List.cons_append, List.nil_append, M_f_joining_of, exS, ev, getE, getO, getTb, asg, asgs, boolD_bool, bin_add, bin_sub, bin_mul, addI, modI, divI, mulI, eqD_ints, neD_ints, ltD_ints, gtD_ints, leD_ints, geD_ints, isN, isNN, tru_bool, tru_list, tru_tup, tru_row, len_list, len_tup, len_row, tup_list, list_tup, list_row, min_two, max_two, int_bool, int_int, itr_list, itr_tup, itr_row, seq_row, seq_list, seq_tup, rng_ok, frzE, R.ok_bind, R.exc_bind, listD_ok, calm_ok, okN, R.guard_true, isDict_row, isDict_int, isDict_tup, isDict_list, isDict_none, isDict_bool, isDict_str, isDict_pair, bndD, seqOk, List.all_cons, List.all_nil, Bool.not_false, Bool.not_true, Bool.and_self, Bool.true_and, Bool.and_true, Bool.false_and, Bool.and_false, List.length_cons, List.length_nil, List.length_map, if_true, if_false, ite_true, ite_false, Bool.false_eq_true, reduceIte, id, ofOpt_some, eqD_rows, neD_rows, eqD_intL, neD_intL, eqD_rowL, neD_rowL, eqD_nil, neD_nil, eqD_nilT, neD_nilT, eqD_nilR, neD_nilR, inD_ints, ninD_ints, inD_row, ninD_row, inD_rows, ninD_rows, mthTy_idx, mthTy_cnt, lens_ints, srts_ints, sorted_ints, List.getElem?_cons_zero, List.getElem?_cons_succ, List.set_cons_zero, List.set_cons_succ, cc]
theorem sp_joining_colors (h : HB T) (h2 : HasF T "parts_of" 12 M_f_parts_of) (h3 : HasF T "joining_of" 3 M_f_joining_of) (h4 : HasF T "joining_colors" 2 M_f_joining_colors) (k : Nat) {n : Int} {c : List Int} (hc : AnyC n c) : Fk T (k + 5) "joining_colors" [.int n, rowD c] = .ok (.list ((joinL n c).map .int)) := by
  have a1 := sp_check_ok h k hc
  have a2 := sp_joining_of h h2 h3 (k + 1) hc.co
  rw [h4]
  simp (disch := omega) only [runS, List.map_cons, List.map_nil, List.length_cons, List.length_nil, List.replicate, Nat.reduceAdd, Nat.reduceSub, List.cons_append, List.nil_append, M_f_joining_colors, exS, ev, getE, getO, getTb, asg, asgs, boolD_bool, bin_add, bin_sub, bin_mul, addI, modI, divI, mulI, eqD_ints, neD_ints, ltD_ints, gtD_ints, leD_ints, geD_ints, isN, isNN, tru_bool, tru_list, tru_tup, tru_row, len_list, len_tup, len_row, tup_list, list_tup, list_row, min_two, max_two, int_bool, int_int, itr_list, itr_tup, itr_row, seq_row, seq_list, seq_tup, rng_ok, frzE, R.ok_bind, R.exc_bind, listD_ok, calm_ok, okN, R.guard_true, isDict_row, isDict_int, isDict_tup, isDict_list, isDict_none, isDict_bool, isDict_str, isDict_pair, bndD, seqOk, List.all_cons, List.all_nil, Bool.not_false, Bool.not_true, Bool.and_self, Bool.true_and, Bool.and_true, Bool.false_and, Bool.and_false, List.length_cons, List.length_nil, List.length_map, if_true, if_false, ite_true, ite_false, Bool.false_eq_true, reduceIte, id, ofOpt_some, eqD_rows, neD_rows, eqD_intL, neD_intL, eqD_rowL, neD_rowL, eqD_nil, neD_nil, eqD_nilT, neD_nilT, eqD_nilR, neD_nilR, inD_ints, ninD_ints, inD_row, ninD_row, inD_rows, ninD_rows, mthTy_idx, mthTy_cnt, lens_ints, srts_ints, sorted_ints, List.getElem?_cons_zero, List.getElem?_cons_succ, List.set_cons_zero, List.set_cons_succ, a1, a2]
theorem sp_used_colors (h : HB T) (h4 : HasF T "used_colors" 2 M_f_used_colors) (k : Nat) {n : Int} {c : List Int} (hc : AnyC n c) : Fk T (k + 5) "used_colors" [.int n, rowD c] = .ok (.list ((isort leI (ddup c)).map .int)) := by
  have a1 := sp_check_ok h k hc
  have l := hc.co.len
  have := pairs_len_le hc.co.hi
  rw [h4]
  simp (disch := omega) only [runS, List.map_cons, List.map_nil, List.length_cons, List.length_nil, List.replicate, Nat.reduceAdd, Nat.reduceSub, List.cons_append, List.nil_append, M_f_used_colors, exS, ev, getE, getO, getTb, asg, asgs, boolD_bool, bin_add, bin_sub, bin_mul, addI, modI, divI, mulI, eqD_ints, neD_ints, ltD_ints, gtD_ints, leD_ints, geD_ints, isN, isNN, tru_bool, tru_list, tru_tup, tru_row, len_list, len_tup, len_row, tup_list, list_tup, list_row, min_two, max_two, int_bool, int_int, itr_list, itr_tup, itr_row, seq_row, seq_list, seq_tup, rng_ok, frzE, R.ok_bind, R.exc_bind, listD_ok, calm_ok, okN, R.guard_true, isDict_row, isDict_int, isDict_tup, isDict_list, isDict_none, isDict_bool, isDict_str, isDict_pair, bndD, seqOk, List.all_cons, List.all_nil, Bool.not_false, Bool.not_true, Bool.and_self, Bool.true_and, Bool.and_true, Bool.false_and, Bool.and_false, List.length_cons, List.length_nil, List.length_map, if_true, if_false, ite_true, ite_false, Bool.false_eq_true, reduceIte, id, ofOpt_some, eqD_rows, neD_rows, eqD_intL, neD_intL, eqD_rowL, neD_rowL, eqD_nil, neD_nil, eqD_nilT, neD_nilT, eqD_nilR, neD_nilR, inD_ints, ninD_ints, inD_row, ninD_row, inD_rows, ninD_rows, mthTy_idx, mthTy_cnt, lens_ints, srts_ints, sorted_ints, List.getElem?_cons_zero, List.getElem?_cons_succ, List.set_cons_zero, List.set_cons_succ, a1]
theorem sp_merged (h : HB T) (h1 : HasF T "check_color" 1 M_f_check_color) (h3 : HasF T "merged" 5 M_f_merged) (k : Nat) {n : Int} {c : List Int} (hc : AnyC n c) {a b : Int} (ha : 0 ≤ a) (ha' : a < 6) (hb : 0 ≤ b) (hb' : b < 6) : Fk T (k + 5) "merged" [.int n, rowD c, .int a, .int b] = .ok (rowD (mergedL c a b)) := by
  have a1 := sp_check_ok h k hc
  have ca : ∀ x : Int, 0 ≤ x → x < 6 → Fk T (k + 4) "check_color" [.int x] = .ok .none := fun x h0 h6 => by
    have a2 := sp_check_color h h1 (k + 2) (.int x) rfl
    have e : inR (.int x) 0 5 = true := by
      show (decide (0 ≤ x) && decide (x ≤ 5)) = true
      rw [decide_eq_true h0, decide_eq_true (show x ≤ 5 by omega)]; rfl
    rw [e] at a2
    exact a2
  have l := hc.co.len
  have := pairs_len_le hc.co.hi
  have cc : ev (Fk T (k + 4)) M_f_merged_C1 [.v (.int n), .v (rowD c), .v (.int a), .v (.int b), .no] = .ok (.list ((mergedL c a b).map .int)) := by
    unfold mergedL
    rw [List.map_map]
    refine lc_ok (F := Fk T (k + 4)) (t := .nm 4) PyData.int (fun m => .int (if m = a then b else m)) c ?_ ?_ (seqOk_map (by omega) (fun _ => rfl))
    · simp (disch := omega) only [exS, ev, getE, getO, getTb, asg, asgs, boolD_bool, bin_add, bin_sub, bin_mul, addI, modI, divI, mulI, eqD_ints, neD_ints, ltD_ints, gtD_ints, leD_ints, geD_ints, isN, isNN, tru_bool, tru_list, tru_tup, tru_row, len_list, len_tup, len_row, tup_list, list_tup, list_row, min_two, max_two, int_bool, int_int, itr_list, itr_tup, itr_row, seq_row, seq_list, seq_tup, rng_ok, frzE, R.ok_bind, R.exc_bind, listD_ok, calm_ok, okN, R.guard_true, isDict_row, isDict_int, isDict_tup, isDict_list, isDict_none, isDict_bool, isDict_str, isDict_pair, bndD, seqOk, List.all_cons, List.all_nil, Bool.not_false, Bool.not_true, Bool.and_self, Bool.true_and, Bool.and_true, Bool.false_and, Bool.and_false, List.length_cons, List.length_nil, List.length_map, if_true, if_false, ite_true, ite_false, Bool.false_eq_true, reduceIte, id, ofOpt_some, eqD_rows, neD_rows, eqD_intL, neD_intL, eqD_rowL, neD_rowL, eqD_nil, neD_nil, eqD_nilT, neD_nilT, eqD_nilR, neD_nilR, inD_ints, ninD_ints, inD_row, ninD_row, inD_rows, ninD_rows, mthTy_idx, mthTy_cnt, lens_ints, srts_ints, sorted_ints, List.getElem?_cons_zero, List.getElem?_cons_succ, List.set_cons_zero, List.set_cons_succ]
    · intro m hm
      refine ⟨_, rfl, ?_⟩
      by_cases e : m = a
      · simp (disch := omega) only [exS, ev, getE, getO, getTb, asg, asgs, boolD_bool, bin_add, bin_sub, bin_mul, addI, modI, divI, mulI, eqD_ints, neD_ints, ltD_ints, gtD_ints, leD_ints, geD_ints, isN, isNN, tru_bool, tru_list, tru_tup, tru_row, len_list, len_tup, len_row, tup_list, list_tup, list_row, min_two, max_two, int_bool, int_int, itr_list, itr_tup, itr_row, seq_row, seq_list, seq_tup, rng_ok, frzE, R.ok_bind, R.exc_bind, listD_ok, calm_ok, okN, R.guard_true, isDict_row, isDict_int, isDict_tup, isDict_list, isDict_none, isDict_bool, isDict_str, isDict_pair, bndD, seqOk, List.all_cons, List.all_nil, Bool.not_false, Bool.not_true, Bool.and_self, Bool.true_and, Bool.and_true, Bool.false_and, Bool.and_false, List.length_cons, List.length_nil, List.length_map, if_true, if_false, ite_true, ite_false, Bool.false_eq_true, reduceIte, id, ofOpt_some, eqD_rows, neD_rows, eqD_intL, neD_intL, eqD_rowL, neD_rowL, eqD_nil, neD_nil, eqD_nilT, neD_nilT, eqD_nilR, neD_nilR, inD_ints, ninD_ints, inD_row, ninD_row, inD_rows, ninD_rows, mthTy_idx, mthTy_cnt, lens_ints, srts_ints, sorted_ints, List.getElem?_cons_zero, List.getElem?_cons_succ, List.set_cons_zero, List.set_cons_succ, wipeE, slots, decide_eq_true e, if_pos e]
      · simp (disch := omega) only [exS, ev, getE, getO, getTb, asg, asgs, boolD_bool, bin_add, bin_sub, bin_mul, addI, modI, divI, mulI, eqD_ints, neD_ints, ltD_ints, gtD_ints, leD_ints, geD_ints, isN, isNN, tru_bool, tru_list, tru_tup, tru_row, len_list, len_tup, len_row, tup_list, list_tup, list_row, min_two, max_two, int_bool, int_int, itr_list, itr_tup, itr_row, seq_row, seq_list, seq_tup, rng_ok, frzE, R.ok_bind, R.exc_bind, listD_ok, calm_ok, okN, R.guard_true, isDict_row, isDict_int, isDict_tup, isDict_list, isDict_none, isDict_bool, isDict_str, isDict_pair, bndD, seqOk, List.all_cons, List.all_nil, Bool.not_false, Bool.not_true, Bool.and_self, Bool.true_and, Bool.and_true, Bool.false_and, Bool.and_false, List.length_cons, List.length_nil, List.length_map, if_true, if_false, ite_true, ite_false, Bool.false_eq_true, reduceIte, id, ofOpt_some, eqD_rows, neD_rows, eqD_intL, neD_intL, eqD_rowL, neD_rowL, eqD_nil, neD_nil, eqD_nilT, neD_nilT, eqD_nilR, neD_nilR, inD_ints, ninD_ints, inD_row, ninD_row, inD_rows, ninD_rows, mthTy_idx, mthTy_cnt, lens_ints, srts_ints, sorted_ints, List.getElem?_cons_zero, List.getElem?_cons_succ, List.set_cons_zero, List.set_cons_succ, wipeE, slots, decide_eq_false e, if_neg e]
  rw [h3]
  simp (disch := omega) only [runS, List.map_cons, List.map_nil, List.length_cons, List.length_nil, List.replicate, Nat.reduceAdd, Nat.reduceSub, List.cons_append, List.nil_append, M_f_merged, exS, ev, getE, getO, getTb, asg, asgs, boolD_bool, bin_add, bin_sub, bin_mul, addI, modI, divI, mulI, eqD_ints, neD_ints, ltD_ints, gtD_ints, leD_ints, geD_ints, isN, isNN, tru_bool, tru_list, tru_tup, tru_row, len_list, len_tup, len_row, tup_list, list_tup, list_row, min_two, max_two, int_bool, int_int, itr_list, itr_tup, itr_row, seq_row, seq_list, seq_tup, rng_ok, frzE, R.ok_bind, R.exc_bind, listD_ok, calm_ok, okN, R.guard_true, isDict_row, isDict_int, isDict_tup, isDict_list, isDict_none, isDict_bool, isDict_str, isDict_pair, bndD, seqOk, List.all_cons, List.all_nil, Bool.not_false, Bool.not_true, Bool.and_self, Bool.true_and, Bool.and_true, Bool.false_and, Bool.and_false, List.length_cons, List.length_nil, List.length_map, if_true, if_false, ite_true, ite_false, Bool.false_eq_true, reduceIte, id, ofOpt_some, eqD_rows, neD_rows, eqD_intL, neD_intL, eqD_rowL, neD_rowL, eqD_nil, neD_nil, eqD_nilT, neD_nilT, eqD_nilR, neD_nilR, inD_ints, ninD_ints, inD_row, ninD_row, inD_rows, ninD_rows, mthTy_idx, mthTy_cnt, lens_ints, srts_ints, sorted_ints, List.getElem?_cons_zero, List.getElem?_cons_succ, List.set_cons_zero, List.set_cons_succ, a1, ca a ha ha', ca b hb hb', cc, tup_ints]
theorem sp_color_of (h : HB T) (h1 : HasF T "table_of" 6 M_f_table_of) (h3 : HasF T "color_of" 4 M_f_color_of) (k : Nat) {n : Int} {c : List Int} (hc : AnyC n c) {a b : Int} (ha : 0 ≤ a) (ha' : a < n) (hb : 0 ≤ b) (hb' : b < n) (hab : a ≠ b) : Fk T (k + 5) "color_of" [.int n, rowD c, .int a, .int b] = .ok (.int (col n c a b)) := by
  have a1 := sp_check_ok h k hc
  have a2 := sp_table_of h.pairs_of h1 (k + 2) hc.co
  have i : ∀ x : Int, 0 ≤ x → x < n → Fk T (k + 4) "in_range" [.int x, .int 0, .int (n - 1)] = .ok (.bool true) := fun x h0 h6 => by
    rw [sp_inr h.in_range (k + 3) (.int x) rfl 0 (n - 1)]
    show R.ok (PyData.bool (decide (0 ≤ x) && decide (x ≤ n - 1))) = _
    rw [decide_eq_true h0, decide_eq_true (show x ≤ n - 1 by omega)]; rfl
  have g := tbl_get hc.co ha ha' hb hb' hab
  rw [h3]
  simp (disch := omega) only [runS, List.map_cons, List.map_nil, List.length_cons, List.length_nil, List.replicate, Nat.reduceAdd, Nat.reduceSub, List.cons_append, List.nil_append, M_f_color_of, exS, ev, getE, getO, getTb, asg, asgs, boolD_bool, bin_add, bin_sub, bin_mul, addI, modI, divI, mulI, eqD_ints, neD_ints, ltD_ints, gtD_ints, leD_ints, geD_ints, isN, isNN, tru_bool, tru_list, tru_tup, tru_row, len_list, len_tup, len_row, tup_list, list_tup, list_row, min_two, max_two, int_bool, int_int, itr_list, itr_tup, itr_row, seq_row, seq_list, seq_tup, rng_ok, frzE, R.ok_bind, R.exc_bind, listD_ok, calm_ok, okN, R.guard_true, isDict_row, isDict_int, isDict_tup, isDict_list, isDict_none, isDict_bool, isDict_str, isDict_pair, bndD, seqOk, List.all_cons, List.all_nil, Bool.not_false, Bool.not_true, Bool.and_self, Bool.true_and, Bool.and_true, Bool.false_and, Bool.and_false, List.length_cons, List.length_nil, List.length_map, if_true, if_false, ite_true, ite_false, Bool.false_eq_true, reduceIte, id, ofOpt_some, eqD_rows, neD_rows, eqD_intL, neD_intL, eqD_rowL, neD_rowL, eqD_nil, neD_nil, eqD_nilT, neD_nilT, eqD_nilR, neD_nilR, inD_ints, ninD_ints, inD_row, ninD_row, inD_rows, ninD_rows, mthTy_idx, mthTy_cnt, lens_ints, srts_ints, sorted_ints, List.getElem?_cons_zero, List.getElem?_cons_succ, List.set_cons_zero, List.set_cons_succ, a1, i a ha ha', i b hb hb', decide_eq_false hab, a2, g]
theorem sp_rows_of (h : HasF T "rows_of" 7 M_f_rows_of) (k : Nat) {n : Int} {c : List Int} (hc : AnyC n c) : Fk T (k + 1) "rows_of" [.int n, rowD c] = .ok (.list ((rowsL n c).map fun l => .str (digS l))) := by
  have hn1 := hc.co.lo
  have hn7 := hc.co.hi
  have clen := hc.co.len
  rw [h]
  have inner : ∀ (p : Int) (xs : List D) (s6 : Sl), 1 ≤ p → p < n → ∃ e', forG (.nm 6) (exS (Fk T k) M_f_rows_of_L2) ((rI 0 p).map .int) [.v (.int n), .v (rowD c), .own xs, .v (.int p), .v (.int 0), .v (.str (digS [])), s6] = .ok (.nx e') ∧
      ∃ s4 s6, e' = [.v (.int n), .v (rowD c), .own xs, .v (.int p), s4, .v (.str (digS ((rI 0 p).map fun o => col n c o p))), s6] := fun p xs s6 hp hpn => by
    have := for_pre (t := .nm 6) (b := exS (Fk T k) M_f_rows_of_L2) PyData.int (fun P e' => ∃ s6, e' = [.v (.int n), .v (rowD c), .own xs, .v (.int p), .v (.int (P.foldl (fun s i => s + (n - i - 1)) 0)), .v (.str (digS (P.map fun o => col n c o p))), s6]) (rI 0 p) (by
      rintro P o r hP e ⟨s6, rfl⟩
      obtain ⟨ho, ho2⟩ := rI_at hP
      have hPr : P = rI 0 o := by
        have := congrArg (List.take P.length) hP
        rw [List.take_left] at this
        rw [← this]
        unfold rI
        rw [← List.map_take, List.take_range, show min P.length (p - 0).toNat = (o - 0).toNat by omega]
      have ix := st_idx n.toNat (by omega) p.toNat (by omega) o.toNat (by omega)
      rw [Int.toNat_of_nonneg (show 0 ≤ n by omega), Int.toNat_of_nonneg (show 0 ≤ p by omega), Int.toNat_of_nonneg (show 0 ≤ o by omega)] at ix
      have es : P.foldl (fun s i => s + (n - i - 1)) 0 = stOf n o := by rw [hPr]; rfl
      have mm : (min o p, max o p) ∈ pairsI n := idx_lt (by omega) (by omega) (by omega) (by omega) (by omega)
      have mi : (o, p) ∈ pairsI n := by rw [mem_pairsI]; simp only; omega
      have hlt := List.idxOf_lt_length_of_mem mi
      have d1 : subD (rowD c) (.int (stOf n o + p - o - 1)) = .ok (.int (col n c o p)) := by
        rw [ix, sub_row' (by rw [clen]; exact hlt)]
        unfold col
        rw [Int.min_eq_left (by omega), Int.max_eq_right (by omega)]
      have hb : 0 ≤ col n c o p ∧ col n c o p < 6 := by
        refine hc.bd _ ?_
        unfold col
        rw [Int.min_eq_left (by omega), Int.max_eq_right (by omega)]
        exact getD_mem (by rw [clen]; exact hlt)
      have sd := str_dig hb.1 hb.2
      have l1 := digS_len (P.map fun o => col n c o p)
      have l2 := digS_len [col n c o p]
      rw [List.length_map] at l1
      have l3 : [col n c o p].length = 1 := rfl
      have ad : addD (.str (digS (P.map fun o => col n c o p))) (.str (digS [col n c o p])) = .ok (.str (digS ((P ++ [o]).map fun o => col n c o p))) := by
        rw [addS (by omega), digS_app, List.map_append]; rfl
      refine ⟨_, ?_, .v (.int o), rfl⟩
      rw [List.foldl_append, List.foldl_cons, List.foldl_nil, es]
      simp (disch := omega) only [M_f_rows_of_L2, exS, ev, getE, getO, getTb, asg, asgs, boolD_bool, bin_add, bin_sub, bin_mul, addI, modI, divI, mulI, eqD_ints, neD_ints, ltD_ints, gtD_ints, leD_ints, geD_ints, isN, isNN, tru_bool, tru_list, tru_tup, tru_row, len_list, len_tup, len_row, tup_list, list_tup, list_row, min_two, max_two, int_bool, int_int, itr_list, itr_tup, itr_row, seq_row, seq_list, seq_tup, rng_ok, frzE, R.ok_bind, R.exc_bind, listD_ok, calm_ok, okN, R.guard_true, isDict_row, isDict_int, isDict_tup, isDict_list, isDict_none, isDict_bool, isDict_str, isDict_pair, bndD, seqOk, List.all_cons, List.all_nil, Bool.not_false, Bool.not_true, Bool.and_self, Bool.true_and, Bool.and_true, Bool.false_and, Bool.and_false, List.length_cons, List.length_nil, List.length_map, if_true, if_false, ite_true, ite_false, Bool.false_eq_true, reduceIte, id, ofOpt_some, eqD_rows, neD_rows, eqD_intL, neD_intL, eqD_rowL, neD_rowL, eqD_nil, neD_nil, eqD_nilT, neD_nilT, eqD_nilR, neD_nilR, inD_ints, ninD_ints, inD_row, ninD_row, inD_rows, ninD_rows, mthTy_idx, mthTy_cnt, lens_ints, srts_ints, sorted_ints, List.getElem?_cons_zero, List.getElem?_cons_succ, List.set_cons_zero, List.set_cons_succ, d1, sd, ad]) [.v (.int n), .v (rowD c), .own xs, .v (.int p), .v (.int 0), .v (.str (digS [])), s6] ⟨_, rfl⟩
    obtain ⟨e', i1, s6, rfl⟩ := this
    exact ⟨_, i1, _, _, rfl⟩
  obtain ⟨e', o1, s3, s4, s5, s6, rfl⟩ := for_pre (t := .nm 3) (b := exS (Fk T k) M_f_rows_of_L1) PyData.int (fun P e' => ∃ s3 s4 s5 s6, e' = [.v (.int n), .v (rowD c), .own ((P.map fun p => (rI 0 p).map fun o => col n c o p).map fun l => .str (digS l)), s3, s4, s5, s6]) (rI 1 n)
    (by
      rintro P p r hP e ⟨s3, s4, s5, s6, rfl⟩
      obtain ⟨hp, hp2⟩ := rI_at hP
      obtain ⟨e', i1, s4', s6', rfl⟩ := inner p ((P.map fun p => (rI 0 p).map fun o => col n c o p).map fun l => .str (digS l)) s6 (by omega) (by omega)
      refine ⟨_, ?_, .v (.int p), s4', .v (.str (digS ((rI 0 p).map fun o => col n c o p))), s6', rfl⟩
      rw [List.map_append, List.map_append]
      have e0 : (("" : Str)) = digS [] := by decide +kernel
      simp (disch := omega) only [M_f_rows_of_L1, exS, ev, getE, getO, getTb, asg, asgs, boolD_bool, bin_add, bin_sub, bin_mul, addI, modI, divI, mulI, eqD_ints, neD_ints, ltD_ints, gtD_ints, leD_ints, geD_ints, isN, isNN, tru_bool, tru_list, tru_tup, tru_row, len_list, len_tup, len_row, tup_list, list_tup, list_row, min_two, max_two, int_bool, int_int, itr_list, itr_tup, itr_row, seq_row, seq_list, seq_tup, rng_ok, frzE, R.ok_bind, R.exc_bind, listD_ok, calm_ok, okN, R.guard_true, isDict_row, isDict_int, isDict_tup, isDict_list, isDict_none, isDict_bool, isDict_str, isDict_pair, bndD, seqOk, List.all_cons, List.all_nil, Bool.not_false, Bool.not_true, Bool.and_self, Bool.true_and, Bool.and_true, Bool.false_and, Bool.and_false, List.length_cons, List.length_nil, List.length_map, if_true, if_false, ite_true, ite_false, Bool.false_eq_true, reduceIte, id, ofOpt_some, eqD_rows, neD_rows, eqD_intL, neD_intL, eqD_rowL, neD_rowL, eqD_nil, neD_nil, eqD_nilT, neD_nilT, eqD_nilR, neD_nilR, inD_ints, ninD_ints, inD_row, ninD_row, inD_rows, ninD_rows, mthTy_idx, mthTy_cnt, lens_ints, srts_ints, sorted_ints, List.getElem?_cons_zero, List.getElem?_cons_succ, List.set_cons_zero, List.set_cons_succ, e0, i1, List.map_cons, List.map_nil])
    [.v (.int n), .v (rowD c), .own [], .no, .no, .no, .no] ⟨_, _, _, _, rfl⟩
  simp (disch := omega) only [runS, List.map_cons, List.map_nil, List.length_cons, List.length_nil, List.replicate, Nat.reduceAdd, Nat.reduceSub, List.cons_append, List.nil_append, M_f_rows_of, exS, ev, getE, getO, getTb, asg, asgs, boolD_bool, bin_add, bin_sub, bin_mul, addI, modI, divI, mulI, eqD_ints, neD_ints, ltD_ints, gtD_ints, leD_ints, geD_ints, isN, isNN, tru_bool, tru_list, tru_tup, tru_row, len_list, len_tup, len_row, tup_list, list_tup, list_row, min_two, max_two, int_bool, int_int, itr_list, itr_tup, itr_row, seq_row, seq_list, seq_tup, rng_ok, frzE, R.ok_bind, R.exc_bind, listD_ok, calm_ok, okN, R.guard_true, isDict_row, isDict_int, isDict_tup, isDict_list, isDict_none, isDict_bool, isDict_str, isDict_pair, bndD, seqOk, List.all_cons, List.all_nil, Bool.not_false, Bool.not_true, Bool.and_self, Bool.true_and, Bool.and_true, Bool.false_and, Bool.and_false, List.length_cons, List.length_nil, List.length_map, if_true, if_false, ite_true, ite_false, Bool.false_eq_true, reduceIte, id, ofOpt_some, eqD_rows, neD_rows, eqD_intL, neD_intL, eqD_rowL, neD_rowL, eqD_nil, neD_nil, eqD_nilT, neD_nilT, eqD_nilR, neD_nilR, inD_ints, ninD_ints, inD_row, ninD_row, inD_rows, ninD_rows, mthTy_idx, mthTy_cnt, lens_ints, srts_ints, sorted_ints, List.getElem?_cons_zero, List.getElem?_cons_succ, List.set_cons_zero, List.set_cons_succ, o1]
  rfl
def textOf (n : Int) (c : List Int) : Str := Str.join "\n" ((rowsL n c).map digS)
theorem join_ok (L : List (List Int)) (h1 : L.length ≤ 100) (h2 : ∀ l ∈ L, l.length ≤ 100) : mthD "join" (.str "\n") [.list (L.map fun l => .str (digS l))] = .ok (.str (Str.join "\n" (L.map digS))) := by
  have e : mthD "join" (.str "\n") [.list (L.map fun l => .str (digS l))] = (ofOpt (toStrs (L.map fun l => .str (digS l)))).bind fun ss => (R.guard (decide ((ss.map Str.length).sum + ss.length * ("\n" : Str).length ≤ 16777216))).bind fun _ => .ok (.str (Str.join "\n" ss)) := rfl
  rw [e, toStrs_map digS L]
  have n1 : ("\n" : Str).length = 1 := by decide +kernel
  have s : ∀ L : List (List Int), (∀ l ∈ L, l.length ≤ 100) → (((L.map digS).map Str.length).sum) ≤ 100 * L.length := fun L => by
    induction L with
    | nil => intro _; simp
    | cons l L ih =>
      intro h
      have := ih fun x hx => h x (List.mem_cons_of_mem _ hx)
      have := h l List.mem_cons_self
      rw [List.map_cons, List.map_cons, List.sum_cons, digS_len, List.length_cons]
      omega
  have := s L h2
  show (R.guard (decide (((L.map digS).map Str.length).sum + (L.map digS).length * ("\n" : Str).length ≤ 16777216))).bind _ = _
  rw [decide_eq_true (by rw [n1, List.length_map]; omega)]; rfl
theorem rowsL_len {n : Int} {c : List Int} (hn : n ≤ 7) : (rowsL n c).length ≤ 100 ∧ ∀ l ∈ rowsL n c, l.length ≤ 100 := by
  unfold rowsL
  refine ⟨by rw [List.length_map, rI_length]; omega, fun l hl => ?_⟩
  obtain ⟨p, hp, rfl⟩ := List.mem_map.mp hl
  rw [mem_rI] at hp
  rw [List.length_map, rI_length]; omega
theorem mthTy_join (s : Str) : mthTy "join" (.str s) = true := rfl
theorem sp_format (h : HB T) (h1 : HasF T "rows_of" 7 M_f_rows_of) (h2 : HasF T "format_coloring" 2 M_f_format_coloring) (k : Nat) {n : Int} {c : List Int} (hc : AnyC n c) : Fk T (k + 5) "format_coloring" [.int n, rowD c] = .ok (.str (textOf n c)) := by
  have a1 := sp_check_ok h k hc
  have a2 := sp_rows_of h1 (k + 3) hc
  obtain ⟨l1, l2⟩ := rowsL_len (c := c) hc.co.hi
  have a3 := join_ok (rowsL n c) l1 l2
  rw [h2]
  simp (disch := omega) only [runS, List.map_cons, List.map_nil, List.length_cons, List.length_nil, List.replicate, Nat.reduceAdd, Nat.reduceSub, List.cons_append, List.nil_append, M_f_format_coloring, exS, ev, getE, getO, getTb, asg, asgs, boolD_bool, bin_add, bin_sub, bin_mul, addI, modI, divI, mulI, eqD_ints, neD_ints, ltD_ints, gtD_ints, leD_ints, geD_ints, isN, isNN, tru_bool, tru_list, tru_tup, tru_row, len_list, len_tup, len_row, tup_list, list_tup, list_row, min_two, max_two, int_bool, int_int, itr_list, itr_tup, itr_row, seq_row, seq_list, seq_tup, rng_ok, frzE, R.ok_bind, R.exc_bind, listD_ok, calm_ok, okN, R.guard_true, isDict_row, isDict_int, isDict_tup, isDict_list, isDict_none, isDict_bool, isDict_str, isDict_pair, bndD, seqOk, List.all_cons, List.all_nil, Bool.not_false, Bool.not_true, Bool.and_self, Bool.true_and, Bool.and_true, Bool.false_and, Bool.and_false, List.length_cons, List.length_nil, List.length_map, if_true, if_false, ite_true, ite_false, Bool.false_eq_true, reduceIte, id, ofOpt_some, eqD_rows, neD_rows, eqD_intL, neD_intL, eqD_rowL, neD_rowL, eqD_nil, neD_nil, eqD_nilT, neD_nilT, eqD_nilR, neD_nilR, inD_ints, ninD_ints, inD_row, ninD_row, inD_rows, ninD_rows, mthTy_idx, mthTy_cnt, lens_ints, srts_ints, sorted_ints, List.getElem?_cons_zero, List.getElem?_cons_succ, List.set_cons_zero, List.set_cons_succ, a1, a2, mthTy_join, a3, textOf]
end
end TC
set_option Elab.async false
set_option linter.all false
set_option maxRecDepth 100000
set_option maxHeartbeats 0
set_option autoImplicit false
/-! PmN: try; whole numbers; trees and divisions of None. -/
namespace TC
open PySem
theorem try_ok {F : Fns} {i : Nat} {ks : List Str} {b : TC.S} {hs : List Hd} {e : Env} {fl : Fl} (h : exS F b e = .ok fl) : exS F (.try i ks b hs) e = .ok fl := by
  show (match exS F b e with
    | .exc c => if c ∈ ks then hand hs c else .stuck
    | r => r) = _
  rw [h]
theorem try_exc {F : Fns} {i : Nat} {ks : List Str} {b : TC.S} {hs : List Hd} {e : Env} {c : Str} (h : exS F b e = .exc c) (hc : c ∈ ks) : exS F (.try i ks b hs) e = hand hs c := by
  show (match exS F b e with
    | .exc c => if c ∈ ks then hand hs c else .stuck
    | r => r) = _
  rw [h]
  show (if c ∈ ks then hand hs c else .stuck) = _
  rw [if_pos hc]
section
variable {T : List Df}
theorem sp_law_whole (h : HasF T "_law_whole" 1 M_l_law_whole) (k : Nat) (v : D) (hv : isDict v = false) : Fk T (k + 1) "_law_whole" [v] = .ok (.bool (match v with | .int _ => true | _ => false)) := by
  rw [h]
  cases v <;> first | (cases hv; done) | rfl
theorem sp_law_in (h0 : HasF T "_law_whole" 1 M_l_law_whole) (h : HasF T "_law_in" 3 M_l_law_in) (k : Nat) (v : D) (hv : isDict v = false) (lo hi : Int) : Fk T (k + 2) "_law_in" [v, .int lo, .int hi] = .ok (.bool (inR v lo hi)) := by
  have a1 := sp_law_whole h0 k v hv
  rw [h]
  cases v with
  | int x =>
    have a1 : Fk T (k + 1) "_law_whole" [.int x] = .ok (.bool true) := a1
    by_cases e1 : x < lo
    · have e2 : inR (.int x) lo hi = false := by
        show (decide (lo ≤ x) && decide (x ≤ hi)) = false
        rw [decide_eq_false (by omega)]; rfl
      simp (disch := omega) only [runS, List.map_cons, List.map_nil, List.length_cons, List.length_nil, List.replicate, Nat.reduceAdd, Nat.reduceSub, List.cons_append, List.nil_append, M_l_law_in, exS, ev, getE, getO, getTb, asg, asgs, boolD_bool, bin_add, bin_sub, bin_mul, addI, modI, divI, mulI, eqD_ints, neD_ints, ltD_ints, gtD_ints, leD_ints, geD_ints, isN, isNN, tru_bool, tru_list, tru_tup, tru_row, len_list, len_tup, len_row, tup_list, list_tup, list_row, min_two, max_two, int_bool, int_int, itr_list, itr_tup, itr_row, seq_row, seq_list, seq_tup, rng_ok, frzE, R.ok_bind, R.exc_bind, listD_ok, calm_ok, okN, R.guard_true, isDict_row, isDict_int, isDict_tup, isDict_list, isDict_none, isDict_bool, isDict_str, isDict_pair, bndD, seqOk, List.all_cons, List.all_nil, Bool.not_false, Bool.not_true, Bool.and_self, Bool.true_and, Bool.and_true, Bool.false_and, Bool.and_false, List.length_cons, List.length_nil, List.length_map, if_true, if_false, ite_true, ite_false, Bool.false_eq_true, reduceIte, id, ofOpt_some, eqD_rows, neD_rows, eqD_intL, neD_intL, eqD_rowL, neD_rowL, eqD_nil, neD_nil, eqD_nilT, neD_nilT, eqD_nilR, neD_nilR, inD_ints, ninD_ints, inD_row, ninD_row, inD_rows, ninD_rows, mthTy_idx, mthTy_cnt, lens_ints, srts_ints, sorted_ints, List.getElem?_cons_zero, List.getElem?_cons_succ, List.set_cons_zero, List.set_cons_succ, a1, decide_eq_true e1, e2]
    · by_cases e3 : hi < x
      · have e2 : inR (.int x) lo hi = false := by
          show (decide (lo ≤ x) && decide (x ≤ hi)) = false
          rw [decide_eq_false (show ¬ x ≤ hi by omega), Bool.and_false]
        simp (disch := omega) only [runS, List.map_cons, List.map_nil, List.length_cons, List.length_nil, List.replicate, Nat.reduceAdd, Nat.reduceSub, List.cons_append, List.nil_append, M_l_law_in, exS, ev, getE, getO, getTb, asg, asgs, boolD_bool, bin_add, bin_sub, bin_mul, addI, modI, divI, mulI, eqD_ints, neD_ints, ltD_ints, gtD_ints, leD_ints, geD_ints, isN, isNN, tru_bool, tru_list, tru_tup, tru_row, len_list, len_tup, len_row, tup_list, list_tup, list_row, min_two, max_two, int_bool, int_int, itr_list, itr_tup, itr_row, seq_row, seq_list, seq_tup, rng_ok, frzE, R.ok_bind, R.exc_bind, listD_ok, calm_ok, okN, R.guard_true, isDict_row, isDict_int, isDict_tup, isDict_list, isDict_none, isDict_bool, isDict_str, isDict_pair, bndD, seqOk, List.all_cons, List.all_nil, Bool.not_false, Bool.not_true, Bool.and_self, Bool.true_and, Bool.and_true, Bool.false_and, Bool.and_false, List.length_cons, List.length_nil, List.length_map, if_true, if_false, ite_true, ite_false, Bool.false_eq_true, reduceIte, id, ofOpt_some, eqD_rows, neD_rows, eqD_intL, neD_intL, eqD_rowL, neD_rowL, eqD_nil, neD_nil, eqD_nilT, neD_nilT, eqD_nilR, neD_nilR, inD_ints, ninD_ints, inD_row, ninD_row, inD_rows, ninD_rows, mthTy_idx, mthTy_cnt, lens_ints, srts_ints, sorted_ints, List.getElem?_cons_zero, List.getElem?_cons_succ, List.set_cons_zero, List.set_cons_succ, a1, decide_eq_false e1, decide_eq_true e3, e2]
      · have e2 : inR (.int x) lo hi = true := by
          show (decide (lo ≤ x) && decide (x ≤ hi)) = true
          rw [decide_eq_true (show lo ≤ x by omega), decide_eq_true (show x ≤ hi by omega)]; rfl
        simp (disch := omega) only [runS, List.map_cons, List.map_nil, List.length_cons, List.length_nil, List.replicate, Nat.reduceAdd, Nat.reduceSub, List.cons_append, List.nil_append, M_l_law_in, exS, ev, getE, getO, getTb, asg, asgs, boolD_bool, bin_add, bin_sub, bin_mul, addI, modI, divI, mulI, eqD_ints, neD_ints, ltD_ints, gtD_ints, leD_ints, geD_ints, isN, isNN, tru_bool, tru_list, tru_tup, tru_row, len_list, len_tup, len_row, tup_list, list_tup, list_row, min_two, max_two, int_bool, int_int, itr_list, itr_tup, itr_row, seq_row, seq_list, seq_tup, rng_ok, frzE, R.ok_bind, R.exc_bind, listD_ok, calm_ok, okN, R.guard_true, isDict_row, isDict_int, isDict_tup, isDict_list, isDict_none, isDict_bool, isDict_str, isDict_pair, bndD, seqOk, List.all_cons, List.all_nil, Bool.not_false, Bool.not_true, Bool.and_self, Bool.true_and, Bool.and_true, Bool.false_and, Bool.and_false, List.length_cons, List.length_nil, List.length_map, if_true, if_false, ite_true, ite_false, Bool.false_eq_true, reduceIte, id, ofOpt_some, eqD_rows, neD_rows, eqD_intL, neD_intL, eqD_rowL, neD_rowL, eqD_nil, neD_nil, eqD_nilT, neD_nilT, eqD_nilR, neD_nilR, inD_ints, ninD_ints, inD_row, ninD_row, inD_rows, ninD_rows, mthTy_idx, mthTy_cnt, lens_ints, srts_ints, sorted_ints, List.getElem?_cons_zero, List.getElem?_cons_succ, List.set_cons_zero, List.set_cons_succ, a1, decide_eq_false e1, decide_eq_false e3, e2]
  | dict kvs => cases hv
  | none => have a1 : Fk T (k + 1) "_law_whole" [.none] = .ok (.bool false) := a1; simp (disch := omega) only [runS, List.map_cons, List.map_nil, List.length_cons, List.length_nil, List.replicate, Nat.reduceAdd, Nat.reduceSub, List.cons_append, List.nil_append, M_l_law_in, exS, ev, getE, getO, getTb, asg, asgs, boolD_bool, bin_add, bin_sub, bin_mul, addI, modI, divI, mulI, eqD_ints, neD_ints, ltD_ints, gtD_ints, leD_ints, geD_ints, isN, isNN, tru_bool, tru_list, tru_tup, tru_row, len_list, len_tup, len_row, tup_list, list_tup, list_row, min_two, max_two, int_bool, int_int, itr_list, itr_tup, itr_row, seq_row, seq_list, seq_tup, rng_ok, frzE, R.ok_bind, R.exc_bind, listD_ok, calm_ok, okN, R.guard_true, isDict_row, isDict_int, isDict_tup, isDict_list, isDict_none, isDict_bool, isDict_str, isDict_pair, bndD, seqOk, List.all_cons, List.all_nil, Bool.not_false, Bool.not_true, Bool.and_self, Bool.true_and, Bool.and_true, Bool.false_and, Bool.and_false, List.length_cons, List.length_nil, List.length_map, if_true, if_false, ite_true, ite_false, Bool.false_eq_true, reduceIte, id, ofOpt_some, eqD_rows, neD_rows, eqD_intL, neD_intL, eqD_rowL, neD_rowL, eqD_nil, neD_nil, eqD_nilT, neD_nilT, eqD_nilR, neD_nilR, inD_ints, ninD_ints, inD_row, ninD_row, inD_rows, ninD_rows, mthTy_idx, mthTy_cnt, lens_ints, srts_ints, sorted_ints, List.getElem?_cons_zero, List.getElem?_cons_succ, List.set_cons_zero, List.set_cons_succ, a1, inR]
  | bool b => have a1 : Fk T (k + 1) "_law_whole" [.bool b] = .ok (.bool false) := a1; simp (disch := omega) only [runS, List.map_cons, List.map_nil, List.length_cons, List.length_nil, List.replicate, Nat.reduceAdd, Nat.reduceSub, List.cons_append, List.nil_append, M_l_law_in, exS, ev, getE, getO, getTb, asg, asgs, boolD_bool, bin_add, bin_sub, bin_mul, addI, modI, divI, mulI, eqD_ints, neD_ints, ltD_ints, gtD_ints, leD_ints, geD_ints, isN, isNN, tru_bool, tru_list, tru_tup, tru_row, len_list, len_tup, len_row, tup_list, list_tup, list_row, min_two, max_two, int_bool, int_int, itr_list, itr_tup, itr_row, seq_row, seq_list, seq_tup, rng_ok, frzE, R.ok_bind, R.exc_bind, listD_ok, calm_ok, okN, R.guard_true, isDict_row, isDict_int, isDict_tup, isDict_list, isDict_none, isDict_bool, isDict_str, isDict_pair, bndD, seqOk, List.all_cons, List.all_nil, Bool.not_false, Bool.not_true, Bool.and_self, Bool.true_and, Bool.and_true, Bool.false_and, Bool.and_false, List.length_cons, List.length_nil, List.length_map, if_true, if_false, ite_true, ite_false, Bool.false_eq_true, reduceIte, id, ofOpt_some, eqD_rows, neD_rows, eqD_intL, neD_intL, eqD_rowL, neD_rowL, eqD_nil, neD_nil, eqD_nilT, neD_nilT, eqD_nilR, neD_nilR, inD_ints, ninD_ints, inD_row, ninD_row, inD_rows, ninD_rows, mthTy_idx, mthTy_cnt, lens_ints, srts_ints, sorted_ints, List.getElem?_cons_zero, List.getElem?_cons_succ, List.set_cons_zero, List.set_cons_succ, a1, inR]
  | str s => have a1 : Fk T (k + 1) "_law_whole" [.str s] = .ok (.bool false) := a1; simp (disch := omega) only [runS, List.map_cons, List.map_nil, List.length_cons, List.length_nil, List.replicate, Nat.reduceAdd, Nat.reduceSub, List.cons_append, List.nil_append, M_l_law_in, exS, ev, getE, getO, getTb, asg, asgs, boolD_bool, bin_add, bin_sub, bin_mul, addI, modI, divI, mulI, eqD_ints, neD_ints, ltD_ints, gtD_ints, leD_ints, geD_ints, isN, isNN, tru_bool, tru_list, tru_tup, tru_row, len_list, len_tup, len_row, tup_list, list_tup, list_row, min_two, max_two, int_bool, int_int, itr_list, itr_tup, itr_row, seq_row, seq_list, seq_tup, rng_ok, frzE, R.ok_bind, R.exc_bind, listD_ok, calm_ok, okN, R.guard_true, isDict_row, isDict_int, isDict_tup, isDict_list, isDict_none, isDict_bool, isDict_str, isDict_pair, bndD, seqOk, List.all_cons, List.all_nil, Bool.not_false, Bool.not_true, Bool.and_self, Bool.true_and, Bool.and_true, Bool.false_and, Bool.and_false, List.length_cons, List.length_nil, List.length_map, if_true, if_false, ite_true, ite_false, Bool.false_eq_true, reduceIte, id, ofOpt_some, eqD_rows, neD_rows, eqD_intL, neD_intL, eqD_rowL, neD_rowL, eqD_nil, neD_nil, eqD_nilT, neD_nilT, eqD_nilR, neD_nilR, inD_ints, ninD_ints, inD_row, ninD_row, inD_rows, ninD_rows, mthTy_idx, mthTy_cnt, lens_ints, srts_ints, sorted_ints, List.getElem?_cons_zero, List.getElem?_cons_succ, List.set_cons_zero, List.set_cons_succ, a1, inR]
  | list xs => have a1 : Fk T (k + 1) "_law_whole" [.list xs] = .ok (.bool false) := a1; simp (disch := omega) only [runS, List.map_cons, List.map_nil, List.length_cons, List.length_nil, List.replicate, Nat.reduceAdd, Nat.reduceSub, List.cons_append, List.nil_append, M_l_law_in, exS, ev, getE, getO, getTb, asg, asgs, boolD_bool, bin_add, bin_sub, bin_mul, addI, modI, divI, mulI, eqD_ints, neD_ints, ltD_ints, gtD_ints, leD_ints, geD_ints, isN, isNN, tru_bool, tru_list, tru_tup, tru_row, len_list, len_tup, len_row, tup_list, list_tup, list_row, min_two, max_two, int_bool, int_int, itr_list, itr_tup, itr_row, seq_row, seq_list, seq_tup, rng_ok, frzE, R.ok_bind, R.exc_bind, listD_ok, calm_ok, okN, R.guard_true, isDict_row, isDict_int, isDict_tup, isDict_list, isDict_none, isDict_bool, isDict_str, isDict_pair, bndD, seqOk, List.all_cons, List.all_nil, Bool.not_false, Bool.not_true, Bool.and_self, Bool.true_and, Bool.and_true, Bool.false_and, Bool.and_false, List.length_cons, List.length_nil, List.length_map, if_true, if_false, ite_true, ite_false, Bool.false_eq_true, reduceIte, id, ofOpt_some, eqD_rows, neD_rows, eqD_intL, neD_intL, eqD_rowL, neD_rowL, eqD_nil, neD_nil, eqD_nilT, neD_nilT, eqD_nilR, neD_nilR, inD_ints, ninD_ints, inD_row, ninD_row, inD_rows, ninD_rows, mthTy_idx, mthTy_cnt, lens_ints, srts_ints, sorted_ints, List.getElem?_cons_zero, List.getElem?_cons_succ, List.set_cons_zero, List.set_cons_succ, a1, inR]
  | tuple xs => have a1 : Fk T (k + 1) "_law_whole" [.tuple xs] = .ok (.bool false) := a1; simp (disch := omega) only [runS, List.map_cons, List.map_nil, List.length_cons, List.length_nil, List.replicate, Nat.reduceAdd, Nat.reduceSub, List.cons_append, List.nil_append, M_l_law_in, exS, ev, getE, getO, getTb, asg, asgs, boolD_bool, bin_add, bin_sub, bin_mul, addI, modI, divI, mulI, eqD_ints, neD_ints, ltD_ints, gtD_ints, leD_ints, geD_ints, isN, isNN, tru_bool, tru_list, tru_tup, tru_row, len_list, len_tup, len_row, tup_list, list_tup, list_row, min_two, max_two, int_bool, int_int, itr_list, itr_tup, itr_row, seq_row, seq_list, seq_tup, rng_ok, frzE, R.ok_bind, R.exc_bind, listD_ok, calm_ok, okN, R.guard_true, isDict_row, isDict_int, isDict_tup, isDict_list, isDict_none, isDict_bool, isDict_str, isDict_pair, bndD, seqOk, List.all_cons, List.all_nil, Bool.not_false, Bool.not_true, Bool.and_self, Bool.true_and, Bool.and_true, Bool.false_and, Bool.and_false, List.length_cons, List.length_nil, List.length_map, if_true, if_false, ite_true, ite_false, Bool.false_eq_true, reduceIte, id, ofOpt_some, eqD_rows, neD_rows, eqD_intL, neD_intL, eqD_rowL, neD_rowL, eqD_nil, neD_nil, eqD_nilT, neD_nilT, eqD_nilR, neD_nilR, inD_ints, ninD_ints, inD_row, ninD_row, inD_rows, ninD_rows, mthTy_idx, mthTy_cnt, lens_ints, srts_ints, sorted_ints, List.getElem?_cons_zero, List.getElem?_cons_succ, List.set_cons_zero, List.set_cons_succ, a1, inR]
theorem sp_leaves_none (h : HasF T "leaves" 4 M_f_leaves) (k : Nat) : Fk T (k + 1) "leaves" [.none] = .ok .none := by
  rw [h]; rfl
theorem sp_is_tree_none (h : HB T) (h1 : HasF T "leaves" 4 M_f_leaves) (h2 : HasF T "is_tree" 4 M_f_is_tree) (k : Nat) {n : Int} {c : List Int} (hc : AnyC n c) : Fk T (k + 5) "is_tree" [.int n, rowD c, .none] = .ok (.bool false) := by
  have a1 := sp_check_ok h k hc
  have a2 := sp_leaves_none h1 (k + 3)
  rw [h2]
  simp (disch := omega) only [runS, List.map_cons, List.map_nil, List.length_cons, List.length_nil, List.replicate, Nat.reduceAdd, Nat.reduceSub, List.cons_append, List.nil_append, M_f_is_tree, exS, ev, getE, getO, getTb, asg, asgs, boolD_bool, bin_add, bin_sub, bin_mul, addI, modI, divI, mulI, eqD_ints, neD_ints, ltD_ints, gtD_ints, leD_ints, geD_ints, isN, isNN, tru_bool, tru_list, tru_tup, tru_row, len_list, len_tup, len_row, tup_list, list_tup, list_row, min_two, max_two, int_bool, int_int, itr_list, itr_tup, itr_row, seq_row, seq_list, seq_tup, rng_ok, frzE, R.ok_bind, R.exc_bind, listD_ok, calm_ok, okN, R.guard_true, isDict_row, isDict_int, isDict_tup, isDict_list, isDict_none, isDict_bool, isDict_str, isDict_pair, bndD, seqOk, List.all_cons, List.all_nil, Bool.not_false, Bool.not_true, Bool.and_self, Bool.true_and, Bool.and_true, Bool.false_and, Bool.and_false, List.length_cons, List.length_nil, List.length_map, if_true, if_false, ite_true, ite_false, Bool.false_eq_true, reduceIte, id, ofOpt_some, eqD_rows, neD_rows, eqD_intL, neD_intL, eqD_rowL, neD_rowL, eqD_nil, neD_nil, eqD_nilT, neD_nilT, eqD_nilR, neD_nilR, inD_ints, ninD_ints, inD_row, ninD_row, inD_rows, ninD_rows, mthTy_idx, mthTy_cnt, lens_ints, srts_ints, sorted_ints, List.getElem?_cons_zero, List.getElem?_cons_succ, List.set_cons_zero, List.set_cons_succ, a1, a2, isNone]
theorem sp_is_division_none (h : HB T) (h2 : HasF T "is_division" 6 M_f_is_division) (k : Nat) {n : Int} {c : List Int} (hc : AnyC n c) : Fk T (k + 5) "is_division" [.int n, rowD c, .none] = .ok (.bool false) := by
  have a1 := sp_check_ok h k hc
  rw [h2]
  simp (disch := omega) only [runS, List.map_cons, List.map_nil, List.length_cons, List.length_nil, List.replicate, Nat.reduceAdd, Nat.reduceSub, List.cons_append, List.nil_append, M_f_is_division, exS, ev, getE, getO, getTb, asg, asgs, boolD_bool, bin_add, bin_sub, bin_mul, addI, modI, divI, mulI, eqD_ints, neD_ints, ltD_ints, gtD_ints, leD_ints, geD_ints, isN, isNN, tru_bool, tru_list, tru_tup, tru_row, len_list, len_tup, len_row, tup_list, list_tup, list_row, min_two, max_two, int_bool, int_int, itr_list, itr_tup, itr_row, seq_row, seq_list, seq_tup, rng_ok, frzE, R.ok_bind, R.exc_bind, listD_ok, calm_ok, okN, R.guard_true, isDict_row, isDict_int, isDict_tup, isDict_list, isDict_none, isDict_bool, isDict_str, isDict_pair, bndD, seqOk, List.all_cons, List.all_nil, Bool.not_false, Bool.not_true, Bool.and_self, Bool.true_and, Bool.and_true, Bool.false_and, Bool.and_false, List.length_cons, List.length_nil, List.length_map, if_true, if_false, ite_true, ite_false, Bool.false_eq_true, reduceIte, id, ofOpt_some, eqD_rows, neD_rows, eqD_intL, neD_intL, eqD_rowL, neD_rowL, eqD_nil, neD_nil, eqD_nilT, neD_nilT, eqD_nilR, neD_nilR, inD_ints, ninD_ints, inD_row, ninD_row, inD_rows, ninD_rows, mthTy_idx, mthTy_cnt, lens_ints, srts_ints, sorted_ints, List.getElem?_cons_zero, List.getElem?_cons_succ, List.set_cons_zero, List.set_cons_succ, a1, isi_list_n]
end
end TC
set_option Elab.async false
set_option linter.all false
set_option maxRecDepth 100000
set_option maxHeartbeats 0
set_option autoImplicit false
/-! PnA: connected points, marks. Plain mathematics. -/
namespace TC
open PySem
inductive Cn (A : Int → Int → Prop) : Int → Int → Prop
  | refl (a : Int) : Cn A a a
  | step {a b c : Int} : Cn A a b → A b c → Cn A a c
namespace Cn
variable {A : Int → Int → Prop}
theorem one {a b : Int} (h : A a b) : Cn A a b := .step (.refl a) h
theorem trans {a b c : Int} (h : Cn A a b) (h' : Cn A b c) : Cn A a c := by
  induction h' with
  | refl => exact h
  | step _ s ih => exact .step ih s
theorem symm (sy : ∀ a b, A a b → A b a) {a b : Int} (h : Cn A a b) : Cn A b a := by
  induction h with
  | refl => exact .refl _
  | step _ s ih => exact (one (sy _ _ s)).trans ih
theorem closed {P : Int → Prop} (cl : ∀ a b, P a → A a b → P b) {a b : Int} (h : Cn A a b) (ha : P a) : P b := by
  induction h with
  | refl => exact ha
  | step _ s ih => exact cl _ _ ih s
end Cn
/-- two points with a pair of this color -/
def Aj (n : Int) (f : Int → Int → Int) (x : Int) (a b : Int) : Prop := 0 ≤ a ∧ a < n ∧ 0 ≤ b ∧ b < n ∧ a ≠ b ∧ f a b = x
def mg (M : List Int) (p : Int) : Int := M.getD p.toNat 0
structure MkI (n : Int) (A : Int → Int → Prop) (M : List Int) : Prop where
  len : M.length = n.toNat
  lo : ∀ p, 0 ≤ p → p < n → 0 ≤ mg M p
  le : ∀ p, 0 ≤ p → p < n → mg M p ≤ p
  ff : ∀ p, 0 ≤ p → p < n → mg M (mg M p) = mg M p
  cn : ∀ p q, 0 ≤ p → p < n → 0 ≤ q → q < n → mg M p = mg M q → Cn A p q
theorem mg_map {M : List Int} (g : Int → Int) {p n : Int} (hl : M.length = n.toNat) (h0 : 0 ≤ p) (h1 : p < n) : mg (M.map g) p = g (mg M p) := by
  unfold mg
  have : p.toNat < M.length := by omega
  simp [List.getD_eq_getElem?_getD, this]
theorem mg_rI {n p : Int} (h0 : 0 ≤ p) (h1 : p < n) : mg (rI 0 n) p = p := by
  unfold mg rI
  have : p.toNat < (n - 0).toNat := by omega
  rw [List.getD_eq_getElem?_getD, List.getElem?_map, List.getElem?_range this]
  show (0 : Int) + (p.toNat : Nat) = p
  omega
theorem mk_start {n : Int} (A : Int → Int → Prop) : MkI n A (rI 0 n) where
  len := by rw [rI_length, Int.sub_zero]
  lo := fun p h0 h1 => by rw [mg_rI h0 h1]; exact h0
  le := fun p h0 h1 => by rw [mg_rI h0 h1]; exact Int.le_refl _
  ff := fun p h0 h1 => by rw [mg_rI h0 h1, mg_rI h0 h1]
  cn := fun p q h0 h1 h2 h3 e => by rw [mg_rI h0 h1, mg_rI h2 h3] at e; rw [e]; exact .refl _
theorem mk_step {n : Int} {A : Int → Int → Prop} (sy : ∀ a b, A a b → A b a) {M : List Int} {color a b x : Int} (I : MkI n A M) (ha : 0 ≤ a) (hab : a < b) (hb : b < n) (hA : x = color → A a b) :
    MkI n A (mStep color M ((a, b), x)) ∧ (x = color → mg (mStep color M ((a, b), x)) a = mg (mStep color M ((a, b), x)) b) ∧ ∀ p q, 0 ≤ p → p < n → 0 ≤ q → q < n → mg M p = mg M q → mg (mStep color M ((a, b), x)) p = mg (mStep color M ((a, b), x)) q := by
  by_cases e : x = color
  · have hA := hA e
    have es : mStep color M ((a, b), x) = M.map fun m => if m = max (mg M a) (mg M b) then min (mg M a) (mg M b) else m := by
      unfold mStep; rw [if_pos e]; rfl
    rw [es]
    have ev : ∀ p, 0 ≤ p → p < n → mg (M.map fun m => if m = max (mg M a) (mg M b) then min (mg M a) (mg M b) else m) p = if mg M p = max (mg M a) (mg M b) then min (mg M a) (mg M b) else mg M p := fun p h0 h1 => mg_map _ I.len h0 h1
    have la := I.lo a ha (by omega)
    have lb := I.lo b (by omega) hb
    have lea := I.le a ha (by omega)
    have leb := I.le b (by omega) hb
    have ffa := I.ff a ha (by omega)
    have ffb := I.ff b (by omega) hb
    refine ⟨⟨by rw [List.length_map]; exact I.len, fun p h0 h1 => ?_, fun p h0 h1 => ?_, fun p h0 h1 => ?_, fun p q h0 h1 h2 h3 eq => ?_⟩, fun _ => ?_, fun p q h0 h1 h2 h3 eq => ?_⟩
    · rw [ev p h0 h1]
      have := I.lo p h0 h1
      split <;> omega
    · rw [ev p h0 h1]
      have := I.le p h0 h1
      split <;> omega
    · have l1 := I.lo p h0 h1
      have l2 := I.le p h0 h1
      have l3 := I.ff p h0 h1
      rw [ev p h0 h1]
      by_cases e1 : mg M p = max (mg M a) (mg M b)
      · rw [if_pos e1, ev _ (by omega) (by omega)]
        have : mg M (min (mg M a) (mg M b)) = min (mg M a) (mg M b) := by
          rcases Int.le_total (mg M a) (mg M b) with z | z
          · rw [Int.min_eq_left z]; exact ffa
          · rw [Int.min_eq_right z]; exact ffb
        rw [this]
        split <;> rfl
      · rw [if_neg e1, ev _ (by omega) (by omega), l3, if_neg e1]
    · rw [ev p h0 h1, ev q h2 h3] at eq
      have ca := I.cn p a h0 h1 ha (by omega)
      have cb := I.cn p b h0 h1 (by omega) hb
      have ca' := I.cn a q ha (by omega) h2 h3
      have cb' := I.cn b q (by omega) hb h2 h3
      have ab : Cn A a b := .one hA
      have ba : Cn A b a := .one (sy _ _ hA)
      have pq := I.cn p q h0 h1 h2 h3
      by_cases e1 : mg M p = max (mg M a) (mg M b) <;> by_cases e2 : mg M q = max (mg M a) (mg M b)
      · exact pq (e1.trans e2.symm)
      · rw [if_pos e1, if_neg e2] at eq
        rcases Int.le_total (mg M a) (mg M b) with z | z
        · rw [Int.max_eq_right z] at e1
          rw [Int.min_eq_left z] at eq
          exact (cb e1).trans (ba.trans (ca' eq))
        · rw [Int.max_eq_left z] at e1
          rw [Int.min_eq_right z] at eq
          exact (ca e1).trans (ab.trans (cb' eq))
      · rw [if_neg e1, if_pos e2] at eq
        rcases Int.le_total (mg M a) (mg M b) with z | z
        · rw [Int.max_eq_right z] at e2
          rw [Int.min_eq_left z] at eq
          exact (ca eq).trans (ab.trans (cb' e2.symm))
        · rw [Int.max_eq_left z] at e2
          rw [Int.min_eq_right z] at eq
          exact (cb eq).trans (ba.trans (ca' e2.symm))
      · rw [if_neg e1, if_neg e2] at eq
        exact pq eq
    · rw [ev a ha (by omega), ev b (by omega) hb]
      rcases Int.le_total (mg M a) (mg M b) with z | z
      · rw [Int.max_eq_right z, Int.min_eq_left z, if_pos (rfl : mg M b = mg M b)]
        split <;> rfl
      · rw [Int.max_eq_left z, Int.min_eq_right z, if_pos (rfl : mg M a = mg M a)]
        split <;> rfl
    · rw [ev p h0 h1, ev q h2 h3, eq]
  · have es : mStep color M ((a, b), x) = M := by
      unfold mStep; rw [if_neg e]
    rw [es]
    exact ⟨I, fun z => absurd z e, fun p q _ _ _ _ h => h⟩
theorem mk_fold {n : Int} {A : Int → Int → Prop} (sy : ∀ a b, A a b → A b a) (color : Int) : ∀ (z : List ((Int × Int) × Int)) (M : List Int), MkI n A M → (∀ q ∈ z, 0 ≤ q.1.1 ∧ q.1.1 < q.1.2 ∧ q.1.2 < n ∧ (q.2 = color → A q.1.1 q.1.2)) →
    MkI n A (z.foldl (mStep color) M) ∧ (∀ q ∈ z, q.2 = color → mg (z.foldl (mStep color) M) q.1.1 = mg (z.foldl (mStep color) M) q.1.2) ∧ ∀ p q, 0 ≤ p → p < n → 0 ≤ q → q < n → mg M p = mg M q → mg (z.foldl (mStep color) M) p = mg (z.foldl (mStep color) M) q
  | [], M, I, _ => ⟨I, fun q h => (by cases h), fun _ _ _ _ _ _ h => h⟩
  | ((a, b), x) :: z, M, I, hz => by
    obtain ⟨h0, h1, h2, h3⟩ := hz _ List.mem_cons_self
    obtain ⟨s1, s2, s3⟩ := mk_step (x := x) (color := color) sy I h0 h1 h2 h3
    obtain ⟨t1, t2, t3⟩ := mk_fold sy color z _ s1 (fun q hq => hz q (List.mem_cons_of_mem _ hq))
    rw [List.foldl_cons]
    refine ⟨t1, fun q hq hx => ?_, fun p q p0 p1 q0 q1 e => t3 p q p0 p1 q0 q1 (s3 p q p0 p1 q0 q1 e)⟩
    rcases List.mem_cons.mp hq with z' | z'
    · subst z'
      exact t3 a b h0 (by have : a < b := h1; have : b < n := h2; omega) (by have : 0 ≤ a := h0; have : a < b := h1; omega) h2 (s2 hx)
    · exact t2 q z' hx
theorem nodup_pairs {n : Int} (h1 : 0 ≤ n) (h7 : n ≤ 7) : (pairsI n).Nodup := by
  have := pairs_nodup n.toNat (by omega)
  rw [Int.toNat_of_nonneg h1] at this
  exact this
theorem colo_map {n : Int} {c : List Int} (h : Colo n c) : c = (pairsI n).map fun q => col n c q.1 q.2 := by
  have nd := nodup_pairs (by have := h.lo; omega) h.hi
  apply List.ext_getElem
  · rw [List.length_map, h.len]
  · intro i h1 h2
    rw [List.length_map] at h2
    rw [List.getElem_map]
    have hm := mem_pairsI.mp (List.getElem_mem h2)
    unfold col
    rw [Int.min_eq_left (by omega), Int.max_eq_right (by omega)]
    have : ((pairsI n)[i].1, (pairsI n)[i].2) = (pairsI n)[i] := rfl
    rw [this, nd.idxOf_getElem i h2]
    simp [h1]
theorem zip_col {n : Int} {c : List Int} (h : Colo n c) : (pairsI n).zip c = (pairsI n).map fun q => (q, col n c q.1 q.2) := by
  have e := colo_map h
  have e2 : ∀ (g : Int × Int → Int) (P : List (Int × Int)), P.zip (P.map g) = P.map fun q => (q, g q) := fun g P => by
    induction P with
    | nil => rfl
    | cons a P ih => simp [ih]
  rw [← e2 (fun q => col n c q.1 q.2), ← e]
theorem aj_symm {n : Int} {c : List Int} {x : Int} : ∀ a b, Aj n (col n c) x a b → Aj n (col n c) x b a := fun a b h => by
  obtain ⟨h0, h1, h2, h3, h4, h5⟩ := h
  exact ⟨h2, h3, h0, h1, Ne.symm h4, by rw [col_comm]; exact h5⟩
/-- what the marks tell -/
structure Mks (n : Int) (c : List Int) (x : Int) : Prop where
  I : MkI n (Aj n (col n c) x) (marksOf n c x)
  aj : ∀ a b, Aj n (col n c) x a b → mg (marksOf n c x) a = mg (marksOf n c x) b
theorem marks_ok {n : Int} {c : List Int} (h : Colo n c) (x : Int) : Mks n c x := by
  have hz : ∀ q ∈ (pairsI n).zip c, 0 ≤ q.1.1 ∧ q.1.1 < q.1.2 ∧ q.1.2 < n ∧ (q.2 = x → Aj n (col n c) x q.1.1 q.1.2) := fun q hq => by
    rw [zip_col h] at hq
    obtain ⟨p, hp, rfl⟩ := List.mem_map.mp hq
    have := mem_pairsI.mp hp
    exact ⟨this.1, this.2.1, this.2.2, fun e => ⟨this.1, by show p.1 < n; omega, by show 0 ≤ p.2; omega, this.2.2, by show p.1 ≠ p.2; omega, e⟩⟩
  obtain ⟨t1, t2, t3⟩ := mk_fold (A := Aj n (col n c) x) aj_symm x ((pairsI n).zip c) (rI 0 n) (mk_start _) hz
  refine ⟨t1, fun a b hab => ?_⟩
  obtain ⟨h0, h1, h2, h3, h4, h5⟩ := hab
  have key : ∀ a b, 0 ≤ a → a < b → b < n → col n c a b = x → mg (marksOf n c x) a = mg (marksOf n c x) b := fun a b a0 ab bn e => by
    refine t2 ((a, b), x) ?_ rfl
    rw [zip_col h]
    exact List.mem_map.mpr ⟨(a, b), mem_pairsI.mpr ⟨a0, ab, bn⟩, by rw [e]⟩
  rcases Int.lt_trichotomy a b with z | z | z
  · exact key a b h0 z h3 h5
  · exact absurd z h4
  · exact (key b a h2 z h1 (by rw [col_comm]; exact h5)).symm
theorem mk_cn {n : Int} {c : List Int} {x : Int} (m : Mks n c x) {a b : Int} (h : Cn (Aj n (col n c) x) a b) : mg (marksOf n c x) a = mg (marksOf n c x) b :=
  h.closed (P := fun q => mg (marksOf n c x) a = mg (marksOf n c x) q) (fun p q hp hq => hp.trans (m.aj p q hq)) rfl
end TC
set_option Elab.async false
set_option linter.all false
set_option maxRecDepth 100000
set_option maxHeartbeats 0
set_option autoImplicit false
/-! PnB: the classes of the marks; parts grown point by point. -/
namespace TC
open PySem
theorem rI_lt (a b : Int) : (rI a b).Pairwise (· < ·) := by
  unfold rI
  rw [List.pairwise_map]
  exact List.pairwise_lt_range.imp fun h => by omega
theorem rI_nodup (a b : Int) : (rI a b).Nodup := (rI_lt a b).imp fun h => by omega
theorem le_of_lt {l : List Int} (h : l.Pairwise (· < ·)) : l.Pairwise (fun a b => leI a b = true) := h.imp fun h => by unfold leI; exact decide_eq_true (by omega)
theorem isort_filter {p : Int → Bool} {a b : Int} {l : List Int} (nd : l.Nodup) (h : ∀ x, x ∈ l ↔ (a ≤ x ∧ x < b) ∧ p x = true) : isort leI l = (rI a b).filter p := by
  refine (isortI_one ?_ (le_of_lt ((rI_lt a b).filter p))).symm
  rw [List.perm_ext_iff_of_nodup ((rI_nodup a b).filter p) nd]
  intro x
  rw [List.mem_filter, mem_rI, h x]
def cls (n : Int) (M : List Int) (r : Int) : List Int := (rI 0 n).filter fun p => decide (mg M p = r)
def repsI (a b : Int) (M : List Int) : List Int := (rI a b).filter fun r => decide (mg M r = r)
theorem mem_marks {n : Int} {M : List Int} (hl : M.length = n.toNat) {y : Int} : y ∈ M ↔ ∃ p, 0 ≤ p ∧ p < n ∧ mg M p = y := by
  constructor
  · intro h
    obtain ⟨i, hi, rfl⟩ := List.mem_iff_getElem.mp h
    refine ⟨i, by omega, by omega, ?_⟩
    unfold mg
    rw [Int.toNat_natCast]
    simp [hi]
  · rintro ⟨p, h0, h1, rfl⟩
    exact getD_mem (by omega)
theorem partsL_eq {n : Int} {c : List Int} (h : Colo n c) (x : Int) : partsL n c x = (repsI 0 n (marksOf n c x)).map (cls n (marksOf n c x)) := by
  have m := marks_ok h x
  have e : isort leI (ddup (marksOf n c x)) = repsI 0 n (marksOf n c x) := by
    refine isort_filter (ddup_nodup _) fun y => ?_
    rw [mem_ddup, mem_marks m.I.len, decide_eq_true_eq]
    constructor
    · rintro ⟨p, h0, h1, rfl⟩
      have := m.I.lo p h0 h1
      have := m.I.le p h0 h1
      exact ⟨⟨by omega, by omega⟩, m.I.ff p h0 h1⟩
    · rintro ⟨⟨h0, h1⟩, h2⟩
      exact ⟨y, h0, h1, h2⟩
  unfold partsL
  rw [e]; rfl
/-! growing -/
def addIf (f : Int → Int → Int) (x : Int) (P : List Int) (o : Int) : List Int := if x ∈ P.map (f o) then P ++ [o] else P
def nearL (n : Int) (P : List Int) : List Int := (rI 0 n).filter fun o => !decide (o ∈ P)
def roundP (f : Int → Int → Int) (x n : Int) (P : List Int) : List Int := (nearL n P).foldl (addIf f x) P
def growN (f : Int → Int → Int) (x n s : Int) : Nat → List Int
  | 0 => [s]
  | t + 1 => roundP f x n (growN f x n s t)
structure Gr (n : Int) (f : Int → Int → Int) (x s : Int) (P : List Int) : Prop where
  nd : P.Nodup
  rg : ∀ p ∈ P, 0 ≤ p ∧ p < n
  cn : ∀ p ∈ P, Cn (Aj n f x) s p
  st : s ∈ P
theorem fold_add {n : Int} {f : Int → Int → Int} (sy : ∀ a b, f a b = f b a) {x s : Int} : ∀ (L P : List Int), Gr n f x s P → L.Nodup → (∀ o ∈ L, 0 ≤ o ∧ o < n ∧ o ∉ P) →
    Gr n f x s (L.foldl (addIf f x) P) ∧ P.length ≤ (L.foldl (addIf f x) P).length ∧ ((L.foldl (addIf f x) P).length = P.length → (L.foldl (addIf f x) P) = P ∧ ∀ o ∈ L, x ∉ P.map (f o)) ∧ ((∀ o ∈ L, x ∉ P.map (f o)) → L.foldl (addIf f x) P = P)
  | [], P, g, _, _ => ⟨g, Nat.le_refl _, fun _ => ⟨rfl, fun _ h => by cases h⟩, fun _ => rfl⟩
  | o :: L, P, g, nd, hL => by
    have nd' := List.nodup_cons.mp nd
    obtain ⟨o0, o1, o2⟩ := hL o List.mem_cons_self
    rw [List.foldl_cons]
    by_cases e : x ∈ P.map (f o)
    · have ea : addIf f x P o = P ++ [o] := by unfold addIf; rw [if_pos e]
      rw [ea]
      have g' : Gr n f x s (P ++ [o]) := by
        refine ⟨?_, fun p hp => ?_, fun p hp => ?_, List.mem_append_left _ g.st⟩
        · rw [List.nodup_append]
          refine ⟨g.nd, by simp, fun a ha b hb => ?_⟩
          rw [List.mem_singleton] at hb
          subst hb
          exact fun z => o2 (z ▸ ha)
        · rcases List.mem_append.mp hp with z | z
          · exact g.rg p z
          · rw [List.mem_singleton] at z; subst z; exact ⟨o0, o1⟩
        · rcases List.mem_append.mp hp with z | z
          · exact g.cn p z
          · rw [List.mem_singleton] at z
            subst z
            obtain ⟨q, hq, eq⟩ := List.mem_map.mp e
            have hr := g.rg q hq
            exact .step (g.cn q hq) ⟨hr.1, hr.2, o0, o1, fun z => o2 (z ▸ hq), by rw [sy]; exact eq⟩
      obtain ⟨t1, t2, t3, t4⟩ := fold_add sy L (P ++ [o]) g' nd'.2 (fun p hp => by
        obtain ⟨a, b, d⟩ := hL p (List.mem_cons_of_mem _ hp)
        refine ⟨a, b, fun z => ?_⟩
        rcases List.mem_append.mp z with y | y
        · exact d y
        · rw [List.mem_singleton] at y; subst y; exact nd'.1 hp)
      rw [List.length_append, List.length_singleton] at t2 t3
      exact ⟨t1, by omega, fun h => by omega, fun h => absurd e (h o List.mem_cons_self)⟩
    · have ea : addIf f x P o = P := by unfold addIf; rw [if_neg e]
      rw [ea]
      obtain ⟨t1, t2, t3, t4⟩ := fold_add sy L P g nd'.2 (fun p hp => hL p (List.mem_cons_of_mem _ hp))
      refine ⟨t1, t2, fun h => ⟨(t3 h).1, fun p hp => ?_⟩, fun h => t4 fun p hp => h p (List.mem_cons_of_mem _ hp)⟩
      rcases List.mem_cons.mp hp with z | z
      · subst z; exact e
      · exact (t3 h).2 p z
def ClosedP (n : Int) (f : Int → Int → Int) (x : Int) (P : List Int) : Prop := ∀ a b, a ∈ P → Aj n f x a b → b ∈ P
theorem near_mem {n : Int} {P : List Int} {o : Int} : o ∈ nearL n P ↔ 0 ≤ o ∧ o < n ∧ o ∉ P := by
  unfold nearL
  rw [List.mem_filter, mem_rI]
  simp [and_assoc]
theorem round_ok {n : Int} {f : Int → Int → Int} (sy : ∀ a b, f a b = f b a) {x s : Int} {P : List Int} (g : Gr n f x s P) :
    Gr n f x s (roundP f x n P) ∧ (ClosedP n f x P → roundP f x n P = P) ∧ (ClosedP n f x P ∨ P.length + 1 ≤ (roundP f x n P).length) := by
  obtain ⟨t1, t2, t3, t4⟩ := fold_add sy (nearL n P) P g ((rI_nodup 0 n).filter _) (fun o ho => near_mem.mp ho)
  refine ⟨t1, fun cl => t4 fun o ho he => ?_, ?_⟩
  · obtain ⟨h0, h1, h2⟩ := near_mem.mp ho
    obtain ⟨q, hq, eq⟩ := List.mem_map.mp he
    have hr := g.rg q hq
    exact h2 (cl q o hq ⟨hr.1, hr.2, h0, h1, fun z => h2 (z ▸ hq), by rw [sy]; exact eq⟩)
  · by_cases e : (roundP f x n P).length = P.length
    · left
      intro a b ha hab
      obtain ⟨a0, a1, b0, b1, ne, fx⟩ := hab
      by_cases hb : b ∈ P
      · exact hb
      · exact absurd (List.mem_map.mpr ⟨a, ha, by rw [sy]; exact fx⟩) ((t3 e).2 b (near_mem.mpr ⟨b0, b1, hb⟩))
    · right
      have t2 : P.length ≤ (roundP f x n P).length := t2
      omega
theorem grow_ok {n : Int} {f : Int → Int → Int} (sy : ∀ a b, f a b = f b a) {x s : Int} (h0 : 0 ≤ s) (h1 : s < n) : ∀ t : Nat, Gr n f x s (growN f x n s t) ∧ (ClosedP n f x (growN f x n s t) ∨ t + 1 ≤ (growN f x n s t).length)
  | 0 => ⟨⟨List.nodup_cons.mpr ⟨by simp, List.nodup_nil⟩, fun p hp => by rw [List.mem_singleton.mp hp]; exact ⟨h0, h1⟩, fun p hp => by rw [List.mem_singleton.mp hp]; exact .refl _, List.mem_cons_self⟩, .inr (by show 0 + 1 ≤ 1; omega)⟩
  | t + 1 => by
    obtain ⟨g, d⟩ := grow_ok sy h0 h1 t
    obtain ⟨r1, r2, r3⟩ := round_ok sy g
    refine ⟨r1, ?_⟩
    rcases d with cl | d
    · left
      show ClosedP n f x (roundP f x n (growN f x n s t))
      rw [r2 cl]; exact cl
    · rcases r3 with cl | r3
      · left
        show ClosedP n f x (roundP f x n (growN f x n s t))
        rw [r2 cl]; exact cl
      · right
        show t + 1 + 1 ≤ (roundP f x n (growN f x n s t)).length
        omega
theorem grow_mem {n : Int} {f : Int → Int → Int} (sy : ∀ a b, f a b = f b a) {x s : Int} (h0 : 0 ≤ s) (h1 : s < n) (p : Int) : p ∈ growN f x n s n.toNat ↔ (0 ≤ p ∧ p < n) ∧ Cn (Aj n f x) s p := by
  obtain ⟨g, d⟩ := grow_ok (x := x) sy h0 h1 n.toNat
  have cl : ClosedP n f x (growN f x n s n.toNat) := by
    rcases d with d | d
    · exact d
    · have := g.nd.length_le_of_subset (l₂ := rI 0 n) (fun p hp => by rw [mem_rI]; exact g.rg p hp)
      rw [rI_length] at this
      omega
  constructor
  · exact fun h => ⟨g.rg p h, g.cn p h⟩
  · exact fun h => h.2.closed (P := fun q => q ∈ growN f x n s n.toNat) cl g.st
theorem grow_cls {n : Int} {c : List Int} (h : Colo n c) {x s : Int} (h0 : 0 ≤ s) (h1 : s < n) : isort leI (growN (col n c) x n s n.toNat) = cls n (marksOf n c x) (mg (marksOf n c x) s) := by
  have m := marks_ok h x
  refine isort_filter (grow_ok (x := x) (col_comm n c) h0 h1 n.toNat).1.nd fun y => ?_
  rw [grow_mem (col_comm n c) h0 h1, decide_eq_true_eq]
  constructor
  · exact fun z => ⟨z.1, (mk_cn m z.2).symm⟩
  · exact fun z => ⟨z.1, m.I.cn s y h0 h1 z.1.1 z.1.2 z.2.symm⟩
/-! the list of the classes -/
def stepF (f : Int → Int → Int) (x n : Int) (F : List (List Int)) (s : Int) : List (List Int) := if (F.filter fun p => decide (s ∈ p)).isEmpty then F ++ [isort leI (growN f x n s n.toNat)] else F
theorem repsI_snoc {M : List Int} {s : Int} (h : 0 ≤ s) : repsI 0 (s + 1) M = repsI 0 s M ++ if mg M s = s then [s] else [] := by
  unfold repsI
  rw [rI_snoc h, List.filter_append]
  congr 1
  by_cases e : mg M s = s <;> simp [e]
theorem found_ok {n : Int} {c : List Int} (h : Colo n c) (x : Int) : ∀ m : Nat, (m : Int) ≤ n → (rI 0 m).foldl (stepF (col n c) x n) [] = (repsI 0 m (marksOf n c x)).map (cls n (marksOf n c x))
  | 0, _ => by
    have : rI 0 ((0 : Nat) : Int) = [] := rI_nil (by decide)
    unfold repsI
    rw [this]; rfl
  | m + 1, hm => by
    have mk := marks_ok h x
    have ih := found_ok h x m (by omega)
    have : ((m + 1 : Nat) : Int) = (m : Int) + 1 := by omega
    rw [this, rI_snoc (by omega), List.foldl_append, ih, List.foldl_cons, List.foldl_nil, repsI_snoc (by omega), List.map_append]
    unfold stepF
    have m0 := mk.I.lo m (by omega) (by omega)
    have m1 := mk.I.le m (by omega) (by omega)
    have m2 := mk.I.ff m (by omega) (by omega)
    by_cases e : mg (marksOf n c x) m = m
    · have em : (((repsI 0 m (marksOf n c x)).map (cls n (marksOf n c x))).filter fun p => decide ((m : Int) ∈ p)).isEmpty = true := by
        rw [List.isEmpty_iff, List.filter_eq_nil_iff]
        intro p hp
        obtain ⟨r, hr, rfl⟩ := List.mem_map.mp hp
        unfold repsI at hr
        rw [List.mem_filter, mem_rI] at hr
        unfold cls
        simp only [decide_eq_true_eq, List.mem_filter]
        intro z
        omega
      rw [if_pos em, grow_cls h (by omega) (by omega), e, if_pos rfl]; rfl
    · have em : ¬ (((repsI 0 m (marksOf n c x)).map (cls n (marksOf n c x))).filter fun p => decide ((m : Int) ∈ p)).isEmpty = true := by
        rw [List.isEmpty_iff, List.filter_eq_nil_iff]
        intro z
        refine z (cls n (marksOf n c x) (mg (marksOf n c x) m)) (List.mem_map.mpr ⟨_, ?_, rfl⟩) ?_
        · unfold repsI
          rw [List.mem_filter, mem_rI, decide_eq_true_eq]
          exact ⟨⟨m0, by omega⟩, m2⟩
        · unfold cls
          rw [decide_eq_true_eq, List.mem_filter, mem_rI, decide_eq_true_eq]
          exact ⟨⟨by omega, by omega⟩, rfl⟩
      rw [if_neg em, if_neg e]; simp
theorem rI_split {a b r : Int} (h1 : a ≤ r) (h2 : r < b) : rI a b = rI a r ++ r :: rI (r + 1) b := by
  obtain ⟨k, hk⟩ := Int.eq_ofNat_of_zero_le (show 0 ≤ r - a by omega)
  have hr : r = a + k := by omega
  clear hk
  induction k generalizing a with
  | zero =>
    have : r = a := by omega
    subst this
    rw [rI_nil (Int.le_refl _), rI_cons h2]; rfl
  | succ k ih =>
    rw [rI_cons (show a < b by omega), rI_cons (show a < r by omega), ih (by omega) (by omega)]; rfl
theorem cls_head {n : Int} {c : List Int} {x : Int} (m : Mks n c x) {r : Int} (h0 : 0 ≤ r) (h1 : r < n) (e : mg (marksOf n c x) r = r) : ∃ t, cls n (marksOf n c x) r = r :: t := by
  unfold cls
  rw [rI_split h0 h1, List.filter_append]
  have : (rI 0 r).filter (fun p => decide (mg (marksOf n c x) p = r)) = [] := by
    rw [List.filter_eq_nil_iff]
    intro p hp
    rw [mem_rI] at hp
    have := m.I.le p (by omega) (by omega)
    simp only [decide_eq_true_eq]
    omega
  rw [this, List.nil_append, List.filter_cons, if_pos (decide_eq_true e)]
  exact ⟨_, rfl⟩
theorem leL_of_lt {a b : Int} {s t : List Int} (h : a < b) : leL (a :: s) (b :: t) = true := by
  rw [leL_iff, List.cons_le_cons_iff]
  exact .inl h
theorem found_sorted {n : Int} {c : List Int} (h : Colo n c) (x : Int) : isort leL ((repsI 0 n (marksOf n c x)).map (cls n (marksOf n c x))) = (repsI 0 n (marksOf n c x)).map (cls n (marksOf n c x)) := by
  have mk := marks_ok h x
  refine (isortL_one (List.Perm.refl _) ?_).symm
  rw [List.pairwise_map]
  have : (repsI 0 n (marksOf n c x)).Pairwise (· < ·) := (rI_lt 0 n).filter _
  refine List.Pairwise.imp_of_mem ?_ this
  intro a b ha hb hab
  unfold repsI at ha hb
  rw [List.mem_filter, mem_rI, decide_eq_true_eq] at ha hb
  obtain ⟨s, hs⟩ := cls_head mk ha.1.1 ha.1.2 ha.2
  obtain ⟨t, ht⟩ := cls_head mk hb.1.1 hb.1.2 hb.2
  rw [hs, ht]
  exact leL_of_lt hab
end TC
set_option Elab.async false
set_option linter.all false
set_option maxRecDepth 100000
set_option maxHeartbeats 0
set_option autoImplicit false
/-! PmO: the laws' parts. -/
namespace TC
open PySem
theorem toInts_row (l : List Int) : toInts (l.map .int) = some l := toInts_map l
theorem toRows_rows : ∀ L : List (List Int), toRows (L.map rowD) = some L
  | [] => rfl
  | l :: L => by
    show (toInts (l.map .int)).bind (fun a => (toRows (L.map rowD)).map (a :: ·)) = _
    rw [toInts_map, toRows_rows L]; rfl
theorem sorted_rows {L : List (List Int)} (h : ∀ l ∈ L, l ≠ []) : bltD "sorted" [.list (L.map rowD)] = .ok (.list ((isort leL L).map rowD)) := by
  have e : bltD "sorted" [.list (L.map rowD)] = sortD (L.map rowD) := rfl
  rw [e]
  unfold sortD
  cases L with
  | nil => rfl
  | cons l L =>
    have h1 : toInts ((l :: L).map rowD) = none := rfl
    rw [h1, toRows_rows]
    have : ((l :: L).all fun l => !l.isEmpty) = true := by
      rw [List.all_eq_true]
      intro x hx
      have := h x hx
      cases x with
      | nil => exact absurd rfl this
      | cons a r => rfl
    show (R.guard ((l :: L).all fun l => !l.isEmpty)).bind _ = _
    rw [this]; rfl
section
variable {T : List Df}
theorem sp_law_parts (h0 : HasF T "_law_pairs" 4 M_l_law_pairs) (h1 : HasF T "_law_at" 4 M_l_law_at) (h : HasF T "_law_parts" 10 M_l_law_parts) (k : Nat) {n : Int} {c : List Int} (hc : Colo n c) (x : Int) : Fk T (k + 3) "_law_parts" [.int n, rowD c, .int x] = .ok (.list ((partsL n c x).map rowD)) := by
  have hn1 := hc.lo
  have hn7 := hc.hi
  have at_ : ∀ {a b : Int}, 0 ≤ a → a < n → 0 ≤ b → b < n → a ≠ b → Fk T (k + 2) "_law_at" [.int n, rowD c, .int a, .int b] = .ok (.int (col n c a b)) := fun ha ha' hb hb' hab => sp_law_at h0 h1 k hc ha ha' hb hb' hab
  have rl : ∀ P : List Int, P.Nodup → (∀ p ∈ P, 0 ≤ p ∧ p < n) → P.length ≤ 7 := fun P nd rg => by
    have := nd.length_le_of_subset (l₂ := rI 0 n) (fun p hp => by rw [mem_rI]; exact rg p hp)
    rw [rI_length] at this
    omega
  have comp3 : ∀ (P : List Int) (o : Int) (s3 s4 s6 s8 s9 : Sl), P.length ≤ 7 → 0 ≤ o → o < n → o ∉ P → (∀ p ∈ P, 0 ≤ p ∧ p < n) → ev (Fk T (k + 2)) M_l_law_parts_C3 [.v (.int n), .v (rowD c), .v (.int x), s3, s4, .v (.list (P.map .int)), s6, .v (.int o), s8, s9] = .ok (.list ((P.map (col n c o)).map .int)) := fun P o s3 s4 s6 s8 s9 hP o0 o1 o2 hr => by
    rw [List.map_map]
    refine lc_ok (F := Fk T (k + 2)) (t := .nm 9) PyData.int (fun p => .int (col n c o p)) P ?_ ?_ (seqOk_map (by omega) (fun _ => rfl))
    · simp (disch := omega) only [exS, ev, getE, getO, getTb, asg, asgs, boolD_bool, bin_add, bin_sub, bin_mul, addI, modI, divI, mulI, eqD_ints, neD_ints, ltD_ints, gtD_ints, leD_ints, geD_ints, isN, isNN, tru_bool, tru_list, tru_tup, tru_row, len_list, len_tup, len_row, tup_list, list_tup, list_row, min_two, max_two, int_bool, int_int, itr_list, itr_tup, itr_row, seq_row, seq_list, seq_tup, rng_ok, frzE, R.ok_bind, R.exc_bind, listD_ok, calm_ok, okN, R.guard_true, isDict_row, isDict_int, isDict_tup, isDict_list, isDict_none, isDict_bool, isDict_str, isDict_pair, bndD, seqOk, List.all_cons, List.all_nil, Bool.not_false, Bool.not_true, Bool.and_self, Bool.true_and, Bool.and_true, Bool.false_and, Bool.and_false, List.length_cons, List.length_nil, List.length_map, if_true, if_false, ite_true, ite_false, Bool.false_eq_true, reduceIte, id, ofOpt_some, eqD_rows, neD_rows, eqD_intL, neD_intL, eqD_rowL, neD_rowL, eqD_nil, neD_nil, eqD_nilT, neD_nilT, eqD_nilR, neD_nilR, inD_ints, ninD_ints, inD_row, ninD_row, inD_rows, ninD_rows, mthTy_idx, mthTy_cnt, lens_ints, srts_ints, sorted_ints, List.getElem?_cons_zero, List.getElem?_cons_succ, List.set_cons_zero, List.set_cons_succ]
    · intro p hp
      have hr := hr p hp
      have a1 := at_ o0 o1 hr.1 hr.2 (fun z => o2 (z ▸ hp))
      refine ⟨_, rfl, ?_⟩
      simp (disch := omega) only [exS, ev, getE, getO, getTb, asg, asgs, boolD_bool, bin_add, bin_sub, bin_mul, addI, modI, divI, mulI, eqD_ints, neD_ints, ltD_ints, gtD_ints, leD_ints, geD_ints, isN, isNN, tru_bool, tru_list, tru_tup, tru_row, len_list, len_tup, len_row, tup_list, list_tup, list_row, min_two, max_two, int_bool, int_int, itr_list, itr_tup, itr_row, seq_row, seq_list, seq_tup, rng_ok, frzE, R.ok_bind, R.exc_bind, listD_ok, calm_ok, okN, R.guard_true, isDict_row, isDict_int, isDict_tup, isDict_list, isDict_none, isDict_bool, isDict_str, isDict_pair, bndD, seqOk, List.all_cons, List.all_nil, Bool.not_false, Bool.not_true, Bool.and_self, Bool.true_and, Bool.and_true, Bool.false_and, Bool.and_false, List.length_cons, List.length_nil, List.length_map, if_true, if_false, ite_true, ite_false, Bool.false_eq_true, reduceIte, id, ofOpt_some, eqD_rows, neD_rows, eqD_intL, neD_intL, eqD_rowL, neD_rowL, eqD_nil, neD_nil, eqD_nilT, neD_nilT, eqD_nilR, neD_nilR, inD_ints, ninD_ints, inD_row, ninD_row, inD_rows, ninD_rows, mthTy_idx, mthTy_cnt, lens_ints, srts_ints, sorted_ints, List.getElem?_cons_zero, List.getElem?_cons_succ, List.set_cons_zero, List.set_cons_succ, wipeE, slots, a1]
  have comp2 : ∀ (P : List Int) (s3 s4 s6 s7 s8 s9 : Sl), ev (Fk T (k + 2)) M_l_law_parts_C2 [.v (.int n), .v (rowD c), .v (.int x), s3, s4, .v (.list (P.map .int)), s6, s7, s8, s9] = .ok (.list ((nearL n P).map .int)) := fun P s3 s4 s6 s7 s8 s9 => by
    refine lcf_ok (F := Fk T (k + 2)) (t := .nm 7) PyData.int (fun o => !decide (o ∈ P)) PyData.int (rI 0 n) ?_ ?_ (seqOk_filter (by rw [rI_length]; omega) (fun _ => rfl))
    · simp (disch := omega) only [exS, ev, getE, getO, getTb, asg, asgs, boolD_bool, bin_add, bin_sub, bin_mul, addI, modI, divI, mulI, eqD_ints, neD_ints, ltD_ints, gtD_ints, leD_ints, geD_ints, isN, isNN, tru_bool, tru_list, tru_tup, tru_row, len_list, len_tup, len_row, tup_list, list_tup, list_row, min_two, max_two, int_bool, int_int, itr_list, itr_tup, itr_row, seq_row, seq_list, seq_tup, rng_ok, frzE, R.ok_bind, R.exc_bind, listD_ok, calm_ok, okN, R.guard_true, isDict_row, isDict_int, isDict_tup, isDict_list, isDict_none, isDict_bool, isDict_str, isDict_pair, bndD, seqOk, List.all_cons, List.all_nil, Bool.not_false, Bool.not_true, Bool.and_self, Bool.true_and, Bool.and_true, Bool.false_and, Bool.and_false, List.length_cons, List.length_nil, List.length_map, if_true, if_false, ite_true, ite_false, Bool.false_eq_true, reduceIte, id, ofOpt_some, eqD_rows, neD_rows, eqD_intL, neD_intL, eqD_rowL, neD_rowL, eqD_nil, neD_nil, eqD_nilT, neD_nilT, eqD_nilR, neD_nilR, inD_ints, ninD_ints, inD_row, ninD_row, inD_rows, ninD_rows, mthTy_idx, mthTy_cnt, lens_ints, srts_ints, sorted_ints, List.getElem?_cons_zero, List.getElem?_cons_succ, List.set_cons_zero, List.set_cons_succ]
    · intro o ho
      refine ⟨_, rfl, ?_, fun _ => ?_⟩
      · simp (disch := omega) only [exS, ev, getE, getO, getTb, asg, asgs, boolD_bool, bin_add, bin_sub, bin_mul, addI, modI, divI, mulI, eqD_ints, neD_ints, ltD_ints, gtD_ints, leD_ints, geD_ints, isN, isNN, tru_bool, tru_list, tru_tup, tru_row, len_list, len_tup, len_row, tup_list, list_tup, list_row, min_two, max_two, int_bool, int_int, itr_list, itr_tup, itr_row, seq_row, seq_list, seq_tup, rng_ok, frzE, R.ok_bind, R.exc_bind, listD_ok, calm_ok, okN, R.guard_true, isDict_row, isDict_int, isDict_tup, isDict_list, isDict_none, isDict_bool, isDict_str, isDict_pair, bndD, seqOk, List.all_cons, List.all_nil, Bool.not_false, Bool.not_true, Bool.and_self, Bool.true_and, Bool.and_true, Bool.false_and, Bool.and_false, List.length_cons, List.length_nil, List.length_map, if_true, if_false, ite_true, ite_false, Bool.false_eq_true, reduceIte, id, ofOpt_some, eqD_rows, neD_rows, eqD_intL, neD_intL, eqD_rowL, neD_rowL, eqD_nil, neD_nil, eqD_nilT, neD_nilT, eqD_nilR, neD_nilR, inD_ints, ninD_ints, inD_row, ninD_row, inD_rows, ninD_rows, mthTy_idx, mthTy_cnt, lens_ints, srts_ints, sorted_ints, List.getElem?_cons_zero, List.getElem?_cons_succ, List.set_cons_zero, List.set_cons_succ, wipeE, slots]
      · simp (disch := omega) only [exS, ev, getE, getO, getTb, asg, asgs, boolD_bool, bin_add, bin_sub, bin_mul, addI, modI, divI, mulI, eqD_ints, neD_ints, ltD_ints, gtD_ints, leD_ints, geD_ints, isN, isNN, tru_bool, tru_list, tru_tup, tru_row, len_list, len_tup, len_row, tup_list, list_tup, list_row, min_two, max_two, int_bool, int_int, itr_list, itr_tup, itr_row, seq_row, seq_list, seq_tup, rng_ok, frzE, R.ok_bind, R.exc_bind, listD_ok, calm_ok, okN, R.guard_true, isDict_row, isDict_int, isDict_tup, isDict_list, isDict_none, isDict_bool, isDict_str, isDict_pair, bndD, seqOk, List.all_cons, List.all_nil, Bool.not_false, Bool.not_true, Bool.and_self, Bool.true_and, Bool.and_true, Bool.false_and, Bool.and_false, List.length_cons, List.length_nil, List.length_map, if_true, if_false, ite_true, ite_false, Bool.false_eq_true, reduceIte, id, ofOpt_some, eqD_rows, neD_rows, eqD_intL, neD_intL, eqD_rowL, neD_rowL, eqD_nil, neD_nil, eqD_nilT, neD_nilT, eqD_nilR, neD_nilR, inD_ints, ninD_ints, inD_row, ninD_row, inD_rows, ninD_rows, mthTy_idx, mthTy_cnt, lens_ints, srts_ints, sorted_ints, List.getElem?_cons_zero, List.getElem?_cons_succ, List.set_cons_zero, List.set_cons_succ, wipeE, slots]
  have loop3 : ∀ (s : Int) (P : List Int) (s3 s4 s6 s7 s8 s9 : Sl), Gr n (col n c) x s P → ∃ e', forG (.nm 7) (exS (Fk T (k + 2)) M_l_law_parts_L3) ((nearL n P).map .int) [.v (.int n), .v (rowD c), .v (.int x), s3, s4, .v (.list (P.map .int)), s6, s7, s8, s9] = .ok (.nx e') ∧
      ∃ s7 s9, e' = [.v (.int n), .v (rowD c), .v (.int x), s3, s4, .v (.list ((roundP (col n c) x n P).map .int)), s6, s7, s8, s9] := fun s P s3 s4 s6 s7 s8 s9 g => by
    refine for_pre PyData.int (fun Q e' => ∃ s7 s9, e' = [.v (.int n), .v (rowD c), .v (.int x), s3, s4, .v (.list ((Q.foldl (addIf (col n c) x) P).map .int)), s6, s7, s8, s9]) (nearL n P) ?_ _ ⟨s7, s9, rfl⟩
    rintro Q o r hQ e ⟨s7, s9, rfl⟩
    have ho : o ∈ nearL n P := by rw [hQ]; simp
    obtain ⟨o0, o1, o2⟩ := near_mem.mp ho
    have ndn : (nearL n P).Nodup := (rI_nodup 0 n).filter _
    rw [hQ] at ndn
    have nd2 := List.nodup_append.mp ndn
    obtain ⟨t1, t2, t3, t4⟩ := fold_add (col_comm n c) Q P g nd2.1 (fun p hp => near_mem.mp (by rw [hQ]; simp [hp]))
    have onot : o ∉ Q.foldl (addIf (col n c) x) P := by
      have sub : ∀ (Q P : List Int), ∀ p ∈ Q.foldl (addIf (col n c) x) P, p ∈ P ∨ p ∈ Q := fun Q => by
        induction Q with
        | nil => intro P p hp; exact .inl hp
        | cons q Q ih =>
          intro P p hp
          rw [List.foldl_cons] at hp
          rcases ih _ p hp with z | z
          · unfold addIf at z
            split at z
            · rcases List.mem_append.mp z with y | y
              · exact .inl y
              · rw [List.mem_singleton] at y; subst y; exact .inr List.mem_cons_self
            · exact .inl z
          · exact .inr (List.mem_cons_of_mem _ z)
      intro z
      rcases sub Q P o z with y | y
      · exact o2 y
      · exact nd2.2.2 o y o List.mem_cons_self rfl
    have l7 := rl _ t1.nd t1.rg
    have cc := comp3 (Q.foldl (addIf (col n c) x) P) o s3 s4 s6 s8 s9 l7 o0 o1 onot t1.rg
    rw [List.foldl_append, List.foldl_cons, List.foldl_nil]
    generalize Q.foldl (addIf (col n c) x) P = W at *
    by_cases e : x ∈ W.map (col n c o)
    · have ea : addIf (col n c) x W o = W ++ [o] := by unfold addIf; rw [if_pos e]
      rw [ea]
      have ad : addD (.list (W.map .int)) (.list [.int o]) = .ok (.list ((W ++ [o]).map .int)) := by
        rw [addL (by rw [List.length_map, List.length_singleton]; omega), List.map_append]; rfl
      refine ⟨_, ?_, .v (.int o), s9, rfl⟩
      simp (disch := omega) only [M_l_law_parts_L3, exS, ev, getE, getO, getTb, asg, asgs, boolD_bool, bin_add, bin_sub, bin_mul, addI, modI, divI, mulI, eqD_ints, neD_ints, ltD_ints, gtD_ints, leD_ints, geD_ints, isN, isNN, tru_bool, tru_list, tru_tup, tru_row, len_list, len_tup, len_row, tup_list, list_tup, list_row, min_two, max_two, int_bool, int_int, itr_list, itr_tup, itr_row, seq_row, seq_list, seq_tup, rng_ok, frzE, R.ok_bind, R.exc_bind, listD_ok, calm_ok, okN, R.guard_true, isDict_row, isDict_int, isDict_tup, isDict_list, isDict_none, isDict_bool, isDict_str, isDict_pair, bndD, seqOk, List.all_cons, List.all_nil, Bool.not_false, Bool.not_true, Bool.and_self, Bool.true_and, Bool.and_true, Bool.false_and, Bool.and_false, List.length_cons, List.length_nil, List.length_map, if_true, if_false, ite_true, ite_false, Bool.false_eq_true, reduceIte, id, ofOpt_some, eqD_rows, neD_rows, eqD_intL, neD_intL, eqD_rowL, neD_rowL, eqD_nil, neD_nil, eqD_nilT, neD_nilT, eqD_nilR, neD_nilR, inD_ints, ninD_ints, inD_row, ninD_row, inD_rows, ninD_rows, mthTy_idx, mthTy_cnt, lens_ints, srts_ints, sorted_ints, List.getElem?_cons_zero, List.getElem?_cons_succ, List.set_cons_zero, List.set_cons_succ, cc, decide_eq_true e, ad]
    · have ea : addIf (col n c) x W o = W := by unfold addIf; rw [if_neg e]
      rw [ea]
      refine ⟨_, ?_, .v (.int o), s9, rfl⟩
      simp (disch := omega) only [M_l_law_parts_L3, exS, ev, getE, getO, getTb, asg, asgs, boolD_bool, bin_add, bin_sub, bin_mul, addI, modI, divI, mulI, eqD_ints, neD_ints, ltD_ints, gtD_ints, leD_ints, geD_ints, isN, isNN, tru_bool, tru_list, tru_tup, tru_row, len_list, len_tup, len_row, tup_list, list_tup, list_row, min_two, max_two, int_bool, int_int, itr_list, itr_tup, itr_row, seq_row, seq_list, seq_tup, rng_ok, frzE, R.ok_bind, R.exc_bind, listD_ok, calm_ok, okN, R.guard_true, isDict_row, isDict_int, isDict_tup, isDict_list, isDict_none, isDict_bool, isDict_str, isDict_pair, bndD, seqOk, List.all_cons, List.all_nil, Bool.not_false, Bool.not_true, Bool.and_self, Bool.true_and, Bool.and_true, Bool.false_and, Bool.and_false, List.length_cons, List.length_nil, List.length_map, if_true, if_false, ite_true, ite_false, Bool.false_eq_true, reduceIte, id, ofOpt_some, eqD_rows, neD_rows, eqD_intL, neD_intL, eqD_rowL, neD_rowL, eqD_nil, neD_nil, eqD_nilT, neD_nilT, eqD_nilR, neD_nilR, inD_ints, ninD_ints, inD_row, ninD_row, inD_rows, ninD_rows, mthTy_idx, mthTy_cnt, lens_ints, srts_ints, sorted_ints, List.getElem?_cons_zero, List.getElem?_cons_succ, List.set_cons_zero, List.set_cons_succ, cc, decide_eq_false e]
  have loop2 : ∀ (s : Int) (s3 s4 s6 s7 s8 s9 : Sl), 0 ≤ s → s < n → ∃ e', forG (.nm 6) (exS (Fk T (k + 2)) M_l_law_parts_L2) ((rI 0 n).map .int) [.v (.int n), .v (rowD c), .v (.int x), s3, s4, .v (.list ([s].map .int)), s6, s7, s8, s9] = .ok (.nx e') ∧
      ∃ s6 s7 s8 s9, e' = [.v (.int n), .v (rowD c), .v (.int x), s3, s4, .v (.list ((growN (col n c) x n s n.toNat).map .int)), s6, s7, s8, s9] := fun s s3 s4 s6 s7 s8 s9 st0 st1 => by
    have := for_pre (t := .nm 6) (b := exS (Fk T (k + 2)) M_l_law_parts_L2) PyData.int (fun Q e' => ∃ s6 s7 s8 s9, e' = [.v (.int n), .v (rowD c), .v (.int x), s3, s4, .v (.list ((growN (col n c) x n s Q.length).map .int)), s6, s7, s8, s9]) (rI 0 n) (by
      rintro Q t r hQ e ⟨s6, s7, s8, s9, rfl⟩
      have g := (grow_ok (x := x) (col_comm n c) st0 st1 Q.length).1
      have cc := comp2 (growN (col n c) x n s Q.length) s3 s4 (.v (.int t)) s7 s8 s9
      obtain ⟨e', i1, s7', s9', rfl⟩ := loop3 s (growN (col n c) x n s Q.length) s3 s4 (.v (.int t)) s7 (.v (.list ((nearL n (growN (col n c) x n s Q.length)).map .int))) s9 g
      rw [List.length_append, List.length_singleton]
      refine ⟨_, ?_, .v (.int t), s7', .v (.list ((nearL n (growN (col n c) x n s Q.length)).map .int)), s9', rfl⟩
      simp (disch := omega) only [M_l_law_parts_L2, exS, ev, getE, getO, getTb, asg, asgs, boolD_bool, bin_add, bin_sub, bin_mul, addI, modI, divI, mulI, eqD_ints, neD_ints, ltD_ints, gtD_ints, leD_ints, geD_ints, isN, isNN, tru_bool, tru_list, tru_tup, tru_row, len_list, len_tup, len_row, tup_list, list_tup, list_row, min_two, max_two, int_bool, int_int, itr_list, itr_tup, itr_row, seq_row, seq_list, seq_tup, rng_ok, frzE, R.ok_bind, R.exc_bind, listD_ok, calm_ok, okN, R.guard_true, isDict_row, isDict_int, isDict_tup, isDict_list, isDict_none, isDict_bool, isDict_str, isDict_pair, bndD, seqOk, List.all_cons, List.all_nil, Bool.not_false, Bool.not_true, Bool.and_self, Bool.true_and, Bool.and_true, Bool.false_and, Bool.and_false, List.length_cons, List.length_nil, List.length_map, if_true, if_false, ite_true, ite_false, Bool.false_eq_true, reduceIte, id, ofOpt_some, eqD_rows, neD_rows, eqD_intL, neD_intL, eqD_rowL, neD_rowL, eqD_nil, neD_nil, eqD_nilT, neD_nilT, eqD_nilR, neD_nilR, inD_ints, ninD_ints, inD_row, ninD_row, inD_rows, ninD_rows, mthTy_idx, mthTy_cnt, lens_ints, srts_ints, sorted_ints, List.getElem?_cons_zero, List.getElem?_cons_succ, List.set_cons_zero, List.set_cons_succ, cc, i1]
      rfl) [.v (.int n), .v (rowD c), .v (.int x), s3, s4, .v (.list ([s].map .int)), s6, s7, s8, s9] ⟨_, _, _, _, rfl⟩
    obtain ⟨e', i1, s6, s7, s8, s9, rfl⟩ := this
    rw [rI_length, Int.sub_zero] at i1
    exact ⟨_, i1, _, _, _, _, rfl⟩
  have comp1 : ∀ (F : List (List Int)) (s : Int) (s5 s6 s7 s8 s9 : Sl), F.length ≤ 7 → ev (Fk T (k + 2)) M_l_law_parts_C1 [.v (.int n), .v (rowD c), .v (.int x), .v (.list (F.map rowD)), .v (.int s), s5, s6, s7, s8, s9] = .ok (.list ((F.filter fun p => decide (s ∈ p)).map rowD)) := fun F s s5 s6 s7 s8 s9 hF => by
    refine lcf_ok (F := Fk T (k + 2)) (t := .nm 5) rowD (fun p => decide (s ∈ p)) rowD F ?_ ?_ (seqOk_filter (by omega) (fun _ => rfl))
    · simp (disch := omega) only [exS, ev, getE, getO, getTb, asg, asgs, boolD_bool, bin_add, bin_sub, bin_mul, addI, modI, divI, mulI, eqD_ints, neD_ints, ltD_ints, gtD_ints, leD_ints, geD_ints, isN, isNN, tru_bool, tru_list, tru_tup, tru_row, len_list, len_tup, len_row, tup_list, list_tup, list_row, min_two, max_two, int_bool, int_int, itr_list, itr_tup, itr_row, seq_row, seq_list, seq_tup, rng_ok, frzE, R.ok_bind, R.exc_bind, listD_ok, calm_ok, okN, R.guard_true, isDict_row, isDict_int, isDict_tup, isDict_list, isDict_none, isDict_bool, isDict_str, isDict_pair, bndD, seqOk, List.all_cons, List.all_nil, Bool.not_false, Bool.not_true, Bool.and_self, Bool.true_and, Bool.and_true, Bool.false_and, Bool.and_false, List.length_cons, List.length_nil, List.length_map, if_true, if_false, ite_true, ite_false, Bool.false_eq_true, reduceIte, id, ofOpt_some, eqD_rows, neD_rows, eqD_intL, neD_intL, eqD_rowL, neD_rowL, eqD_nil, neD_nil, eqD_nilT, neD_nilT, eqD_nilR, neD_nilR, inD_ints, ninD_ints, inD_row, ninD_row, inD_rows, ninD_rows, mthTy_idx, mthTy_cnt, lens_ints, srts_ints, sorted_ints, List.getElem?_cons_zero, List.getElem?_cons_succ, List.set_cons_zero, List.set_cons_succ]
    · intro p hp
      refine ⟨_, rfl, ?_, fun _ => ?_⟩
      · simp (disch := omega) only [exS, ev, getE, getO, getTb, asg, asgs, boolD_bool, bin_add, bin_sub, bin_mul, addI, modI, divI, mulI, eqD_ints, neD_ints, ltD_ints, gtD_ints, leD_ints, geD_ints, isN, isNN, tru_bool, tru_list, tru_tup, tru_row, len_list, len_tup, len_row, tup_list, list_tup, list_row, min_two, max_two, int_bool, int_int, itr_list, itr_tup, itr_row, seq_row, seq_list, seq_tup, rng_ok, frzE, R.ok_bind, R.exc_bind, listD_ok, calm_ok, okN, R.guard_true, isDict_row, isDict_int, isDict_tup, isDict_list, isDict_none, isDict_bool, isDict_str, isDict_pair, bndD, seqOk, List.all_cons, List.all_nil, Bool.not_false, Bool.not_true, Bool.and_self, Bool.true_and, Bool.and_true, Bool.false_and, Bool.and_false, List.length_cons, List.length_nil, List.length_map, if_true, if_false, ite_true, ite_false, Bool.false_eq_true, reduceIte, id, ofOpt_some, eqD_rows, neD_rows, eqD_intL, neD_intL, eqD_rowL, neD_rowL, eqD_nil, neD_nil, eqD_nilT, neD_nilT, eqD_nilR, neD_nilR, inD_ints, ninD_ints, inD_row, ninD_row, inD_rows, ninD_rows, mthTy_idx, mthTy_cnt, lens_ints, srts_ints, sorted_ints, List.getElem?_cons_zero, List.getElem?_cons_succ, List.set_cons_zero, List.set_cons_succ, wipeE, slots]
      · simp (disch := omega) only [exS, ev, getE, getO, getTb, asg, asgs, boolD_bool, bin_add, bin_sub, bin_mul, addI, modI, divI, mulI, eqD_ints, neD_ints, ltD_ints, gtD_ints, leD_ints, geD_ints, isN, isNN, tru_bool, tru_list, tru_tup, tru_row, len_list, len_tup, len_row, tup_list, list_tup, list_row, min_two, max_two, int_bool, int_int, itr_list, itr_tup, itr_row, seq_row, seq_list, seq_tup, rng_ok, frzE, R.ok_bind, R.exc_bind, listD_ok, calm_ok, okN, R.guard_true, isDict_row, isDict_int, isDict_tup, isDict_list, isDict_none, isDict_bool, isDict_str, isDict_pair, bndD, seqOk, List.all_cons, List.all_nil, Bool.not_false, Bool.not_true, Bool.and_self, Bool.true_and, Bool.and_true, Bool.false_and, Bool.and_false, List.length_cons, List.length_nil, List.length_map, if_true, if_false, ite_true, ite_false, Bool.false_eq_true, reduceIte, id, ofOpt_some, eqD_rows, neD_rows, eqD_intL, neD_intL, eqD_rowL, neD_rowL, eqD_nil, neD_nil, eqD_nilT, neD_nilT, eqD_nilR, neD_nilR, inD_ints, ninD_ints, inD_row, ninD_row, inD_rows, ninD_rows, mthTy_idx, mthTy_cnt, lens_ints, srts_ints, sorted_ints, List.getElem?_cons_zero, List.getElem?_cons_succ, List.set_cons_zero, List.set_cons_succ, wipeE, slots]
  have loop1 := for_pre (t := .nm 4) (b := exS (Fk T (k + 2)) M_l_law_parts_L1) PyData.int (fun Q e' => ∃ s4 s5 s6 s7 s8 s9, e' = [.v (.int n), .v (rowD c), .v (.int x), .own ((Q.foldl (stepF (col n c) x n) []).map rowD), s4, s5, s6, s7, s8, s9]) (rI 0 n) (by
    rintro Q s r hQ e ⟨s4, s5, s6, s7, s8, s9, rfl⟩
    obtain ⟨hs, hs2⟩ := rI_at hQ
    have fl : (Q.foldl (stepF (col n c) x n) []).length ≤ Q.length := by
      have : ∀ (Q : List Int) (F : List (List Int)), (Q.foldl (stepF (col n c) x n) F).length ≤ F.length + Q.length := fun Q => by
        induction Q with
        | nil => intro F; simp
        | cons q Q ih =>
          intro F
          rw [List.foldl_cons, List.length_cons]
          have := ih (stepF (col n c) x n F q)
          have : (stepF (col n c) x n F q).length ≤ F.length + 1 := by
            unfold stepF
            split <;> simp
          omega
      have := this Q []
      simpa using this
    rw [List.foldl_append, List.foldl_cons, List.foldl_nil]
    generalize Q.foldl (stepF (col n c) x n) [] = F at *
    have cc := comp1 F s s5 s6 s7 s8 s9 (by omega)
    have bo : ev (Fk T (k + 2)) (.bor 3 (.cmp .Eq M_l_law_parts_C1 (.lst .nil))) [.v (.int n), .v (rowD c), .v (.int x), .own (F.map rowD), .v (.int s), s5, s6, s7, s8, s9] = .ok (.bool (F.filter fun p => decide (s ∈ p)).isEmpty) := by
      simp (disch := omega) only [exS, ev, getE, getO, getTb, asg, asgs, boolD_bool, bin_add, bin_sub, bin_mul, addI, modI, divI, mulI, eqD_ints, neD_ints, ltD_ints, gtD_ints, leD_ints, geD_ints, isN, isNN, tru_bool, tru_list, tru_tup, tru_row, len_list, len_tup, len_row, tup_list, list_tup, list_row, min_two, max_two, int_bool, int_int, itr_list, itr_tup, itr_row, seq_row, seq_list, seq_tup, rng_ok, frzE, R.ok_bind, R.exc_bind, listD_ok, calm_ok, okN, R.guard_true, isDict_row, isDict_int, isDict_tup, isDict_list, isDict_none, isDict_bool, isDict_str, isDict_pair, bndD, seqOk, List.all_cons, List.all_nil, Bool.not_false, Bool.not_true, Bool.and_self, Bool.true_and, Bool.and_true, Bool.false_and, Bool.and_false, List.length_cons, List.length_nil, List.length_map, if_true, if_false, ite_true, ite_false, Bool.false_eq_true, reduceIte, id, ofOpt_some, eqD_rows, neD_rows, eqD_intL, neD_intL, eqD_rowL, neD_rowL, eqD_nil, neD_nil, eqD_nilT, neD_nilT, eqD_nilR, neD_nilR, inD_ints, ninD_ints, inD_row, ninD_row, inD_rows, ninD_rows, mthTy_idx, mthTy_cnt, lens_ints, srts_ints, sorted_ints, List.getElem?_cons_zero, List.getElem?_cons_succ, List.set_cons_zero, List.set_cons_succ, cc, List.isEmpty_map, scal]
    cases em : (F.filter fun p => decide (s ∈ p)).isEmpty with
    | true =>
      rw [em] at bo
      have es : stepF (col n c) x n F s = F ++ [isort leI (growN (col n c) x n s n.toNat)] := by unfold stepF; rw [if_pos em]
      rw [es]
      obtain ⟨e', i1, s6', s7', s8', s9', rfl⟩ := loop2 s (.own (F.map rowD)) (.v (.int s)) s6 s7 s8 s9 (by omega) (by omega)
      rw [List.map_cons, List.map_nil] at i1
      refine ⟨_, ?_, .v (.int s), .v (.list ((growN (col n c) x n s n.toNat).map .int)), s6', s7', s8', s9', rfl⟩
      rw [List.map_append]
      have step0 : exS (Fk T (k + 2)) M_l_law_parts_L1 [.v (.int n), .v (rowD c), .v (.int x), .own (F.map rowD), .v (.int s), s5, s6, s7, s8, s9] = .ok (.nx [.v (.int n), .v (rowD c), .v (.int x), .own (F.map rowD ++ [rowD (isort leI (growN (col n c) x n s n.toNat))]), .v (.int s), .v (.list ((growN (col n c) x n s n.toNat).map .int)), s6', s7', s8', s9']) := by
        unfold M_l_law_parts_L1
        have : exS (Fk T (k + 2)) (.ife (.bor 3 (.cmp .Eq M_l_law_parts_C1 (.lst .nil))) (.cons (.set (.nm 5) (.lst (.cons (.var 4) .nil))) (.cons (.for (.nm 6) (.rng (.var 0)) M_l_law_parts_L2) (.cons (.app 3 (.blt "tuple" (.cons (.blt "sorted" (.cons (.var 5) .nil)) .nil))) .nil))) .nil) [.v (.int n), .v (rowD c), .v (.int x), .own (F.map rowD), .v (.int s), s5, s6, s7, s8, s9] = exS (Fk T (k + 2)) (.cons (.set (.nm 5) (.lst (.cons (.var 4) .nil))) (.cons (.for (.nm 6) (.rng (.var 0)) M_l_law_parts_L2) (.cons (.app 3 (.blt "tuple" (.cons (.blt "sorted" (.cons (.var 5) .nil)) .nil))) .nil))) [.v (.int n), .v (rowD c), .v (.int x), .own (F.map rowD), .v (.int s), s5, s6, s7, s8, s9] := by
          show (ev (Fk T (k + 2)) (.bor 3 _) _).bind _ = _
          rw [bo]; rfl
        have b2 : exS (Fk T (k + 2)) (.cons (.set (.nm 5) (.lst (.cons (.var 4) .nil))) (.cons (.for (.nm 6) (.rng (.var 0)) M_l_law_parts_L2) (.cons (.app 3 (.blt "tuple" (.cons (.blt "sorted" (.cons (.var 5) .nil)) .nil))) .nil))) [.v (.int n), .v (rowD c), .v (.int x), .own (F.map rowD), .v (.int s), s5, s6, s7, s8, s9] = .ok (.nx [.v (.int n), .v (rowD c), .v (.int x), .own (F.map rowD ++ [rowD (isort leI (growN (col n c) x n s n.toNat))]), .v (.int s), .v (.list ((growN (col n c) x n s n.toNat).map .int)), s6', s7', s8', s9']) := by
          simp (disch := omega) only [exS, ev, getE, getO, getTb, asg, asgs, boolD_bool, bin_add, bin_sub, bin_mul, addI, modI, divI, mulI, eqD_ints, neD_ints, ltD_ints, gtD_ints, leD_ints, geD_ints, isN, isNN, tru_bool, tru_list, tru_tup, tru_row, len_list, len_tup, len_row, tup_list, list_tup, list_row, min_two, max_two, int_bool, int_int, itr_list, itr_tup, itr_row, seq_row, seq_list, seq_tup, rng_ok, frzE, R.ok_bind, R.exc_bind, listD_ok, calm_ok, okN, R.guard_true, isDict_row, isDict_int, isDict_tup, isDict_list, isDict_none, isDict_bool, isDict_str, isDict_pair, bndD, seqOk, List.all_cons, List.all_nil, Bool.not_false, Bool.not_true, Bool.and_self, Bool.true_and, Bool.and_true, Bool.false_and, Bool.and_false, List.length_cons, List.length_nil, List.length_map, if_true, if_false, ite_true, ite_false, Bool.false_eq_true, reduceIte, id, ofOpt_some, eqD_rows, neD_rows, eqD_intL, neD_intL, eqD_rowL, neD_rowL, eqD_nil, neD_nil, eqD_nilT, neD_nilT, eqD_nilR, neD_nilR, inD_ints, ninD_ints, inD_row, ninD_row, inD_rows, ninD_rows, mthTy_idx, mthTy_cnt, lens_ints, srts_ints, sorted_ints, List.getElem?_cons_zero, List.getElem?_cons_succ, List.set_cons_zero, List.set_cons_succ, i1, tup_ints]
        rw [ex_next (this.trans b2)]; rfl
      exact step0
    | false =>
      rw [em] at bo
      have es : stepF (col n c) x n F s = F := by unfold stepF; rw [em]; rfl
      rw [es]
      refine ⟨_, ?_, .v (.int s), s5, s6, s7, s8, s9, rfl⟩
      have step0 : exS (Fk T (k + 2)) M_l_law_parts_L1 [.v (.int n), .v (rowD c), .v (.int x), .own (F.map rowD), .v (.int s), s5, s6, s7, s8, s9] = .ok (.nx [.v (.int n), .v (rowD c), .v (.int x), .own (F.map rowD), .v (.int s), s5, s6, s7, s8, s9]) := by
        unfold M_l_law_parts_L1
        have : exS (Fk T (k + 2)) (.ife (.bor 3 (.cmp .Eq M_l_law_parts_C1 (.lst .nil))) (.cons (.set (.nm 5) (.lst (.cons (.var 4) .nil))) (.cons (.for (.nm 6) (.rng (.var 0)) M_l_law_parts_L2) (.cons (.app 3 (.blt "tuple" (.cons (.blt "sorted" (.cons (.var 5) .nil)) .nil))) .nil))) .nil) [.v (.int n), .v (rowD c), .v (.int x), .own (F.map rowD), .v (.int s), s5, s6, s7, s8, s9] = .ok (.nx [.v (.int n), .v (rowD c), .v (.int x), .own (F.map rowD), .v (.int s), s5, s6, s7, s8, s9]) := by
          show (ev (Fk T (k + 2)) (.bor 3 _) _).bind _ = _
          rw [bo]; rfl
        rw [ex_next this]; rfl
      exact step0)
    [.v (.int n), .v (rowD c), .v (.int x), .own [], .no, .no, .no, .no, .no, .no] ⟨_, _, _, _, _, _, rfl⟩
  obtain ⟨e', o1, s4, s5, s6, s7, s8, s9, rfl⟩ := loop1
  have fo := found_ok hc x n.toNat (by omega)
  rw [Int.toNat_of_nonneg (by omega)] at fo
  rw [fo] at o1
  have mk := marks_ok hc x
  have ne : ∀ l ∈ (repsI 0 n (marksOf n c x)).map (cls n (marksOf n c x)), l ≠ [] := fun l hl => by
    obtain ⟨r, hr, rfl⟩ := List.mem_map.mp hl
    unfold repsI at hr
    rw [List.mem_filter, mem_rI, decide_eq_true_eq] at hr
    obtain ⟨t, ht⟩ := cls_head mk hr.1.1 hr.1.2 hr.2
    rw [ht]; exact List.cons_ne_nil _ _
  have so := sorted_rows ne
  rw [found_sorted hc x] at so
  rw [h, partsL_eq hc x]
  simp (disch := omega) only [runS, List.map_cons, List.map_nil, List.length_cons, List.length_nil, List.replicate, Nat.reduceAdd, Nat.reduceSub, List.cons_append, List.nil_append, M_l_law_parts, exS, ev, getE, getO, getTb, asg, asgs, boolD_bool, bin_add, bin_sub, bin_mul, addI, modI, divI, mulI, eqD_ints, neD_ints, ltD_ints, gtD_ints, leD_ints, geD_ints, isN, isNN, tru_bool, tru_list, tru_tup, tru_row, len_list, len_tup, len_row, tup_list, list_tup, list_row, min_two, max_two, int_bool, int_int, itr_list, itr_tup, itr_row, seq_row, seq_list, seq_tup, rng_ok, frzE, R.ok_bind, R.exc_bind, listD_ok, calm_ok, okN, R.guard_true, isDict_row, isDict_int, isDict_tup, isDict_list, isDict_none, isDict_bool, isDict_str, isDict_pair, bndD, seqOk, List.all_cons, List.all_nil, Bool.not_false, Bool.not_true, Bool.and_self, Bool.true_and, Bool.and_true, Bool.false_and, Bool.and_false, List.length_cons, List.length_nil, List.length_map, if_true, if_false, ite_true, ite_false, Bool.false_eq_true, reduceIte, id, ofOpt_some, eqD_rows, neD_rows, eqD_intL, neD_intL, eqD_rowL, neD_rowL, eqD_nil, neD_nil, eqD_nilT, neD_nilT, eqD_nilR, neD_nilR, inD_ints, ninD_ints, inD_row, ninD_row, inD_rows, ninD_rows, mthTy_idx, mthTy_cnt, lens_ints, srts_ints, sorted_ints, List.getElem?_cons_zero, List.getElem?_cons_succ, List.set_cons_zero, List.set_cons_succ, o1, so]
end
end TC
set_option Elab.async false
set_option linter.all false
set_option maxRecDepth 100000
set_option maxHeartbeats 0
set_option autoImplicit false
/-! PmP: what raises exceptions. -/
namespace TC
open PySem
theorem sub_lit {xs : List D} {i : Int} {P : D → Prop} (h0 : 0 ≤ i) (h1 : i < xs.length) (hP : ∀ d ∈ xs, P d) : ∃ d, subD (.list xs) (.int i) = .ok d ∧ P d := by
  have hl : i.toNat < xs.length := by omega
  exact ⟨xs[i.toNat], sub_list h0 (List.getElem?_eq_getElem hl), hP _ (List.getElem_mem hl)⟩
theorem inR_of {x lo hi : Int} (h0 : lo ≤ x) (h1 : x ≤ hi) : inR (.int x) lo hi = true := by
  show (decide (lo ≤ x) && decide (x ≤ hi)) = true
  rw [decide_eq_true h0, decide_eq_true h1]; rfl
theorem inR_not {x lo hi : Int} (h : x < lo ∨ hi < x) : inR (.int x) lo hi = false := by
  show (decide (lo ≤ x) && decide (x ≤ hi)) = false
  rcases h with h | h
  · rw [decide_eq_false (by omega)]; rfl
  · rw [decide_eq_false (show ¬ x ≤ hi by omega), Bool.and_false]
theorem eq_strs (a b : Str) : eqD (.str a) (.str b) = .ok (a == b) := eqD_of (a := .str a) (b := .str b) rfl rfl (.inl (Nat.zero_le _))
theorem neS_self (a : Str) : cmpD .NotEq (.str a) (.str a) = .ok (.bool false) := cNe (q := true) (by rw [eq_strs]; simp)
theorem eqS_self (a : Str) : cmpD .Eq (.str a) (.str a) = .ok (.bool true) := cEq (q := true) (by rw [eq_strs]; simp)
theorem neB_self (b : Bool) : cmpD .NotEq (.bool b) (.bool b) = .ok (.bool false) := by cases b <;> rfl
section
variable {T : List Df}
theorem sp_color_ofP (h : HB T) (h3 : HasF T "color_of" 4 M_f_color_of) (k : Nat) {n : Int} {c : List Int} (hc : AnyC n c) {a b : D} (ha : isDict a = false) (hb : isDict b = false) (hbad : inR a 0 (n - 1) = false ∨ inR b 0 (n - 1) = false ∨ ∃ x, a = .int x ∧ b = .int x) : Fk T (k + 5) "color_of" [.int n, rowD c, a, b] = .exc "InvalidPoint" := by
  have a1 := sp_check_ok h k hc
  have i1 := sp_inr h.in_range (k + 3) a ha 0 (n - 1)
  have i2 := sp_inr h.in_range (k + 3) b hb 0 (n - 1)
  rw [h3]
  cases e1 : inR a 0 (n - 1) with
  | false =>
    rw [e1] at i1
    simp (disch := omega) only [runS, List.map_cons, List.map_nil, List.length_cons, List.length_nil, List.replicate, Nat.reduceAdd, Nat.reduceSub, List.cons_append, List.nil_append, M_f_color_of, exS, ev, getE, getO, getTb, asg, asgs, boolD_bool, bin_add, bin_sub, bin_mul, addI, modI, divI, mulI, eqD_ints, neD_ints, ltD_ints, gtD_ints, leD_ints, geD_ints, isN, isNN, tru_bool, tru_list, tru_tup, tru_row, len_list, len_tup, len_row, tup_list, list_tup, list_row, min_two, max_two, int_bool, int_int, itr_list, itr_tup, itr_row, seq_row, seq_list, seq_tup, rng_ok, frzE, R.ok_bind, R.exc_bind, listD_ok, calm_ok, okN, R.guard_true, isDict_row, isDict_int, isDict_tup, isDict_list, isDict_none, isDict_bool, isDict_str, isDict_pair, bndD, seqOk, List.all_cons, List.all_nil, Bool.not_false, Bool.not_true, Bool.and_self, Bool.true_and, Bool.and_true, Bool.false_and, Bool.and_false, List.length_cons, List.length_nil, List.length_map, if_true, if_false, ite_true, ite_false, Bool.false_eq_true, reduceIte, id, ofOpt_some, eqD_rows, neD_rows, eqD_intL, neD_intL, eqD_rowL, neD_rowL, eqD_nil, neD_nil, eqD_nilT, neD_nilT, eqD_nilR, neD_nilR, inD_ints, ninD_ints, inD_row, ninD_row, inD_rows, ninD_rows, mthTy_idx, mthTy_cnt, lens_ints, srts_ints, sorted_ints, List.getElem?_cons_zero, List.getElem?_cons_succ, List.set_cons_zero, List.set_cons_succ, a1, i1]
  | true =>
    rw [e1] at i1
    cases e2 : inR b 0 (n - 1) with
    | false =>
      rw [e2] at i2
      simp (disch := omega) only [runS, List.map_cons, List.map_nil, List.length_cons, List.length_nil, List.replicate, Nat.reduceAdd, Nat.reduceSub, List.cons_append, List.nil_append, M_f_color_of, exS, ev, getE, getO, getTb, asg, asgs, boolD_bool, bin_add, bin_sub, bin_mul, addI, modI, divI, mulI, eqD_ints, neD_ints, ltD_ints, gtD_ints, leD_ints, geD_ints, isN, isNN, tru_bool, tru_list, tru_tup, tru_row, len_list, len_tup, len_row, tup_list, list_tup, list_row, min_two, max_two, int_bool, int_int, itr_list, itr_tup, itr_row, seq_row, seq_list, seq_tup, rng_ok, frzE, R.ok_bind, R.exc_bind, listD_ok, calm_ok, okN, R.guard_true, isDict_row, isDict_int, isDict_tup, isDict_list, isDict_none, isDict_bool, isDict_str, isDict_pair, bndD, seqOk, List.all_cons, List.all_nil, Bool.not_false, Bool.not_true, Bool.and_self, Bool.true_and, Bool.and_true, Bool.false_and, Bool.and_false, List.length_cons, List.length_nil, List.length_map, if_true, if_false, ite_true, ite_false, Bool.false_eq_true, reduceIte, id, ofOpt_some, eqD_rows, neD_rows, eqD_intL, neD_intL, eqD_rowL, neD_rowL, eqD_nil, neD_nil, eqD_nilT, neD_nilT, eqD_nilR, neD_nilR, inD_ints, ninD_ints, inD_row, ninD_row, inD_rows, ninD_rows, mthTy_idx, mthTy_cnt, lens_ints, srts_ints, sorted_ints, List.getElem?_cons_zero, List.getElem?_cons_succ, List.set_cons_zero, List.set_cons_succ, a1, i1, i2]
    | true =>
      rw [e2] at i2
      rcases hbad with z | z | ⟨x, rfl, rfl⟩
      · rw [e1] at z; cases z
      · rw [e2] at z; cases z
      · simp (disch := omega) only [runS, List.map_cons, List.map_nil, List.length_cons, List.length_nil, List.replicate, Nat.reduceAdd, Nat.reduceSub, List.cons_append, List.nil_append, M_f_color_of, exS, ev, getE, getO, getTb, asg, asgs, boolD_bool, bin_add, bin_sub, bin_mul, addI, modI, divI, mulI, eqD_ints, neD_ints, ltD_ints, gtD_ints, leD_ints, geD_ints, isN, isNN, tru_bool, tru_list, tru_tup, tru_row, len_list, len_tup, len_row, tup_list, list_tup, list_row, min_two, max_two, int_bool, int_int, itr_list, itr_tup, itr_row, seq_row, seq_list, seq_tup, rng_ok, frzE, R.ok_bind, R.exc_bind, listD_ok, calm_ok, okN, R.guard_true, isDict_row, isDict_int, isDict_tup, isDict_list, isDict_none, isDict_bool, isDict_str, isDict_pair, bndD, seqOk, List.all_cons, List.all_nil, Bool.not_false, Bool.not_true, Bool.and_self, Bool.true_and, Bool.and_true, Bool.false_and, Bool.and_false, List.length_cons, List.length_nil, List.length_map, if_true, if_false, ite_true, ite_false, Bool.false_eq_true, reduceIte, id, ofOpt_some, eqD_rows, neD_rows, eqD_intL, neD_intL, eqD_rowL, neD_rowL, eqD_nil, neD_nil, eqD_nilT, neD_nilT, eqD_nilR, neD_nilR, inD_ints, ninD_ints, inD_row, ninD_row, inD_rows, ninD_rows, mthTy_idx, mthTy_cnt, lens_ints, srts_ints, sorted_ints, List.getElem?_cons_zero, List.getElem?_cons_succ, List.set_cons_zero, List.set_cons_succ, a1, i1, i2, decide_true]
theorem sp_mergedC (h : HB T) (h1 : HasF T "check_color" 1 M_f_check_color) (h3 : HasF T "merged" 5 M_f_merged) (k : Nat) {n : Int} {c : List Int} (hc : AnyC n c) {a b : D} (ha : isDict a = false) (hb : isDict b = false) (hbad : inR a 0 5 = false ∨ inR b 0 5 = false) : Fk T (k + 5) "merged" [.int n, rowD c, a, b] = .exc "InvalidColor" := by
  have a1 := sp_check_ok h k hc
  have c1 := sp_check_color h h1 (k + 2) a ha
  have c2 := sp_check_color h h1 (k + 2) b hb
  rw [h3]
  cases e1 : inR a 0 5 with
  | false =>
    rw [e1] at c1
    have c1 : Fk T (k + 4) "check_color" [a] = .exc "InvalidColor" := c1
    simp (disch := omega) only [runS, List.map_cons, List.map_nil, List.length_cons, List.length_nil, List.replicate, Nat.reduceAdd, Nat.reduceSub, List.cons_append, List.nil_append, M_f_merged, exS, ev, getE, getO, getTb, asg, asgs, boolD_bool, bin_add, bin_sub, bin_mul, addI, modI, divI, mulI, eqD_ints, neD_ints, ltD_ints, gtD_ints, leD_ints, geD_ints, isN, isNN, tru_bool, tru_list, tru_tup, tru_row, len_list, len_tup, len_row, tup_list, list_tup, list_row, min_two, max_two, int_bool, int_int, itr_list, itr_tup, itr_row, seq_row, seq_list, seq_tup, rng_ok, frzE, R.ok_bind, R.exc_bind, listD_ok, calm_ok, okN, R.guard_true, isDict_row, isDict_int, isDict_tup, isDict_list, isDict_none, isDict_bool, isDict_str, isDict_pair, bndD, seqOk, List.all_cons, List.all_nil, Bool.not_false, Bool.not_true, Bool.and_self, Bool.true_and, Bool.and_true, Bool.false_and, Bool.and_false, List.length_cons, List.length_nil, List.length_map, if_true, if_false, ite_true, ite_false, Bool.false_eq_true, reduceIte, id, ofOpt_some, eqD_rows, neD_rows, eqD_intL, neD_intL, eqD_rowL, neD_rowL, eqD_nil, neD_nil, eqD_nilT, neD_nilT, eqD_nilR, neD_nilR, inD_ints, ninD_ints, inD_row, ninD_row, inD_rows, ninD_rows, mthTy_idx, mthTy_cnt, lens_ints, srts_ints, sorted_ints, List.getElem?_cons_zero, List.getElem?_cons_succ, List.set_cons_zero, List.set_cons_succ, a1, c1]
  | true =>
    rw [e1] at c1
    have c1 : Fk T (k + 4) "check_color" [a] = .ok .none := c1
    rcases hbad with z | z
    · rw [e1] at z; cases z
    · rw [z] at c2
      have c2 : Fk T (k + 4) "check_color" [b] = .exc "InvalidColor" := c2
      simp (disch := omega) only [runS, List.map_cons, List.map_nil, List.length_cons, List.length_nil, List.replicate, Nat.reduceAdd, Nat.reduceSub, List.cons_append, List.nil_append, M_f_merged, exS, ev, getE, getO, getTb, asg, asgs, boolD_bool, bin_add, bin_sub, bin_mul, addI, modI, divI, mulI, eqD_ints, neD_ints, ltD_ints, gtD_ints, leD_ints, geD_ints, isN, isNN, tru_bool, tru_list, tru_tup, tru_row, len_list, len_tup, len_row, tup_list, list_tup, list_row, min_two, max_two, int_bool, int_int, itr_list, itr_tup, itr_row, seq_row, seq_list, seq_tup, rng_ok, frzE, R.ok_bind, R.exc_bind, listD_ok, calm_ok, okN, R.guard_true, isDict_row, isDict_int, isDict_tup, isDict_list, isDict_none, isDict_bool, isDict_str, isDict_pair, bndD, seqOk, List.all_cons, List.all_nil, Bool.not_false, Bool.not_true, Bool.and_self, Bool.true_and, Bool.and_true, Bool.false_and, Bool.and_false, List.length_cons, List.length_nil, List.length_map, if_true, if_false, ite_true, ite_false, Bool.false_eq_true, reduceIte, id, ofOpt_some, eqD_rows, neD_rows, eqD_intL, neD_intL, eqD_rowL, neD_rowL, eqD_nil, neD_nil, eqD_nilT, neD_nilT, eqD_nilR, neD_nilR, inD_ints, ninD_ints, inD_row, ninD_row, inD_rows, ninD_rows, mthTy_idx, mthTy_cnt, lens_ints, srts_ints, sorted_ints, List.getElem?_cons_zero, List.getElem?_cons_succ, List.set_cons_zero, List.set_cons_succ, a1, c1, c2]
end
end TC
set_option Elab.async false
set_option linter.all false
set_option maxRecDepth 100000
set_option maxHeartbeats 0
set_option autoImplicit false
/-! PnC: tame colorings: what lies between parts. Plain mathematics. -/
namespace TC
open PySem
theorem nt3 {f : Int → Int → Int} {n : Int} (sy : ∀ a b, f a b = f b a) (h : NoTri f n) {a b c : Int} (a0 : 0 ≤ a) (a1 : a < n) (b0 : 0 ≤ b) (b1 : b < n) (c0 : 0 ≤ c) (c1 : c < n) (ab : a ≠ b) (ac : a ≠ c) (bc : b ≠ c) : f a b = f a c ∨ f a b = f b c ∨ f a c = f b c := by
  have k1 := sy a b
  have k2 := sy a c
  have k3 := sy b c
  rcases Int.lt_trichotomy a b with h1 | h1 | h1
  · rcases Int.lt_trichotomy b c with h2 | h2 | h2
    · have := h a b c a0 h1 h2 c1; omega
    · exact absurd h2 bc
    · rcases Int.lt_trichotomy a c with h3 | h3 | h3
      · have := h a c b a0 h3 h2 b1; omega
      · exact absurd h3 ac
      · have := h c a b c0 h3 h1 b1; omega
  · exact absurd h1 ab
  · rcases Int.lt_trichotomy a c with h2 | h2 | h2
    · have := h b a c b0 h1 h2 c1; omega
    · exact absurd h2 ac
    · rcases Int.lt_trichotomy b c with h3 | h3 | h3
      · have := h b c a b0 h3 h2 a1; omega
      · exact absurd h3 bc
      · have := h c b a c0 h3 h1 a1; omega
/-- a point outside has one color with connected ones -/
theorem hom1 {f : Int → Int → Int} {n x : Int} (sy : ∀ a b, f a b = f b a) (h : NoTri f n) {p p' q : Int} (c : Cn (Aj n f x) p p') (q0 : 0 ≤ q) (q1 : q < n) (hq : ¬ Cn (Aj n f x) p q) (p0 : 0 ≤ p) (p1 : p < n) : f p q = f p' q := by
  induction c with
  | refl => rfl
  | step cb s ih =>
    rename_i b d
    obtain ⟨b0, b1, d0, d1, ne, fx⟩ := s
    rw [ih]
    have qb : b ≠ q := fun z => hq (z ▸ cb)
    have qd : d ≠ q := fun z => hq (z ▸ Cn.step cb ⟨b0, b1, d0, d1, ne, fx⟩)
    have n1 : f b q ≠ x := fun z => hq (Cn.step cb ⟨b0, b1, q0, q1, qb, z⟩)
    have n2 : f d q ≠ x := fun z => hq (Cn.step (Cn.step cb ⟨b0, b1, d0, d1, ne, fx⟩) ⟨d0, d1, q0, q1, qd, z⟩)
    have := nt3 sy h b0 b1 d0 d1 q0 q1 ne qb qd
    omega
theorem hom2 {f : Int → Int → Int} {n x : Int} (sy : ∀ a b, f a b = f b a) (h : NoTri f n) {p p' q q' : Int} (aj : ∀ a b, Aj n f x a b → Aj n f x b a) (c : Cn (Aj n f x) p p') (d : Cn (Aj n f x) q q') (hq : ¬ Cn (Aj n f x) p q) (p0 : 0 ≤ p) (p1 : p < n) (q0 : 0 ≤ q) (q1 : q < n) (p0' : 0 ≤ p') (p1' : p' < n) (q0' : 0 ≤ q') (q1' : q' < n) : f p q = f p' q' ∧ f p q ≠ x := by
  have e1 := hom1 sy h c q0 q1 hq p0 p1
  have n2 : ¬ Cn (Aj n f x) q p' := fun z => hq (c.trans (z.symm aj))
  have e2 := hom1 sy h d p0' p1' n2 q0 q1
  refine ⟨by rw [e1, sy p' q, e2, sy], fun z => ?_⟩
  by_cases e : p = q
  · exact hq (e ▸ .refl _)
  · exact hq (.one ⟨p0, p1, q0, q1, e, z⟩)
/-! lists of rows -/
def hd (A : List Int) : Int := A.getD 0 0
def rowAt (G : List (List Int)) (i : Int) : List Int := G.getD i.toNat []
theorem sub_rows {G : List (List Int)} {i : Int} (h0 : 0 ≤ i) (h1 : i < G.length) : subD (.list (G.map rowD)) (.int i) = .ok (rowD (rowAt G i)) := by
  refine sub_list h0 ?_
  have : i.toNat < G.length := by omega
  unfold rowAt
  simp [this]
theorem sub_hd {A : List Int} (h : A ≠ []) : subD (rowD A) (.int 0) = .ok (.int (hd A)) := by
  cases A with
  | nil => exact absurd rfl h
  | cons a r =>
    have := sub_row (l := a :: r) (i := 0) (by decide) (by simp)
    exact this
theorem rowAt_mem {G : List (List Int)} {i : Int} (h0 : 0 ≤ i) (h1 : i < G.length) : rowAt G i ∈ G := by
  have : i.toNat < G.length := by omega
  unfold rowAt
  simp [this]
theorem enuI_at {α : Type} : ∀ {G : List α} {k : Int} {P r : List (Int × α)} {q : Int × α}, enuI k G = P ++ q :: r → q.1 = k + P.length ∧ G[P.length]? = some q.2
  | [], k, P, r, q, h => by
    unfold enuI at h
    cases P <;> cases h
  | g :: G, k, [], r, q, h => by
    unfold enuI at h
    rw [List.nil_append, List.cons.injEq] at h
    rw [← h.1]
    exact ⟨by simp, rfl⟩
  | g :: G, k, p :: P, r, q, h => by
    unfold enuI at h
    rw [List.cons_append, List.cons.injEq] at h
    have := enuI_at h.2
    rw [List.length_cons]
    exact ⟨by omega, by simpa using this.2⟩
theorem enuI_len {α : Type} : ∀ (G : List α) (k : Int), (enuI k G).length = G.length
  | [], _ => rfl
  | g :: G, k => by
    unfold enuI
    rw [List.length_cons, enuI_len G (k + 1), List.length_cons]
/-- the colors between the rows of a list, by their first points -/
def btwL (f : Int → Int → Int) (G : List (List Int)) (i : Int) : List (List Int) := (rI (i + 1) G.length).map fun j => [i, j, f (hd (rowAt G i)) (hd (rowAt G j))]
def btw (f : Int → Int → Int) (G : List (List Int)) : List (List Int) := (rI 0 G.length).flatMap (btwL f G)
/-! the parts of a color -/
structure PartsOk (n : Int) (c : List Int) (x : Int) (G : List (List Int)) : Prop where
  ne : ∀ A ∈ G, A ≠ []
  rg : ∀ A ∈ G, ∀ p ∈ A, 0 ≤ p ∧ p < n
  cn : ∀ A ∈ G, ∀ p ∈ A, ∀ q ∈ A, Cn (Aj n (col n c) x) p q
  nc : ∀ i j : Int, 0 ≤ i → i < j → j < G.length → ∀ p ∈ rowAt G i, ∀ q ∈ rowAt G j, ¬ Cn (Aj n (col n c) x) p q
  len : G.length ≤ 7
  al : ∀ A ∈ G, A.length ≤ 7
theorem hd_mem {A : List Int} (h : A ≠ []) : hd A ∈ A := by
  cases A with
  | nil => exact absurd rfl h
  | cons a r => exact List.mem_cons_self
theorem parts_okP {n : Int} {c : List Int} (h : Colo n c) (x : Int) : PartsOk n c x (partsL n c x) := by
  have mk := marks_ok h x
  have rep : ∀ r, r ∈ repsI 0 n (marksOf n c x) ↔ (0 ≤ r ∧ r < n) ∧ mg (marksOf n c x) r = r := fun r => by
    unfold repsI
    rw [List.mem_filter, mem_rI, decide_eq_true_eq]
  have mc : ∀ r p, p ∈ cls n (marksOf n c x) r ↔ (0 ≤ p ∧ p < n) ∧ mg (marksOf n c x) p = r := fun r p => by
    unfold cls
    rw [List.mem_filter, mem_rI, decide_eq_true_eq]
  rw [partsL_eq h x]
  refine ⟨fun A hA => ?_, fun A hA p hp => ?_, fun A hA p hp q hq => ?_, fun i j i0 ij jl p hp q hq => ?_, ?_, fun A hA => ?_⟩
  · obtain ⟨r, hr, rfl⟩ := List.mem_map.mp hA
    have := (rep r).mp hr
    obtain ⟨t, ht⟩ := cls_head mk this.1.1 this.1.2 this.2
    rw [ht]; exact List.cons_ne_nil _ _
  · obtain ⟨r, hr, rfl⟩ := List.mem_map.mp hA
    exact ((mc r p).mp hp).1
  · obtain ⟨r, hr, rfl⟩ := List.mem_map.mp hA
    have h1 := (mc r p).mp hp
    have h2 := (mc r q).mp hq
    exact mk.I.cn p q h1.1.1 h1.1.2 h2.1.1 h2.1.2 (h1.2.trans h2.2.symm)
  · rw [List.length_map] at jl
    have ri : ∀ k : Int, 0 ≤ k → k < (repsI 0 n (marksOf n c x)).length → ∃ hk : k.toNat < (repsI 0 n (marksOf n c x)).length, rowAt ((repsI 0 n (marksOf n c x)).map (cls n (marksOf n c x))) k = cls n (marksOf n c x) ((repsI 0 n (marksOf n c x))[k.toNat]) := fun k k0 k1 => by
      have hk : k.toNat < (repsI 0 n (marksOf n c x)).length := by omega
      refine ⟨hk, ?_⟩
      unfold rowAt
      simp [hk]
    obtain ⟨hi, ei⟩ := ri i i0 (by omega)
    obtain ⟨hj, ej⟩ := ri j (by omega) jl
    rw [ei, mc] at hp
    rw [ej, mc] at hq
    intro z
    have e := mk_cn mk z
    rw [hp.2, hq.2] at e
    have lt : (repsI 0 n (marksOf n c x)).Pairwise (· < ·) := (rI_lt 0 n).filter _
    have := List.pairwise_iff_getElem.mp lt i.toNat j.toNat hi hj (by omega)
    omega
  · rw [List.length_map]
    have : (repsI 0 n (marksOf n c x)).length ≤ (rI 0 n).length := List.length_filter_le _ _
    rw [rI_length] at this
    have := h.hi
    omega
  · obtain ⟨r, hr, rfl⟩ := List.mem_map.mp hA
    have : (cls n (marksOf n c x) r).length ≤ (rI 0 n).length := List.length_filter_le _ _
    rw [rI_length] at this
    have := h.hi
    omega
/-- of a tame coloring: one color between two parts, another one than theirs -/
theorem parts_hom {n : Int} {c : List Int} {x : Int} {G : List (List Int)} (h : PartsOk n c x G) (nt : NoTri (col n c) n) {i j : Int} (i0 : 0 ≤ i) (ij : i < j) (jl : j < G.length) : ∀ p ∈ rowAt G i, ∀ q ∈ rowAt G j, col n c p q = col n c (hd (rowAt G i)) (hd (rowAt G j)) ∧ col n c p q ≠ x := fun p hp q hq => by
  have mi := rowAt_mem (G := G) i0 (by omega)
  have mj := rowAt_mem (G := G) (show 0 ≤ j by omega) jl
  have hi := hd_mem (h.ne _ mi)
  have hj := hd_mem (h.ne _ mj)
  have r1 := h.rg _ mi p hp
  have r2 := h.rg _ mj q hq
  have r3 := h.rg _ mi _ hi
  have r4 := h.rg _ mj _ hj
  exact hom2 (col_comm n c) nt aj_symm (h.cn _ mi p hp _ hi) (h.cn _ mj q hq _ hj) (h.nc i j i0 ij jl p hp q hq) r1.1 r1.2 r2.1 r2.2 r3.1 r3.2 r4.1 r4.2
end TC
set_option Elab.async false
set_option linter.all false
set_option maxRecDepth 100000
set_option maxHeartbeats 0
set_option autoImplicit false
/-! PmQ: colors between parts. -/
namespace TC
open PySem
theorem btw_snoc (f : Int → Int → Int) (G : List (List Int)) (m : Int) (h : 0 ≤ m) : (rI 0 (m + 1)).flatMap (btwL f G) = (rI 0 m).flatMap (btwL f G) ++ btwL f G m := by
  rw [rI_snoc h, List.flatMap_append]; simp
theorem btw_len (f : Int → Int → Int) (G : List (List Int)) (hG : G.length ≤ 7) : ∀ L : List Int, (∀ i ∈ L, 0 ≤ i) → (L.flatMap (btwL f G)).length ≤ 7 * L.length
  | [], _ => by simp
  | i :: L, h => by
    rw [List.flatMap_cons, List.length_append, List.length_cons]
    have := btw_len f G hG L (fun j hj => h j (List.mem_cons_of_mem _ hj))
    have : (btwL f G i).length ≤ 7 := by
      unfold btwL
      rw [List.length_map, rI_length]
      have := h i List.mem_cons_self
      omega
    omega
section
variable {T : List Df}
theorem sp_between_parts (h : HB T) (h1 : HasF T "check_color" 1 M_f_check_color) (h2 : HasF T "table_of" 6 M_f_table_of) (h3 : HasF T "first_triangle" 6 M_f_first_triangle) (h4 : HasF T "check_tame" 2 M_f_check_tame) (h5 : HasF T "parts_of" 12 M_f_parts_of) (h6 : HasF T "between_parts" 9 M_f_between_parts) (k : Nat) {n : Int} {c : List Int} (hc : AnyC n c) (nt : NoTri (col n c) n) {x : Int} (hx : 0 ≤ x) (hx' : x < 6) :
    Fk T (k + 6) "between_parts" [.int n, rowD c, .int x] = .ok (.list ((btw (col n c) (partsL n c x)).map rowD)) := by
  have a1 := sp_check_tame h h2 h3 h4 k hc
  rw [(firstTri_none (col n c) n).mpr nt] at a1
  have a1 : Fk T (k + 5) "check_tame" [.int n, rowD c] = .ok .none := a1
  have a2 := sp_check_color h h1 (k + 3) (.int x) rfl
  rw [show inR (.int x) 0 5 = true from inR_of hx (by omega)] at a2
  have a2 : Fk T (k + 5) "check_color" [.int x] = .ok .none := a2
  have a3 := sp_table_of h.pairs_of h2 (k + 3) hc.co
  have a4 := sp_parts_of h.pairs_of h5 (k + 3) hc.co x
  have po := parts_okP hc.co x
  generalize partsL n c x = G at *
  have gl := po.len
  rw [h6]
  have loop2 : ∀ (i : Int) (acc : List (List Int)) (s8 : Sl), 0 ≤ i → i < G.length → acc.length ≤ 49 → ∃ e', forG (.nm 8) (exS (Fk T (k + 5)) M_f_between_parts_L2) ((rI (i + 1) G.length).map .int) [.v (.int n), .v (rowD c), .v (.int x), .v (tblD n c), .v (.list (G.map rowD)), .own (acc.map rowD), .v (.int i), .v (rowD (rowAt G i)), s8] = .ok (.nx e') ∧
      ∃ s8, e' = [.v (.int n), .v (rowD c), .v (.int x), .v (tblD n c), .v (.list (G.map rowD)), .own ((acc ++ btwL (col n c) G i).map rowD), .v (.int i), .v (rowD (rowAt G i)), s8] := fun i acc s8 i0 i1 hacc => by
    refine for_pre PyData.int (fun P e' => ∃ s8, e' = [.v (.int n), .v (rowD c), .v (.int x), .v (tblD n c), .v (.list (G.map rowD)), .own ((acc ++ P.map fun j => [i, j, col n c (hd (rowAt G i)) (hd (rowAt G j))]).map rowD), .v (.int i), .v (rowD (rowAt G i)), s8]) (rI (i + 1) G.length) ?_ _ ⟨s8, by simp⟩
    rintro P j r hP e ⟨s8, rfl⟩
    obtain ⟨hj, hj2⟩ := rI_at hP
    have mi := rowAt_mem (G := G) i0 (by omega)
    have mj := rowAt_mem (G := G) (i := j) (by omega) (by omega)
    have ni := po.ne _ mi
    have nj := po.ne _ mj
    have ri := po.rg _ mi _ (hd_mem ni)
    have rj := po.rg _ mj _ (hd_mem nj)
    have nc := po.nc i j i0 (by omega) (by omega) _ (hd_mem ni) _ (hd_mem nj)
    have g := tbl_get hc.co ri.1 ri.2 rj.1 rj.2 (fun z => nc (z ▸ .refl _))
    have sr := sub_rows (G := G) (i := j) (by omega) (by omega)
    have sh1 := sub_hd ni
    have sh2 := sub_hd nj
    have ln : (acc ++ P.map fun j => [i, j, col n c (hd (rowAt G i)) (hd (rowAt G j))]).length ≤ 60 := by
      rw [List.length_append, List.length_map]; omega
    refine ⟨_, ?_, .v (.int j), rfl⟩
    have e3 : PyData.tuple [.int i, .int j, .int (col n c (hd (rowAt G i)) (hd (rowAt G j)))] = rowD [i, j, col n c (hd (rowAt G i)) (hd (rowAt G j))] := rfl
    rw [List.map_append, List.map_append, List.map_append, List.map_append, ← List.append_assoc]
    rw [List.length_append, List.length_map] at ln
    simp (disch := omega) only [M_f_between_parts_L2, exS, ev, getE, getO, getTb, asg, asgs, boolD_bool, bin_add, bin_sub, bin_mul, addI, modI, divI, mulI, eqD_ints, neD_ints, ltD_ints, gtD_ints, leD_ints, geD_ints, isN, isNN, tru_bool, tru_list, tru_tup, tru_row, len_list, len_tup, len_row, tup_list, list_tup, list_row, min_two, max_two, int_bool, int_int, itr_list, itr_tup, itr_row, seq_row, seq_list, seq_tup, rng_ok, frzE, R.ok_bind, R.exc_bind, listD_ok, calm_ok, okN, R.guard_true, isDict_row, isDict_int, isDict_tup, isDict_list, isDict_none, isDict_bool, isDict_str, isDict_pair, bndD, seqOk, List.all_cons, List.all_nil, Bool.not_false, Bool.not_true, Bool.and_self, Bool.true_and, Bool.and_true, Bool.false_and, Bool.and_false, List.length_cons, List.length_nil, List.length_map, if_true, if_false, ite_true, ite_false, Bool.false_eq_true, reduceIte, id, ofOpt_some, eqD_rows, neD_rows, eqD_intL, neD_intL, eqD_rowL, neD_rowL, eqD_nil, neD_nil, eqD_nilT, neD_nilT, eqD_nilR, neD_nilR, inD_ints, ninD_ints, inD_row, ninD_row, inD_rows, ninD_rows, mthTy_idx, mthTy_cnt, lens_ints, srts_ints, sorted_ints, List.getElem?_cons_zero, List.getElem?_cons_succ, List.set_cons_zero, List.set_cons_succ, sh1, sr, sh2, g, List.length_append, List.map_cons, List.map_nil, e3]
  obtain ⟨e', o1, s6, s7, s8, rfl⟩ := for_pre (t := .tp (.cn (.nm 6) (.cn (.nm 7) .nl))) (b := exS (Fk T (k + 5)) M_f_between_parts_L1) (fun q : Int × List Int => .tuple [.int q.1, rowD q.2])
    (fun P e' => ∃ s6 s7 s8, e' = [.v (.int n), .v (rowD c), .v (.int x), .v (tblD n c), .v (.list (G.map rowD)), .own (((rI 0 P.length).flatMap (btwL (col n c) G)).map rowD), s6, s7, s8]) (enuI 0 G) (by
      rintro P ⟨i, A⟩ r hP e ⟨s6, s7, s8, rfl⟩
      obtain ⟨hi, hA⟩ := enuI_at hP
      have hi : i = 0 + (P.length : Int) := hi
      have hA : G[P.length]? = some A := hA
      have pl : P.length < G.length := by
        rcases Nat.lt_or_ge P.length G.length with z | z
        · exact z
        · rw [List.getElem?_eq_none z] at hA; cases hA
      have eA : A = rowAt G i := by
        unfold rowAt
        rw [show i.toNat = P.length by omega, List.getD_eq_getElem?_getD, hA]; rfl
      subst eA
      have bl := btw_len (col n c) G gl (rI 0 P.length) (fun j hj => (mem_rI.mp hj).1)
      rw [rI_length] at bl
      obtain ⟨e', i1, s8', rfl⟩ := loop2 i ((rI 0 P.length).flatMap (btwL (col n c) G)) s8 (by omega) (by omega) (by omega)
      rw [List.length_append, List.length_singleton]
      have e2 : (rI 0 ((P.length + 1 : Nat) : Int)).flatMap (btwL (col n c) G) = (rI 0 P.length).flatMap (btwL (col n c) G) ++ btwL (col n c) G i := by
        rw [show ((P.length + 1 : Nat) : Int) = (P.length : Int) + 1 by omega, btw_snoc _ _ _ (by omega), show i = (P.length : Int) by omega]
      rw [e2]
      refine ⟨_, ?_, .v (.int i), .v (rowD (rowAt G i)), s8', rfl⟩
      simp (disch := omega) only [M_f_between_parts_L1, exS, ev, getE, getO, getTb, asg, asgs, boolD_bool, bin_add, bin_sub, bin_mul, addI, modI, divI, mulI, eqD_ints, neD_ints, ltD_ints, gtD_ints, leD_ints, geD_ints, isN, isNN, tru_bool, tru_list, tru_tup, tru_row, len_list, len_tup, len_row, tup_list, list_tup, list_row, min_two, max_two, int_bool, int_int, itr_list, itr_tup, itr_row, seq_row, seq_list, seq_tup, rng_ok, frzE, R.ok_bind, R.exc_bind, listD_ok, calm_ok, okN, R.guard_true, isDict_row, isDict_int, isDict_tup, isDict_list, isDict_none, isDict_bool, isDict_str, isDict_pair, bndD, seqOk, List.all_cons, List.all_nil, Bool.not_false, Bool.not_true, Bool.and_self, Bool.true_and, Bool.and_true, Bool.false_and, Bool.and_false, List.length_cons, List.length_nil, List.length_map, if_true, if_false, ite_true, ite_false, Bool.false_eq_true, reduceIte, id, ofOpt_some, eqD_rows, neD_rows, eqD_intL, neD_intL, eqD_rowL, neD_rowL, eqD_nil, neD_nil, eqD_nilT, neD_nilT, eqD_nilR, neD_nilR, inD_ints, ninD_ints, inD_row, ninD_row, inD_rows, ninD_rows, mthTy_idx, mthTy_cnt, lens_ints, srts_ints, sorted_ints, List.getElem?_cons_zero, List.getElem?_cons_succ, List.set_cons_zero, List.set_cons_succ, i1])
    [.v (.int n), .v (rowD c), .v (.int x), .v (tblD n c), .v (.list (G.map rowD)), .own [], .no, .no, .no] ⟨_, _, _, rfl⟩
  rw [enuI_len] at o1
  have en : enuL 0 (G.map rowD) = (enuI 0 G).map fun q => .tuple [.int q.1, rowD q.2] := enu_map0 rowD G
  simp (disch := omega) only [runS, List.map_cons, List.map_nil, List.length_cons, List.length_nil, List.replicate, Nat.reduceAdd, Nat.reduceSub, List.cons_append, List.nil_append, M_f_between_parts, exS, ev, getE, getO, getTb, asg, asgs, boolD_bool, bin_add, bin_sub, bin_mul, addI, modI, divI, mulI, eqD_ints, neD_ints, ltD_ints, gtD_ints, leD_ints, geD_ints, isN, isNN, tru_bool, tru_list, tru_tup, tru_row, len_list, len_tup, len_row, tup_list, list_tup, list_row, min_two, max_two, int_bool, int_int, itr_list, itr_tup, itr_row, seq_row, seq_list, seq_tup, rng_ok, frzE, R.ok_bind, R.exc_bind, listD_ok, calm_ok, okN, R.guard_true, isDict_row, isDict_int, isDict_tup, isDict_list, isDict_none, isDict_bool, isDict_str, isDict_pair, bndD, seqOk, List.all_cons, List.all_nil, Bool.not_false, Bool.not_true, Bool.and_self, Bool.true_and, Bool.and_true, Bool.false_and, Bool.and_false, List.length_cons, List.length_nil, List.length_map, if_true, if_false, ite_true, ite_false, Bool.false_eq_true, reduceIte, id, ofOpt_some, eqD_rows, neD_rows, eqD_intL, neD_intL, eqD_rowL, neD_rowL, eqD_nil, neD_nil, eqD_nilT, neD_nilT, eqD_nilR, neD_nilR, inD_ints, ninD_ints, inD_row, ninD_row, inD_rows, ninD_rows, mthTy_idx, mthTy_cnt, lens_ints, srts_ints, sorted_ints, List.getElem?_cons_zero, List.getElem?_cons_succ, List.set_cons_zero, List.set_cons_succ, a1, a2, a3, a4, en, o1]
  rfl
theorem sp_between_partsN (h : HB T) (h2 : HasF T "table_of" 6 M_f_table_of) (h3 : HasF T "first_triangle" 6 M_f_first_triangle) (h4 : HasF T "check_tame" 2 M_f_check_tame) (h6 : HasF T "between_parts" 9 M_f_between_parts) (k : Nat) {n : Int} {c : List Int} (hc : AnyC n c) (nt : ¬ NoTri (col n c) n) (x : D) :
    Fk T (k + 6) "between_parts" [.int n, rowD c, x] = .exc "NotTame" := by
  have a1 := sp_check_tame h h2 h3 h4 k hc
  have e : (firstTri (col n c) n).isNone = false := by
    cases z : firstTri (col n c) n with
    | none => exact absurd ((firstTri_none _ _).mp z) nt
    | some t => rfl
  rw [e] at a1
  have a1 : Fk T (k + 5) "check_tame" [.int n, rowD c] = .exc "NotTame" := a1
  rw [h6]
  simp (disch := omega) only [runS, List.map_cons, List.map_nil, List.length_cons, List.length_nil, List.replicate, Nat.reduceAdd, Nat.reduceSub, List.cons_append, List.nil_append, M_f_between_parts, exS, ev, getE, getO, getTb, asg, asgs, boolD_bool, bin_add, bin_sub, bin_mul, addI, modI, divI, mulI, eqD_ints, neD_ints, ltD_ints, gtD_ints, leD_ints, geD_ints, isN, isNN, tru_bool, tru_list, tru_tup, tru_row, len_list, len_tup, len_row, tup_list, list_tup, list_row, min_two, max_two, int_bool, int_int, itr_list, itr_tup, itr_row, seq_row, seq_list, seq_tup, rng_ok, frzE, R.ok_bind, R.exc_bind, listD_ok, calm_ok, okN, R.guard_true, isDict_row, isDict_int, isDict_tup, isDict_list, isDict_none, isDict_bool, isDict_str, isDict_pair, bndD, seqOk, List.all_cons, List.all_nil, Bool.not_false, Bool.not_true, Bool.and_self, Bool.true_and, Bool.and_true, Bool.false_and, Bool.and_false, List.length_cons, List.length_nil, List.length_map, if_true, if_false, ite_true, ite_false, Bool.false_eq_true, reduceIte, id, ofOpt_some, eqD_rows, neD_rows, eqD_intL, neD_intL, eqD_rowL, neD_rowL, eqD_nil, neD_nil, eqD_nilT, neD_nilT, eqD_nilR, neD_nilR, inD_ints, ninD_ints, inD_row, ninD_row, inD_rows, ninD_rows, mthTy_idx, mthTy_cnt, lens_ints, srts_ints, sorted_ints, List.getElem?_cons_zero, List.getElem?_cons_succ, List.set_cons_zero, List.set_cons_succ, a1]
theorem sp_between_partsC (h : HB T) (h1 : HasF T "check_color" 1 M_f_check_color) (h2 : HasF T "table_of" 6 M_f_table_of) (h3 : HasF T "first_triangle" 6 M_f_first_triangle) (h4 : HasF T "check_tame" 2 M_f_check_tame) (h6 : HasF T "between_parts" 9 M_f_between_parts) (k : Nat) {n : Int} {c : List Int} (hc : AnyC n c) (nt : NoTri (col n c) n) {x : D} (hx : isDict x = false) (hx' : inR x 0 5 = false) :
    Fk T (k + 6) "between_parts" [.int n, rowD c, x] = .exc "InvalidColor" := by
  have a1 := sp_check_tame h h2 h3 h4 k hc
  rw [(firstTri_none (col n c) n).mpr nt] at a1
  have a1 : Fk T (k + 5) "check_tame" [.int n, rowD c] = .ok .none := a1
  have a2 := sp_check_color h h1 (k + 3) x hx
  rw [hx'] at a2
  have a2 : Fk T (k + 5) "check_color" [x] = .exc "InvalidColor" := a2
  rw [h6]
  simp (disch := omega) only [runS, List.map_cons, List.map_nil, List.length_cons, List.length_nil, List.replicate, Nat.reduceAdd, Nat.reduceSub, List.cons_append, List.nil_append, M_f_between_parts, exS, ev, getE, getO, getTb, asg, asgs, boolD_bool, bin_add, bin_sub, bin_mul, addI, modI, divI, mulI, eqD_ints, neD_ints, ltD_ints, gtD_ints, leD_ints, geD_ints, isN, isNN, tru_bool, tru_list, tru_tup, tru_row, len_list, len_tup, len_row, tup_list, list_tup, list_row, min_two, max_two, int_bool, int_int, itr_list, itr_tup, itr_row, seq_row, seq_list, seq_tup, rng_ok, frzE, R.ok_bind, R.exc_bind, listD_ok, calm_ok, okN, R.guard_true, isDict_row, isDict_int, isDict_tup, isDict_list, isDict_none, isDict_bool, isDict_str, isDict_pair, bndD, seqOk, List.all_cons, List.all_nil, Bool.not_false, Bool.not_true, Bool.and_self, Bool.true_and, Bool.and_true, Bool.false_and, Bool.and_false, List.length_cons, List.length_nil, List.length_map, if_true, if_false, ite_true, ite_false, Bool.false_eq_true, reduceIte, id, ofOpt_some, eqD_rows, neD_rows, eqD_intL, neD_intL, eqD_rowL, neD_rowL, eqD_nil, neD_nil, eqD_nilT, neD_nilT, eqD_nilR, neD_nilR, inD_ints, ninD_ints, inD_row, ninD_row, inD_rows, ninD_rows, mthTy_idx, mthTy_cnt, lens_ints, srts_ints, sorted_ints, List.getElem?_cons_zero, List.getElem?_cons_succ, List.set_cons_zero, List.set_cons_succ, a1, a2]
end
end TC
set_option Elab.async false
set_option linter.all false
set_option maxRecDepth 100000
set_option maxHeartbeats 0
set_option autoImplicit false
namespace LW
open PySem PySem.Spec PyProof.Rows L2 TC

def callH (k : Nat) (m : Int) (a : List D) : R D := if m = 0 then Fk T (k + 1) "candidates" a else Fk T (k + 1) "best_pair" a
theorem hid_body (k : Nat) (m : Int) (p c ans : D) : exS (Fk T (k + 1)) (.cons (.ret (.ife (.cmp .Eq (.var 0) (.int 0)) (.call "candidates" (.cons (.var 1) (.cons (.var 2) (.cons (.var 3) .nil)))) (.call "best_pair" (.cons (.var 1) (.cons (.var 2) (.cons (.var 3) .nil)))))) .nil) [.v (.int m), .v p, .v c, .v ans, .no] = (callH k m [p, c, ans]).bind fun d => .ok (.rt d) := by
  unfold callH
  by_cases h : m = 0
  · rw [if_pos h]
    simp only [exS, ev, getE, List.getElem?_cons_zero, List.getElem?_cons_succ, R.ok_bind, cmpD, mapB, eq_ints, truD, listD, h, decide_true, id, if_true]
    cases Fk T (k + 1) "candidates" [p, c, ans] <;> rfl
  · rw [if_neg h]
    simp only [exS, ev, getE, List.getElem?_cons_zero, List.getElem?_cons_succ, R.ok_bind, cmpD, mapB, eq_ints, truD, listD, h, decide_false, id]
    cases Fk T (k + 1) "best_pair" [p, c, ans] <;> rfl
theorem hid_eq (k : Nat) (m : Int) (p c ans : D) : Fk T (k + 2) "_law_hidden" [.int m, p, c, ans] = (match (callH k m [p, c, ans]).bind fun d => (R.ok (Fl.rt d) : R Fl) with
    | .exc x => if x ∈ XS then hand [⟨"InvalidNumber", "InvalidAnswers", "number", "other"⟩, ⟨"InvalidAnswers", "InvalidNumber", "answers", "other"⟩] x else .stuck
    | r => r).bind fun f => match f with
    | .nx _ => .ok .none
    | .rt d => .ok d
    | _ => .stuck := by
  rw [H_hidden]
  have e := hid_body k m p c ans
  show (((match exS (Fk T (k + 1)) _ [.v (.int m), .v p, .v c, .v ans, .no] with
    | .exc x => if x ∈ XS then hand [⟨"InvalidNumber", "InvalidAnswers", "number", "other"⟩, ⟨"InvalidAnswers", "InvalidNumber", "answers", "other"⟩] x else .stuck
    | r => r).bind fun f => match f with | .nx e1 => (R.ok (Fl.nx e1) : R Fl) | g => .ok g).bind _) = _
  rw [e]
  cases callH k m [p, c, ans] with
  | ok d => rfl
  | stuck => rfl
  | exc x =>
    show (((if x ∈ XS then hand _ x else .stuck).bind _).bind _) = _
    by_cases hx : x ∈ XS
    · simp only [hx, if_true, R.exc_bind]
      unfold hand
      split
      · rfl
      · unfold hand
        split
        · rfl
        · rfl
    · simp only [hx, if_false, R.exc_bind]; rfl
theorem hid_ok {k : Nat} {m : Int} {p c ans d : D} (h : callH k m [p, c, ans] = .ok d) : Fk T (k + 2) "_law_hidden" [.int m, p, c, ans] = .ok d := by
  rw [hid_eq, h]; rfl
theorem hid_ans {k : Nat} {m : Int} {p c ans : D} (h : callH k m [p, c, ans] = .exc "InvalidAnswers") : Fk T (k + 2) "_law_hidden" [.int m, p, c, ans] = .ok (.str "answers") := by
  rw [hid_eq, h]; kernel_rfl
theorem hid_num {k : Nat} {m : Int} {p c ans : D} (h : callH k m [p, c, ans] = .exc "InvalidNumber") : Fk T (k + 2) "_law_hidden" [.int m, p, c, ans] = .ok (.str "number") := by
  rw [hid_eq, h]; kernel_rfl

def nPairs (p : Nat) : Nat := p * (p - 1) / 2
def lOk : R D → Nat → Bool
  | .ok (.list ds), n => decide (ds.length = n)
  | _, _ => false
theorem pairs_all (k : Nat) : (pcs.all fun q => lOk (Fk T (k + 1) "pairs_of" [.int q.1]) (nPairs q.1)) = true := by kernel_rfl
structure Pc (p c : Nat) : Prop where
  hp : inR (.int p) 1 4 = true
  hc : inR (.int c) 1 3 = true
  ev : ∀ k, Fk T (k + 4) "every_tame" [.int p, .int c] = .ok (.list ((Et p c).map rowD))
  pr : ∀ k, ∃ ps, Fk T (k + 1) "pairs_of" [.int p] = .ok (.list ps) ∧ ps.length = nPairs p
  le : (Et p c).length ≤ 100
  ne : Et p c ≠ []
  rl : ∀ r ∈ Et p c, r.length = nPairs p
  rb : ∀ r ∈ Et p c, ∀ x ∈ r, 0 ≤ x ∧ x < (c : Int)
theorem inr_all : (pcs.all fun q => inR (.int q.1) 1 4 && inR (.int q.2) 1 3) = true := by decide +kernel
theorem pc_ok (q : Nat × Nat) (hq : q ∈ pcs) : Pc q.1 q.2 := by
  have h1 := fun k => List.all_eq_true.mp (et_all k) q hq
  have h2 := fun k => List.all_eq_true.mp (pairs_all k) q hq
  have h3 := List.all_eq_true.mp inr_all q hq
  rw [Bool.and_eq_true] at h3
  have h0 := h1 0
  simp only [Bool.and_eq_true, decide_eq_true_eq, List.all_eq_true] at h0
  refine ⟨h3.1, h3.2, fun k => ?_, fun k => ?_, h0.2.1, ?_, fun r hr => (h0.2.2.2 r hr).1, fun r hr x hx => (h0.2.2.2 r hr).2 x hx⟩
  · have := h1 k
    rw [Bool.and_eq_true] at this
    exact rOk_eq this.1
  · have := h2 k
    cases e : Fk T (k + 1) "pairs_of" [.int q.1] with
    | exc c => rw [e] at this; cases this
    | stuck => rw [e] at this; cases this
    | ok d =>
      rw [e] at this
      cases d <;> first | (cases this; done) | skip
      exact ⟨_, rfl, of_decide_eq_true this⟩
  · have := h0.2.2.1
    intro z
    rw [z] at this
    cases this
end LW
set_option Elab.async false
set_option linter.all false
set_option maxRecDepth 100000
set_option maxHeartbeats 0
set_option autoImplicit false
/-! PmR: blocks one after the other. -/
namespace TC
open PySem
def appS : TC.S → TC.S → TC.S
  | .nil, b => b
  | .cons a r, b => .cons a (appS r b)
  | s, b => .cons s b
theorem ex_app {F : Fns} {b : TC.S} {e1 : TC.Env} : ∀ {a : TC.S} {e : TC.Env}, exS F a e = .ok (.nx e1) → exS F (appS a b) e = exS F b e1
  | .nil, e, h => by
    have h : R.ok (Fl.nx e) = .ok (.nx e1) := h
    cases h; rfl
  | .cons x r, e, h => by
    have h : ((exS F x e).bind fun f => match f with | .nx e1 => exS F r e1 | g => .ok g) = .ok (.nx e1) := h
    show ((exS F x e).bind fun f => match f with | .nx e1 => exS F (appS r b) e1 | g => .ok g) = _
    cases hx : exS F x e with
    | stuck => rw [hx] at h; cases h
    | exc c => rw [hx] at h; cases h
    | ok f =>
      rw [hx] at h
      cases f with
      | nx e2 => exact ex_app (a := r) h
      | rt d => cases h
      | bk e => cases h
      | ct e => cases h
  | .pass, e, h => ex_next h
  | .ex _, e, h => ex_next h
  | .set _ _, e, h => ex_next h
  | .par _ _ _ _, e, h => ex_next h
  | .par3 _ _ _ _ _ _, e, h => ex_next h
  | .aug _ _, e, h => ex_next h
  | .ret _, e, h => ex_next h
  | .ife _ _ _, e, h => ex_next h
  | .for _ _ _, e, h => ex_next h
  | .whl _ _ _, e, h => ex_next h
  | .rai _, e, h => ex_next h
  | .frz _, e, h => ex_next h
  | .own _ _, e, h => ex_next h
  | .tab _, e, h => ex_next h
  | .tab1 _ _ _, e, h => ex_next h
  | .app _ _, e, h => ex_next h
  | .ext _ _, e, h => ex_next h
  | .put _ _ _, e, h => ex_next h
  | .putL _ _ _, e, h => ex_next h
  | .pop _ _ _, e, h => ex_next h
  | .try _ _ _ _, e, h => ex_next h
  | .tryK _ _ _ _ _ _, e, h => ex_next h
  | .nev, e, h => ex_next h
end TC
set_option Elab.async false
set_option linter.all false
set_option maxRecDepth 100000
set_option maxHeartbeats 0
set_option autoImplicit false
namespace LW
open PySem TC
theorem at_lev (k : Nat) {p c : Nat} (h : Pc p c) : Fk T (k + 5) "all_tame" [.int p, .int c] = .ok (.list ((Et p c).map rowD)) := by
  have a1 := sp_check_small H_f_in_range H_f_check_small (k + 2) (.int p) (.int c) rfl rfl
  rw [h.hp, h.hc] at a1
  have a1 : Fk T (k + 4) "check_small" [.int p, .int c] = .ok .none := a1
  have a2 := h.ev k
  rw [H_f_all_tame]
  simp (disch := omega) only [runS, List.map_cons, List.map_nil, List.length_cons, List.length_nil, List.replicate, Nat.reduceAdd, Nat.reduceSub, List.cons_append, List.nil_append, M_f_all_tame, exS, ev, getE, getO, getTb, asg, asgs, boolD_bool, bin_add, bin_sub, bin_mul, addI, modI, divI, mulI, eqD_ints, neD_ints, ltD_ints, gtD_ints, leD_ints, geD_ints, isN, isNN, tru_bool, tru_list, tru_tup, tru_row, len_list, len_tup, len_row, tup_list, list_tup, list_row, min_two, max_two, int_bool, int_int, itr_list, itr_tup, itr_row, seq_row, seq_list, seq_tup, rng_ok, frzE, R.ok_bind, R.exc_bind, listD_ok, calm_ok, okN, R.guard_true, isDict_row, isDict_int, isDict_tup, isDict_list, isDict_none, isDict_bool, isDict_str, isDict_pair, bndD, seqOk, List.all_cons, List.all_nil, Bool.not_false, Bool.not_true, Bool.and_self, Bool.true_and, Bool.and_true, Bool.false_and, Bool.and_false, List.length_cons, List.length_nil, List.length_map, if_true, if_false, ite_true, ite_false, Bool.false_eq_true, reduceIte, id, ofOpt_some, eqD_rows, neD_rows, eqD_intL, neD_intL, eqD_rowL, neD_rowL, eqD_nil, neD_nil, eqD_nilT, neD_nilT, eqD_nilR, neD_nilR, inD_ints, ninD_ints, inD_row, ninD_row, inD_rows, ninD_rows, mthTy_idx, mthTy_cnt, lens_ints, srts_ints, sorted_ints, List.getElem?_cons_zero, List.getElem?_cons_succ, List.set_cons_zero, List.set_cons_succ, a1, a2]
theorem cand_exc {k : Nat} {p c a : D} {x : Str} (h : Fk T k "check_answers" [p, c, a] = .exc x) : Fk T (k + 1) "candidates" [p, c, a] = .exc x := by
  rw [H_f_candidates]
  simp (disch := omega) only [runS, List.map_cons, List.map_nil, List.length_cons, List.length_nil, List.replicate, Nat.reduceAdd, Nat.reduceSub, List.cons_append, List.nil_append, M_f_candidates, exS, ev, getE, getO, getTb, asg, asgs, boolD_bool, bin_add, bin_sub, bin_mul, addI, modI, divI, mulI, eqD_ints, neD_ints, ltD_ints, gtD_ints, leD_ints, geD_ints, isN, isNN, tru_bool, tru_list, tru_tup, tru_row, len_list, len_tup, len_row, tup_list, list_tup, list_row, min_two, max_two, int_bool, int_int, itr_list, itr_tup, itr_row, seq_row, seq_list, seq_tup, rng_ok, frzE, R.ok_bind, R.exc_bind, listD_ok, calm_ok, okN, R.guard_true, isDict_row, isDict_int, isDict_tup, isDict_list, isDict_none, isDict_bool, isDict_str, isDict_pair, bndD, seqOk, List.all_cons, List.all_nil, Bool.not_false, Bool.not_true, Bool.and_self, Bool.true_and, Bool.and_true, Bool.false_and, Bool.and_false, List.length_cons, List.length_nil, List.length_map, if_true, if_false, ite_true, ite_false, Bool.false_eq_true, reduceIte, id, ofOpt_some, eqD_rows, neD_rows, eqD_intL, neD_intL, eqD_rowL, neD_rowL, eqD_nil, neD_nil, eqD_nilT, neD_nilT, eqD_nilR, neD_nilR, inD_ints, ninD_ints, inD_row, ninD_row, inD_rows, ninD_rows, mthTy_idx, mthTy_cnt, lens_ints, srts_ints, sorted_ints, List.getElem?_cons_zero, List.getElem?_cons_succ, List.set_cons_zero, List.set_cons_succ, h]
theorem best_exc {k : Nat} {p c a : D} {x : Str} (h : Fk T k "candidates" [p, c, a] = .exc x) : Fk T (k + 1) "best_pair" [p, c, a] = .exc x := by
  rw [H_f_best_pair]
  simp (disch := omega) only [runS, List.map_cons, List.map_nil, List.length_cons, List.length_nil, List.replicate, Nat.reduceAdd, Nat.reduceSub, List.cons_append, List.nil_append, M_f_best_pair, exS, ev, getE, getO, getTb, asg, asgs, boolD_bool, bin_add, bin_sub, bin_mul, addI, modI, divI, mulI, eqD_ints, neD_ints, ltD_ints, gtD_ints, leD_ints, geD_ints, isN, isNN, tru_bool, tru_list, tru_tup, tru_row, len_list, len_tup, len_row, tup_list, list_tup, list_row, min_two, max_two, int_bool, int_int, itr_list, itr_tup, itr_row, seq_row, seq_list, seq_tup, rng_ok, frzE, R.ok_bind, R.exc_bind, listD_ok, calm_ok, okN, R.guard_true, isDict_row, isDict_int, isDict_tup, isDict_list, isDict_none, isDict_bool, isDict_str, isDict_pair, bndD, seqOk, List.all_cons, List.all_nil, Bool.not_false, Bool.not_true, Bool.and_self, Bool.true_and, Bool.and_true, Bool.false_and, Bool.and_false, List.length_cons, List.length_nil, List.length_map, if_true, if_false, ite_true, ite_false, Bool.false_eq_true, reduceIte, id, ofOpt_some, eqD_rows, neD_rows, eqD_intL, neD_intL, eqD_rowL, neD_rowL, eqD_nil, neD_nil, eqD_nilT, neD_nilT, eqD_nilR, neD_nilR, inD_ints, ninD_ints, inD_row, ninD_row, inD_rows, ninD_rows, mthTy_idx, mthTy_cnt, lens_ints, srts_ints, sorted_ints, List.getElem?_cons_zero, List.getElem?_cons_succ, List.set_cons_zero, List.set_cons_succ, h]
theorem call_exc {p c a : D} {x : Str} (h : ∀ k, 3 ≤ k → Fk T k "check_answers" [p, c, a] = .exc x) (m : Int) : callH 37 m [p, c, a] = .exc x := by
  unfold callH
  split
  · exact cand_exc (h 37 (by omega))
  · exact best_exc (cand_exc (h 36 (by omega)))
theorem ansD_pair (q : Int × Int) : ansD q = pairD q := rfl
theorem plain (ns : List Int) (hl : ns.length ≤ 63) : TC.Fk T 40 "law" [.dict (TC.scrD ns)] = .ok (.bool true) := by
  obtain ⟨l, hl, r1⟩ := sp_row H_l_law_cell H_l_law_row 37 ns 4 (by decide)
  have dr : ∀ {i : Int}, 0 ≤ i → i < 60 → subD (.list (l.map .int)) (.int i) = .ok (.int (l.getD i.toNat 0)) := fun h1 h2 => (dr_ok hl h1 h2).1
  obtain ⟨d, d1, q, hq, rfl⟩ := sub_lit (xs := [.tuple [.int 1, .int 1], .tuple [.int 2, .int 3], .tuple [.int 3, .int 2], .tuple [.int 3, .int 3], .tuple [.int 4, .int 1], .tuple [.int 4, .int 2], .tuple [.int 3, .int 3], .tuple [.int 4, .int 2]]) (i := l.getD (0 : Int).toNat 0 % 8) (P := fun d => ∃ q ∈ pcs, d = .tuple [.int (q.1 : Nat), .int (q.2 : Nat)]) (by omega) (by simp; omega) (by
    intro d hd
    simp only [List.mem_cons, List.not_mem_nil, or_false] at hd
    rcases hd with rfl | rfl | rfl | rfl | rfl | rfl | rfl | rfl
    · exact ⟨(1, 1), by decide, rfl⟩
    · exact ⟨(2, 3), by decide, rfl⟩
    · exact ⟨(3, 2), by decide, rfl⟩
    · exact ⟨(3, 3), by decide, rfl⟩
    · exact ⟨(4, 1), by decide, rfl⟩
    · exact ⟨(4, 2), by decide, rfl⟩
    · exact ⟨(3, 3), by decide, rfl⟩
    · exact ⟨(4, 2), by decide, rfl⟩)
  have PC := pc_ok q hq
  have hp2 : 1 < q.1 → 0 < nPairs q.1 := by
    have : ∀ q ∈ pcs, 1 < q.1 → 0 < nPairs q.1 := by decide +kernel
    exact this q hq
  have hN10 : nPairs q.1 ≤ 10 := by
    have : ∀ q ∈ pcs, nPairs q.1 ≤ 10 := by decide +kernel
    exact this q hq
  have hcp : 0 < q.2 ∧ q.2 ≤ 3 := by
    have : ∀ q ∈ pcs, 0 < q.2 ∧ q.2 ≤ 3 := by decide +kernel
    exact this q hq
  obtain ⟨p, c⟩ := q
  have PC : Pc p c := PC
  have hp2 : 1 < p → 0 < nPairs p := hp2
  have hN10 : nPairs p ≤ 10 := hN10
  have hcp : 0 < c ∧ c ≤ 3 := hcp
  clear hq
  have e1 := at_lev 34 PC
  have el : 0 < (Et p c).length := List.length_pos_iff.mpr PC.ne
  have h100 := PC.le
  have i0 : 0 ≤ l.getD (1 : Int).toNat 0 % ((Et p c).length : Int) := Int.emod_nonneg _ (by omega)
  have i1 : l.getD (1 : Int).toNat 0 % ((Et p c).length : Int) < (Et p c).length := Int.emod_lt_of_pos _ (by omega)
  have hs := sub_rows (G := Et p c) i0 i1
  have hm := rowAt_mem (G := Et p c) i0 i1
  generalize hh : rowAt (Et p c) (l.getD (1 : Int).toNat 0 % ((Et p c).length : Int)) = h at *
  have hlen := PC.rl h hm
  generalize hE : Et p c = E at *
  -- the answers
  have key : ∃ (as : List (Int × Int)) (s7 s8 : Sl), as.length ≤ 3 ∧ (∀ q ∈ as, (0 ≤ q.1 ∧ q.1 < (nPairs p : Int)) ∧ 0 ≤ q.2 ∧ q.2 < (c : Int)) ∧ exS (Fk T 39) (nthS b_f_law 5) [.v (.dict (scrD ns)), .v (.list (l.map .int)), .v (.int p), .v (.int c), .v (.list (E.map rowD)), .v (rowD h), .own [], .no, .no, .no, .no, .no, .no, .no, .no, .no, .no, .no, .no] = .ok (.nx [.v (.dict (scrD ns)), .v (.list (l.map .int)), .v (.int p), .v (.int c), .v (.list (E.map rowD)), .v (rowD h), .own (as.map pairD), s7, s8, .no, .no, .no, .no, .no, .no, .no, .no, .no, .no]) := by
    by_cases h1 : 1 < (p : Int)
    · have hpos := hp2 (by omega)
      have lo := for_pre (t := .nm 7) (b := exS (Fk T 39) M_law_L1) PyData.int (fun P e' => ∃ as s7 s8, (as.length = P.length ∧ ∀ q ∈ as, (0 ≤ q.1 ∧ q.1 < (nPairs p : Int)) ∧ 0 ≤ q.2 ∧ q.2 < (c : Int)) ∧ e' = [.v (.dict (scrD ns)), .v (.list (l.map .int)), .v (.int p), .v (.int c), .v (.list (E.map rowD)), .v (rowD h), .own (as.map pairD), s7, s8, .no, .no, .no, .no, .no, .no, .no, .no, .no, .no]) (rI 0 (l.getD (2 : Int).toNat 0 % 4)) (by
        rintro P t r hP e ⟨as, s7, s8, ⟨as1, as2⟩, rfl⟩
        obtain ⟨ht, ht2⟩ := rI_at hP
        have q0 : 0 ≤ l.getD (3 + t).toNat 0 % (h.length : Int) := Int.emod_nonneg _ (by omega)
        have q1 : l.getD (3 + t).toNat 0 % (h.length : Int) < h.length := Int.emod_lt_of_pos _ (by omega)
        have sr := sub_row (l := h) q0 q1
        generalize hpl : l.getD (3 + t).toNat 0 % (h.length : Int) = pl at *
        have m0 : 0 ≤ (h.getD pl.toNat 0 + if decide (l.getD (10 + t).toNat 0 % 9 = 0) = true then 1 else 0) % (c : Int) := Int.emod_nonneg _ (by omega)
        have m1 : (h.getD pl.toNat 0 + if decide (l.getD (10 + t).toNat 0 % 9 = 0) = true then 1 else 0) % (c : Int) < c := Int.emod_lt_of_pos _ (by omega)
        refine ⟨_, ?_, as ++ [(pl, (h.getD pl.toNat 0 + if decide (l.getD (10 + t).toNat 0 % 9 = 0) = true then 1 else 0) % (c : Int))], .v (.int t), .v (.int pl), ⟨by simp [as1], fun q hq => ?_⟩, rfl⟩
        · rw [List.map_append]
          have e3 : ∀ a b : Int, PyData.tuple [.int a, .int b] = pairD (a, b) := fun _ _ => rfl
          simp (disch := omega) only [M_law_L1, exS, ev, getE, getO, getTb, asg, asgs, boolD_bool, bin_add, bin_sub, bin_mul, addI, modI, divI, mulI, eqD_ints, neD_ints, ltD_ints, gtD_ints, leD_ints, geD_ints, isN, isNN, tru_bool, tru_list, tru_tup, tru_row, len_list, len_tup, len_row, tup_list, list_tup, list_row, min_two, max_two, int_bool, int_int, itr_list, itr_tup, itr_row, seq_row, seq_list, seq_tup, rng_ok, frzE, R.ok_bind, R.exc_bind, listD_ok, calm_ok, okN, R.guard_true, isDict_row, isDict_int, isDict_tup, isDict_list, isDict_none, isDict_bool, isDict_str, isDict_pair, bndD, seqOk, List.all_cons, List.all_nil, Bool.not_false, Bool.not_true, Bool.and_self, Bool.true_and, Bool.and_true, Bool.false_and, Bool.and_false, List.length_cons, List.length_nil, List.length_map, if_true, if_false, ite_true, ite_false, Bool.false_eq_true, reduceIte, id, ofOpt_some, eqD_rows, neD_rows, eqD_intL, neD_intL, eqD_rowL, neD_rowL, eqD_nil, neD_nil, eqD_nilT, neD_nilT, eqD_nilR, neD_nilR, inD_ints, ninD_ints, inD_row, ninD_row, inD_rows, ninD_rows, mthTy_idx, mthTy_cnt, lens_ints, srts_ints, sorted_ints, List.getElem?_cons_zero, List.getElem?_cons_succ, List.set_cons_zero, List.set_cons_succ, dr, hpl, sr, e3, List.map_cons, List.map_nil]
        · rcases List.mem_append.mp hq with z | z
          · exact as2 q z
          · rw [List.mem_singleton] at z
            subst z
            exact ⟨⟨q0, by show pl < _; omega⟩, m0, m1⟩) [.v (.dict (scrD ns)), .v (.list (l.map .int)), .v (.int p), .v (.int c), .v (.list (E.map rowD)), .v (rowD h), .own [], .no, .no, .no, .no, .no, .no, .no, .no, .no, .no, .no, .no] ⟨[], _, _, ⟨rfl, fun _ h => by cases h⟩, rfl⟩
      obtain ⟨e', lo, as, s7, s8, ⟨a1, a2⟩, rfl⟩ := lo
      refine ⟨as, s7, s8, by rw [a1, rI_length]; omega, a2, ?_⟩
      simp (disch := omega) only [b_f_law, nthS, exS, ev, getE, getO, getTb, asg, asgs, boolD_bool, bin_add, bin_sub, bin_mul, addI, modI, divI, mulI, eqD_ints, neD_ints, ltD_ints, gtD_ints, leD_ints, geD_ints, isN, isNN, tru_bool, tru_list, tru_tup, tru_row, len_list, len_tup, len_row, tup_list, list_tup, list_row, min_two, max_two, int_bool, int_int, itr_list, itr_tup, itr_row, seq_row, seq_list, seq_tup, rng_ok, frzE, R.ok_bind, R.exc_bind, listD_ok, calm_ok, okN, R.guard_true, isDict_row, isDict_int, isDict_tup, isDict_list, isDict_none, isDict_bool, isDict_str, isDict_pair, bndD, seqOk, List.all_cons, List.all_nil, Bool.not_false, Bool.not_true, Bool.and_self, Bool.true_and, Bool.and_true, Bool.false_and, Bool.and_false, List.length_cons, List.length_nil, List.length_map, if_true, if_false, ite_true, ite_false, Bool.false_eq_true, reduceIte, id, ofOpt_some, eqD_rows, neD_rows, eqD_intL, neD_intL, eqD_rowL, neD_rowL, eqD_nil, neD_nil, eqD_nilT, neD_nilT, eqD_nilR, neD_nilR, inD_ints, ninD_ints, inD_row, ninD_row, inD_rows, ninD_rows, mthTy_idx, mthTy_cnt, lens_ints, srts_ints, sorted_ints, List.getElem?_cons_zero, List.getElem?_cons_succ, List.set_cons_zero, List.set_cons_succ, dr, decide_eq_true h1, lo]
    · refine ⟨[], .no, .no, by simp, fun _ h => (by cases h), ?_⟩
      have z : rI 0 0 = [] := rI_nil (by decide)
      simp (disch := omega) only [b_f_law, nthS, exS, ev, getE, getO, getTb, asg, asgs, boolD_bool, bin_add, bin_sub, bin_mul, addI, modI, divI, mulI, eqD_ints, neD_ints, ltD_ints, gtD_ints, leD_ints, geD_ints, isN, isNN, tru_bool, tru_list, tru_tup, tru_row, len_list, len_tup, len_row, tup_list, list_tup, list_row, min_two, max_two, int_bool, int_int, itr_list, itr_tup, itr_row, seq_row, seq_list, seq_tup, rng_ok, frzE, R.ok_bind, R.exc_bind, listD_ok, calm_ok, okN, R.guard_true, isDict_row, isDict_int, isDict_tup, isDict_list, isDict_none, isDict_bool, isDict_str, isDict_pair, bndD, seqOk, List.all_cons, List.all_nil, Bool.not_false, Bool.not_true, Bool.and_self, Bool.true_and, Bool.and_true, Bool.false_and, Bool.and_false, List.length_cons, List.length_nil, List.length_map, if_true, if_false, ite_true, ite_false, Bool.false_eq_true, reduceIte, id, ofOpt_some, eqD_rows, neD_rows, eqD_intL, neD_intL, eqD_rowL, neD_rowL, eqD_nil, neD_nil, eqD_nilT, neD_nilT, eqD_nilR, neD_nilR, inD_ints, ninD_ints, inD_row, ninD_row, inD_rows, ninD_rows, mthTy_idx, mthTy_cnt, lens_ints, srts_ints, sorted_ints, List.getElem?_cons_zero, List.getElem?_cons_succ, List.set_cons_zero, List.set_cons_succ, decide_eq_false h1, z, List.map_nil, forG]
  obtain ⟨as, s7, s8, as3, as2, key⟩ := key
  -- due
  have c2 : ∀ (r : List Int) (s8 s10 : Sl), (r.length : Int) = nPairs p → ev (Fk T 39) M_law_C2 [.v (.dict (scrD ns)), .v (.list (l.map .int)), .v (.int p), .v (.int c), .v (.list (E.map rowD)), .v (rowD h), .v (.tuple (as.map pairD)), s7, s8, .v (rowD r), s10, .no, .no, .no, .no, .no, .no, .no, .no] = .ok (.list ((as.filter fun q => !decide (r.getD q.1.toNat 0 = q.2)).map fun _ => .int 1)) := fun r s8 s10 hr => by
    refine lcf_ok (F := Fk T 39) (t := .tp (.cn (.nm 8) (.cn (.nm 10) .nl))) pairD (fun q => !decide (r.getD q.1.toNat 0 = q.2)) (fun _ => .int 1) as ?_ ?_ (seqOk_filter (by omega) (fun _ => rfl))
    · simp (disch := omega) only [exS, ev, getE, getO, getTb, asg, asgs, boolD_bool, bin_add, bin_sub, bin_mul, addI, modI, divI, mulI, eqD_ints, neD_ints, ltD_ints, gtD_ints, leD_ints, geD_ints, isN, isNN, tru_bool, tru_list, tru_tup, tru_row, len_list, len_tup, len_row, tup_list, list_tup, list_row, min_two, max_two, int_bool, int_int, itr_list, itr_tup, itr_row, seq_row, seq_list, seq_tup, rng_ok, frzE, R.ok_bind, R.exc_bind, listD_ok, calm_ok, okN, R.guard_true, isDict_row, isDict_int, isDict_tup, isDict_list, isDict_none, isDict_bool, isDict_str, isDict_pair, bndD, seqOk, List.all_cons, List.all_nil, Bool.not_false, Bool.not_true, Bool.and_self, Bool.true_and, Bool.and_true, Bool.false_and, Bool.and_false, List.length_cons, List.length_nil, List.length_map, if_true, if_false, ite_true, ite_false, Bool.false_eq_true, reduceIte, id, ofOpt_some, eqD_rows, neD_rows, eqD_intL, neD_intL, eqD_rowL, neD_rowL, eqD_nil, neD_nil, eqD_nilT, neD_nilT, eqD_nilR, neD_nilR, inD_ints, ninD_ints, inD_row, ninD_row, inD_rows, ninD_rows, mthTy_idx, mthTy_cnt, lens_ints, srts_ints, sorted_ints, List.getElem?_cons_zero, List.getElem?_cons_succ, List.set_cons_zero, List.set_cons_succ]
    · intro q hq
      have := (as2 q hq).1
      have sr := sub_row (l := r) this.1 (by omega)
      refine ⟨[.v (.dict (scrD ns)), .v (.list (l.map .int)), .v (.int p), .v (.int c), .v (.list (E.map rowD)), .v (rowD h), .v (.tuple (as.map pairD)), s7, .v (.int q.1), .v (rowD r), .v (.int q.2), .no, .no, .no, .no, .no, .no, .no, .no], rfl, ?_, fun _ => ?_⟩
      · simp (disch := omega) only [exS, ev, getE, getO, getTb, asg, asgs, boolD_bool, bin_add, bin_sub, bin_mul, addI, modI, divI, mulI, eqD_ints, neD_ints, ltD_ints, gtD_ints, leD_ints, geD_ints, isN, isNN, tru_bool, tru_list, tru_tup, tru_row, len_list, len_tup, len_row, tup_list, list_tup, list_row, min_two, max_two, int_bool, int_int, itr_list, itr_tup, itr_row, seq_row, seq_list, seq_tup, rng_ok, frzE, R.ok_bind, R.exc_bind, listD_ok, calm_ok, okN, R.guard_true, isDict_row, isDict_int, isDict_tup, isDict_list, isDict_none, isDict_bool, isDict_str, isDict_pair, bndD, seqOk, List.all_cons, List.all_nil, Bool.not_false, Bool.not_true, Bool.and_self, Bool.true_and, Bool.and_true, Bool.false_and, Bool.and_false, List.length_cons, List.length_nil, List.length_map, if_true, if_false, ite_true, ite_false, Bool.false_eq_true, reduceIte, id, ofOpt_some, eqD_rows, neD_rows, eqD_intL, neD_intL, eqD_rowL, neD_rowL, eqD_nil, neD_nil, eqD_nilT, neD_nilT, eqD_nilR, neD_nilR, inD_ints, ninD_ints, inD_row, ninD_row, inD_rows, ninD_rows, mthTy_idx, mthTy_cnt, lens_ints, srts_ints, sorted_ints, List.getElem?_cons_zero, List.getElem?_cons_succ, List.set_cons_zero, List.set_cons_succ, sr]
      · simp (disch := omega) only [exS, ev, getE, getO, getTb, asg, asgs, boolD_bool, bin_add, bin_sub, bin_mul, addI, modI, divI, mulI, eqD_ints, neD_ints, ltD_ints, gtD_ints, leD_ints, geD_ints, isN, isNN, tru_bool, tru_list, tru_tup, tru_row, len_list, len_tup, len_row, tup_list, list_tup, list_row, min_two, max_two, int_bool, int_int, itr_list, itr_tup, itr_row, seq_row, seq_list, seq_tup, rng_ok, frzE, R.ok_bind, R.exc_bind, listD_ok, calm_ok, okN, R.guard_true, isDict_row, isDict_int, isDict_tup, isDict_list, isDict_none, isDict_bool, isDict_str, isDict_pair, bndD, seqOk, List.all_cons, List.all_nil, Bool.not_false, Bool.not_true, Bool.and_self, Bool.true_and, Bool.and_true, Bool.false_and, Bool.and_false, List.length_cons, List.length_nil, List.length_map, if_true, if_false, ite_true, ite_false, Bool.false_eq_true, reduceIte, id, ofOpt_some, eqD_rows, neD_rows, eqD_intL, neD_intL, eqD_rowL, neD_rowL, eqD_nil, neD_nil, eqD_nilT, neD_nilT, eqD_nilR, neD_nilR, inD_ints, ninD_ints, inD_row, ninD_row, inD_rows, ninD_rows, mthTy_idx, mthTy_cnt, lens_ints, srts_ints, sorted_ints, List.getElem?_cons_zero, List.getElem?_cons_succ, List.set_cons_zero, List.set_cons_succ]
  have c1 : ev (Fk T 39) M_law_C1 [.v (.dict (scrD ns)), .v (.list (l.map .int)), .v (.int p), .v (.int c), .v (.list (E.map rowD)), .v (rowD h), .v (.tuple (as.map pairD)), s7, s8, .no, .no, .no, .no, .no, .no, .no, .no, .no, .no] = .ok (.list ((E.filter (agree as)).map rowD)) := by
    refine lcf_ok (F := Fk T 39) (t := .nm 9) rowD (agree as) rowD E ?_ ?_ (seqOk_filter (by omega) (fun _ => rfl))
    · simp (disch := omega) only [exS, ev, getE, getO, getTb, asg, asgs, boolD_bool, bin_add, bin_sub, bin_mul, addI, modI, divI, mulI, eqD_ints, neD_ints, ltD_ints, gtD_ints, leD_ints, geD_ints, isN, isNN, tru_bool, tru_list, tru_tup, tru_row, len_list, len_tup, len_row, tup_list, list_tup, list_row, min_two, max_two, int_bool, int_int, itr_list, itr_tup, itr_row, seq_row, seq_list, seq_tup, rng_ok, frzE, R.ok_bind, R.exc_bind, listD_ok, calm_ok, okN, R.guard_true, isDict_row, isDict_int, isDict_tup, isDict_list, isDict_none, isDict_bool, isDict_str, isDict_pair, bndD, seqOk, List.all_cons, List.all_nil, Bool.not_false, Bool.not_true, Bool.and_self, Bool.true_and, Bool.and_true, Bool.false_and, Bool.and_false, List.length_cons, List.length_nil, List.length_map, if_true, if_false, ite_true, ite_false, Bool.false_eq_true, reduceIte, id, ofOpt_some, eqD_rows, neD_rows, eqD_intL, neD_intL, eqD_rowL, neD_rowL, eqD_nil, neD_nil, eqD_nilT, neD_nilT, eqD_nilR, neD_nilR, inD_ints, ninD_ints, inD_row, ninD_row, inD_rows, ninD_rows, mthTy_idx, mthTy_cnt, lens_ints, srts_ints, sorted_ints, List.getElem?_cons_zero, List.getElem?_cons_succ, List.set_cons_zero, List.set_cons_succ]
    · intro r hr
      have cc := c2 r s8 .no (by have := PC.rl r (by rw [hE]; exact hr); omega)
      refine ⟨[.v (.dict (scrD ns)), .v (.list (l.map .int)), .v (.int p), .v (.int c), .v (.list (E.map rowD)), .v (rowD h), .v (.tuple (as.map pairD)), s7, s8, .v (rowD r), .no, .no, .no, .no, .no, .no, .no, .no, .no], rfl, ?_, fun _ => ?_⟩
      · simp (disch := omega) only [exS, ev, getE, getO, getTb, asg, asgs, boolD_bool, bin_add, bin_sub, bin_mul, addI, modI, divI, mulI, eqD_ints, neD_ints, ltD_ints, gtD_ints, leD_ints, geD_ints, isN, isNN, tru_bool, tru_list, tru_tup, tru_row, len_list, len_tup, len_row, tup_list, list_tup, list_row, min_two, max_two, int_bool, int_int, itr_list, itr_tup, itr_row, seq_row, seq_list, seq_tup, rng_ok, frzE, R.ok_bind, R.exc_bind, listD_ok, calm_ok, okN, R.guard_true, isDict_row, isDict_int, isDict_tup, isDict_list, isDict_none, isDict_bool, isDict_str, isDict_pair, bndD, seqOk, List.all_cons, List.all_nil, Bool.not_false, Bool.not_true, Bool.and_self, Bool.true_and, Bool.and_true, Bool.false_and, Bool.and_false, List.length_cons, List.length_nil, List.length_map, if_true, if_false, ite_true, ite_false, Bool.false_eq_true, reduceIte, id, ofOpt_some, eqD_rows, neD_rows, eqD_intL, neD_intL, eqD_rowL, neD_rowL, eqD_nil, neD_nil, eqD_nilT, neD_nilT, eqD_nilR, neD_nilR, inD_ints, ninD_ints, inD_row, ninD_row, inD_rows, ninD_rows, mthTy_idx, mthTy_cnt, lens_ints, srts_ints, sorted_ints, List.getElem?_cons_zero, List.getElem?_cons_succ, List.set_cons_zero, List.set_cons_succ, cc, List.isEmpty_map, filter_nil]
      · simp (disch := omega) only [exS, ev, getE, getO, getTb, asg, asgs, boolD_bool, bin_add, bin_sub, bin_mul, addI, modI, divI, mulI, eqD_ints, neD_ints, ltD_ints, gtD_ints, leD_ints, geD_ints, isN, isNN, tru_bool, tru_list, tru_tup, tru_row, len_list, len_tup, len_row, tup_list, list_tup, list_row, min_two, max_two, int_bool, int_int, itr_list, itr_tup, itr_row, seq_row, seq_list, seq_tup, rng_ok, frzE, R.ok_bind, R.exc_bind, listD_ok, calm_ok, okN, R.guard_true, isDict_row, isDict_int, isDict_tup, isDict_list, isDict_none, isDict_bool, isDict_str, isDict_pair, bndD, seqOk, List.all_cons, List.all_nil, Bool.not_false, Bool.not_true, Bool.and_self, Bool.true_and, Bool.and_true, Bool.false_and, Bool.and_false, List.length_cons, List.length_nil, List.length_map, if_true, if_false, ite_true, ite_false, Bool.false_eq_true, reduceIte, id, ofOpt_some, eqD_rows, neD_rows, eqD_intL, neD_intL, eqD_rowL, neD_rowL, eqD_nil, neD_nil, eqD_nilT, neD_nilT, eqD_nilR, neD_nilR, inD_ints, ninD_ints, inD_row, ninD_row, inD_rows, ninD_rows, mthTy_idx, mthTy_cnt, lens_ints, srts_ints, sorted_ints, List.getElem?_cons_zero, List.getElem?_cons_succ, List.set_cons_zero, List.set_cons_succ]
  obtain ⟨ps, pr, pl⟩ := PC.pr 35
  have cok : ∀ k, 3 ≤ k → Fk T k "check_answers" [.int p, .int c, .tuple (as.map pairD)] = .ok .none := fun k hk => by
    obtain ⟨ps, pr, pl⟩ := PC.pr (k - 3 + 1)
    have := sp_check_answers H_f_in_range H_f_check_small H_f_check_answers (k - 3) p c PC.hp PC.hc ps pr (as.map pairD) (fun x hx => by
      obtain ⟨q, _, rfl⟩ := List.mem_map.mp hx; rfl)
    rw [show k - 3 + 3 = k by omega] at this
    rw [this, if_pos]
    rw [List.all_map, List.all_eq_true]
    intro q hq
    have a := as2 q hq
    show (inR (.int q.2) 0 (c - 1) && inR (.int q.1) 0 (ps.length - 1)) = true
    rw [inR_of a.2.1 (by omega), inR_of a.1.1 (by omega)]; rfl
  have cand : ∀ k, Fk T (k + 5) "candidates" [.int p, .int c, .tuple (as.map pairD)] = .ok (.list ((E.filter (agree as)).map rowD)) := fun k =>
    sp_candidates H_f_candidates (k + 1) p c (nPairs p) E (by omega) (fun r hr => by have := PC.rl r (by rw [hE]; exact hr); omega) as (by omega) (fun q hq => (as2 q hq).1) (cok (k + 4) (by omega)) (hE ▸ PC.ev k)
  have rl : ∀ r ∈ E.filter (agree as), (r.length : Int) = nPairs p := fun r hr => by
    have := PC.rl r (by rw [hE]; exact (List.mem_filter.mp hr).1)
    omega
  have fl := List.length_filter_le (agree as) E
  have bp := sp_best_pair H_f_best_pair 33 p c (by omega) (by omega) (nPairs p) (by omega) (.tuple (as.map pairD)) (E.filter (agree as)) (by omega) rl (cand 32)
  have cd := cand 34
  -- what is wrong
  obtain ⟨w, w1, w2, w3⟩ := sub_lit (xs := [.tuple [.int (-1), .int 0], .tuple [.int h.length, .int 0], .tuple [.int 0, .int c], .tuple [.int 0], .list [.int 0, .int 0], .none, .tuple [.none, .int 0], .tuple [.int 0, .none]]) (i := l.getD (20 : Int).toNat 0 % 8) (P := fun d => noDict2 d = true ∧ ansOk c (nPairs p) d = false) (by omega) (by simp; omega) (by
    intro d hd
    simp only [List.mem_cons, List.not_mem_nil, or_false] at hd
    rcases hd with rfl | rfl | rfl | rfl | rfl | rfl | rfl | rfl
    · refine ⟨rfl, ?_⟩
      show (inR (.int 0) 0 (c - 1) && inR (.int (-1)) 0 (nPairs p - 1)) = false
      rw [inR_not (x := -1) (by omega), Bool.and_false]
    · refine ⟨rfl, ?_⟩
      show (inR (.int 0) 0 (c - 1) && inR (.int h.length) 0 (nPairs p - 1)) = false
      rw [inR_not (x := h.length) (by omega), Bool.and_false]
    · refine ⟨rfl, ?_⟩
      show (inR (.int c) 0 (c - 1) && inR (.int 0) 0 (nPairs p - 1)) = false
      rw [inR_not (x := c) (by omega), Bool.false_and]
    · exact ⟨rfl, rfl⟩
    · exact ⟨rfl, rfl⟩
    · exact ⟨rfl, rfl⟩
    · refine ⟨rfl, ?_⟩
      show (inR (.int 0) 0 (c - 1) && inR .none 0 (nPairs p - 1)) = false
      exact Bool.and_false _
    · exact ⟨rfl, rfl⟩)
  have ae : ∀ k, 3 ≤ k → Fk T k "check_answers" [.int p, .int c, .tuple (as.map pairD ++ [w])] = .exc "InvalidAnswers" := fun k hk => by
    obtain ⟨ps, pr, pl⟩ := PC.pr (k - 3 + 1)
    have := sp_check_answers H_f_in_range H_f_check_small H_f_check_answers (k - 3) p c PC.hp PC.hc ps pr (as.map pairD ++ [w]) (fun x hx => by
      rcases List.mem_append.mp hx with z | z
      · obtain ⟨q, _, rfl⟩ := List.mem_map.mp z; rfl
      · rw [List.mem_singleton.mp z]; exact w2)
    rw [show k - 3 + 3 = k by omega] at this
    rw [this, if_neg]
    rw [List.all_append, pl]
    simp [w3]
  have al : ∀ k, 3 ≤ k → Fk T k "check_answers" [.int p, .int c, .list (as.map pairD)] = .exc "InvalidAnswers" := fun k hk => by
    have := sp_check_answersN H_f_in_range H_f_check_small H_f_check_answers (k - 3) p c PC.hp PC.hc (as.map pairD)
    rw [show k - 3 + 3 = k by omega] at this
    exact this
  obtain ⟨o, o1, o2, o3⟩ := sub_lit (xs := [.none, .int 0, .int 4, .bool true]) (i := l.getD (22 : Int).toNat 0 % 4) (P := fun d => isDict d = false ∧ inR d 1 3 = false) (by omega) (by simp; omega) (by
    intro d hd
    simp only [List.mem_cons, List.not_mem_nil, or_false] at hd
    rcases hd with rfl | rfl | rfl | rfl <;> exact ⟨rfl, rfl⟩)
  have ao : ∀ k, 3 ≤ k → Fk T k "check_answers" [.int p, o, .none] = .exc "InvalidNumber" := fun k hk => by
    have := sp_check_answersC H_f_in_range H_f_check_small H_f_check_answers (k - 3) p o o2 o3 .none
    rw [show k - 3 + 3 = k by omega] at this
    exact this
  have m1 := hid_ans (k := 37) (call_exc ae (l.getD (21 : Int).toNat 0 % 2))
  have m2 := hid_ans (k := 37) (call_exc al (l.getD (21 : Int).toNat 0 % 2))
  have m3 := hid_num (k := 37) (call_exc ao (l.getD (21 : Int).toNat 0 % 2))
  have ne2 : ∀ (l : List (List Int)), cmpD .NotEq (.list (l.map rowD)) (.list (l.map rowD)) = .ok (.bool false) := fun l => by rw [neD_rowL, decide_eq_true rfl]; rfl
  have ad : addD (.tuple (as.map pairD)) (.tuple [w]) = .ok (.tuple (as.map pairD ++ [w])) := addT (by rw [List.length_map, List.length_singleton]; omega)
  have wd : isDict w = false := by cases w <;> first | rfl | cases w2
  generalize E.filter (agree as) = due at *
  let e0 : TC.Env := [.v (.dict (scrD ns)), .v (.list (l.map .int)), .v (.int p), .v (.int c), .v (.list (E.map rowD)), .v (rowD h), .v (.tuple (as.map pairD)), s7, s8, .no, .no, .v (.list (due.map rowD)), .v w, .v (.int (l.getD (21 : Int).toNat 0 % 2)), .no, .no, .no, .no, .no]
  have x0 : exS (Fk T 39) (nthS b_f_law 0) [.v (.dict (scrD ns)), .no, .no, .no, .no, .no, .no, .no, .no, .no, .no, .no, .no, .no, .no, .no, .no, .no, .no] = .ok (.nx [.v (.dict (scrD ns)), .v (.list (l.map .int)), .no, .no, .no, .no, .no, .no, .no, .no, .no, .no, .no, .no, .no, .no, .no, .no, .no]) := by
    simp (disch := omega) only [b_f_law, nthS, exS, ev, getE, getO, getTb, asg, asgs, boolD_bool, bin_add, bin_sub, bin_mul, addI, modI, divI, mulI, eqD_ints, neD_ints, ltD_ints, gtD_ints, leD_ints, geD_ints, isN, isNN, tru_bool, tru_list, tru_tup, tru_row, len_list, len_tup, len_row, tup_list, list_tup, list_row, min_two, max_two, int_bool, int_int, itr_list, itr_tup, itr_row, seq_row, seq_list, seq_tup, rng_ok, frzE, R.ok_bind, R.exc_bind, listD_ok, calm_ok, okN, R.guard_true, isDict_row, isDict_int, isDict_tup, isDict_list, isDict_none, isDict_bool, isDict_str, isDict_pair, bndD, seqOk, List.all_cons, List.all_nil, Bool.not_false, Bool.not_true, Bool.and_self, Bool.true_and, Bool.and_true, Bool.false_and, Bool.and_false, List.length_cons, List.length_nil, List.length_map, if_true, if_false, ite_true, ite_false, Bool.false_eq_true, reduceIte, id, ofOpt_some, eqD_rows, neD_rows, eqD_intL, neD_intL, eqD_rowL, neD_rowL, eqD_nil, neD_nil, eqD_nilT, neD_nilT, eqD_nilR, neD_nilR, inD_ints, ninD_ints, inD_row, ninD_row, inD_rows, ninD_rows, mthTy_idx, mthTy_cnt, lens_ints, srts_ints, sorted_ints, List.getElem?_cons_zero, List.getElem?_cons_succ, List.set_cons_zero, List.set_cons_succ, r1]
  have x1 : exS (Fk T 39) (nthS b_f_law 1) [.v (.dict (scrD ns)), .v (.list (l.map .int)), .no, .no, .no, .no, .no, .no, .no, .no, .no, .no, .no, .no, .no, .no, .no, .no, .no] = .ok (.nx [.v (.dict (scrD ns)), .v (.list (l.map .int)), .v (.int p), .v (.int c), .no, .no, .no, .no, .no, .no, .no, .no, .no, .no, .no, .no, .no, .no, .no]) := by
    simp (disch := omega) only [b_f_law, nthS, exS, ev, getE, getO, getTb, asg, asgs, boolD_bool, bin_add, bin_sub, bin_mul, addI, modI, divI, mulI, eqD_ints, neD_ints, ltD_ints, gtD_ints, leD_ints, geD_ints, isN, isNN, tru_bool, tru_list, tru_tup, tru_row, len_list, len_tup, len_row, tup_list, list_tup, list_row, min_two, max_two, int_bool, int_int, itr_list, itr_tup, itr_row, seq_row, seq_list, seq_tup, rng_ok, frzE, R.ok_bind, R.exc_bind, listD_ok, calm_ok, okN, R.guard_true, isDict_row, isDict_int, isDict_tup, isDict_list, isDict_none, isDict_bool, isDict_str, isDict_pair, bndD, seqOk, List.all_cons, List.all_nil, Bool.not_false, Bool.not_true, Bool.and_self, Bool.true_and, Bool.and_true, Bool.false_and, Bool.and_false, List.length_cons, List.length_nil, List.length_map, if_true, if_false, ite_true, ite_false, Bool.false_eq_true, reduceIte, id, ofOpt_some, eqD_rows, neD_rows, eqD_intL, neD_intL, eqD_rowL, neD_rowL, eqD_nil, neD_nil, eqD_nilT, neD_nilT, eqD_nilR, neD_nilR, inD_ints, ninD_ints, inD_row, ninD_row, inD_rows, ninD_rows, mthTy_idx, mthTy_cnt, lens_ints, srts_ints, sorted_ints, List.getElem?_cons_zero, List.getElem?_cons_succ, List.set_cons_zero, List.set_cons_succ, dr, d1]
  have x2 : exS (Fk T 39) (nthS b_f_law 2) [.v (.dict (scrD ns)), .v (.list (l.map .int)), .v (.int p), .v (.int c), .no, .no, .no, .no, .no, .no, .no, .no, .no, .no, .no, .no, .no, .no, .no] = .ok (.nx [.v (.dict (scrD ns)), .v (.list (l.map .int)), .v (.int p), .v (.int c), .v (.list (E.map rowD)), .no, .no, .no, .no, .no, .no, .no, .no, .no, .no, .no, .no, .no, .no]) := by
    simp (disch := omega) only [b_f_law, nthS, exS, ev, getE, getO, getTb, asg, asgs, boolD_bool, bin_add, bin_sub, bin_mul, addI, modI, divI, mulI, eqD_ints, neD_ints, ltD_ints, gtD_ints, leD_ints, geD_ints, isN, isNN, tru_bool, tru_list, tru_tup, tru_row, len_list, len_tup, len_row, tup_list, list_tup, list_row, min_two, max_two, int_bool, int_int, itr_list, itr_tup, itr_row, seq_row, seq_list, seq_tup, rng_ok, frzE, R.ok_bind, R.exc_bind, listD_ok, calm_ok, okN, R.guard_true, isDict_row, isDict_int, isDict_tup, isDict_list, isDict_none, isDict_bool, isDict_str, isDict_pair, bndD, seqOk, List.all_cons, List.all_nil, Bool.not_false, Bool.not_true, Bool.and_self, Bool.true_and, Bool.and_true, Bool.false_and, Bool.and_false, List.length_cons, List.length_nil, List.length_map, if_true, if_false, ite_true, ite_false, Bool.false_eq_true, reduceIte, id, ofOpt_some, eqD_rows, neD_rows, eqD_intL, neD_intL, eqD_rowL, neD_rowL, eqD_nil, neD_nil, eqD_nilT, neD_nilT, eqD_nilR, neD_nilR, inD_ints, ninD_ints, inD_row, ninD_row, inD_rows, ninD_rows, mthTy_idx, mthTy_cnt, lens_ints, srts_ints, sorted_ints, List.getElem?_cons_zero, List.getElem?_cons_succ, List.set_cons_zero, List.set_cons_succ, e1]
  have x3 : exS (Fk T 39) (nthS b_f_law 3) [.v (.dict (scrD ns)), .v (.list (l.map .int)), .v (.int p), .v (.int c), .v (.list (E.map rowD)), .no, .no, .no, .no, .no, .no, .no, .no, .no, .no, .no, .no, .no, .no] = .ok (.nx [.v (.dict (scrD ns)), .v (.list (l.map .int)), .v (.int p), .v (.int c), .v (.list (E.map rowD)), .v (rowD h), .no, .no, .no, .no, .no, .no, .no, .no, .no, .no, .no, .no, .no]) := by
    simp (disch := omega) only [b_f_law, nthS, exS, ev, getE, getO, getTb, asg, asgs, boolD_bool, bin_add, bin_sub, bin_mul, addI, modI, divI, mulI, eqD_ints, neD_ints, ltD_ints, gtD_ints, leD_ints, geD_ints, isN, isNN, tru_bool, tru_list, tru_tup, tru_row, len_list, len_tup, len_row, tup_list, list_tup, list_row, min_two, max_two, int_bool, int_int, itr_list, itr_tup, itr_row, seq_row, seq_list, seq_tup, rng_ok, frzE, R.ok_bind, R.exc_bind, listD_ok, calm_ok, okN, R.guard_true, isDict_row, isDict_int, isDict_tup, isDict_list, isDict_none, isDict_bool, isDict_str, isDict_pair, bndD, seqOk, List.all_cons, List.all_nil, Bool.not_false, Bool.not_true, Bool.and_self, Bool.true_and, Bool.and_true, Bool.false_and, Bool.and_false, List.length_cons, List.length_nil, List.length_map, if_true, if_false, ite_true, ite_false, Bool.false_eq_true, reduceIte, id, ofOpt_some, eqD_rows, neD_rows, eqD_intL, neD_intL, eqD_rowL, neD_rowL, eqD_nil, neD_nil, eqD_nilT, neD_nilT, eqD_nilR, neD_nilR, inD_ints, ninD_ints, inD_row, ninD_row, inD_rows, ninD_rows, mthTy_idx, mthTy_cnt, lens_ints, srts_ints, sorted_ints, List.getElem?_cons_zero, List.getElem?_cons_succ, List.set_cons_zero, List.set_cons_succ, dr, hs]
  have x4 : exS (Fk T 39) (nthS b_f_law 4) [.v (.dict (scrD ns)), .v (.list (l.map .int)), .v (.int p), .v (.int c), .v (.list (E.map rowD)), .v (rowD h), .no, .no, .no, .no, .no, .no, .no, .no, .no, .no, .no, .no, .no] = .ok (.nx [.v (.dict (scrD ns)), .v (.list (l.map .int)), .v (.int p), .v (.int c), .v (.list (E.map rowD)), .v (rowD h), .own [], .no, .no, .no, .no, .no, .no, .no, .no, .no, .no, .no, .no]) := by
    simp (disch := omega) only [b_f_law, nthS, exS, ev, getE, getO, getTb, asg, asgs, boolD_bool, bin_add, bin_sub, bin_mul, addI, modI, divI, mulI, eqD_ints, neD_ints, ltD_ints, gtD_ints, leD_ints, geD_ints, isN, isNN, tru_bool, tru_list, tru_tup, tru_row, len_list, len_tup, len_row, tup_list, list_tup, list_row, min_two, max_two, int_bool, int_int, itr_list, itr_tup, itr_row, seq_row, seq_list, seq_tup, rng_ok, frzE, R.ok_bind, R.exc_bind, listD_ok, calm_ok, okN, R.guard_true, isDict_row, isDict_int, isDict_tup, isDict_list, isDict_none, isDict_bool, isDict_str, isDict_pair, bndD, seqOk, List.all_cons, List.all_nil, Bool.not_false, Bool.not_true, Bool.and_self, Bool.true_and, Bool.and_true, Bool.false_and, Bool.and_false, List.length_cons, List.length_nil, List.length_map, if_true, if_false, ite_true, ite_false, Bool.false_eq_true, reduceIte, id, ofOpt_some, eqD_rows, neD_rows, eqD_intL, neD_intL, eqD_rowL, neD_rowL, eqD_nil, neD_nil, eqD_nilT, neD_nilT, eqD_nilR, neD_nilR, inD_ints, ninD_ints, inD_row, ninD_row, inD_rows, ninD_rows, mthTy_idx, mthTy_cnt, lens_ints, srts_ints, sorted_ints, List.getElem?_cons_zero, List.getElem?_cons_succ, List.set_cons_zero, List.set_cons_succ]
  have rest : exS (Fk T 39) (.cons (nthS b_f_law 6) (.cons (nthS b_f_law 7) (.cons (nthS b_f_law 8) (.cons (nthS b_f_law 9) (.cons (nthS b_f_law 10) (.cons (nthS b_f_law 11) (.cons (nthS b_f_law 12) (.cons (nthS b_f_law 13) (.cons (nthS b_f_law 14) .nil))))))))) [.v (.dict (scrD ns)), .v (.list (l.map .int)), .v (.int p), .v (.int c), .v (.list (E.map rowD)), .v (rowD h), .own (as.map pairD), s7, s8, .no, .no, .no, .no, .no, .no, .no, .no, .no, .no] = .ok (.nx e0) := by
    simp (disch := omega) only [b_f_law, nthS, exS, ev, getE, getO, getTb, asg, asgs, boolD_bool, bin_add, bin_sub, bin_mul, addI, modI, divI, mulI, eqD_ints, neD_ints, ltD_ints, gtD_ints, leD_ints, geD_ints, isN, isNN, tru_bool, tru_list, tru_tup, tru_row, len_list, len_tup, len_row, tup_list, list_tup, list_row, min_two, max_two, int_bool, int_int, itr_list, itr_tup, itr_row, seq_row, seq_list, seq_tup, rng_ok, frzE, R.ok_bind, R.exc_bind, listD_ok, calm_ok, okN, R.guard_true, isDict_row, isDict_int, isDict_tup, isDict_list, isDict_none, isDict_bool, isDict_str, isDict_pair, bndD, seqOk, List.all_cons, List.all_nil, Bool.not_false, Bool.not_true, Bool.and_self, Bool.true_and, Bool.and_true, Bool.false_and, Bool.and_false, List.length_cons, List.length_nil, List.length_map, if_true, if_false, ite_true, ite_false, Bool.false_eq_true, reduceIte, id, ofOpt_some, eqD_rows, neD_rows, eqD_intL, neD_intL, eqD_rowL, neD_rowL, eqD_nil, neD_nil, eqD_nilT, neD_nilT, eqD_nilR, neD_nilR, inD_ints, ninD_ints, inD_row, ninD_row, inD_rows, ninD_rows, mthTy_idx, mthTy_cnt, lens_ints, srts_ints, sorted_ints, List.getElem?_cons_zero, List.getElem?_cons_succ, List.set_cons_zero, List.set_cons_succ, c1, cd, ne2, w1, dr, ad, wd, m1, m2, o1, m3, neS_self, e0]
  show (exS (Fk T 39) (.cons (nthS b_f_law 0) (.cons (nthS b_f_law 1) (.cons (nthS b_f_law 2) (.cons (nthS b_f_law 3) (.cons (nthS b_f_law 4) (.cons (nthS b_f_law 5) (appS (.cons (nthS b_f_law 6) (.cons (nthS b_f_law 7) (.cons (nthS b_f_law 8) (.cons (nthS b_f_law 9) (.cons (nthS b_f_law 10) (.cons (nthS b_f_law 11) (.cons (nthS b_f_law 12) (.cons (nthS b_f_law 13) (.cons (nthS b_f_law 14) .nil))))))))) (.cons (nthS b_f_law 15) (.cons (nthS b_f_law 16) (.cons (nthS b_f_law 17) (.cons (nthS b_f_law 18) .nil))))))))))) [.v (.dict (scrD ns)), .no, .no, .no, .no, .no, .no, .no, .no, .no, .no, .no, .no, .no, .no, .no, .no, .no, .no]).bind _ = _
  rw [ex_next x0, ex_next x1, ex_next x2, ex_next x3, ex_next x4, ex_next key, ex_app rest]
  cases due with
  | nil =>
    rw [if_pos rfl] at bp
    have hid := hid_ans (k := 37) (m := 1) (p := .int p) (c := .int c) (ans := .tuple (as.map pairD)) (by unfold callH; rw [if_neg (by decide)]; exact bp)
    simp (disch := omega) only [b_f_law, nthS, e0, exS, ev, getE, getO, getTb, asg, asgs, boolD_bool, bin_add, bin_sub, bin_mul, addI, modI, divI, mulI, eqD_ints, neD_ints, ltD_ints, gtD_ints, leD_ints, geD_ints, isN, isNN, tru_bool, tru_list, tru_tup, tru_row, len_list, len_tup, len_row, tup_list, list_tup, list_row, min_two, max_two, int_bool, int_int, itr_list, itr_tup, itr_row, seq_row, seq_list, seq_tup, rng_ok, frzE, R.ok_bind, R.exc_bind, listD_ok, calm_ok, okN, R.guard_true, isDict_row, isDict_int, isDict_tup, isDict_list, isDict_none, isDict_bool, isDict_str, isDict_pair, bndD, seqOk, List.all_cons, List.all_nil, Bool.not_false, Bool.not_true, Bool.and_self, Bool.true_and, Bool.and_true, Bool.false_and, Bool.and_false, List.length_cons, List.length_nil, List.length_map, if_true, if_false, ite_true, ite_false, Bool.false_eq_true, reduceIte, id, ofOpt_some, eqD_rows, neD_rows, eqD_intL, neD_intL, eqD_rowL, neD_rowL, eqD_nil, neD_nil, eqD_nilT, neD_nilT, eqD_nilR, neD_nilR, inD_ints, ninD_ints, inD_row, ninD_row, inD_rows, ninD_rows, mthTy_idx, mthTy_cnt, lens_ints, srts_ints, sorted_ints, List.getElem?_cons_zero, List.getElem?_cons_succ, List.set_cons_zero, List.set_cons_succ, hid, List.map_nil, List.isEmpty_nil, eqS_self]
  | cons r0 rs =>
    rw [if_neg (by simp)] at bp
    have hid := hid_ok (k := 37) (m := 1) (p := .int p) (c := .int c) (ans := .tuple (as.map pairD)) (by unfold callH; rw [if_neg (by decide)]; exact bp)
    let e1 : TC.Env := [.v (.dict (scrD ns)), .v (.list (l.map .int)), .v (.int p), .v (.int c), .v (.list (E.map rowD)), .v (rowD h), .v (.tuple (as.map pairD)), s7, s8, .no, .no, .v (.list ((r0 :: rs).map rowD)), .v w, .v (.int (l.getD (21 : Int).toNat 0 % 2)), .v (bestR (bestN (r0 :: rs) c (nPairs p))), .v .none, .no, .no, .no]
    have x15 : exS (Fk T 39) (nthS b_f_law 15) e0 = .ok (.nx e1) := by
      simp (disch := omega) only [b_f_law, nthS, e0, e1, exS, ev, getE, getO, getTb, asg, asgs, boolD_bool, bin_add, bin_sub, bin_mul, addI, modI, divI, mulI, eqD_ints, neD_ints, ltD_ints, gtD_ints, leD_ints, geD_ints, isN, isNN, tru_bool, tru_list, tru_tup, tru_row, len_list, len_tup, len_row, tup_list, list_tup, list_row, min_two, max_two, int_bool, int_int, itr_list, itr_tup, itr_row, seq_row, seq_list, seq_tup, rng_ok, frzE, R.ok_bind, R.exc_bind, listD_ok, calm_ok, okN, R.guard_true, isDict_row, isDict_int, isDict_tup, isDict_list, isDict_none, isDict_bool, isDict_str, isDict_pair, bndD, seqOk, List.all_cons, List.all_nil, Bool.not_false, Bool.not_true, Bool.and_self, Bool.true_and, Bool.and_true, Bool.false_and, Bool.and_false, List.length_cons, List.length_nil, List.length_map, if_true, if_false, ite_true, ite_false, Bool.false_eq_true, reduceIte, id, ofOpt_some, eqD_rows, neD_rows, eqD_intL, neD_intL, eqD_rowL, neD_rowL, eqD_nil, neD_nil, eqD_nilT, neD_nilT, eqD_nilR, neD_nilR, inD_ints, ninD_ints, inD_row, ninD_row, inD_rows, ninD_rows, mthTy_idx, mthTy_cnt, lens_ints, srts_ints, sorted_ints, List.getElem?_cons_zero, List.getElem?_cons_succ, List.set_cons_zero, List.set_cons_succ, hid]
    have x16 : exS (Fk T 39) (nthS b_f_law 16) e1 = .ok (.nx e1) := by
      simp (disch := omega) only [b_f_law, nthS, e1, exS, ev, getE, getO, getTb, asg, asgs, boolD_bool, bin_add, bin_sub, bin_mul, addI, modI, divI, mulI, eqD_ints, neD_ints, ltD_ints, gtD_ints, leD_ints, geD_ints, isN, isNN, tru_bool, tru_list, tru_tup, tru_row, len_list, len_tup, len_row, tup_list, list_tup, list_row, min_two, max_two, int_bool, int_int, itr_list, itr_tup, itr_row, seq_row, seq_list, seq_tup, rng_ok, frzE, R.ok_bind, R.exc_bind, listD_ok, calm_ok, okN, R.guard_true, isDict_row, isDict_int, isDict_tup, isDict_list, isDict_none, isDict_bool, isDict_str, isDict_pair, bndD, seqOk, List.all_cons, List.all_nil, Bool.not_false, Bool.not_true, Bool.and_self, Bool.true_and, Bool.and_true, Bool.false_and, Bool.and_false, List.length_cons, List.length_nil, List.length_map, if_true, if_false, ite_true, ite_false, Bool.false_eq_true, reduceIte, id, ofOpt_some, eqD_rows, neD_rows, eqD_intL, neD_intL, eqD_rowL, neD_rowL, eqD_nil, neD_nil, eqD_nilT, neD_nilT, eqD_nilR, neD_nilR, inD_ints, ninD_ints, inD_row, ninD_row, inD_rows, ninD_rows, mthTy_idx, mthTy_cnt, lens_ints, srts_ints, sorted_ints, List.getElem?_cons_zero, List.getElem?_cons_succ, List.set_cons_zero, List.set_cons_succ, List.isEmpty_map, List.isEmpty_cons]
    obtain ⟨e2, q1, q2, q3, q4⟩ := best_loop (Fk T 39) e1 9 8 11 15 16 17 3 18 (by show 9 < 19; decide) (by show 8 < 19; decide) (by show 16 < 19; decide) (by show 17 < 19; decide) (by show 18 < 19; decide) (by show 15 < 19; decide) (by decide) (by decide) (by decide) (by decide) (by decide) (by decide) (by decide) (by decide) (by decide) (by decide) (by decide) (by decide) (by decide) (by decide) (by decide)
      (r0 :: rs) (nPairs p) c (nPairs p) rl (Int.le_refl _) (by omega) (by omega) (by omega) rfl rfl rfl
    have q1 : forG (.nm 8) (exS (Fk T 39) M_law_L2) (rngL 0 (nPairs p)) e1 = .ok (.nx e2) := q1
    have it : listD (ev (Fk T 39) (.rng (.blt "len" (.cons (.var 5) .nil))) e1) = .ok (rngL 0 (nPairs p)) := by
      rw [rng_map]
      simp (disch := omega) only [e1, exS, ev, getE, getO, getTb, asg, asgs, boolD_bool, bin_add, bin_sub, bin_mul, addI, modI, divI, mulI, eqD_ints, neD_ints, ltD_ints, gtD_ints, leD_ints, geD_ints, isN, isNN, tru_bool, tru_list, tru_tup, tru_row, len_list, len_tup, len_row, tup_list, list_tup, list_row, min_two, max_two, int_bool, int_int, itr_list, itr_tup, itr_row, seq_row, seq_list, seq_tup, rng_ok, frzE, R.ok_bind, R.exc_bind, listD_ok, calm_ok, okN, R.guard_true, isDict_row, isDict_int, isDict_tup, isDict_list, isDict_none, isDict_bool, isDict_str, isDict_pair, bndD, seqOk, List.all_cons, List.all_nil, Bool.not_false, Bool.not_true, Bool.and_self, Bool.true_and, Bool.and_true, Bool.false_and, Bool.and_false, List.length_cons, List.length_nil, List.length_map, if_true, if_false, ite_true, ite_false, Bool.false_eq_true, reduceIte, id, ofOpt_some, eqD_rows, neD_rows, eqD_intL, neD_intL, eqD_rowL, neD_rowL, eqD_nil, neD_nil, eqD_nilT, neD_nilT, eqD_nilR, neD_nilR, inD_ints, ninD_ints, inD_row, ninD_row, inD_rows, ninD_rows, mthTy_idx, mthTy_cnt, lens_ints, srts_ints, sorted_ints, List.getElem?_cons_zero, List.getElem?_cons_succ, List.set_cons_zero, List.set_cons_succ]
      rw [hlen, Int.zero_add]
    have x17 : exS (Fk T 39) (nthS b_f_law 17) e1 = .ok (.nx e2) := ex_for it q1
    have g14 : getE 14 e2 = .ok (bestR (bestN (r0 :: rs) c (nPairs p))) := by
      unfold getE
      rw [q4 14 (by decide) (by decide) (by decide) (by decide)]; rfl
    have x18 : exS (Fk T 39) (nthS b_f_law 18) e2 = .ok (.rt (.bool true)) := by
      show (((getE 14 e2).bind fun x => (((getE 15 e2).bind fun x => cmpD .Is x .none).bind fun x => (truD x).bind fun k => if k then R.ok PyData.none else (getE 15 e2).bind fun y => subD y (.int 1)).bind fun y => cmpD .Eq x y).bind (fun d => (R.ok (Fl.rt d) : R Fl))) = _
      rw [g14, q3]
      cases bestN (r0 :: rs) c (nPairs p) with
      | none => rfl
      | some t =>
        show (cmpD .Eq (.int t.2) (.int t.2)).bind _ = _
        rw [eqD_ints, decide_eq_true rfl]; rfl
    rw [ex_next x15, ex_next x16, ex_next x17, ex_ret x18]; rfl
end LW
set_option Elab.async false
set_option linter.all false
set_option maxRecDepth 100000
set_option maxHeartbeats 0
set_option autoImplicit false
namespace LW
open PySem PySem.Spec PyProof.Rows L2 TC
def defD (d : Df) : He.DefD := ⟨(d.name, none), d.name, d.name, d.params, d.sts, d.scope, [], []⟩
def fnL : List He.DefD := T.map defD
def nmL : List Str := T.map Df.name
def faL : List He.Fa := faOf nmL GL XS
abbrev Rw : PySem.W.OpenRow := PySem.W.OpenLaw.row PySem.Challenge.rw_tamecolors_k11_whole_candidates
abbrev hk : PySem.W.Hook := hookX 6 faL fnL XS
def ob (s : PySem.W.SharedT) : Bool × He.AlD := obX 6 faL fnL XS s
theorem run (w : World) : HandSHeadRun.RunEq Rw (PySem.W.view Rw.prog [20]) hk ob 4000 ["ColorError", "InvalidNumber", "InvalidAnswers", "in_range", "pairs_of", "table_of", "first_triangle", "check_small", "every_tame", "all_tame", "check_answers", "candidates", "best_pair", "_law_cell", "_law_row", "_law_hidden"] w := by
  intro os
  kernel_rfl
theorem bd_f_in_range : ∀ (kV doc pm : Value) (an : Option Addr) (cdv ct : Value) (us : List Value), us.length = d_f_in_range.ps.length → bindArgs (PySem.W.fnOf d_f_in_range.name d_f_in_range.name d_f_in_range.params d_f_in_range.sts d_f_in_range.scope .none kV doc pm an cdv ct) ⟨us, []⟩ = pure (d_f_in_range.ps.zip us) :=
  fun _ _ _ _ _ _ us hl => match us, hl with | [_, _, _], _ => rfl
theorem sc_f_in_range : FnScope d_f_in_range.N d_f_in_range.ps d_f_in_range.scope := ⟨by kernel_rfl, by kernel_rfl, by kernel_rfl, by decide +kernel, by decide +kernel, by decide +kernel, by decide +kernel⟩
theorem bd_f_pairs_of : ∀ (kV doc pm : Value) (an : Option Addr) (cdv ct : Value) (us : List Value), us.length = d_f_pairs_of.ps.length → bindArgs (PySem.W.fnOf d_f_pairs_of.name d_f_pairs_of.name d_f_pairs_of.params d_f_pairs_of.sts d_f_pairs_of.scope .none kV doc pm an cdv ct) ⟨us, []⟩ = pure (d_f_pairs_of.ps.zip us) :=
  fun _ _ _ _ _ _ us hl => match us, hl with | [_], _ => rfl
theorem sc_f_pairs_of : FnScope d_f_pairs_of.N d_f_pairs_of.ps d_f_pairs_of.scope := ⟨by kernel_rfl, by kernel_rfl, by kernel_rfl, by decide +kernel, by decide +kernel, by decide +kernel, by decide +kernel⟩
theorem bd_f_table_of : ∀ (kV doc pm : Value) (an : Option Addr) (cdv ct : Value) (us : List Value), us.length = d_f_table_of.ps.length → bindArgs (PySem.W.fnOf d_f_table_of.name d_f_table_of.name d_f_table_of.params d_f_table_of.sts d_f_table_of.scope .none kV doc pm an cdv ct) ⟨us, []⟩ = pure (d_f_table_of.ps.zip us) :=
  fun _ _ _ _ _ _ us hl => match us, hl with | [_, _], _ => rfl
theorem sc_f_table_of : FnScope d_f_table_of.N d_f_table_of.ps d_f_table_of.scope := ⟨by kernel_rfl, by kernel_rfl, by kernel_rfl, by decide +kernel, by decide +kernel, by decide +kernel, by decide +kernel⟩
theorem bd_f_first_triangle : ∀ (kV doc pm : Value) (an : Option Addr) (cdv ct : Value) (us : List Value), us.length = d_f_first_triangle.ps.length → bindArgs (PySem.W.fnOf d_f_first_triangle.name d_f_first_triangle.name d_f_first_triangle.params d_f_first_triangle.sts d_f_first_triangle.scope .none kV doc pm an cdv ct) ⟨us, []⟩ = pure (d_f_first_triangle.ps.zip us) :=
  fun _ _ _ _ _ _ us hl => match us, hl with | [_, _], _ => rfl
theorem sc_f_first_triangle : FnScope d_f_first_triangle.N d_f_first_triangle.ps d_f_first_triangle.scope := ⟨by kernel_rfl, by kernel_rfl, by kernel_rfl, by decide +kernel, by decide +kernel, by decide +kernel, by decide +kernel⟩
theorem bd_f_check_small : ∀ (kV doc pm : Value) (an : Option Addr) (cdv ct : Value) (us : List Value), us.length = d_f_check_small.ps.length → bindArgs (PySem.W.fnOf d_f_check_small.name d_f_check_small.name d_f_check_small.params d_f_check_small.sts d_f_check_small.scope .none kV doc pm an cdv ct) ⟨us, []⟩ = pure (d_f_check_small.ps.zip us) :=
  fun _ _ _ _ _ _ us hl => match us, hl with | [_, _], _ => rfl
theorem sc_f_check_small : FnScope d_f_check_small.N d_f_check_small.ps d_f_check_small.scope := ⟨by kernel_rfl, by kernel_rfl, by kernel_rfl, by decide +kernel, by decide +kernel, by decide +kernel, by decide +kernel⟩
theorem bd_f_every_tame : ∀ (kV doc pm : Value) (an : Option Addr) (cdv ct : Value) (us : List Value), us.length = d_f_every_tame.ps.length → bindArgs (PySem.W.fnOf d_f_every_tame.name d_f_every_tame.name d_f_every_tame.params d_f_every_tame.sts d_f_every_tame.scope .none kV doc pm an cdv ct) ⟨us, []⟩ = pure (d_f_every_tame.ps.zip us) :=
  fun _ _ _ _ _ _ us hl => match us, hl with | [_, _], _ => rfl
theorem sc_f_every_tame : FnScope d_f_every_tame.N d_f_every_tame.ps d_f_every_tame.scope := ⟨by kernel_rfl, by kernel_rfl, by kernel_rfl, by decide +kernel, by decide +kernel, by decide +kernel, by decide +kernel⟩
theorem bd_f_all_tame : ∀ (kV doc pm : Value) (an : Option Addr) (cdv ct : Value) (us : List Value), us.length = d_f_all_tame.ps.length → bindArgs (PySem.W.fnOf d_f_all_tame.name d_f_all_tame.name d_f_all_tame.params d_f_all_tame.sts d_f_all_tame.scope .none kV doc pm an cdv ct) ⟨us, []⟩ = pure (d_f_all_tame.ps.zip us) :=
  fun _ _ _ _ _ _ us hl => match us, hl with | [_, _], _ => rfl
theorem sc_f_all_tame : FnScope d_f_all_tame.N d_f_all_tame.ps d_f_all_tame.scope := ⟨by kernel_rfl, by kernel_rfl, by kernel_rfl, by decide +kernel, by decide +kernel, by decide +kernel, by decide +kernel⟩
theorem bd_f_check_answers : ∀ (kV doc pm : Value) (an : Option Addr) (cdv ct : Value) (us : List Value), us.length = d_f_check_answers.ps.length → bindArgs (PySem.W.fnOf d_f_check_answers.name d_f_check_answers.name d_f_check_answers.params d_f_check_answers.sts d_f_check_answers.scope .none kV doc pm an cdv ct) ⟨us, []⟩ = pure (d_f_check_answers.ps.zip us) :=
  fun _ _ _ _ _ _ us hl => match us, hl with | [_, _, _], _ => rfl
theorem sc_f_check_answers : FnScope d_f_check_answers.N d_f_check_answers.ps d_f_check_answers.scope := ⟨by kernel_rfl, by kernel_rfl, by kernel_rfl, by decide +kernel, by decide +kernel, by decide +kernel, by decide +kernel⟩
theorem bd_f_candidates : ∀ (kV doc pm : Value) (an : Option Addr) (cdv ct : Value) (us : List Value), us.length = d_f_candidates.ps.length → bindArgs (PySem.W.fnOf d_f_candidates.name d_f_candidates.name d_f_candidates.params d_f_candidates.sts d_f_candidates.scope .none kV doc pm an cdv ct) ⟨us, []⟩ = pure (d_f_candidates.ps.zip us) :=
  fun _ _ _ _ _ _ us hl => match us, hl with | [_, _, _], _ => rfl
theorem sc_f_candidates : FnScope d_f_candidates.N d_f_candidates.ps d_f_candidates.scope := ⟨by kernel_rfl, by kernel_rfl, by kernel_rfl, by decide +kernel, by decide +kernel, by decide +kernel, by decide +kernel⟩
theorem bd_f_best_pair : ∀ (kV doc pm : Value) (an : Option Addr) (cdv ct : Value) (us : List Value), us.length = d_f_best_pair.ps.length → bindArgs (PySem.W.fnOf d_f_best_pair.name d_f_best_pair.name d_f_best_pair.params d_f_best_pair.sts d_f_best_pair.scope .none kV doc pm an cdv ct) ⟨us, []⟩ = pure (d_f_best_pair.ps.zip us) :=
  fun _ _ _ _ _ _ us hl => match us, hl with | [_, _, _], _ => rfl
theorem sc_f_best_pair : FnScope d_f_best_pair.N d_f_best_pair.ps d_f_best_pair.scope := ⟨by kernel_rfl, by kernel_rfl, by kernel_rfl, by decide +kernel, by decide +kernel, by decide +kernel, by decide +kernel⟩
theorem bd_l_law_cell : ∀ (kV doc pm : Value) (an : Option Addr) (cdv ct : Value) (us : List Value), us.length = d_l_law_cell.ps.length → bindArgs (PySem.W.fnOf d_l_law_cell.name d_l_law_cell.name d_l_law_cell.params d_l_law_cell.sts d_l_law_cell.scope .none kV doc pm an cdv ct) ⟨us, []⟩ = pure (d_l_law_cell.ps.zip us) :=
  fun _ _ _ _ _ _ us hl => match us, hl with | [_, _], _ => rfl
theorem sc_l_law_cell : FnScope d_l_law_cell.N d_l_law_cell.ps d_l_law_cell.scope := ⟨by kernel_rfl, by kernel_rfl, by kernel_rfl, by decide +kernel, by decide +kernel, by decide +kernel, by decide +kernel⟩
theorem bd_l_law_row : ∀ (kV doc pm : Value) (an : Option Addr) (cdv ct : Value) (us : List Value), us.length = d_l_law_row.ps.length → bindArgs (PySem.W.fnOf d_l_law_row.name d_l_law_row.name d_l_law_row.params d_l_law_row.sts d_l_law_row.scope .none kV doc pm an cdv ct) ⟨us, []⟩ = pure (d_l_law_row.ps.zip us) :=
  fun _ _ _ _ _ _ us hl => match us, hl with | [_, _], _ => rfl
theorem sc_l_law_row : FnScope d_l_law_row.N d_l_law_row.ps d_l_law_row.scope := ⟨by kernel_rfl, by kernel_rfl, by kernel_rfl, by decide +kernel, by decide +kernel, by decide +kernel, by decide +kernel⟩
theorem bd_l_law_hidden : ∀ (kV doc pm : Value) (an : Option Addr) (cdv ct : Value) (us : List Value), us.length = d_l_law_hidden.ps.length → bindArgs (PySem.W.fnOf d_l_law_hidden.name d_l_law_hidden.name d_l_law_hidden.params d_l_law_hidden.sts d_l_law_hidden.scope .none kV doc pm an cdv ct) ⟨us, []⟩ = pure (d_l_law_hidden.ps.zip us) :=
  fun _ _ _ _ _ _ us hl => match us, hl with | [_, _, _, _], _ => rfl
theorem sc_l_law_hidden : FnScope d_l_law_hidden.N d_l_law_hidden.ps d_l_law_hidden.scope := ⟨by kernel_rfl, by kernel_rfl, by kernel_rfl, by decide +kernel, by decide +kernel, by decide +kernel, by decide +kernel⟩
theorem bd_f_law : ∀ (kV doc pm : Value) (an : Option Addr) (cdv ct : Value) (us : List Value), us.length = d_f_law.ps.length → bindArgs (PySem.W.fnOf d_f_law.name d_f_law.name d_f_law.params d_f_law.sts d_f_law.scope .none kV doc pm an cdv ct) ⟨us, []⟩ = pure (d_f_law.ps.zip us) :=
  fun _ _ _ _ _ _ us hl => match us, hl with | [_], _ => rfl
theorem sc_f_law : FnScope d_f_law.N d_f_law.ps d_f_law.scope := ⟨by kernel_rfl, by kernel_rfl, by kernel_rfl, by decide +kernel, by decide +kernel, by decide +kernel, by decide +kernel⟩
theorem nmT : okNames T = true := by decide +kernel
section
variable {K : PySem.W.Frag} {h : Heap} {mg : Str → Option Value}
theorem defs (X : K.In h) (G : h.Ns mainGlobals mg) (c : He.SaysD faL fnL K) : ∀ d ∈ T, DfOk K mg (ctOf T GL XS d) d := by
  have key : ∀ (i : Nat) (d : Df), T[i]? = some d → ∃ f fd, mg d.name = some (.ref f) ∧ FunD K d.name d.name d.params d.sts d.scope [] [] f fd := fun i d hd => by
    have hm : d.name ∈ nmL := List.mem_map.mpr ⟨d, List.mem_of_getElem? hd, rfl⟩
    obtain ⟨fd, F⟩ := c.def_ i (d := defD d) (by unfold fnL; rw [List.getElem?_map, hd]; rfl)
    exact ⟨_, fd, glo_of X G c hm, F⟩
  intro d hd
  unfold T at hd
  simp only [List.mem_cons, List.not_mem_nil, or_false] at hd
  rcases hd with rfl | rfl | rfl | rfl | rfl | rfl | rfl | rfl | rfl | rfl | rfl | rfl | rfl | rfl
  · exact ⟨key 0 d_f_in_range rfl, bd_f_in_range, sc_f_in_range, ck_f_in_range⟩
  · exact ⟨key 1 d_f_pairs_of rfl, bd_f_pairs_of, sc_f_pairs_of, ck_f_pairs_of⟩
  · exact ⟨key 2 d_f_table_of rfl, bd_f_table_of, sc_f_table_of, ck_f_table_of⟩
  · exact ⟨key 3 d_f_first_triangle rfl, bd_f_first_triangle, sc_f_first_triangle, ck_f_first_triangle⟩
  · exact ⟨key 4 d_f_check_small rfl, bd_f_check_small, sc_f_check_small, ck_f_check_small⟩
  · exact ⟨key 5 d_f_every_tame rfl, bd_f_every_tame, sc_f_every_tame, ck_f_every_tame⟩
  · exact ⟨key 6 d_f_all_tame rfl, bd_f_all_tame, sc_f_all_tame, ck_f_all_tame⟩
  · exact ⟨key 7 d_f_check_answers rfl, bd_f_check_answers, sc_f_check_answers, ck_f_check_answers⟩
  · exact ⟨key 8 d_f_candidates rfl, bd_f_candidates, sc_f_candidates, ck_f_candidates⟩
  · exact ⟨key 9 d_f_best_pair rfl, bd_f_best_pair, sc_f_best_pair, ck_f_best_pair⟩
  · exact ⟨key 10 d_l_law_cell rfl, bd_l_law_cell, sc_l_law_cell, ck_l_law_cell⟩
  · exact ⟨key 11 d_l_law_row rfl, bd_l_law_row, sc_l_law_row, ck_l_law_row⟩
  · exact ⟨key 12 d_l_law_hidden rfl, bd_l_law_hidden, sc_l_law_hidden, ck_l_law_hidden⟩
  · exact ⟨key 13 d_f_law rfl, bd_f_law, sc_f_law, ck_f_law⟩
end
theorem facts {P : Program} {w : World} {K : PySem.W.Frag} {h : Heap} {mg : Str → Option Value} {f : Addr} (X : K.In h) (G : h.Ns mainGlobals mg) (hf : mg ("law" : Str) = some (.ref f)) (cx : xfB XS K = true) (c : He.SaysD faL fnL K) :
    ∃ fd : FuncData, (∀ (s : Shared) (v : Value), BindsTo s fd ⟨[v], []⟩ [("script", v)]) ∧ ∀ base : Heap, FnOk P w K mg base (L2.CX P w) 40 f fd ["script"] (spD mg 1 (Fk T 40 "law")) := by
  have hT := defs X G c
  have hm : d_f_law ∈ T := by unfold T; simp
  obtain ⟨f', fd, h1, h2⟩ := (hT _ hm).fn
  have e : f' = f := Value.ref.inj (Option.some.inj (h1.symm.trans hf))
  subst e
  exact ⟨fd, fun s v => FunD.bindsA h2 bd_f_law s [v] rfl, fun base => levels nmT hT (gls_of X G c (by decide +kernel)) (frs_of X G c) (xcs_of X G c cx) 40 _ hm f' fd h1 h2⟩
end LW
open PySem PySem.W PySem.Calls PyProof.Rows in
theorem PySem.Challenge.cw_tamecolors_k11_whole_candidates_holds : PySem.Challenge.rw_tamecolors_k11_whole_candidates.Holds := by
  w_on; o_law
  refine HandSHeadRun.head_any (r := OpenLaw.row PySem.Challenge.rw_tamecolors_k11_whole_candidates) (q := view (OpenLaw.row PySem.Challenge.rw_tamecolors_k11_whole_candidates).prog [20]) (H := LW.hk) (ob := LW.ob) (M := 4000) (loose := ["ColorError", "InvalidNumber", "InvalidAnswers", "in_range", "pairs_of", "table_of", "first_triangle", "check_small", "every_tame", "all_tame", "check_answers", "candidates", "best_pair", "_law_cell", "_law_row", "_law_hidden"]) (d := HandSHeadRun.topDef (OpenLaw.row PySem.Challenge.rw_tamecolors_k11_whole_candidates).prog 20) (kwd := []) (fun s => TC.obX_eq s)
    (by kernel_rfl) (fun s => by kernel_rfl) LW.run (by kernel_rfl) (by kernel_rfl) (by kernel_rfl) (by rfl) (by first | assumption | decide +kernel) (by decide +kernel) ⟨rfl, rfl, rfl, rfl, rfl, by decide +kernel⟩ ?hw ?hc
  case hw => w_witness2
  case hc =>
    refine TC.walk_X (l := PySem.Challenge.rw_tamecolors_k11_whole_candidates) (n := 63) (k := 40) (x := "script") (CX := fun w => L2.CX (PySem.Challenge.rw_tamecolors_k11_whole_candidates).prog w) rfl (by decide) (by kernel_rfl) ⟨rfl, by decide, by decide⟩ ?F (fun w H s e s' z => TC.cx_none H s e s' z)
    intro w mg fa h Y G hmg0
    obtain ⟨K, KX, cx, c⟩ := Y
    have hmg : mg ("law" : PySem.Str) = some (.ref fa) := by
      have e : (HandSHeadRun.topDef (OpenLaw.row PySem.Challenge.rw_tamecolors_k11_whole_candidates).prog 20).name = ("law" : PySem.Str) := by kernel_rfl
      rw [← e]
      exact hmg0
    obtain ⟨fd, hb, hF⟩ := LW.facts (P := (PySem.Challenge.rw_tamecolors_k11_whole_candidates).prog) (w := w) KX G hmg cx c
    exact ⟨K, fd, TC.spD mg 1 (TC.Fk LW.T 40 "law"), KX, hb, fun H a ns hl _ hS => TC.sp_law (LW.plain ns hl) (TC.script_in cx hS), fun base _ _ => hF base⟩
