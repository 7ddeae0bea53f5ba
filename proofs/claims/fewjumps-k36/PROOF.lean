import PyProof.Rows.All
import PySem.Challenge.RW_fewjumps_k36_whole_greedy_and_fewest
import Wide.All
import OpenK.AllK
import Wide.FinOn
import HandS.ForMost
import HandS.ForExc
import HandS.Flow
import HandS.Deep
import HandS.TupSets
import HandS.Wide
import HandS.WideMore
import HandS.IsInst
import HandS.CallLocal
import HandS.TupLen
import HandS.TupAny
import HandS.TupLe
import HandS.Style
import HandS.Conv
import HandS.WordsExc
import HandS.ExcInit
import HandS.ExcIs
import HandS.HotCalls
import HandS.Zip
import HandS.RevRange
import HandS.ListItems
import HandS.DictTup
import HandS.SortKw
import HandS.SortOrd
import HandS.EndBits
import HandS.CallSlots
import HandS.ExcOwn
import KE.SortData
set_option Elab.async false
set_option linter.all false
set_option maxRecDepth 100000
/-! ## Sem -/
/-! Values by value, results, and what Python's operations come to on them. Core Lean alone. -/
namespace Fj

inductive D where
  | non | bl (b : Bool) | int (i : Int) | str (s : List Nat) | tup (xs : List D) | lst (xs : List D)
  /-- a dict; t: its keys are tuples (1), plain numbers and texts (0) -/
  | dct (t : Nat) (kvs : List (D × D)) | fn (k : Nat) | exc (c : Nat) (fs : List D) | scr (ns : List Int)
  deriving Inhabited

/-- a result: a value; an exception; nothing is said -/
inductive R (α : Type) where
  | ok (a : α) | ex (e : D) | bad

namespace R
variable {α β γ : Type}
def bind : R α → (α → R β) → R β
  | ok a, f => f a
  | ex e, _ => ex e
  | bad, _ => bad
@[simp] theorem ok_bind (a : α) (f : α → R β) : (ok a).bind f = f a := id rfl
@[simp] theorem ex_bind (e : D) (f : α → R β) : (ex e : R α).bind f = ex e := id rfl
@[simp] theorem bad_bind (f : α → R β) : (bad : R α).bind f = bad := id rfl
@[simp] theorem bind_ok (m : R α) : m.bind ok = m := by cases m <;> rfl
theorem bind_assoc (m : R α) (f : α → R β) (g : β → R γ) : (m.bind f).bind g = m.bind fun a => (f a).bind g := by cases m <;> rfl
/-- an exception here is not served -/
def nox : R α → R α
  | ok a => ok a
  | _ => bad
@[simp] theorem nox_ok (a : α) : (ok a).nox = ok a := id rfl
@[simp] theorem nox_bad : (bad : R α).nox = bad := id rfl
end R

/-- how statements end: on to the next, out of the loop, out of the def -/
inductive Fl (S B : Type) where
  | nx (s : S) | bk (b : B) | rt (d : D) (os : List D)

section
variable {S S' B : Type}
def seqR (r : R (Fl S' B)) (k : S' → R (Fl S B)) : R (Fl S B) := r.bind fun
  | .nx s => k s
  | .bk b => .ok (.bk b)
  | .rt d os => .ok (.rt d os)
@[simp] theorem seqR_nx (s : S') (k : S' → R (Fl S B)) : seqR (.ok (.nx s)) k = k s := id rfl
@[simp] theorem seqR_bk (b : B) (k : S' → R (Fl S B)) : seqR (.ok (.bk b)) k = .ok (.bk b) := id rfl
@[simp] theorem seqR_rt (d : D) (os : List D) (k : S' → R (Fl S B)) : seqR (.ok (.rt d os)) k = .ok (.rt d os) := id rfl
@[simp] theorem seqR_ex (e : D) (k : S' → R (Fl S B)) : seqR (.ex e) k = .ex e := id rfl
@[simp] theorem seqR_bad (k : S' → R (Fl S B)) : seqR .bad k = .bad := id rfl
/-- what never goes on to the next -/
def endR (r : R (Fl Empty B)) : R (Fl S B) := r.bind fun
  | .nx s => nomatch s
  | .bk b => .ok (.bk b)
  | .rt d os => .ok (.rt d os)
@[simp] theorem endR_bk (b : B) : (endR (.ok (.bk b)) : R (Fl S B)) = .ok (.bk b) := id rfl
@[simp] theorem endR_rt (d : D) (os : List D) : (endR (.ok (.rt d os)) : R (Fl S B)) = .ok (.rt d os) := id rfl
@[simp] theorem endR_ex (e : D) : (endR (.ex e) : R (Fl S B)) = .ex e := id rfl
@[simp] theorem endR_bad : (endR .bad : R (Fl S B)) = .bad := id rfl
theorem endR_bind {α : Type} (m : R α) (f : α → R (Fl Empty B)) : (endR (m.bind f) : R (Fl S B)) = m.bind fun a => endR (f a) := by cases m <;> rfl
/-- for: the state ahead of each turn -/
def forR : List D → S → (D → S → R (Fl S S)) → R (Fl S S)
  | [], s, _ => .ok (.nx s)
  | x :: xs, s, f => (f x s).bind fun
    | .nx s' => forR xs s' f
    | .bk s' => .ok (.bk s')
    | .rt d os => .ok (.rt d os)
/-- behind a loop -/
def aftR (r : R (Fl S S)) (k : S → R (Fl S' B)) : R (Fl S' B) := r.bind fun
  | .nx s => k s
  | .bk s => k s
  | .rt d os => .ok (.rt d os)
@[simp] theorem aftR_nx (s : S) (k : S → R (Fl S' B)) : aftR (.ok (.nx s)) k = k s := id rfl
@[simp] theorem aftR_bk (s : S) (k : S → R (Fl S' B)) : aftR (.ok (.bk s)) k = k s := id rfl
@[simp] theorem aftR_rt (d : D) (os : List D) (k : S → R (Fl S' B)) : aftR (.ok (.rt d os)) k = .ok (.rt d os) := id rfl
@[simp] theorem aftR_bad (k : S → R (Fl S' B)) : aftR .bad k = .bad := id rfl
@[simp] theorem aftR_ex (e : D) (k : S → R (Fl S' B)) : aftR (.ex e) k = .ex e := id rfl
/-- while, with fuel -/
def whileR : Nat → S → (S → R Bool) → (S → R (Fl S S)) → R (Fl S S)
  | 0, _, _, _ => .bad
  | n + 1, s, c, f => (c s).bind fun b => if b = true then (f s).bind fun
      | .nx s' => whileR n s' c f
      | .bk s' => .ok (.bk s')
      | .rt d os => .ok (.rt d os)
    else .ok (.nx s)
end
/-- a def's end: its value and what its own (in and out) arguments hold -/
def finR : R (Fl Unit Empty) → R (D × List D)
  | .ok (.rt d os) => .ok (d, os)
  | .ex e => .ex e
  | _ => .bad
/-- .. a def without such: falling off the end gives None -/
def finP : R (Fl Unit Empty) → R D
  | .ok (.rt d _) => .ok d
  | .ok (.nx _) => .ok .non
  | .ex e => .ex e
  | _ => .bad
@[simp] theorem finR_rt (d : D) (os : List D) : finR (.ok (.rt d os)) = .ok (d, os) := id rfl
@[simp] theorem finP_rt (d : D) (os : List D) : finP (.ok (.rt d os)) = .ok d := id rfl
@[simp] theorem finP_nx (u : Unit) : finP (.ok (.nx u)) = .ok .non := id rfl
@[simp] theorem finP_ex (e : D) : finP (.ex e) = .ex e := id rfl
@[simp] theorem finR_ex (e : D) : finR (.ex e) = .ex e := id rfl
@[simp] theorem finP_bad : finP .bad = .bad := id rfl
@[simp] theorem finR_bad : finR .bad = .bad := id rfl

/-! ### operations -/
/-- lists and tuples have at most so many things (a bound of the model is far above) -/
def most : Nat := 100000
def op1 {α β : Type} (f : α → R β) (a : R α) : R β := a.bind f
def op2 {α β γ : Type} (f : α → β → R γ) (a : R α) (b : R β) : R γ := a.bind fun x => b.bind fun y => f x y
def op3 {α β γ δ : Type} (f : α → β → γ → R δ) (a : R α) (b : R β) (c : R γ) : R δ := a.bind fun x => b.bind fun y => c.bind fun z => f x y z
@[simp] theorem op1_ok {α β : Type} (f : α → R β) (a : α) : op1 f (.ok a) = f a := id rfl
@[simp] theorem op2_ok {α β γ : Type} (f : α → β → R γ) (a : α) (b : β) : op2 f (.ok a) (.ok b) = f a b := id rfl
@[simp] theorem op3_ok {α β γ δ : Type} (f : α → β → γ → R δ) (a : α) (b : β) (c : γ) : op3 f (.ok a) (.ok b) (.ok c) = f a b c := id rfl
/-- some results, from the left -/
def allR : List (R D) → R (List D)
  | [] => .ok []
  | a :: r => a.bind fun x => (allR r).bind fun xs => .ok (x :: xs)
@[simp] theorem allR_nil : allR [] = .ok [] := id rfl
@[simp] theorem allR_ok (a : D) (r : List (R D)) : allR (.ok a :: r) = (allR r).bind fun xs => .ok (a :: xs) := id rfl
def tupE (es : List (R D)) : R D := (allR es).bind fun xs => .ok (.tup xs)
def lstE (es : List (R D)) : R D := (allR es).bind fun xs => .ok (.lst xs)

def truD : D → R Bool
  | .non => .ok false
  | .bl b => .ok b
  | .int i => .ok (i != 0)
  | .str s => .ok (!s.isEmpty)
  | .tup xs => .ok (!xs.isEmpty)
  | .lst xs => .ok (!xs.isEmpty)
  | _ => .bad
@[simp] theorem truD_bl (b : Bool) : truD (.bl b) = .ok b := id rfl
/-- a text too long to be served -/
def longD : D → Bool
  | .str s => !decide (s.length ≤ most)
  | _ => false
/-- the truth of a value -/
def truT (d : D) : R Bool := if longD d = true then .bad else truD d
@[simp] theorem truT_bl (b : Bool) : truT (.bl b) = .ok b := id rfl
@[simp] theorem truT_int (i : Int) : truT (.int i) = .ok (i != 0) := id rfl
@[simp] theorem truT_non : truT .non = .ok false := id rfl
@[simp] theorem truT_lst (xs : List D) : truT (.lst xs) = .ok (!xs.isEmpty) := id rfl
@[simp] theorem truT_tup (xs : List D) : truT (.tup xs) = .ok (!xs.isEmpty) := id rfl
def blE (c : R Bool) : R D := c.bind fun b => .ok (.bl b)
@[simp] theorem blE_ok (b : Bool) : blE (.ok b) = .ok (.bl b) := id rfl
def andT (a b : R Bool) : R Bool := a.bind fun c => if c = true then b else .ok false
def orT (a b : R Bool) : R Bool := a.bind fun c => if c = true then .ok true else b
def notT (a : R Bool) : R Bool := a.bind fun c => .ok (!c)
@[simp] theorem andT_ok (a b : Bool) : andT (.ok a) (.ok b) = .ok (a && b) := by cases a <;> rfl
@[simp] theorem andT_true (b : R Bool) : andT (.ok true) b = b := id rfl
@[simp] theorem andT_false (b : R Bool) : andT (.ok false) b = .ok false := id rfl
@[simp] theorem orT_ok (a b : Bool) : orT (.ok a) (.ok b) = .ok (a || b) := by cases a <;> rfl
@[simp] theorem orT_true (b : R Bool) : orT (.ok true) b = .ok true := id rfl
@[simp] theorem orT_false (b : R Bool) : orT (.ok false) b = b := id rfl
@[simp] theorem notT_ok (a : Bool) : notT (.ok a) = .ok (!a) := id rfl
/-- x and y, x or y as values -/
def andV (a b : R D) : R D := a.bind fun x => (truT x).bind fun c => if c = true then b else .ok x
def orV (a b : R D) : R D := a.bind fun x => (truT x).bind fun c => if c = true then .ok x else b
def ifE {α : Type} (c : R Bool) (a b : R α) : R α := c.bind fun k => if k = true then a else b
@[simp] theorem ifE_ok {α : Type} (c : Bool) (a b : R α) : ifE (.ok c) a b = if c = true then a else b := id rfl
@[simp] theorem ifE_true {α : Type} (a b : R α) : ifE (.ok true) a b = a := id rfl
@[simp] theorem ifE_false {α : Type} (a b : R α) : ifE (.ok false) a b = b := id rfl

mutual
/-- made of None, truths, numbers, texts, tuples, lists -/
def plainD : D → Bool
  | .non | .bl _ | .int _ => true
  | .str s => s.all fun c => decide (c < 1114112)
  | .tup xs | .lst xs => plainDs xs
  | _ => false
def plainDs : List D → Bool
  | [] => true
  | x :: xs => plainD x && plainDs xs
end
mutual
def depD : D → Nat
  | .tup xs | .lst xs => depDs xs + 1
  | _ => 0
def depDs : List D → Nat
  | [] => 0
  | x :: xs => max (depD x) (depDs xs)
end
def b2 (b : Bool) : Int := if b then 1 else 0
mutual
/-- == -/
def eqD : D → D → Bool
  | .non, .non => true
  | .bl a, .bl b => a == b
  | .bl a, .int j => b2 a == j
  | .int i, .bl b => i == b2 b
  | .int i, .int j => i == j
  | .str x, .str y => x == y
  | .tup xs, .tup ys => eqDs xs ys
  | .lst xs, .lst ys => eqDs xs ys
  | _, _ => false
def eqDs : List D → List D → Bool
  | [], [] => true
  | x :: xs, y :: ys => eqD x y && eqDs xs ys
  | _, _ => false
end
/-- fit for == -/
def fitD (d : D) : Bool := plainD d && decide (depD d ≤ 60)
def eqR (x y : D) : R Bool := if fitD x && fitD y then .ok (eqD x y) else .bad
def neR (x y : D) : R Bool := if fitD x && fitD y then .ok (!eqD x y) else .bad
def isNon : D → Bool
  | .non => true
  | _ => false
def isR (x : D) : R Bool := .ok (isNon x)
def isNotR (x : D) : R Bool := .ok (!isNon x)

/-- the order of tuples of whole numbers -/
def lexLt : List Int → List Int → Bool
  | [], [] => false
  | [], _ :: _ => true
  | _ :: _, [] => false
  | x :: xs, y :: ys => if x = y then lexLt xs ys else decide (x < y)
def intsD : List D → Option (List Int)
  | [] => some []
  | .int i :: r => (intsD r).map (i :: ·)
  | _ :: _ => none
def ltR : D → D → R Bool
  | .int i, .int j => .ok (decide (i < j))
  | .tup xs, .tup ys => match intsD xs, intsD ys with
    | some a, some b => .ok (lexLt a b)
    | _, _ => .bad
  | _, _ => .bad
def leR : D → D → R Bool
  | .int i, .int j => .ok (decide (i ≤ j))
  | _, _ => .bad
def gtR : D → D → R Bool
  | .int i, .int j => .ok (decide (j < i))
  | _, _ => .bad
def geR : D → D → R Bool
  | .int i, .int j => .ok (decide (j ≤ i))
  | _, _ => .bad
@[simp] theorem ltR_int (i j : Int) : ltR (.int i) (.int j) = .ok (decide (i < j)) := id rfl
@[simp] theorem leR_int (i j : Int) : leR (.int i) (.int j) = .ok (decide (i ≤ j)) := id rfl
@[simp] theorem gtR_int (i j : Int) : gtR (.int i) (.int j) = .ok (decide (j < i)) := id rfl
@[simp] theorem geR_int (i j : Int) : geR (.int i) (.int j) = .ok (decide (j ≤ i)) := id rfl
/-- a < b < c: two comparisons, b asked once -/
def chainR (f g : D → D → R Bool) (a b c : R D) : R Bool := a.bind fun x => b.bind fun y => (f x y).bind fun k => if k = true then c.bind fun z => g y z else .ok false

def okLen (n : Nat) (d : D) : R D := if n ≤ most then .ok d else .bad
/-- numbers of less than 2 ^ 64 in size -/
def small (i : Int) : Bool := decide (-(2 ^ 64) < i) && decide (i < 2 ^ 64)
def addR : D → D → R D
  | .int i, .int j => .ok (.int (i + j))
  | .str a, .str b => if a.length + b.length ≤ most then .ok (.str (a ++ b)) else .bad
  | .lst a, .lst b => if a.length + b.length ≤ most then .ok (.lst (a ++ b)) else .bad
  | .tup a, .tup b => if a.length + b.length ≤ most then .ok (.tup (a ++ b)) else .bad
  | _, _ => .bad
def subR : D → D → R D
  | .int i, .int j => .ok (.int (i - j))
  | _, _ => .bad
def mulR : D → D → R D
  | .int i, .int j => if small i || small j then .ok (.int (i * j)) else .bad
  | .lst a, .int k => if small k && decide (a.length * k.toNat ≤ most) && decide (k < 2 ^ 60) && decide (-(2 ^ 60) < k) then .ok (.lst (List.replicate k.toNat a).flatten) else .bad
  | _, _ => .bad
@[simp] theorem addR_int (i j : Int) : addR (.int i) (.int j) = .ok (.int (i + j)) := id rfl
@[simp] theorem subR_int (i j : Int) : subR (.int i) (.int j) = .ok (.int (i - j)) := id rfl
/-- // and % by a number from 1 on, below 2 ^ 9000 (%: any) -/
def fdivR : D → D → R D
  | .int i, .int j => if 0 < j && decide (j < 2 ^ 30) then .ok (.int (i / j)) else .bad
  | _, _ => .bad
def modR : D → D → R D
  | .int i, .int j => if 0 < j then .ok (.int (i % j)) else .bad
  | _, _ => .bad
def powR : D → D → R D
  | .int i, .int j => if small i && decide (0 ≤ j) && decide (j ≤ 1000) then .ok (.int (i ^ j.toNat)) else .bad
  | _, _ => .bad
def shlR : D → D → R D
  | .int i, .int j => if small i && decide (0 ≤ j) && decide (j ≤ 1000) then .ok (.int (i * 2 ^ j.toNat)) else .bad
  | _, _ => .bad
def shrR : D → D → R D
  | .int i, .int j => if 0 ≤ j then .ok (.int (i / 2 ^ j.toNat)) else .bad
  | _, _ => .bad
/-- bits of numbers from 0 on -/
def bitR (f : Nat → Nat → Nat) : D → D → R D
  | .int i, .int j => if 0 ≤ i && decide (0 ≤ j) then .ok (.int (f i.toNat j.toNat : Nat)) else .bad
  | _, _ => .bad
def bandR : D → D → R D := bitR (· &&& ·)
def borR : D → D → R D := bitR (· ||| ·)
def bxorR : D → D → R D := bitR (· ^^^ ·)
def negR : D → R D
  | .int i => .ok (.int (-i))
  | _ => .bad
@[simp] theorem negR_int (i : Int) : negR (.int i) = .ok (.int (-i)) := id rfl

/-! ### places, cuts -/
def ixN (n : Nat) (i : Int) : Option Nat := if 0 ≤ i then (if i < n then some i.toNat else none) else if -(n : Int) ≤ i then some (i + n).toNat else none
def atI {α : Type} (xs : List α) (i : Int) : Option α := (ixN xs.length i).bind fun j => xs[j]?
def ofO {α : Type} : Option α → R α
  | some a => .ok a
  | none => .bad
@[simp] theorem ofO_some {α : Type} (a : α) : ofO (some a) = .ok a := id rfl
@[simp] theorem ofO_none {α : Type} : ofO (none : Option α) = .bad := id rfl
/-- a dict's key: a number, a text, a tuple of such -/
def flatK : D → Bool
  | .int _ => true
  | .str _ => true
  | _ => false
def keyOk : D → Bool
  | .int _ => true
  | .str _ => true
  | .tup xs => xs.all flatK
  | _ => false
mutual
/-- the same datum -/
def sameD : D → D → Bool
  | .non, .non => true
  | .bl a, .bl b => a == b
  | .int i, .int j => i == j
  | .str x, .str y => x == y
  | .tup xs, .tup ys => sameDs xs ys
  | .lst xs, .lst ys => sameDs xs ys
  | _, _ => false
def sameDs : List D → List D → Bool
  | [], [] => true
  | x :: xs, y :: ys => sameD x y && sameDs xs ys
  | _, _ => false
end
def lookD (k : D) : List (D × D) → Option D
  | [] => none
  | (a, v) :: r => if sameD a k then some v else lookD k r
def putD (k v : D) (kvs : List (D × D)) : List (D × D) := if kvs.any (fun p => sameD p.1 k) = true then kvs.map (fun p => if sameD p.1 k = true then (p.1, v) else p) else kvs ++ [(k, v)]
def isTupD : D → Bool
  | .tup _ => true
  | _ => false
/-- a key of the dict's kind -/
def kindOk (k : D) (t : Nat) : Bool := keyOk k && ((t == 0 && !isTupD k) || (t == 1 && isTupD k))
def idxR0 : D → D → R D
  | .lst xs, .int i => ofO (atI xs i)
  | .tup xs, .int i => ofO (atI xs i)
  | .scr ns, .int i => (ofO (atI ns i)).bind fun n => .ok (.int n)
  | .str s, .int i => if s.length ≤ most then (ofO (atI s i)).bind fun c => .ok (.str [c]) else .bad
  | _, _ => .bad
/-- d[k], d a dict -/
def getR : D → D → R D
  | .dct t kvs, k => if kindOk k t then ofO (lookD k kvs) else .bad
  | _, _ => .bad
/-- a[b] -/
def idxR (a b : D) : R D := match a with
  | .dct _ _ => getR a b
  | _ => idxR0 a b
/-- where a bound of a cut lies -/
def sIx (n d : Nat) : Option Int → Nat
  | none => d
  | some i => if i < 0 then (i + n).toNat else min i.toNat n
def cutL {α : Type} (xs : List α) (lo hi : Option Int) : List α := (xs.drop (sIx xs.length 0 lo)).take (sIx xs.length xs.length hi - sIx xs.length 0 lo)
def boundR : Option D → R (Option Int)
  | none => .ok none
  | some (.int i) => .ok (some i)
  | some _ => .bad
def cutI (d : D) (l h : Option Int) : R D := match d with
  | .lst xs => .ok (.lst (cutL xs l h))
  | .tup xs => .ok (.tup (cutL xs l h))
  | .scr ns => .ok (.lst ((cutL ns l h).map .int))
  | .str s => if s.length ≤ most then .ok (.str (cutL s l h)) else .bad
  | _ => .bad
def optR : Option (R D) → R (Option D)
  | none => .ok none
  | some r => r.bind fun x => .ok (some x)
def cutE (d : R D) (lo hi : Option (R D)) : R D := d.bind fun x => ((optR lo).bind boundR).bind fun l => ((optR hi).bind boundR).bind fun h => cutI x l h
@[simp] theorem optR_none : optR none = .ok none := id rfl
@[simp] theorem optR_ok (x : D) : optR (some (.ok x)) = .ok (some x) := id rfl
/-- [::-1] -/
def revR : D → R D
  | .lst xs => .ok (.lst xs.reverse)
  | .tup xs => .ok (.tup xs.reverse)
  | _ => .bad
def setR (d i v : D) : R D := match d, i with
  | .lst xs, .int k => (ofO (ixN xs.length k)).bind fun j => .ok (.lst (xs.set j v))
  | .dct t kvs, k => if kindOk k t && decide (kvs.length < most) then .ok (.dct t (putD k v kvs)) else .bad
  | _, _ => .bad

def setE (d : D) (i v : R D) : R D := v.bind fun x => i.bind fun j => setR d j x
@[simp] theorem setE_ok (d i v : D) : setE d (.ok i) (.ok v) = setR d i v := id rfl
/-! ### what is walked -/
def itemsR : D → R (List D)
  | .lst xs => .ok xs
  | .tup xs => .ok xs
  | .str s => if s.length ≤ most then .ok (s.map fun c => .str [c]) else .bad
  | _ => .bad
def seqsR : D → R (List D)
  | .lst xs => .ok xs
  | .tup xs => .ok xs
  | _ => .bad
/-- lo, lo + 1, .., n of them -/
def upI (lo : Int) (n : Nat) : List D := (List.range n).map fun (k : Nat) => .int (lo + k)
def big62 (i : Int) : Bool := decide (-(2 ^ 62) ≤ i) && decide (i < 2 ^ 62)
def range1R : D → R (List D)
  | .int j => if big62 j then .ok (upI 0 j.toNat) else .bad
  | _ => .bad
def range2R : D → D → R (List D)
  | .int i, .int j => if big62 i && big62 j then .ok (upI i (j - i).toNat) else .bad
  | _, _ => .bad
/-- down from hi, above lo -/
def downI (hi : Int) (n : Nat) : List D := (List.range n).map fun (k : Nat) => .int (hi - k)
def rangeDR : D → D → R (List D)
  | .int i, .int j => if big62 i && big62 j then .ok (downI i (i - j).toNat) else .bad
  | _, _ => .bad
def zipL : List D → List D → List D
  | x :: xs, y :: ys => .tup [x, y] :: zipL xs ys
  | _, _ => []
def enumL (k : Nat) : List D → List D
  | [] => []
  | x :: xs => .tup [.int k, x] :: enumL (k + 1) xs
/-- a list comprehension: its test, its element -/
def compL (t : D → R Bool) (f : D → R D) : List D → R (List D)
  | [] => .ok []
  | x :: xs => (t x).nox.bind fun c => if c = true then (f x).nox.bind fun y => (compL t f xs).bind fun ys => .ok (y :: ys) else compL t f xs
def compE (it : R (List D)) (t : D → R Bool) (f : D → R D) : R D := it.bind fun xs => if xs.length ≤ most then (compL t f xs).bind fun ys => .ok (.lst ys) else .bad
def yesT : D → R Bool := fun _ => .ok true
/-- .. that changes a state on its way -/
def compS {S : Type} (f : D → S → R (Option D × S)) : List D → S → R (List D × S)
  | [], s => .ok ([], s)
  | x :: xs, s => (f x s).nox.bind fun p => (compS f xs p.2).bind fun q => .ok ((match p.1 with | some y => y :: q.1 | none => q.1), q.2)
/-- a tuple taken apart -/
def un2 {α : Type} (f : D → D → R α) : D → R α
  | .tup [a, b] => f a b
  | _ => .bad
def un3 {α : Type} (f : D → D → D → R α) : D → R α
  | .tup [a, b, c] => f a b c
  | _ => .bad
@[simp] theorem un2_tup {α : Type} (f : D → D → R α) (a b : D) : un2 f (.tup [a, b]) = f a b := id rfl
@[simp] theorem un3_tup {α : Type} (f : D → D → D → R α) (a b c : D) : un3 f (.tup [a, b, c]) = f a b c := id rfl

/-! ### built-ins -/
def lenR : D → R D
  | .lst xs => .ok (.int xs.length)
  | .tup xs => .ok (.int xs.length)
  | .scr ns => .ok (.int ns.length)
  | .str s => if s.length ≤ most then .ok (.int s.length) else .bad
  | .dct _ kvs => .ok (.int kvs.length)
  | _ => .bad
def listR (d : D) : R D := (seqsR d).bind fun xs => .ok (.lst xs)
def tupleR (d : D) : R D := (seqsR d).bind fun xs => .ok (.tup xs)
def intR : D → R D
  | .int i => .ok (.int i)
  | .bl b => .ok (.int (b2 b))
  | _ => .bad
def max2R : D → D → R D
  | .int i, .int j => .ok (.int (if j > i then j else i))
  | _, _ => .bad
def min2R : D → D → R D
  | .int i, .int j => .ok (.int (if j < i then j else i))
  | _, _ => .bad
def sumR : D → R D
  | .lst xs => (ofO (intsD xs)).bind fun ns => .ok (.int ns.sum)
  | _ => .bad
def minI : List Int → Int
  | [] => 0
  | [x] => x
  | x :: xs => min x (minI xs)
def maxI : List Int → Int
  | [] => 0
  | [x] => x
  | x :: xs => max x (maxI xs)
def minR : D → R D
  | .lst xs => (ofO (intsD xs)).bind fun ns => if ns.isEmpty then .bad else .ok (.int (minI ns))
  | _ => .bad
def maxR : D → R D
  | .lst xs => (ofO (intsD xs)).bind fun ns => if ns.isEmpty then .bad else .ok (.int (maxI ns))
  | _ => .bad
def blsD : List D → Option (List Bool)
  | [] => some []
  | .bl b :: r => (blsD r).map (b :: ·)
  | _ :: _ => none
def allQ : D → R D
  | .lst xs => (ofO (blsD xs)).bind fun bs => .ok (.bl (bs.all id))
  | _ => .bad
def anyQ : D → R D
  | .lst xs => (ofO (blsD xs)).bind fun bs => .ok (.bl (bs.any id))
  | _ => .bad
/-- x in a list, in a tuple, in a dict -/
def inR (x c : D) : R Bool := match c with
  | .lst xs => if fitD x && fitD (.lst xs) then .ok (xs.any fun y => eqD y x) else .bad
  | .tup xs => if fitD x && fitD (.tup xs) then .ok (xs.any fun y => eqD y x) else .bad
  | .dct t kvs => if kindOk x t then .ok (lookD x kvs).isSome else .bad
  | _ => .bad
def notInR (x c : D) : R Bool := (inR x c).bind fun b => .ok (!b)
/-- x in range(..), x a whole number -/
def inRange (x lo hi : D) : R Bool := match x, lo, hi with
  | .int i, .int a, .int b => if big62 a && big62 b then .ok (decide (a ≤ i) && decide (i < b)) else .bad
  | _, _, _ => .bad
def indexL (x : D) : List D → Option Nat
  | [] => none
  | y :: ys => if eqD y x then some 0 else (indexL x ys).map (· + 1)
def indexR (c x : D) : R D := match c with
  | .lst xs => if fitD x && fitD (.lst xs) then (ofO (indexL x xs)).bind fun j => .ok (.int j) else .bad
  | .tup xs => if fitD x && fitD (.tup xs) then (ofO (indexL x xs)).bind fun j => .ok (.int j) else .bad
  | _ => .bad
def isInt : D → Bool
  | .int _ => true
  | .bl _ => true
  | _ => false
def isBool : D → Bool
  | .bl _ => true
  | _ => false
def isTuple : D → Bool
  | .tup _ => true
  | _ => false
def isList : D → Bool
  | .lst _ => true
  | _ => false
def isStr : D → Bool
  | .str _ => true
  | _ => false
def isDict : D → Bool
  | .dct _ _ => true
  | _ => false
def isaOk : D → Bool
  | .fn _ => false
  | .exc _ _ => false
  | .scr _ => false
  | _ => true
def isaR (p : D → Bool) (d : D) : R Bool := if isaOk d then .ok (p d) else .bad

/-! ### sorting: tuples of whole numbers, all of one length -/
def tupI : D → Option (List Int)
  | .tup xs => intsD xs
  | _ => none
def tupsI : List D → Option (List (List Int))
  | [] => some []
  | x :: xs => (tupI x).bind fun a => (tupsI xs).map (a :: ·)
def lexLe (a b : List Int) : Bool := !lexLt b a
def insLex (x : List Int) : List (List Int) → List (List Int)
  | [] => [x]
  | y :: ys => if lexLt x y then x :: y :: ys else if x = y then y :: ys else y :: insLex x ys
/-- rising, nothing twice -/
def setLex (xs : List (List Int)) : List (List Int) := xs.foldr insLex []
/-- sorted(set(..)) -/
def sortSetR : D → R D
  | .lst xs => (ofO (tupsI xs)).bind fun ks => if ks.length < 64 && ks.all (fun k => decide (k.length = (ks.headD [0]).length) && k.all fun i => decide (0 ≤ i)) && decide (1 ≤ (ks.headD [0]).length) then .ok (.lst ((setLex ks).map fun k => .tup (k.map .int))) else .bad
  | _ => .bad

/-- list(..), tuple(..) of a range -/
def lstOf (r : R (List D)) : R D := r.bind fun xs => if xs.length ≤ most then .ok (.lst xs) else .bad
def tupOf (r : R (List D)) : R D := r.bind fun xs => if xs.length ≤ most then .ok (.tup xs) else .bad
/-! ### lists changed in place -/
def appendR (d v : D) : R D := match d with
  | .lst xs => if xs.length < most then .ok (.lst (xs ++ [v])) else .bad
  | _ => .bad
def extendR (d v : D) : R D := match d, v with
  | .lst xs, .lst ys => if xs.length + ys.length ≤ most then .ok (.lst (xs ++ ys)) else .bad
  | _, _ => .bad
/-- pop at a place: the thing, and what is left -/
def popAtR (d i : D) : R (D × D) := match d, i with
  | .lst xs, .int k => if big62 k then (ofO (ixN xs.length k)).bind fun j => (ofO xs[j]?).bind fun y => .ok (y, .lst (xs.eraseIdx j)) else .bad
  | _, _ => .bad
def appendE (d : D) (r : R D) : R D := match d with
  | .lst _ => r.bind (appendR d)
  | _ => .bad
@[simp] theorem appendE_lst (xs : List D) (r : R D) : appendE (.lst xs) r = r.bind (appendR (.lst xs)) := id rfl
def extendE (d : D) (r : R D) : R D := match d with
  | .lst _ => r.bind (extendR d)
  | _ => .bad
@[simp] theorem extendE_lst (xs : List D) (r : R D) : extendE (.lst xs) r = r.bind (extendR (.lst xs)) := id rfl
def contD : D → Bool
  | .lst _ => true
  | .dct _ _ => true
  | _ => false
/-- a value that is an own list or dict from here on -/
def ownR {α : Type} (d : R D) (F : D → R α) : R α := d.bind fun v => if contD v = true then F v else .bad
@[simp] theorem ownR_lst {α : Type} (xs : List D) (F : D → R α) : ownR (.ok (.lst xs)) F = F (.lst xs) := id rfl
@[simp] theorem ownR_dct {α : Type} (t : Nat) (xs : List (D × D)) (F : D → R α) : ownR (.ok (.dct t xs)) F = F (.dct t xs) := id rfl
@[simp] theorem ownR_bad {α : Type} (F : D → R α) : ownR .bad F = .bad := id rfl
@[simp] theorem ownR_ex {α : Type} (e : D) (F : D → R α) : ownR (.ex e) F = .ex e := id rfl
/-- one in-and-out argument -/
def io1 {β : Type} (m : R (D × List D)) (k : D → D → R β) : R β := m.bind fun p => match p.2 with
  | [o] => k p.1 o
  | _ => .bad
@[simp] theorem io1_ok {β : Type} (d o : D) (k : D → D → R β) : io1 (.ok (d, [o])) k = k d o := id rfl

/-! ### about the order of lists of numbers -/
theorem lexLt_irrefl : ∀ a : List Int, lexLt a a = false
  | [] => rfl
  | x :: xs => by simp [lexLt, lexLt_irrefl xs]
theorem lexLt_trans : ∀ {a b c : List Int}, lexLt a b = true → lexLt b c = true → lexLt a c = true
  | [], [], _, h, _ => by cases h
  | [], _ :: _, [], _, h => by cases h
  | [], _ :: _, _ :: _, _, _ => rfl
  | _ :: _, [], _, h, _ => by cases h
  | _ :: _, _ :: _, [], _, h => by cases h
  | x :: xs, y :: ys, z :: zs, h1, h2 => by
    unfold lexLt at h1 h2 ⊢
    split at h1
    · rename_i e
      subst e
      split at h2
      · rename_i e; subst e; rw [if_pos rfl]; exact lexLt_trans h1 h2
      · rename_i e; rw [if_neg e]; exact h2
    · rename_i e
      have h1 := of_decide_eq_true h1
      split at h2
      · rename_i e2; subst e2; rw [if_neg e]; exact decide_eq_true h1
      · have h2 := of_decide_eq_true h2
        rw [if_neg (by omega)]; exact decide_eq_true (by omega)
theorem lexLt_total : ∀ a b : List Int, lexLt a b = true ∨ a = b ∨ lexLt b a = true
  | [], [] => .inr (.inl rfl)
  | [], _ :: _ => .inl rfl
  | _ :: _, [] => .inr (.inr rfl)
  | x :: xs, y :: ys => by
    unfold lexLt
    by_cases e : x = y
    · subst e
      rw [if_pos rfl, if_pos rfl]
      rcases lexLt_total xs ys with h | h | h
      · exact .inl h
      · exact .inr (.inl (by rw [h]))
      · exact .inr (.inr h)
    · rw [if_neg e, if_neg (fun h => e h.symm)]
      by_cases h : x < y
      · exact .inl (decide_eq_true h)
      · exact .inr (.inr (decide_eq_true (by omega)))
/-- strictly rising -/
def SS (l : List (List Int)) : Prop := l.Pairwise fun a b => lexLt a b = true
theorem SS.nodup {l : List (List Int)} (h : SS l) : l.Nodup := List.Pairwise.imp (fun {a b} h e => by subst e; rw [lexLt_irrefl] at h; cases h) h
theorem mem_insLex {x y : List Int} : ∀ {l : List (List Int)}, y ∈ insLex x l ↔ y = x ∨ y ∈ l
  | [] => by simp [insLex]
  | z :: l => by
    unfold insLex
    split
    · simp
    · split
      · rename_i e; subst e; simp
      · simp [mem_insLex (l := l)]
        constructor
        · rintro (h | h | h) <;> simp [h]
        · rintro (h | h | h) <;> simp [h]
theorem insLex_ss {x : List Int} : ∀ {l : List (List Int)}, SS l → SS (insLex x l)
  | [], _ => by simp [insLex, SS]
  | z :: l, h => by
    unfold insLex
    have h' := List.pairwise_cons.mp h
    split
    · rename_i e
      exact List.pairwise_cons.mpr ⟨fun a ha => by
        rcases List.mem_cons.mp ha with rfl | ha
        · exact e
        · exact lexLt_trans e (h'.1 a ha), h⟩
    · split
      · exact h
      · rename_i e1 e2
        refine List.pairwise_cons.mpr ⟨fun a ha => ?_, insLex_ss h'.2⟩
        rcases mem_insLex.mp ha with rfl | ha
        · rcases lexLt_total a z with w | w | w
          · exact absurd w e1
          · exact absurd w e2
          · exact w
        · exact h'.1 a ha
theorem mem_setLex {y : List Int} : ∀ {l : List (List Int)}, y ∈ setLex l ↔ y ∈ l
  | [] => by simp [setLex]
  | x :: l => by
    show y ∈ insLex x (setLex l) ↔ _
    rw [mem_insLex, mem_setLex (l := l), List.mem_cons]
theorem setLex_ss : ∀ {l : List (List Int)}, SS (setLex l)
  | [] => by simp [setLex, SS]
  | x :: l => insLex_ss setLex_ss
theorem ss_eq {l l' : List (List Int)} (h : SS l) (h' : SS l') (hm : ∀ a, a ∈ l ↔ a ∈ l') : l = l' := by
  refine List.Perm.eq_of_pairwise (le := fun a b => lexLt a b = true) (fun a b _ _ h1 h2 => ?_) h h' ((List.perm_ext_iff_of_nodup h.nodup h'.nodup).mpr hm)
  have := lexLt_trans h1 h2
  rw [lexLt_irrefl] at this; cases this
theorem setLex_congr {l l' : List (List Int)} (hm : ∀ a, a ∈ l ↔ a ∈ l') : setLex l = setLex l' := ss_eq setLex_ss setLex_ss fun a => by rw [mem_setLex, mem_setLex, hm]
end Fj

/-! ## Lay1 -/
namespace Fj
open PySem PySem.Spec PyProof.Rows L2

/-! ### values by value, in a heap -/
/-- where the text's defs and classes stand -/
structure Tb where
  fn : Nat → Option Addr
  cl : Nat → Option Addr
  /-- the exception that a def is handed -/
  xe : Option (Addr × Nat)
def ksD : Key → D
  | .inl i => .int i
  | .inr x => .str x.cps.toList
def strV (s : List Nat) : V := .str ⟨s.toArray⟩
variable (K : PySem.W.Frag) (T : Tb) (P : Hp)
mutual
def Rep : D → V → Prop
  | .non, v => v = .non
  | .bl b, v => v = .bl b
  | .int i, v => v = .int i
  | .str s, v => v = strV s
  | .tup ds, v => ∃ a vs, v = .ref a ∧ P a = some (.tup vs) ∧ RepAll ds vs
  | .lst ds, v => ∃ a vs, v = .ref a ∧ P a = some (.lst vs) ∧ RepAll ds vs
  | .dct t kvs, v => ∃ a, v = .ref a ∧ ((t = 0 ∧ ∃ l, P a = some (.dK l) ∧ kvs.map (·.1) = l.map (fun p => ksD p.1) ∧ RepVs kvs (l.map (·.2))) ∨
      (t = 1 ∧ ∃ l, P a = some (.dT l) ∧ kvs.map (·.1) = l.map (fun p => D.tup (p.1.map ksD)) ∧ RepVs kvs (l.map (·.2))))
  | .fn k, v => ∃ a, T.fn k = some a ∧ v = .ref a
  | .exc c _, v => ∃ a, T.xe = some (a, c) ∧ v = .ref a
  | .scr ns, v => ∃ a, v = .ref a ∧ SqL K P a (ns.map V.int)
def RepAll : List D → List V → Prop
  | [], vs => vs = []
  | d :: ds, vs => ∃ v r, vs = v :: r ∧ Rep d v ∧ RepAll ds r
def RepVs : List (D × D) → List V → Prop
  | [], vs => vs = []
  | p :: ps, vs => ∃ v r, vs = v :: r ∧ RepP p v ∧ RepVs ps r
def RepP : D × D → V → Prop
  | (_, d), v => Rep d v
end
/-- what stands at the address of a list or a dict -/
def Own : D → HO → Prop
  | .lst ds, o => ∃ vs, o = .lst vs ∧ RepAll K T P ds vs
  | .dct t kvs, o => (t = 0 ∧ ∃ l, o = .dK l ∧ kvs.map (·.1) = l.map (fun p => ksD p.1) ∧ RepVs K T P kvs (l.map (·.2))) ∨
      (t = 1 ∧ ∃ l, o = .dT l ∧ kvs.map (·.1) = l.map (fun p => D.tup (p.1.map ksD)) ∧ RepVs K T P kvs (l.map (·.2)))
  | _, _ => False
abbrev cont : D → Bool := contD
variable {K T P}
theorem rep_own {d : D} {v : V} (hc : cont d = true) : Rep K T P d v ↔ ∃ a o, v = .ref a ∧ P a = some o ∧ Own K T P d o := by
  cases d with
  | lst ds =>
    constructor
    · intro h
      unfold Rep at h
      obtain ⟨a, vs, rfl, h1, h2⟩ := h
      exact ⟨a, _, rfl, h1, vs, rfl, h2⟩
    · rintro ⟨a, o, rfl, h1, vs, rfl, h2⟩
      unfold Rep
      exact ⟨a, vs, rfl, h1, h2⟩
  | dct t kvs =>
    constructor
    · intro h
      unfold Rep at h
      obtain ⟨a, rfl, ⟨t0, l, h1, h2⟩ | ⟨t0, l, h1, h2⟩⟩ := h
      · exact ⟨a, _, rfl, h1, .inl ⟨t0, l, rfl, h2⟩⟩
      · exact ⟨a, _, rfl, h1, .inr ⟨t0, l, rfl, h2⟩⟩
    · rintro ⟨a, o, rfl, h1, ⟨t0, l, rfl, h2⟩ | ⟨t0, l, rfl, h2⟩⟩
      · unfold Rep; exact ⟨a, rfl, .inl ⟨t0, l, h1, h2⟩⟩
      · unfold Rep; exact ⟨a, rfl, .inr ⟨t0, l, h1, h2⟩⟩
  | _ => cases hc
variable {P' : Hp}
theorem sql_mono (e : Same P P') {a : Addr} {xs : List V} (h : SqL K P a xs) : SqL K P' a xs := e.seq h
mutual
theorem Rep.mono (e : Same P P') : ∀ (d : D) (v : V), Rep K T P d v → Rep K T P' d v
  | .non, _, h => by unfold Rep at h ⊢; exact h
  | .bl _, _, h => by unfold Rep at h ⊢; exact h
  | .int _, _, h => by unfold Rep at h ⊢; exact h
  | .str _, _, h => by unfold Rep at h ⊢; exact h
  | .tup ds, _, h => by
    unfold Rep at h ⊢
    obtain ⟨a, vs, h1, h2, h3⟩ := h
    exact ⟨a, vs, h1, e _ _ h2, RepAll.mono e ds vs h3⟩
  | .lst ds, _, h => by
    unfold Rep at h ⊢
    obtain ⟨a, vs, h1, h2, h3⟩ := h
    exact ⟨a, vs, h1, e _ _ h2, RepAll.mono e ds vs h3⟩
  | .dct t kvs, _, h => by
    unfold Rep at h ⊢
    obtain ⟨a, h1, ⟨t0, l, h2, h3, h4⟩ | ⟨t0, l, h2, h3, h4⟩⟩ := h
    · exact ⟨a, h1, .inl ⟨t0, l, e _ _ h2, h3, RepVs.mono e kvs _ h4⟩⟩
    · exact ⟨a, h1, .inr ⟨t0, l, e _ _ h2, h3, RepVs.mono e kvs _ h4⟩⟩
  | .fn _, _, h => by unfold Rep at h ⊢; exact h
  | .exc _ _, _, h => by unfold Rep at h ⊢; exact h
  | .scr _, _, h => by
    unfold Rep at h ⊢
    obtain ⟨a, h1, h2⟩ := h
    exact ⟨a, h1, sql_mono e h2⟩
theorem RepAll.mono (e : Same P P') : ∀ (ds : List D) (vs : List V), RepAll K T P ds vs → RepAll K T P' ds vs
  | [], _, h => by unfold RepAll at h ⊢; exact h
  | d :: ds, _, h => by
    unfold RepAll at h ⊢
    obtain ⟨v, r, h1, h2, h3⟩ := h
    exact ⟨v, r, h1, Rep.mono e d v h2, RepAll.mono e ds r h3⟩
theorem RepVs.mono (e : Same P P') : ∀ (ps : List (D × D)) (vs : List V), RepVs K T P ps vs → RepVs K T P' ps vs
  | [], _, h => by unfold RepVs at h ⊢; exact h
  | p :: ps, _, h => by
    unfold RepVs at h ⊢
    obtain ⟨v, r, h1, h2, h3⟩ := h
    exact ⟨v, r, h1, RepP.mono e p v h2, RepVs.mono e ps r h3⟩
theorem RepP.mono (e : Same P P') : ∀ (p : D × D) (v : V), RepP K T P p v → RepP K T P' p v
  | (_, d), v, h => by unfold RepP at h ⊢; exact Rep.mono e d v h
end
theorem Own.mono (e : Same P P') {d : D} {o : HO} (h : Own K T P d o) : Own K T P' d o := by
  cases d with
  | lst ds => obtain ⟨vs, h1, h2⟩ := h; exact ⟨vs, h1, RepAll.mono e ds vs h2⟩
  | dct t kvs =>
    obtain ⟨t0, l, h1, h2, h3⟩ | ⟨t0, l, h1, h2, h3⟩ := h
    · exact .inl ⟨t0, l, h1, h2, RepVs.mono e kvs _ h3⟩
    · exact .inr ⟨t0, l, h1, h2, RepVs.mono e kvs _ h3⟩
  | _ => exact h.elim
theorem RepAll.length : ∀ {ds : List D} {vs : List V}, RepAll K T P ds vs → vs.length = ds.length
  | [], _, h => by unfold RepAll at h; subst h; rfl
  | d :: ds, _, h => by
    unfold RepAll at h
    obtain ⟨v, r, rfl, _, h3⟩ := h
    simp [RepAll.length h3]
theorem RepAll.get : ∀ {ds : List D} {vs : List V} {i : Nat} {d : D}, RepAll K T P ds vs → ds[i]? = some d → ∃ v, vs[i]? = some v ∧ Rep K T P d v
  | [], _, _, _, _, e => by simp at e
  | d :: ds, _, 0, _, h, e => by
    unfold RepAll at h
    obtain ⟨v, r, rfl, h2, _⟩ := h
    simp at e; subst e
    exact ⟨v, rfl, h2⟩
  | d :: ds, _, i + 1, _, h, e => by
    unfold RepAll at h
    obtain ⟨v, r, rfl, _, h3⟩ := h
    obtain ⟨w, h4, h5⟩ := RepAll.get h3 (by simpa using e)
    exact ⟨w, by simpa using h4, h5⟩
theorem RepAll.cons {d : D} {ds : List D} {v : V} {vs : List V} (h : Rep K T P d v) (r : RepAll K T P ds vs) : RepAll K T P (d :: ds) (v :: vs) := by
  unfold RepAll; exact ⟨v, vs, rfl, h, r⟩
theorem RepAll.nil : RepAll K T P [] [] := by unfold RepAll; rfl
theorem RepAll.append : ∀ {ds es : List D} {vs ws : List V}, RepAll K T P ds vs → RepAll K T P es ws → RepAll K T P (ds ++ es) (vs ++ ws)
  | [], _, _, _, h, r => by unfold RepAll at h; subst h; exact r
  | d :: ds, _, _, _, h, r => by
    unfold RepAll at h
    obtain ⟨v, t, rfl, h2, h3⟩ := h
    exact RepAll.cons h2 (RepAll.append h3 r)
theorem RepAll.set {d : D} {v : V} (hd : Rep K T P d v) : ∀ {ds : List D} {vs : List V} (i : Nat), RepAll K T P ds vs → RepAll K T P (ds.set i d) (vs.set i v)
  | [], _, _, h => by unfold RepAll at h; subst h; exact RepAll.nil
  | _ :: _, _, 0, h => by
    unfold RepAll at h
    obtain ⟨_, r, rfl, _, h3⟩ := h
    exact RepAll.cons hd h3
  | _ :: _, _, i + 1, h => by
    unfold RepAll at h
    obtain ⟨_, r, rfl, h2, h3⟩ := h
    exact RepAll.cons h2 (RepAll.set hd i h3)
theorem RepAll.take : ∀ {ds : List D} {vs : List V} (n : Nat), RepAll K T P ds vs → RepAll K T P (ds.take n) (vs.take n)
  | _, _, 0, _ => RepAll.nil
  | [], _, _ + 1, h => by unfold RepAll at h; subst h; exact RepAll.nil
  | _ :: _, _, n + 1, h => by
    unfold RepAll at h
    obtain ⟨_, r, rfl, h2, h3⟩ := h
    exact RepAll.cons h2 (RepAll.take n h3)
theorem RepAll.drop : ∀ {ds : List D} {vs : List V} (n : Nat), RepAll K T P ds vs → RepAll K T P (ds.drop n) (vs.drop n)
  | _, _, 0, h => h
  | [], _, _ + 1, h => by unfold RepAll at h; subst h; exact RepAll.nil
  | _ :: _, _, n + 1, h => by
    unfold RepAll at h
    obtain ⟨_, r, rfl, _, h3⟩ := h
    exact RepAll.drop n h3
theorem RepAll.reverse : ∀ {ds : List D} {vs : List V}, RepAll K T P ds vs → RepAll K T P ds.reverse vs.reverse
  | [], _, h => by unfold RepAll at h; subst h; exact RepAll.nil
  | _ :: _, _, h => by
    unfold RepAll at h
    obtain ⟨_, r, rfl, h2, h3⟩ := h
    rw [List.reverse_cons, List.reverse_cons]
    exact RepAll.append (RepAll.reverse h3) (RepAll.cons h2 RepAll.nil)
theorem RepAll.eraseIdx : ∀ {ds : List D} {vs : List V} (n : Nat), RepAll K T P ds vs → RepAll K T P (ds.eraseIdx n) (vs.eraseIdx n)
  | [], _, _, h => by unfold RepAll at h; subst h; exact RepAll.nil
  | _ :: _, _, 0, h => by
    unfold RepAll at h
    obtain ⟨_, r, rfl, _, h3⟩ := h
    exact h3
  | _ :: _, _, n + 1, h => by
    unfold RepAll at h
    obtain ⟨_, r, rfl, h2, h3⟩ := h
    exact RepAll.cons h2 (RepAll.eraseIdx n h3)
theorem RepAll.rep {ds : List D} {vs : List V} (h : RepAll K T P ds vs) : ∀ k : Nat, RepAll K T P (List.replicate k ds).flatten (List.replicate k vs).flatten
  | 0 => RepAll.nil
  | k + 1 => by
    rw [List.replicate_succ, List.replicate_succ, List.flatten_cons, List.flatten_cons]
    exact RepAll.append h (RepAll.rep h k)
theorem rep_int {i : Int} {v : V} : Rep K T P (.int i) v ↔ v = .int i := by unfold Rep; exact Iff.rfl
theorem rep_bl {b : Bool} {v : V} : Rep K T P (.bl b) v ↔ v = .bl b := by unfold Rep; exact Iff.rfl
theorem rep_non {v : V} : Rep K T P .non v ↔ v = .non := by unfold Rep; exact Iff.rfl
theorem rep_str {s : List Nat} {v : V} : Rep K T P (.str s) v ↔ v = strV s := by unfold Rep; exact Iff.rfl
theorem rep_tup {ds : List D} {v : V} : Rep K T P (.tup ds) v ↔ ∃ a vs, v = .ref a ∧ P a = some (.tup vs) ∧ RepAll K T P ds vs := by
  constructor <;> intro h
  · unfold Rep at h; exact h
  · unfold Rep; exact h
theorem rep_lst {ds : List D} {v : V} : Rep K T P (.lst ds) v ↔ ∃ a vs, v = .ref a ∧ P a = some (.lst vs) ∧ RepAll K T P ds vs := by
  constructor <;> intro h
  · unfold Rep at h; exact h
  · unfold Rep; exact h
theorem rep_scr {ns : List Int} {v : V} : Rep K T P (.scr ns) v ↔ ∃ a, v = .ref a ∧ SqL K P a (ns.map V.int) := by
  constructor <;> intro h
  · unfold Rep at h; exact h
  · unfold Rep; exact h
theorem rep_fn {k : Nat} {v : V} : Rep K T P (.fn k) v ↔ ∃ a, T.fn k = some a ∧ v = .ref a := by
  constructor <;> intro h
  · unfold Rep at h; exact h
  · unfold Rep; exact h
theorem repAll_ints : ∀ (ns : List Int), RepAll K T P (ns.map .int) (ns.map V.int)
  | [] => RepAll.nil
  | n :: r => RepAll.cons (rep_int.mpr rfl) (repAll_ints r)
theorem repAll_intsD : ∀ {ds : List D} {ns : List Int} {vs : List V}, intsD ds = some ns → RepAll K T P ds vs → vs = ns.map V.int
  | [], _, _, e, h => by
    cases e
    unfold RepAll at h; exact h
  | d :: ds, _, _, e, h => by
    unfold RepAll at h
    obtain ⟨v, r, rfl, h2, h3⟩ := h
    cases d with
    | int i =>
      unfold intsD at e
      cases q : intsD ds with
      | none => rw [q] at e; cases e
      | some ms =>
        rw [q] at e
        cases e
        rw [rep_int.mp h2, repAll_intsD q h3]
        rfl
    | _ => cases e
theorem repAll_blsD : ∀ {ds : List D} {ns : List Bool} {vs : List V}, blsD ds = some ns → RepAll K T P ds vs → vs = ns.map V.bl
  | [], _, _, e, h => by
    cases e
    unfold RepAll at h; exact h
  | d :: ds, _, _, e, h => by
    unfold RepAll at h
    obtain ⟨v, r, rfl, h2, h3⟩ := h
    cases d with
    | bl i =>
      unfold blsD at e
      cases q : blsD ds with
      | none => rw [q] at e; cases e
      | some ms =>
        rw [q] at e
        cases e
        rw [rep_bl.mp h2, repAll_blsD q h3]
        rfl
    | _ => cases e

/-! ### cells, states -/
/-- a name's cell: not told; a value that stays; a list or dict that is the def's own -/
inductive C where
  | un | val (d : D) | own (d : D)
def CellOk (K : PySem.W.Frag) (T : Tb) (P H : Hp) : C → Option V → Prop
  | .un, _ => True
  | .val d, v => ∃ w, v = some w ∧ Rep K T P d w
  | .own d, v => ∃ a o, v = some (.ref a) ∧ P a = none ∧ H a = some o ∧ Own K T P d o
structure Sim (K : PySem.W.Frag) (T : Tb) (P H : Hp) (σ : L2.St) (ρ : List C) : Prop where
  sub : Same P H
  len : ρ.length = σ.length
  cell : ∀ (i : Nat) (c : C) (v : Option V), ρ[i]? = some c → σ[i]? = some v → CellOk K T P H c v
  apart : ∀ (i j : Nat) (d e : D) (a : Addr), ρ[i]? = some (C.own d) → ρ[j]? = some (C.own e) → σ[i]? = some (some (.ref a)) → σ[j]? = some (some (.ref a)) → i = j
/-- the heap has grown: what stood stands, and is no more lasting than it was -/
structure Ext (P H P' H' : Hp) : Prop where
  pp : Same P P'
  hh : Same H H'
  ph : Same P' H'
  nw : ∀ a, H a ≠ none → P a = none → P' a = none
theorem Ext.refl {P H : Hp} (h : Same P H) : Ext P H P H := ⟨Same.refl _, Same.refl _, h, fun _ _ h => h⟩
theorem ne_of_same {H H' : Hp} (e : Same H H') {a : Addr} (h : H a ≠ none) : H' a ≠ none := by
  cases q : H a with
  | none => exact absurd q h
  | some o => rw [e _ _ q]; simp
theorem Ext.trans {P H P1 H1 P2 H2 : Hp} (a : Ext P H P1 H1) (b : Ext P1 H1 P2 H2) : Ext P H P2 H2 :=
  ⟨a.pp.trans b.pp, a.hh.trans b.hh, b.ph, fun x h1 h2 => b.nw x (ne_of_same a.hh h1) (a.nw x h1 h2)⟩
theorem Sim.ext {K : PySem.W.Frag} {T : Tb} {P H P' H' : Hp} {σ : L2.St} {ρ : List C} (S : Sim K T P H σ ρ) (e : Ext P H P' H') : Sim K T P' H' σ ρ := by
  refine ⟨e.ph, S.len, fun i c v h1 h2 => ?_, S.apart⟩
  have q := S.cell i c v h1 h2
  cases c with
  | un => trivial
  | val d =>
    obtain ⟨w, h3, h4⟩ := q
    exact ⟨w, h3, Rep.mono e.pp _ _ h4⟩
  | own d =>
    obtain ⟨a, o, h3, h4, h5, h6⟩ := q
    exact ⟨a, o, h3, e.nw a (by rw [h5]; simp) h4, e.hh _ _ h5, Own.mono e.pp h6⟩
theorem same_upd' {H : Hp} {p : Addr} {o : HO} (h : H p = none) : Same H (upd H p o) := fun b x e => by
  rw [upd_ne (ne_of_none e h)]
  exact e
/-- a new lasting object -/
theorem Ext.new {P H : Hp} (h : Same P H) {p : Addr} {o : HO} (hp : H p = none) : Ext P H (upd P p o) (upd H p o) := by
  have pp : P p = none := h.free hp
  refine ⟨same_upd' pp, same_upd' hp, fun b x e => ?_, fun a h1 h2 => ?_⟩
  · by_cases q : b = p
    · subst q; rw [upd_same] at e ⊢; exact e
    · rw [upd_ne q] at e ⊢; exact h _ _ e
  · have q : a ≠ p := fun z => h1 (by rw [z]; exact hp)
    rw [upd_ne q]; exact h2
/-- a new object that is not lasting -/
theorem Ext.fresh {P H : Hp} (h : Same P H) {p : Addr} {o : HO} (hp : H p = none) : Ext P H P (upd H p o) :=
  ⟨Same.refl _, same_upd' hp, h.trans (same_upd' hp), fun _ _ h => h⟩
end Fj

/-! ## Lay2 -/
namespace Fj
open PySem PySem.Spec PyProof.Rows L2

/-! ### judgements -/
inductive Md where
  | B | P | F
  deriving DecidableEq
def RepM (K : PySem.W.Frag) (T : Tb) (m : Md) (H P' H' : Hp) (d : D) (w : V) : Prop := match m with
  | .B => Rep K T P' d w ∨ ∃ a o, w = .ref a ∧ P' a = none ∧ H' a = some o ∧ Own K T P' d o
  | .P => Rep K T P' d w
  | .F => if cont d = true then ∃ a o, w = .ref a ∧ H a = none ∧ P' a = none ∧ H' a = some o ∧ Own K T P' d o else Rep K T P' d w
/-- an exception of one's own: its class, its dict -/
def ExR (T : Tb) (e : D) (cls : Value) (dd : Option Addr) (H : Hp) : Prop := match e with
  | .exc c fs => ∃ a, T.cl c = some a ∧ cls = .ref a ∧ ((fs = [] ∧ dd = none) ∨ fs ≠ [] ∧ ∃ (dx : Addr) (l : List (Str × V)) (ns : List Int), dd = some dx ∧ H dx = some (.xd l) ∧ fs = ns.map D.int ∧ l.map (·.2) = ns.map V.int)
  | _ => False
def Post (K : PySem.W.Frag) (T : Tb) (W : WX) (m : Md) (P H : Hp) (σ : L2.St) (d : R D) (Q : VK) : Prop := match d with
  | .ok v => ∀ w P' H', Ext P H P' H' → RepM K T m H P' H' v w → Q w H'
  | .ex e => ∀ cls dd H', Same H H' → ExR T e cls dd H' → W cls dd σ H'
  | .bad => False
def PostT (T : Tb) (W : WX) (P H : Hp) (σ : L2.St) (d : R Bool) (Q : Bool → Hp → Prop) : Prop := match d with
  | .ok b => ∀ P' H', Ext P H P' H' → Q b H'
  | .ex e => ∀ cls dd H', Same H H' → ExR T e cls dd H' → W cls dd σ H'
  | .bad => False
def RepMs (K : PySem.W.Frag) (T : Tb) (P' : Hp) (ds : List D) (ws : List V) : Prop := RepAll K T P' ds ws
def PostA (K : PySem.W.Frag) (T : Tb) (W : WX) (P H : Hp) (σ : L2.St) (d : R (List D)) (Q : List V → Hp → Prop) : Prop := match d with
  | .ok vs => ∀ ws P' H', Ext P H P' H' → RepAll K T P' vs ws → Q ws H'
  | .ex e => ∀ cls dd H', Same H H' → ExR T e cls dd H' → W cls dd σ H'
  | .bad => False

def wpE (X : Cx) (e : Expr) : TE := fun σ H Q => ∀ pins s, Inv X pins σ H s → wpAny (model X.prog X.w) X.A (eval e X.env) (EP X pins σ Q) X.xe s
def wpT (X : Cx) (e : Expr) : TT := fun σ H Q => ∀ pins s, Inv X pins σ H s → wpAny (model X.prog X.w) X.A (isTrue e X.env (eval e X.env)) (TP X pins σ Q) X.xe s
def wpW (X : Cx) (e : Expr) : TT := fun σ H Q => ∀ whole pins s, Inv X pins σ H s → wpAny (model X.prog X.w) X.A (isTrue e X.env whole) (TP X pins σ Q) X.xe s
def wpA (X : Cx) (es : List Expr) : TA := fun σ H Q => ∀ pos pins s, Inv X pins σ H s → wpAny (model X.prog X.w) X.A (spliced (backTo pos (starEach es X.env))) (AP X pins σ Q) X.xe s
section
variable {X : Cx} {e : Expr} {es : List Expr} {σ : L2.St} {H : Hp}
theorem pw : PE X e (wpE X e) := ⟨fun pins s σ H Q I h => h pins s I⟩
theorem tw : PT X e (wpT X e) := ⟨fun pins s σ H Q I h => h pins s I⟩
theorem ww : PW X e (wpW X e) := ⟨fun whole pins s σ H Q I h => h whole pins s I⟩
theorem aw : PA X es (wpA X es) := ⟨fun pos pins s σ H Q I h => h pos pins s I⟩
theorem wpE_of {t : TE} {Q : VK} (p : PE X e t) (h : t σ H Q) : wpE X e σ H Q := fun pins s I => p.run pins s σ H Q I h
theorem wpT_of {t : TT} {Q : Bool → Hp → Prop} (p : PT X e t) (h : t σ H Q) : wpT X e σ H Q := fun pins s I => p.run pins s σ H Q I h
theorem wpW_of {t : TT} {Q : Bool → Hp → Prop} (p : PW X e t) (h : t σ H Q) : wpW X e σ H Q := fun whole pins s I => p.run whole pins s σ H Q I h
theorem wpA_of {t : TA} {Q : List V → Hp → Prop} (p : PA X es t) (h : t σ H Q) : wpA X es σ H Q := fun pos pins s I => p.run pos pins s σ H Q I h
end

def Ev (X : Cx) (T : Tb) (W : WX) (m : Md) (ρ : List C) (e : Expr) (d : R D) : Prop := ∀ P H σ Q, Sim X.K T P H σ ρ → Post X.K T W m P H σ d Q → wpE X e σ H Q
def EvT (X : Cx) (T : Tb) (W : WX) (ρ : List C) (e : Expr) (c : R Bool) : Prop := ∀ P H σ Q, Sim X.K T P H σ ρ → PostT T W P H σ c Q → wpT X e σ H Q
def EvW (X : Cx) (T : Tb) (W : WX) (ρ : List C) (e : Expr) (c : R Bool) : Prop := ∀ P H σ Q, Sim X.K T P H σ ρ → PostT T W P H σ c Q → wpW X e σ H Q
def EvA (X : Cx) (T : Tb) (W : WX) (ρ : List C) (es : List Expr) (d : R (List D)) : Prop := ∀ P H σ Q, Sim X.K T P H σ ρ → PostA X.K T W P H σ d Q → wpA X es σ H Q
/-- the built-in names are not the text's -/
structure Bi (mg : Str → Option Value) : Prop where
  len : mg "len" = none
  isinstance : mg "isinstance" = none
  int : mg "int" = none
  bool : mg "bool" = none
  str : mg "str" = none
  tuple : mg "tuple" = none
  list : mg "list" = none
  dict : mg "dict" = none
  set : mg "set" = none
  sorted : mg "sorted" = none
  range : mg "range" = none
  sum : mg "sum" = none
  min : mg "min" = none
  max : mg "max" = none
  all : mg "all" = none
  any : mg "any" = none
  zip : mg "zip" = none
  enumerate : mg "enumerate" = none
structure Gd (X : Cx) (k : Nat) : Prop where
  calm : X.calm = true
  nd : X.N.Nodup
  room : Room k X.A
  bi : Bi X.mg
theorem Gd.blk {X : Cx} {k : Nat} (g : Gd X k) (s : Shared) (H : Hp) (scope : Scope) (cenv : Env) (fp : List Addr) : Gd (X.blk s H scope cenv fp) k := ⟨g.calm, g.nd, g.room, g.bi⟩
def W0 : WX := fun _ _ _ _ => False

section
variable {K : PySem.W.Frag} {T : Tb} {W : WX} {m : Md} {P H P' H' P1 H1 : Hp} {σ : L2.St} {v : D} {w : V}
theorem RepM.of_P (h : Rep K T P' v w) : RepM K T .B H P' H' v w := .inl h
theorem RepM.shift (e : Ext P1 H1 P' H') (e0 : ∀ a, H1 a = none → H a = none) (h : RepM K T m H P1 H1 v w) : RepM K T m H P' H' v w := by
  cases m with
  | B =>
    rcases h with h | ⟨a, o, h1, h2, h3, h4⟩
    · exact .inl (Rep.mono e.pp _ _ h)
    · exact .inr ⟨a, o, h1, e.nw a (by rw [h3]; simp) h2, e.hh _ _ h3, Own.mono e.pp h4⟩
  | P => exact Rep.mono e.pp _ _ h
  | F =>
    unfold RepM at h ⊢
    dsimp only at h ⊢
    by_cases c : cont v = true
    · rw [if_pos c] at h ⊢
      obtain ⟨a, o, h1, h0, h2, h3, h4⟩ := h
      exact ⟨a, o, h1, h0, e.nw a (by rw [h3]; simp) h2, e.hh _ _ h3, Own.mono e.pp h4⟩
    · rw [if_neg c] at h ⊢
      exact Rep.mono e.pp _ _ h
theorem RepM.to (e : Ext P1 H1 P' H') (h : RepM K T m H P1 H1 v w) (hm : m ≠ .F) : RepM K T m H P' H' v w := by
  cases m with
  | B =>
    rcases h with h | ⟨a, o, h1, h2, h3, h4⟩
    · exact .inl (Rep.mono e.pp _ _ h)
    · exact .inr ⟨a, o, h1, e.nw a (by rw [h3]; simp) h2, e.hh _ _ h3, Own.mono e.pp h4⟩
  | P => exact Rep.mono e.pp _ _ h
  | F => exact absurd rfl hm
/-- fresh for a later heap is fresh for an earlier one -/
theorem RepM.back (hs : Same H H1) (h : RepM K T m H1 P' H' v w) : RepM K T m H P' H' v w := by
  cases m with
  | B => exact h
  | P => exact h
  | F =>
    unfold RepM at h ⊢
    dsimp only at h ⊢
    by_cases c : cont v = true
    · rw [if_pos c] at h ⊢
      obtain ⟨a, o, h1, h0, h2, h3, h4⟩ := h
      exact ⟨a, o, h1, hs.free h0, h2, h3, h4⟩
    · rw [if_neg c] at h ⊢
      exact h
theorem Post.shift {d : R D} {Q : VK} (e : Ext P H P1 H1) (h : Post K T W m P H σ d Q) : Post K T W m P1 H1 σ d Q := by
  cases d with
  | ok v => exact fun w P' H' e' r => h w P' H' (e.trans e') (r.back e.hh)
  | ex x => exact fun cls dd H' s' r => h cls dd H' (e.hh.trans s') r
  | bad => exact h
theorem PostT.shift {d : R Bool} {Q : Bool → Hp → Prop} (e : Ext P H P1 H1) (h : PostT T W P H σ d Q) : PostT T W P1 H1 σ d Q := by
  cases d with
  | ok v => exact fun P' H' e' => h P' H' (e.trans e')
  | ex x => exact fun cls dd H' s' r => h cls dd H' (e.hh.trans s') r
  | bad => exact h
theorem PostA.shift {d : R (List D)} {Q : List V → Hp → Prop} (e : Ext P H P1 H1) (h : PostA K T W P H σ d Q) : PostA K T W P1 H1 σ d Q := by
  cases d with
  | ok v => exact fun w P' H' e' r => h w P' H' (e.trans e') r
  | ex x => exact fun cls dd H' s' r => h cls dd H' (e.hh.trans s') r
  | bad => exact h
theorem plainF (hc : cont v = false) (h : Rep K T P' v w) : RepM K T .F H P' H' v w := by
  unfold RepM
  dsimp only
  rw [if_neg (by rw [hc]; decide)]
  exact h
theorem postI {Q : VK} {i : Int} (hs : Same P H) (h : Post K T W .F P H σ (.ok (.int i)) Q) : Q (.int i) H := h _ P H (Ext.refl hs) (plainF rfl (rep_int.mpr rfl))
theorem postB {Q : VK} {b : Bool} (hs : Same P H) (h : Post K T W .F P H σ (.ok (.bl b)) Q) : Q (.bl b) H := h _ P H (Ext.refl hs) (plainF rfl (rep_bl.mpr rfl))
theorem postS {Q : VK} {s : List Nat} (hs : Same P H) (h : Post K T W .F P H σ (.ok (.str s)) Q) : Q (strV s) H := h _ P H (Ext.refl hs) (plainF rfl (rep_str.mpr rfl))
theorem postN {Q : VK} (hs : Same P H) (h : Post K T W .F P H σ (.ok .non) Q) : Q .non H := h _ P H (Ext.refl hs) (plainF rfl (rep_non.mpr rfl))
/-- a new list, a new tuple -/
theorem postL {Q : VK} {ds : List D} {vs : List V} {p : Addr} (hs : Same P H) (r : RepAll K T P ds vs) (hp : H p = none) (h : Post K T W .F P H σ (.ok (.lst ds)) Q) : Q (.ref p) (upd H p (.lst vs)) := by
  refine h _ P _ (Ext.fresh hs hp) ?_
  unfold RepM
  dsimp only
  rw [if_pos (show cont (D.lst ds) = true from rfl)]
  exact ⟨p, .lst vs, rfl, hp, hs.free hp, upd_same, vs, rfl, r⟩
theorem postU {Q : VK} {ds : List D} {vs : List V} {p : Addr} (hs : Same P H) (r : RepAll K T P ds vs) (hp : H p = none) (h : Post K T W .F P H σ (.ok (.tup ds)) Q) : Q (.ref p) (upd H p (.tup vs)) := by
  refine h _ _ _ (Ext.new hs hp (o := .tup vs)) (plainF rfl (rep_tup.mpr ⟨p, vs, rfl, upd_same, RepAll.mono (same_upd' (hs.free hp)) _ _ r⟩))
/-- what stands already -/
theorem postR {Q : VK} {d : D} (hs : Same P H) (hc : cont d = false) (r : Rep K T P d w) (h : Post K T W .F P H σ (.ok d) Q) : Q w H := h _ P H (Ext.refl hs) (plainF hc r)
theorem B_int {i : Int} (h : RepM K T .B H P' H' (.int i) w) : w = .int i := by
  rcases h with h | ⟨_, _, _, _, _, h⟩
  · exact rep_int.mp h
  · exact h.elim
theorem B_bl {i : Bool} (h : RepM K T .B H P' H' (.bl i) w) : w = .bl i := by
  rcases h with h | ⟨_, _, _, _, _, h⟩
  · exact rep_bl.mp h
  · exact h.elim
theorem B_non (h : RepM K T .B H P' H' .non w) : w = .non := by
  rcases h with h | ⟨_, _, _, _, _, h⟩
  · exact rep_non.mp h
  · exact h.elim
theorem B_str {s : List Nat} (h : RepM K T .B H P' H' (.str s) w) : w = strV s := by
  rcases h with h | ⟨_, _, _, _, _, h⟩
  · exact rep_str.mp h
  · exact h.elim
theorem B_tup {ds : List D} (hs : Same P' H') (h : RepM K T .B H P' H' (.tup ds) w) : ∃ a vs, w = .ref a ∧ P' a = some (.tup vs) ∧ H' a = some (.tup vs) ∧ RepAll K T P' ds vs := by
  rcases h with h | ⟨_, _, _, _, _, h⟩
  · obtain ⟨a, vs, h1, h2, h3⟩ := rep_tup.mp h
    exact ⟨a, vs, h1, h2, hs _ _ h2, h3⟩
  · exact h.elim
theorem B_lst {ds : List D} (hs : Same P' H') (h : RepM K T .B H P' H' (.lst ds) w) : ∃ a vs, w = .ref a ∧ H' a = some (.lst vs) ∧ RepAll K T P' ds vs := by
  rcases h with h | ⟨a, o, h1, _, h2, vs, rfl, h3⟩
  · obtain ⟨a, vs, h1, h2, h3⟩ := rep_lst.mp h
    exact ⟨a, vs, h1, hs _ _ h2, h3⟩
  · exact ⟨a, vs, h1, h2, h3⟩
theorem B_scr {ns : List Int} (hs : Same P' H') (h : RepM K T .B H P' H' (.scr ns) w) : ∃ a, w = .ref a ∧ SqL K H' a (ns.map V.int) := by
  rcases h with h | ⟨_, _, _, _, _, h⟩
  · obtain ⟨a, h1, h2⟩ := rep_scr.mp h
    exact ⟨a, h1, sql_mono hs h2⟩
  · exact h.elim
theorem B_dct {t : Nat} {kvs : List (D × D)} (hs : Same P' H') (h : RepM K T .B H P' H' (.dct t kvs) w) : ∃ a o, w = .ref a ∧ H' a = some o ∧ Own K T P' (.dct t kvs) o := by
  rcases h with h | ⟨a, o, h1, _, h2, h3⟩
  · obtain ⟨a, o, h1, h2, h3⟩ := (rep_own rfl).mp h
    exact ⟨a, o, h1, hs _ _ h2, h3⟩
  · exact ⟨a, o, h1, h2, h3⟩
/-- what is fresh can be made lasting -/
theorem freeze (hs : Same P H) {Q : V → Hp → Prop} (e : Ext P H P' H') (h : RepM K T .F H P' H' v w) (q : ∀ P2, Ext P H P2 H' → Rep K T P2 v w → Q w H') : Q w H' := by
  unfold RepM at h
  dsimp only at h
  by_cases c : cont v = true
  · rw [if_pos c] at h
    obtain ⟨a, o, rfl, h0, h2, h3, h4⟩ := h
    have pp : Same P' (upd P' a o) := same_upd' h2
    refine q (upd P' a o) ⟨e.pp.trans pp, e.hh, fun b x z => ?_, fun b z1 z2 => ?_⟩ ((rep_own c).mpr ⟨a, o, rfl, upd_same, Own.mono pp h4⟩)
    · by_cases hb : b = a
      · subst hb; rw [upd_same] at z; cases z; exact h3
      · rw [upd_ne hb] at z; exact e.ph _ _ z
    · have hb : b ≠ a := fun z => z1 (by rw [z]; exact h0)
      rw [upd_ne hb]; exact e.nw b z1 z2
  · rw [if_neg c] at h
    exact q P' e h
end

section
variable {X : Cx} {T : Tb} {W : WX} {m m' : Md} {ρ : List C} {a b c e : Expr} {es : List Expr} {da db dc : R D} {ca cb : R Bool} {pos : Pos} {k : Nat}
/-- a part, then the rest -/
theorem ev_bind {P H : Hp} {σ : L2.St} {Q : VK} {f : D → R D} {Q1 : VK} (ha : Ev X T W m ρ a da) (S : Sim X.K T P H σ ρ) (h : Post X.K T W m' P H σ (da.bind f) Q)
    (kk : ∀ v w P1 H1, Ext P H P1 H1 → Sim X.K T P1 H1 σ ρ → RepM X.K T m H P1 H1 v w → Post X.K T W m' P1 H1 σ (f v) Q → Q1 w H1) : wpE X a σ H Q1 := by
  refine ha P H σ Q1 S ?_
  cases da with
  | ok v => exact fun w P' H' e' r => kk v w P' H' e' (S.ext e') r (h.shift e')
  | ex x => exact fun cls dd H' s' r => h cls dd H' s' r
  | bad => exact h
theorem ev_bindT {P H : Hp} {σ : L2.St} {Q : Bool → Hp → Prop} {f : D → R Bool} {Q1 : VK} (ha : Ev X T W m ρ a da) (S : Sim X.K T P H σ ρ) (h : PostT T W P H σ (da.bind f) Q)
    (kk : ∀ v w P1 H1, Ext P H P1 H1 → Sim X.K T P1 H1 σ ρ → RepM X.K T m H P1 H1 v w → PostT T W P1 H1 σ (f v) Q → Q1 w H1) : wpE X a σ H Q1 := by
  refine ha P H σ Q1 S ?_
  cases da with
  | ok v => exact fun w P' H' e' r => kk v w P' H' e' (S.ext e') r (h.shift e')
  | ex x => exact fun cls dd H' s' r => h cls dd H' s' r
  | bad => exact h
theorem evT_bind {P H : Hp} {σ : L2.St} {Q : VK} {f : Bool → R D} {Q1 : Bool → Hp → Prop} (ha : EvT X T W ρ a ca) (S : Sim X.K T P H σ ρ) (h : Post X.K T W m' P H σ (ca.bind f) Q)
    (kk : ∀ v P1 H1, Ext P H P1 H1 → Sim X.K T P1 H1 σ ρ → Post X.K T W m' P1 H1 σ (f v) Q → Q1 v H1) : wpT X a σ H Q1 := by
  refine ha P H σ Q1 S ?_
  cases ca with
  | ok v => exact fun P' H' e' => kk v P' H' e' (S.ext e') (h.shift e')
  | ex x => exact fun cls dd H' s' r => h cls dd H' s' r
  | bad => exact h
theorem evT_bindT {P H : Hp} {σ : L2.St} {Q : Bool → Hp → Prop} {f : Bool → R Bool} {Q1 : Bool → Hp → Prop} (ha : EvT X T W ρ a ca) (S : Sim X.K T P H σ ρ) (h : PostT T W P H σ (ca.bind f) Q)
    (kk : ∀ v P1 H1, Ext P H P1 H1 → Sim X.K T P1 H1 σ ρ → PostT T W P1 H1 σ (f v) Q → Q1 v H1) : wpT X a σ H Q1 := by
  refine ha P H σ Q1 S ?_
  cases ca with
  | ok v => exact fun P' H' e' => kk v P' H' e' (S.ext e') (h.shift e')
  | ex x => exact fun cls dd H' s' r => h cls dd H' s' r
  | bad => exact h
/-! ### from mode to mode -/
theorem Ev.lasting (h : Ev X T W .F ρ a da) : Ev X T W .P ρ a da := fun P H σ Q S q => h P H σ Q S (by
  cases da with
  | ok v => exact fun w P' H' e' r => freeze (Q := Q) S.sub e' r fun P2 e2 r2 => q w P2 H' e2 r2
  | ex x => exact q
  | bad => exact q)
theorem Ev.loan (h : Ev X T W .P ρ a da) : Ev X T W .B ρ a da := fun P H σ Q S q => h P H σ Q S (by
  cases da with
  | ok v => exact fun w P' H' e' r => q w P' H' e' (.inl r)
  | ex x => exact q
  | bad => exact q)
theorem Ev.lend (h : Ev X T W .F ρ a da) : Ev X T W .B ρ a da := h.lasting.loan

/-! ### names, constants -/
theorem cell_at {K : PySem.W.Frag} {P H : Hp} {σ : L2.St} {i : Nat} {x : C} (S : Sim K T P H σ ρ) (hi : ρ[i]? = some x) : ∃ v, σ[i]? = some v ∧ CellOk K T P H x v := by
  have hl : i < σ.length := by rw [← S.len]; exact (List.getElem?_eq_some_iff.mp hi).1
  exact ⟨σ[i], List.getElem?_eq_getElem hl, S.cell i x _ hi (List.getElem?_eq_getElem hl)⟩
theorem ev_var {i : Nat} {x : Str} {d : D} (hi : ρ[i]? = some (.val d)) (hN : X.N[i]? = some x) (hv : Vis X.env.scope x) (hd : (x == ("__debug__" : Str)) = false) (hcd : (x == ("__classdict__" : Str)) = false) :
    Ev X T W .P ρ (.Name x pos) (.ok d) := fun P H σ Q S q => by
  obtain ⟨v, h1, w, rfl, h2⟩ := cell_at S hi
  exact wpE_of (pe_var hN hv hd hcd) ⟨w, h1, q w P H (Ext.refl S.sub) h2⟩
theorem ev_own {i : Nat} {x : Str} {d : D} (hi : ρ[i]? = some (.own d)) (hN : X.N[i]? = some x) (hv : Vis X.env.scope x) (hd : (x == ("__debug__" : Str)) = false) (hcd : (x == ("__classdict__" : Str)) = false) :
    Ev X T W .B ρ (.Name x pos) (.ok d) := fun P H σ Q S q => by
  obtain ⟨v, h1, a, o, rfl, h2, h3, h4⟩ := cell_at S hi
  exact wpE_of (pe_var hN hv hd hcd) ⟨_, h1, q _ P H (Ext.refl S.sub) (.inr ⟨a, o, rfl, h2, h3, h4⟩)⟩
theorem ev_int {i : Int} {j} : Ev X T W .F ρ (.Constant (.int i) j pos) (.ok (.int i)) := fun P H σ Q S q => wpE_of pe_int (postI S.sub q)
theorem ev_bl {b : Bool} {j} : Ev X T W .F ρ (.Constant (.bool b) j pos) (.ok (.bl b)) := fun P H σ Q S q => wpE_of pe_bl (postB S.sub q)
theorem ev_non {j} : Ev X T W .F ρ (.Constant .none j pos) (.ok .non) := fun P H σ Q S q => wpE_of pe_non (postN S.sub q)
theorem ev_str {s : List Nat} {x : Str} {j} (hx : x = ⟨s.toArray⟩) : Ev X T W .F ρ (.Constant (.str x) j pos) (.ok (.str s)) := fun P H σ Q S q => by subst hx; exact wpE_of pe_str (postS S.sub q)
/-- a whole number of the module -/
theorem ev_const {x : Str} {i : Int} {t : Tok} (hg : Gl X x) (hm : X.mg x = some (.int i t)) (hd : (x == ("__debug__" : Str)) = false) : Ev X T W .F ρ (.Name x pos) (.ok (.int i)) :=
  fun P H σ Q S q => wpE_of (pe_glob hg hm (v := .int i) ⟨t, rfl⟩ hd) (postI S.sub q)
/-- a def as a value -/
theorem ev_fn {x : Str} {f : Addr} {n : Nat} (hg : Gl X x) (hm : X.mg x = some (.ref f)) (hf : T.fn n = some f) (hd : (x == ("__debug__" : Str)) = false) : Ev X T W .F ρ (.Name x pos) (.ok (.fn n)) :=
  fun P H σ Q S q => wpE_of (pe_glob hg hm (v := .ref f) rfl hd) (postR S.sub rfl (rep_fn.mpr ⟨f, hf, rfl⟩) q)

/-! ### operators of two -/
/-- what an operator's rule wants, from what the operation comes to -/
def Does2 (X : Cx) (T : Tb) (W : WX) (r : R2) (f : D → D → R D) : Prop := ∀ P H σ x y v w Q, Same P H → RepM X.K T .B H P H x v → RepM X.K T .B H P H y w → Post X.K T W .F P H σ (f x y) Q → r v w H Q
theorem ev_bin {op : Operator} {r : R2} {f : D → D → R D} (ho : OpR X (binaryOp op) r) (hf : Does2 X T W r f) (ha : Ev X T W .B ρ a da) (hb : Ev X T W .B ρ b db) :
    Ev X T W .F ρ (.BinOp a op b pos) (op2 f da db) := fun P H σ Q S q => by
  refine wpE_of (pe_op ho pw pw) ?_
  refine ev_bind ha S q fun x v P1 H1 e1 S1 r1 q1 => ?_
  refine ev_bind hb S1 q1 fun y w P2 H2 e2 S2 r2 q2 => ?_
  exact hf P2 H2 σ x y v w Q S2.sub (r1.to e2 (by simp)) r2 q2
def DoesC (X : Cx) (T : Tb) (r : R2) (f : D → D → R Bool) : Prop := ∀ P H x y v w Q, Same P H → RepM X.K T .B H P H x v → RepM X.K T .B H P H y w → (∀ b, f x y = .ok b → ∀ P' H', Ext P H P' H' → Q (.bl b) H') → (∃ b, f x y = .ok b) → r v w H Q
theorem ok_of {W : WX} {P H : Hp} {σ : L2.St} {c : R Bool} {Q : Bool → Hp → Prop} (h : PostT T W P H σ c Q) (hn : ∀ e, c ≠ .ex e) : (∃ b, c = .ok b) ∧ ∀ b, c = .ok b → ∀ P' H', Ext P H P' H' → Q b H' := by
  cases c with
  | ok b => exact ⟨⟨b, rfl⟩, fun b' e => by cases e; exact h⟩
  | ex e => exact absurd rfl (hn e)
  | bad => exact h.elim
theorem evT_cmp {op : CmpOp} {r : R2} {f : D → D → R Bool} (ho : OpR X (compareOp op) r) (hf : DoesC X T r f) (hn : ∀ x y e, f x y ≠ .ex e) (hm : behindInMarks op b = false) (ha : Ev X T W .B ρ a da) (hb : Ev X T W .B ρ b db) :
    EvT X T W ρ (.Compare a [op] [b] pos) (op2 f da db) := fun P H σ Q S q => by
  refine wpT_of (pt_cmpR ho pw pw hm) ?_
  refine ev_bindT ha S q fun x v P1 H1 e1 S1 r1 q1 => ?_
  refine ev_bindT hb S1 q1 fun y w P2 H2 e2 S2 r2 q2 => ?_
  obtain ⟨h1, h2⟩ := ok_of q2 (hn x y)
  exact hf P2 H2 x y v w _ S2.sub (r1.to e2 (by simp)) r2 (fun b hb P' H' e' => ⟨b, rfl, h2 b hb P' H' e'⟩) h1
theorem okD_of {W : WX} {P H : Hp} {σ : L2.St} {c : R Bool} {Q : VK} (h : Post X.K T W .F P H σ (blE c) Q) (hn : ∀ e, c ≠ .ex e) : (∃ b, c = .ok b) ∧ ∀ b, c = .ok b → ∀ P' H', Ext P H P' H' → Q (.bl b) H' := by
  cases c with
  | ok b => exact ⟨⟨b, rfl⟩, fun b' e => by cases e; exact fun P' H' e' => h _ P' H' e' (plainF rfl (rep_bl.mpr rfl))⟩
  | ex e => exact absurd rfl (hn e)
  | bad => exact h.elim
theorem blE_bind {f : D → R Bool} : blE (da.bind f) = da.bind fun x => blE (f x) := by cases da <;> rfl
theorem ev_cmp {op : CmpOp} {r : R2} {f : D → D → R Bool} (ho : OpR X (compareOp op) r) (hf : DoesC X T r f) (hn : ∀ x y e, f x y ≠ .ex e) (hm : behindInMarks op b = false) (ha : Ev X T W .B ρ a da) (hb : Ev X T W .B ρ b db) :
    Ev X T W .F ρ (.Compare a [op] [b] pos) (blE (op2 f da db)) := fun P H σ Q S q => by
  refine wpE_of (pe_cmpR ho pw pw hm) ?_
  unfold op2 at q
  rw [blE_bind] at q
  refine ev_bind ha S q fun x v P1 H1 e1 S1 r1 q1 => ?_
  rw [blE_bind] at q1
  refine ev_bind hb S1 q1 fun y w P2 H2 e2 S2 r2 q2 => ?_
  obtain ⟨h1, h2⟩ := okD_of q2 (hn x y)
  exact hf P2 H2 x y v w _ S2.sub (r1.to e2 (by simp)) r2 h2 h1
/-- a < b < c -/
theorem ev_chain {op op' : CmpOp} {r r' : R2} {f g : D → D → R Bool} (ho : OpR X (compareOp op) r) (ho' : OpR X (compareOp op') r') (hf : DoesC X T r f) (hg : DoesC X T r' g) (hn : ∀ x y e, f x y ≠ .ex e) (hn' : ∀ x y e, g x y ≠ .ex e)
    (ha : Ev X T W .B ρ a da) (hb : Ev X T W .B ρ b db) (hc : Ev X T W .B ρ c dc)
    (hl : lastMarks [op, op'] [b, c] = false) : Ev X T W .F ρ (.Compare a [op, op'] [b, c] pos) (blE (chainR f g da db dc)) := fun P H σ Q S q => by
  refine wpE_of (pe_chain ho ho' pw pw pw hl) ?_
  unfold chainR at q
  rw [blE_bind] at q
  refine ev_bind ha S q fun x v P1 H1 e1 S1 r1 q1 => ?_
  rw [blE_bind] at q1
  refine ev_bind hb S1 q1 fun y w P2 H2 e2 S2 r2 q2 => ?_
  cases hk : f x y with
  | ex e => exact absurd hk (hn x y e)
  | bad => rw [hk] at q2; exact q2.elim
  | ok k =>
    rw [hk] at q2
    refine hf P2 H2 x y v w _ S2.sub (r1.to e2 (by simp)) r2 (fun b hb P3 H3 e3 => ⟨b, rfl, ?_⟩) ⟨k, hk⟩
    have ek : k = b := by rw [hk] at hb; cases hb; rfl
    subst ek
    have q3 := q2.shift e3
    have S3 := S2.ext e3
    cases k with
    | false =>
      rw [if_neg (by decide)]
      exact postB S3.sub q3
    | true =>
      rw [if_pos rfl]
      have q3' : Post X.K T W .F P3 H3 σ (blE (dc.bind fun z => g y z)) Q := q3
      rw [blE_bind] at q3'
      refine ev_bind hc S3 q3' fun z u P4 H4 e4 S4 r4 q4 => ?_
      obtain ⟨h1, h2⟩ := okD_of q4 (hn' y z)
      exact hg P4 H4 y z w u _ S4.sub ((r2.to e3 (by simp)).to e4 (by simp)) r4 h2 h1
theorem evT_chain {op op' : CmpOp} {r r' : R2} {f g : D → D → R Bool} (ho : OpR X (compareOp op) r) (ho' : OpR X (compareOp op') r') (hf : DoesC X T r f) (hg : DoesC X T r' g) (hn : ∀ x y e, f x y ≠ .ex e) (hn' : ∀ x y e, g x y ≠ .ex e)
    (ha : Ev X T W .B ρ a da) (hb : Ev X T W .B ρ b db) (hc : Ev X T W .B ρ c dc)
    (hl : lastMarks [op, op'] [b, c] = false) : EvT X T W ρ (.Compare a [op, op'] [b, c] pos) (chainR f g da db dc) := fun P H σ Q S q => by
  refine wpT_of (pt_chain ho ho' pw pw pw hl) ?_
  refine ev_bindT ha S q fun x v P1 H1 e1 S1 r1 q1 => ?_
  refine ev_bindT hb S1 q1 fun y w P2 H2 e2 S2 r2 q2 => ?_
  cases hk : f x y with
  | ex e => exact absurd hk (hn x y e)
  | bad => rw [hk] at q2; exact q2.elim
  | ok k =>
    rw [hk] at q2
    refine hf P2 H2 x y v w _ S2.sub (r1.to e2 (by simp)) r2 (fun b hb P3 H3 e3 => ⟨b, rfl, ?_⟩) ⟨k, hk⟩
    have ek : k = b := by rw [hk] at hb; cases hb; rfl
    subst ek
    have q3 := q2.shift e3
    have S3 := S2.ext e3
    cases k with
    | false =>
      rw [if_neg (by decide)]
      exact ⟨false, rfl, q3 P3 H3 (Ext.refl S3.sub)⟩
    | true =>
      rw [if_pos rfl]
      refine ev_bindT hc S3 q3 fun z u P4 H4 e4 S4 r4 q4 => ?_
      obtain ⟨h1, h2⟩ := ok_of q4 (hn' y z)
      exact hg P4 H4 y z w u _ S4.sub ((r2.to e3 (by simp)).to e4 (by simp)) r4 (fun b hb P' H' e' => ⟨b, rfl, h2 b hb P' H' e'⟩) h1
end
end Fj

/-! ## Lay3 -/
namespace Fj
open PySem PySem.Spec PyProof.Rows L2

theorem most_le {n : Nat} (h : n ≤ most) : n ≤ sizeLine := Nat.le_trans h (by rw [sizeLine_eq]; decide)
theorem most_lt {n : Nat} (h : n ≤ most) : n < sizeLine := Nat.lt_of_le_of_lt h (by rw [sizeLine_eq]; decide)
theorem str_len (s : List Nat) : (⟨s.toArray⟩ : Str).length = s.length := by simp [Str.length]

section
variable {X : Cx} {T : Tb} {W : WX} {k : Nat}
/-! ### + - * and the others -/
theorem op_addR : OpR X (binaryOp .Add) (fun x y H Q => (rI0 fun i j => .int (i + j)) x y H Q ∨ ((fun x y H Q => ∃ i j, x = .str i ∧ y = .str j ∧ i.length + j.length ≤ sizeLine ∧ Q (.str (i ++ j)) H) x y H Q ∨ (rCat x y H Q ∨ rCatA X.K x y H Q))) :=
  op_add.or (op_add_str.or (op_cat.or op_catA))
theorem str_app (a b : List Nat) : (⟨a.toArray⟩ : Str) ++ (⟨b.toArray⟩ : Str) = ⟨(a ++ b).toArray⟩ := by
  show (Str.mk _) = _
  simp
theorem does_add : Does2 X T W (fun x y H Q => (rI0 fun i j => .int (i + j)) x y H Q ∨ ((fun x y H Q => ∃ i j, x = .str i ∧ y = .str j ∧ i.length + j.length ≤ sizeLine ∧ Q (.str (i ++ j)) H) x y H Q ∨ (rCat x y H Q ∨ rCatA X.K x y H Q))) addR := fun P H σ x y v w Q hs rx ry h => by
  show (rI0 fun i j => .int (i + j)) v w H Q ∨ ((fun x y H Q => ∃ i j, x = .str i ∧ y = .str j ∧ i.length + j.length ≤ sizeLine ∧ Q (.str (i ++ j)) H) v w H Q ∨ (rCat v w H Q ∨ rCatA X.K v w H Q))
  unfold addR at h
  split at h
  · obtain rfl := B_int rx
    obtain rfl := B_int ry
    exact .inl ⟨_, _, rfl, rfl, postI hs h⟩
  · obtain rfl := B_str rx
    obtain rfl := B_str ry
    split at h
    · rename_i hl
      refine .inr (.inl ⟨_, _, rfl, rfl, by rw [str_len, str_len]; exact most_le hl, ?_⟩)
      rw [str_app]
      exact postS hs h
    · exact h.elim
  · obtain ⟨a, vs, rfl, h1, h2⟩ := B_lst hs rx
    obtain ⟨b, ws, rfl, h3, h4⟩ := B_lst hs ry
    split at h
    · rename_i hl
      exact .inr (.inr (.inl ⟨a, b, vs, ws, rfl, rfl, h1, h3, by rw [h2.length, h4.length]; exact most_le hl, fun p hp => postL hs (h2.append h4) hp h⟩))
    · exact h.elim
  · obtain ⟨a, vs, rfl, h1, h1', h2⟩ := B_tup hs rx
    obtain ⟨b, ws, rfl, h3, h3', h4⟩ := B_tup hs ry
    split at h
    · rename_i hl
      refine .inr (.inr (.inr ⟨a, b, vs, ws, rfl, rfl, SqT.of h1', SqT.of h3', by rw [h2.length, h4.length]; exact most_le hl, fun e => ?_, fun e e' => ?_, fun e e' p hp => postU hs (h2.append h4) hp h⟩))
      · refine postR hs rfl ?_ h
        have := h2.length; rw [e] at this
        have e2 := List.eq_nil_of_length_eq_zero this.symm
        subst e2
        exact rep_tup.mpr ⟨b, ws, rfl, h3, h4⟩
      · refine postR hs rfl ?_ h
        have := h4.length; rw [e'] at this
        have e2 := List.eq_nil_of_length_eq_zero this.symm
        subst e2
        rw [List.append_nil]
        exact rep_tup.mpr ⟨a, vs, rfl, h1, h2⟩
    · exact h.elim
  · exact h.elim
theorem does_sub : Does2 X T W (rI0 fun i j => .int (i - j)) subR := fun P H σ x y v w Q hs rx ry h => by
  unfold subR at h
  split at h
  · obtain rfl := B_int rx
    obtain rfl := B_int ry
    exact ⟨_, _, rfl, rfl, postI hs h⟩
  · exact h.elim
theorem small_iff {i : Int} (h : small i = true) : -(2 ^ 64) < i ∧ i < 2 ^ 64 := by
  unfold small at h
  simpa using h
theorem small_abs {i : Int} (h : small i = true) : i.natAbs < 2 ^ 64 := by
  have := small_iff h; omega
theorem op_mulR : OpR X (binaryOp .Mult) (fun x y H Q => rI CMul (fun i j => .int (i * j)) x y H Q ∨ rRep x y H Q) := op_mul.or op_rep
theorem does_mul : Does2 X T W (fun x y H Q => rI CMul (fun i j => .int (i * j)) x y H Q ∨ rRep x y H Q) mulR := fun P H σ x y v w Q hs rx ry h => by
  unfold mulR at h
  split at h
  · obtain rfl := B_int rx
    obtain rfl := B_int ry
    split at h
    · rename_i hc
      refine .inl ⟨_, _, rfl, rfl, ?_, postI hs h⟩
      rcases Bool.or_eq_true_iff.mp hc with c | c
      · exact .inl (small_iff c)
      · exact .inr (small_iff c)
    · exact h.elim
  · obtain ⟨a, vs, rfl, h1, h2⟩ := B_lst hs rx
    obtain rfl := B_int ry
    split at h
    · rename_i hc
      simp only [Bool.and_eq_true, decide_eq_true_eq] at hc
      exact .inr ⟨a, _, vs, rfl, rfl, h1, by omega, by omega, by rw [h2.length]; exact most_le hc.1.1.2, fun p hp => postL hs (h2.rep _) hp h⟩
    · exact h.elim
  · exact h.elim
theorem does_fdiv : Does2 X T W (rI CDiv fun i j => .int (i / j)) fdivR := fun P H σ x y v w Q hs rx ry h => by
  unfold fdivR at h
  split at h
  · obtain rfl := B_int rx
    obtain rfl := B_int ry
    split at h
    · rename_i hc
      simp only [Bool.and_eq_true, decide_eq_true_eq] at hc
      exact ⟨_, _, rfl, rfl, ⟨hc.1, by omega⟩, postI hs h⟩
    · exact h.elim
  · exact h.elim
theorem does_mod : Does2 X T W (rI (fun _ j => 0 < j) fun i j => .int (i % j)) modR := fun P H σ x y v w Q hs rx ry h => by
  unfold modR at h
  split at h
  · obtain rfl := B_int rx
    obtain rfl := B_int ry
    split at h
    · rename_i hc
      exact ⟨_, _, rfl, rfl, hc, postI hs h⟩
    · exact h.elim
  · exact h.elim
theorem does_pow : Does2 X T W (rI CPow fun i j => .int (i ^ j.toNat)) powR := fun P H σ x y v w Q hs rx ry h => by
  unfold powR at h
  split at h
  · obtain rfl := B_int rx
    obtain rfl := B_int ry
    split at h
    · rename_i hc
      simp only [Bool.and_eq_true, decide_eq_true_eq] at hc
      exact ⟨_, _, rfl, rfl, ⟨hc.1.2, by omega, small_abs hc.1.1⟩, postI hs h⟩
    · exact h.elim
  · exact h.elim
theorem does_shl : Does2 X T W (rI CPow fun i j => .int (i * 2 ^ j.toNat)) shlR := fun P H σ x y v w Q hs rx ry h => by
  unfold shlR at h
  split at h
  · obtain rfl := B_int rx
    obtain rfl := B_int ry
    split at h
    · rename_i hc
      simp only [Bool.and_eq_true, decide_eq_true_eq] at hc
      exact ⟨_, _, rfl, rfl, ⟨hc.1.2, by omega, small_abs hc.1.1⟩, postI hs h⟩
    · exact h.elim
  · exact h.elim
theorem does_shr : Does2 X T W (rI (fun _ j => 0 ≤ j) fun i j => .int (i / 2 ^ j.toNat)) shrR := fun P H σ x y v w Q hs rx ry h => by
  unfold shrR at h
  split at h
  · obtain rfl := B_int rx
    obtain rfl := B_int ry
    split at h
    · rename_i hc
      exact ⟨_, _, rfl, rfl, hc, postI hs h⟩
    · exact h.elim
  · exact h.elim
theorem does_bit {g : Int → Int → Int} {f : Nat → Nat → Nat} (e : ∀ i j : Int, 0 ≤ i → 0 ≤ j → g i j = (f i.toNat j.toNat : Nat)) : Does2 X T W (rI0 fun i j => .int (g i j)) (bitR f) := fun P H σ x y v w Q hs rx ry h => by
  unfold bitR at h
  split at h
  · obtain rfl := B_int rx
    obtain rfl := B_int ry
    split at h
    · rename_i hc
      simp only [Bool.and_eq_true, decide_eq_true_eq] at hc
      refine ⟨_, _, rfl, rfl, ?_⟩
      show Q (.int (g _ _)) H
      rw [e _ _ hc.1 hc.2]
      exact postI hs h
    · exact h.elim
  · exact h.elim
theorem does_band : Does2 X T W (rI0 fun i j => .int (Builtin.bitAnd i j)) bandR := does_bit fun i j h1 h2 => bitAnd_pp h1 h2
theorem does_bor : Does2 X T W (rI0 fun i j => .int (Builtin.bitOr i j)) borR := does_bit fun i j h1 h2 => Bits.bitOr_pp h1 h2
theorem does_bxor : Does2 X T W (rI0 fun i j => .int (Builtin.bitXor i j)) bxorR := does_bit fun i j h1 h2 => Bits.bitXor_pp h1 h2

theorem does_un {a : Expr} {ρ : List C} {da : R D} {pos : Pos} (ha : Ev X T W .B ρ a da) : Ev X T W .F ρ (.UnaryOp .USub a pos) (op1 negR da) := fun P H σ Q S q => by
  refine wpE_of (pe_un un_neg pw) ?_
  refine ev_bind ha S q fun x v P1 H1 e1 S1 r1 q1 => ?_
  unfold negR at q1
  split at q1
  · obtain rfl := B_int r1
    exact ⟨_, rfl, postI S1.sub q1⟩
  · exact q1.elim

/-! ### data, == -/
mutual
def toPy : D → PyData
  | .non => .none
  | .bl b => .bool b
  | .int i => .int i
  | .str s => .str ⟨s.toArray⟩
  | .tup xs => .tuple (toPys xs)
  | .lst xs => .list (toPys xs)
  | _ => .none
def toPys : List D → List PyData
  | [] => []
  | x :: xs => toPy x :: toPys xs
end
mutual
theorem dp_of {K : PySem.W.Frag} {P H : Hp} (hs : Same P H) : ∀ (d : D) (w : V), plainD d = true → Rep K T P d w → Dp K H w (toPy d)
  | .non, _, _, r => by rw [rep_non.mp r]; exact .non
  | .bl b, _, _, r => by rw [rep_bl.mp r]; exact .bl b
  | .int i, _, _, r => by rw [rep_int.mp r]; exact .int i
  | .str s, _, _, r => by rw [rep_str.mp r]; exact .str _
  | .tup xs, _, h, r => by
    obtain ⟨a, vs, rfl, h1, h2⟩ := rep_tup.mp r
    exact .tup (SqT.of (hs _ _ h1)) (dpAll_of hs xs vs (by simpa [plainD] using h) h2)
  | .lst xs, _, h, r => by
    obtain ⟨a, vs, rfl, h1, h2⟩ := rep_lst.mp r
    exact .lst (SqL.of (hs _ _ h1)) (dpAll_of hs xs vs (by simpa [plainD] using h) h2)
  | .dct _ _, _, h, _ => by simp [plainD] at h
  | .fn _, _, h, _ => by simp [plainD] at h
  | .exc _ _, _, h, _ => by simp [plainD] at h
  | .scr _, _, h, _ => by simp [plainD] at h
theorem dpAll_of {K : PySem.W.Frag} {P H : Hp} (hs : Same P H) : ∀ (ds : List D) (ws : List V), plainDs ds = true → RepAll K T P ds ws → DpAll K H ws (toPys ds)
  | [], _, _, r => by unfold RepAll at r; subst r; exact .nil
  | d :: ds, _, h, r => by
    unfold RepAll at r
    obtain ⟨v, t, rfl, h1, h2⟩ := r
    have h' : plainD d = true ∧ plainDs ds = true := by simpa [plainDs] using h
    exact .cons (dp_of hs d v h'.1 h1) (dpAll_of hs ds t h'.2 h2)
end
theorem dpB_of {K : PySem.W.Frag} {P H H0 : Hp} (hs : Same P H) {d : D} {w : V} (h : plainD d = true) (r : RepM K T .B H0 P H d w) : Dp K H w (toPy d) := by
  rcases r with r | ⟨a, o, rfl, _, h2, h3⟩
  · exact dp_of hs d w h r
  · cases d with
    | lst ds =>
      obtain ⟨vs, rfl, h4⟩ := h3
      exact .lst (SqL.of h2) (dpAll_of hs ds vs (by simpa [plainD] using h) h4)
    | dct t kvs => simp [plainD] at h
    | _ => exact h3.elim
mutual
theorem eqv_of : ∀ (x y : D), plainD x = true → plainD y = true → PyData.eqv (toPy x) (toPy y) = eqD x y
  | .non, y, _, hy => by cases y <;> first | rfl | (simp [plainD] at hy; done) | simp [toPy, PyData.eqv, eqD]
  | .bl a, y, _, hy => by cases y <;> first | (simp [plainD] at hy; done) | simp [toPy, PyData.eqv, eqD, b2]
  | .int a, y, _, hy => by cases y <;> first | (simp [plainD] at hy; done) | simp [toPy, PyData.eqv, eqD, b2]
  | .str a, y, _, hy => by
    cases y <;> first
      | (simp [plainD] at hy; done)
      | (simp [toPy, PyData.eqv, eqD]; done)
      | (simp only [toPy, PyData.eqv, eqD]
         rw [Bool.eq_iff_iff]
         simp)
  | .tup xs, y, hx, hy => by
    cases y <;> first
      | (simp [plainD] at hy; done)
      | (simp [toPy, PyData.eqv, eqD]; done)
      | (simp only [toPy, PyData.eqv, eqD]
         exact eqvs_of xs _ (by simpa [plainD] using hx) (by simpa [plainD] using hy))
  | .lst xs, y, hx, hy => by
    cases y <;> first
      | (simp [plainD] at hy; done)
      | (simp [toPy, PyData.eqv, eqD]; done)
      | (simp only [toPy, PyData.eqv, eqD]
         exact eqvs_of xs _ (by simpa [plainD] using hx) (by simpa [plainD] using hy))
  | .dct _ _, _, h, _ => by simp [plainD] at h
  | .fn _, _, h, _ => by simp [plainD] at h
  | .exc _ _, _, h, _ => by simp [plainD] at h
  | .scr _, _, h, _ => by simp [plainD] at h
theorem eqvs_of : ∀ (xs ys : List D), plainDs xs = true → plainDs ys = true → PyData.eqvAll (toPys xs) (toPys ys) = eqDs xs ys
  | [], [], _, _ => rfl
  | [], _ :: _, _, _ => rfl
  | _ :: _, [], _, _ => rfl
  | x :: xs, y :: ys, hx, hy => by
    have h1 : plainD x = true ∧ plainDs xs = true := by simpa [plainDs] using hx
    have h2 : plainD y = true ∧ plainDs ys = true := by simpa [plainDs] using hy
    simp only [toPys, PyData.eqvAll, eqDs]
    rw [eqv_of x y h1.1 h2.1, eqvs_of xs ys h1.2 h2.2]
end
mutual
theorem lay_of : ∀ d : D, plainD d = true → (toPy d).canLay0 = true
  | .non, _ => rfl
  | .bl _, _ => rfl
  | .int _, _ => rfl
  | .str s, h => by
    show PyData.strOk _ = true
    unfold PyData.strOk
    simpa [plainD] using h
  | .tup xs, h => by
    simp only [toPy, PyData.canLay0]
    exact lays_of xs (by simpa [plainD] using h)
  | .lst xs, h => by
    simp only [toPy, PyData.canLay0]
    exact lays_of xs (by simpa [plainD] using h)
  | .dct _ _, h => by simp [plainD] at h
  | .fn _, h => by simp [plainD] at h
  | .exc _ _, h => by simp [plainD] at h
  | .scr _, h => by simp [plainD] at h
theorem lays_of : ∀ ds : List D, plainDs ds = true → PyData.canLayAll0 (toPys ds) = true
  | [], _ => rfl
  | d :: ds, h => by
    have h1 : plainD d = true ∧ plainDs ds = true := by simpa [plainDs] using h
    simp only [toPys, PyData.canLayAll0]
    rw [lay_of d h1.1, lays_of ds h1.2]
    rfl
end
mutual
theorem dep_of : ∀ d : D, (toPy d).depth ≤ depD d
  | .non => Nat.le_refl _
  | .bl _ => Nat.le_refl _
  | .int _ => Nat.le_refl _
  | .str _ => Nat.le_refl _
  | .tup xs => by
    simp only [toPy, PyData.depth, depD]
    exact Nat.succ_le_succ (deps_of xs)
  | .lst xs => by
    simp only [toPy, PyData.depth, depD]
    exact Nat.succ_le_succ (deps_of xs)
  | .dct _ _ => by simp [toPy, PyData.depth]
  | .fn _ => by simp [toPy, PyData.depth]
  | .exc _ _ => by simp [toPy, PyData.depth]
  | .scr _ => by simp [toPy, PyData.depth]
theorem deps_of : ∀ ds : List D, PyData.depthAll (toPys ds) ≤ depDs ds
  | [] => Nat.le_refl _
  | d :: ds => by
    simp only [toPys, PyData.depthAll, depDs]
    have h1 := dep_of d
    have h2 := deps_of ds
    omega
end
theorem fit_plain {d : D} (h : fitD d = true) : plainD d = true := by unfold fitD at h; exact (Bool.and_eq_true_iff.mp h).1
theorem fit_shaped {d : D} (h : fitD d = true) : SeqAt.shaped (toPy d) = true := by
  have h1 := fit_plain h
  unfold fitD at h
  have h2 : depD d ≤ 60 := of_decide_eq_true (Bool.and_eq_true_iff.mp h).2
  unfold SeqAt.shaped
  rw [lay_of d h1, Bool.true_and]
  exact decide_eq_true (by have := dep_of d; omega)
theorem op_eqQ (g : Gd X k) : OpR X (compareOp .Eq) (rEqD X.K) := op_eqD g.room.units
theorem op_neQ (g : Gd X k) : OpR X (compareOp .NotEq) (rNeD X.K) := op_neD g.room.units
theorem does_eq : DoesC X T (rEqD X.K) eqR := fun P H x y v w Q hs rx ry h he => by
  obtain ⟨b, hb⟩ := he
  unfold eqR at hb h
  split at hb
  · rename_i hc
    rw [if_pos hc] at h
    obtain ⟨h1, h2⟩ := Bool.and_eq_true_iff.mp hc
    refine ⟨toPy x, toPy y, dpB_of hs (fit_plain h1) rx, dpB_of hs (fit_plain h2) ry, fit_shaped h1, fit_shaped h2, ?_⟩
    rw [eqv_of x y (fit_plain h1) (fit_plain h2)]
    exact h _ rfl P H (Ext.refl hs)
  · cases hb
theorem does_ne : DoesC X T (rNeD X.K) neR := fun P H x y v w Q hs rx ry h he => by
  obtain ⟨b, hb⟩ := he
  unfold neR at hb h
  split at hb
  · rename_i hc
    rw [if_pos hc] at h
    obtain ⟨h1, h2⟩ := Bool.and_eq_true_iff.mp hc
    refine ⟨toPy x, toPy y, dpB_of hs (fit_plain h1) rx, dpB_of hs (fit_plain h2) ry, fit_shaped h1, fit_shaped h2, ?_⟩
    rw [eqv_of x y (fit_plain h1) (fit_plain h2)]
    exact h _ rfl P H (Ext.refl hs)
  · cases hb
theorem nx_eq (x y e : D) : eqR x y ≠ .ex e := by unfold eqR; split <;> simp
theorem nx_ne (x y e : D) : neR x y ≠ .ex e := by unfold neR; split <;> simp
/-! ### < <= > >= -/
theorem op_ltQ (g : Gd X k) : OpR X (compareOp .Lt) (fun x y H Q => (rI0 fun i j => .bl (decide (i < j))) x y H Q ∨ rLtT X.K x y H Q) := op_lt.or (op_ltT g.room.units0)
theorem lexLt_eq : ∀ a b : List Int, HT.lexLt a b = lexLt a b
  | [], [] => rfl
  | [], _ :: _ => rfl
  | _ :: _, [] => rfl
  | x :: xs, y :: ys => by rw [HT.lexLt_cons, lexLt, lexLt_eq xs ys]
theorem does_lt : DoesC X T (fun x y H Q => (rI0 fun i j => .bl (decide (i < j))) x y H Q ∨ rLtT X.K x y H Q) ltR := fun P H x y v w Q hs rx ry h he => by
  obtain ⟨b, hb⟩ := he
  unfold ltR at hb
  split at hb
  · obtain rfl := B_int rx
    obtain rfl := B_int ry
    exact .inl ⟨_, _, rfl, rfl, h _ rfl P H (Ext.refl hs)⟩
  · split at hb
    · rename_i xs ys c d ea eb
      obtain ⟨a, vs, rfl, h1, h1', h2⟩ := B_tup hs rx
      obtain ⟨b', ws, rfl, h3, h3', h4⟩ := B_tup hs ry
      have e1 := repAll_intsD ea h2
      have e2 := repAll_intsD eb h4
      subst e1 e2
      refine .inr ⟨a, b', _, _, rfl, rfl, SqT.of h1', SqT.of h3', ?_⟩
      rw [lexLt_eq]
      refine h _ ?_ P H (Ext.refl hs)
      unfold ltR
      simp only [ea, eb]
    · cases hb
  · cases hb
theorem does_le : DoesC X T (rI0 fun i j => .bl (decide (i ≤ j))) leR := fun P H x y v w Q hs rx ry h he => by
  obtain ⟨b, hb⟩ := he
  unfold leR at hb
  split at hb
  · obtain rfl := B_int rx
    obtain rfl := B_int ry
    exact ⟨_, _, rfl, rfl, h _ rfl P H (Ext.refl hs)⟩
  · cases hb
theorem does_gt : DoesC X T (rI0 fun i j => .bl (decide (j < i))) gtR := fun P H x y v w Q hs rx ry h he => by
  obtain ⟨b, hb⟩ := he
  unfold gtR at hb
  split at hb
  · obtain rfl := B_int rx
    obtain rfl := B_int ry
    exact ⟨_, _, rfl, rfl, h _ rfl P H (Ext.refl hs)⟩
  · cases hb
theorem does_ge : DoesC X T (rI0 fun i j => .bl (decide (j ≤ i))) geR := fun P H x y v w Q hs rx ry h he => by
  obtain ⟨b, hb⟩ := he
  unfold geR at hb
  split at hb
  · obtain rfl := B_int rx
    obtain rfl := B_int ry
    exact ⟨_, _, rfl, rfl, h _ rfl P H (Ext.refl hs)⟩
  · cases hb
theorem nx_lt (x y e : D) : ltR x y ≠ .ex e := by unfold ltR; split <;> (try split) <;> simp
theorem nx_le (x y e : D) : leR x y ≠ .ex e := by unfold leR; split <;> simp
theorem nx_gt (x y e : D) : gtR x y ≠ .ex e := by unfold gtR; split <;> simp
theorem nx_ge (x y e : D) : geR x y ≠ .ex e := by unfold geR; split <;> simp
/-! ### is None -/
theorem isNon_of {K : PySem.W.Frag} {P H H0 : Hp} {x : D} {v : V} (r : RepM K T .B H0 P H x v) : decide (v = V.non) = isNon x := by
  rcases r with r | ⟨a, o, rfl, _, _, h3⟩
  · cases x with
    | non => rw [rep_non.mp r]; rfl
    | bl b => rw [rep_bl.mp r]; rfl
    | int b => rw [rep_int.mp r]; rfl
    | str b => rw [rep_str.mp r]; rfl
    | tup b => obtain ⟨_, _, rfl, _⟩ := rep_tup.mp r; rfl
    | lst b => obtain ⟨_, _, rfl, _⟩ := rep_lst.mp r; rfl
    | dct t b => obtain ⟨_, _, rfl, _⟩ := (rep_own rfl).mp r; rfl
    | fn b => obtain ⟨_, _, rfl⟩ := rep_fn.mp r; rfl
    | exc b c => unfold Rep at r; obtain ⟨_, _, rfl⟩ := r; rfl
    | scr b => obtain ⟨_, rfl, _⟩ := rep_scr.mp r; rfl
  · cases x with
    | lst b => rfl
    | dct t b => rfl
    | _ => exact h3.elim
theorem evT_isN {a : Expr} {ρ : List C} {da : R D} {pos pos' : Pos} {j} (ha : Ev X T W .B ρ a da) : EvT X T W ρ (.Compare a [.Is] [.Constant .none j pos'] pos) (op1 isR da) := fun P H σ Q S q => by
  refine wpT_of (pt_cmp (pc_isN pw)) ?_
  refine ev_bindT ha S q fun x v P1 H1 e1 S1 r1 q1 => ⟨_, rfl, ?_⟩
  rw [isNon_of r1]
  exact q1 P1 H1 (Ext.refl S1.sub)
theorem evT_notN {a : Expr} {ρ : List C} {da : R D} {pos pos' : Pos} {j} (ha : Ev X T W .B ρ a da) : EvT X T W ρ (.Compare a [.IsNot] [.Constant .none j pos'] pos) (op1 isNotR da) := fun P H σ Q S q => by
  refine wpT_of (pt_cmp (pc_notN pw)) ?_
  refine ev_bindT ha S q fun x v P1 H1 e1 S1 r1 q1 => ⟨_, rfl, ?_⟩
  rw [isNon_of r1]
  exact q1 P1 H1 (Ext.refl S1.sub)
theorem ev_isN {a : Expr} {ρ : List C} {da : R D} {pos pos' : Pos} {j} (ha : Ev X T W .B ρ a da) : Ev X T W .F ρ (.Compare a [.Is] [.Constant .none j pos'] pos) (blE (op1 isR da)) := fun P H σ Q S q => by
  refine wpE_of (pe_cmp (pc_isN pw)) ?_
  unfold op1 at q
  rw [blE_bind] at q
  refine ev_bind ha S q fun x v P1 H1 e1 S1 r1 q1 => ?_
  rw [isNon_of r1]
  exact postB S1.sub q1
theorem ev_notN {a : Expr} {ρ : List C} {da : R D} {pos pos' : Pos} {j} (ha : Ev X T W .B ρ a da) : Ev X T W .F ρ (.Compare a [.IsNot] [.Constant .none j pos'] pos) (blE (op1 isNotR da)) := fun P H σ Q S q => by
  refine wpE_of (pe_cmp (pc_notN pw)) ?_
  unfold op1 at q
  rw [blE_bind] at q
  refine ev_bind ha S q fun x v P1 H1 e1 S1 r1 q1 => ?_
  rw [isNon_of r1]
  exact postB S1.sub q1
end
end Fj

/-! ## Lay4 -/
namespace Fj
open PySem PySem.Spec PyProof.Rows L2
section
variable {X : Cx} {T : Tb} {W : WX} {k : Nat} {ρ : List C} {a b c e : Expr} {es rest : List Expr} {da db : R D} {ca cb : R Bool} {pos : Pos} {m : Md}
/-! ### truth -/
theorem postPI {K : PySem.W.Frag} {P H : Hp} {σ : L2.St} {Q : VK} {i : Int} (hs : Same P H) (h : Post K T W .P P H σ (.ok (.int i)) Q) : Q (.int i) H := h (.int i) P H (Ext.refl hs) (show Rep K T P (.int i) (.int i) from rep_int.mpr rfl)
theorem postPS {K : PySem.W.Frag} {P H : Hp} {σ : L2.St} {Q : VK} {s : List Nat} (hs : Same P H) (h : Post K T W .P P H σ (.ok (.str s)) Q) : Q (strV s) H := h (strV s) P H (Ext.refl hs) (show Rep K T P (.str s) (strV s) from rep_str.mpr rfl)

theorem tru_of {K : PySem.W.Frag} {P H H0 : Hp} {x : D} {v : V} {t : Bool} (hs : Same P H) (r : RepM K T .B H0 P H x v) (h : truD x = .ok t) (hl : ∀ s, x = .str s → s.length ≤ most) : TruV K v H t := by
  cases x with
  | non => rw [B_non r]; cases h; rfl
  | bl b => rw [B_bl r]; cases h; rfl
  | int b => rw [B_int r]; cases h; rfl
  | str s =>
    rw [B_str r]; cases h
    refine ⟨by rw [str_len]; exact most_le (hl s rfl), ?_⟩
    rw [str_len]
    cases s <;> simp <;> omega
  | tup xs =>
    obtain ⟨a, vs, rfl, _, h1, h2⟩ := B_tup hs r
    cases h
    refine .inr (.inl ⟨vs, SqT.of h1, ?_⟩)
    have := h2.length
    cases vs <;> cases xs <;> simp_all
  | lst xs =>
    obtain ⟨a, vs, rfl, h1, h2⟩ := B_lst hs r
    cases h
    refine .inl ⟨vs, SqL.of h1, ?_⟩
    have := h2.length
    cases vs <;> cases xs <;> simp_all
  | dct t kvs => cases h
  | fn b => cases h
  | exc b c => cases h
  | scr b => cases h
theorem evT_val (ha : Ev X T W .B ρ a da) (he : ∀ whole, isTrue a X.env whole = (do let v ← whole; standAt a.pos; holding [v] (truthy v))) : EvT X T W ρ a (op1 truT da) := fun P H σ Q S q => by
  refine wpT_of (pt_truth pw he) ?_
  refine ev_bindT ha S q fun x v P1 H1 e1 S1 r1 q1 => ?_
  unfold truT at q1
  split at q1
  · exact q1.elim
  · rename_i hl
    cases ht : truD x with
    | ok t =>
      rw [ht] at q1
      refine ⟨t, tru_of S1.sub r1 ht (fun s es => ?_), q1 P1 H1 (Ext.refl S1.sub)⟩
      subst es
      simpa [longD] using hl
    | ex e => cases x <;> cases ht
    | bad => rw [ht] at q1; exact q1.elim
theorem evT_not (ha : EvT X T W ρ a ca) : EvT X T W ρ (.UnaryOp .Not a pos) (notT ca) := fun P H σ Q S q => by
  refine wpT_of (pt_not tw) ?_
  exact evT_bindT ha S q fun x P1 H1 e1 S1 q1 => q1 P1 H1 (Ext.refl S1.sub)
theorem EvW.t (h : EvW X T W ρ a ca) : EvT X T W ρ a ca := fun P H σ Q S q pins s I => h P H σ Q S q _ pins s I
theorem evW_and1 (ha : EvT X T W ρ a ca) : EvW X T W ρ (.BoolOp .And [a] pos) ca := fun P H σ Q S q => wpW_of (pw_and1 tw) (ha P H σ Q S q)
theorem evW_or1 (ha : EvT X T W ρ a ca) : EvW X T W ρ (.BoolOp .Or [a] pos) ca := fun P H σ Q S q => wpW_of (pw_or1 tw) (ha P H σ Q S q)
theorem evW_and (ha : EvT X T W ρ a ca) (hb : EvW X T W ρ (.BoolOp .And (b :: rest) pos) cb) : EvW X T W ρ (.BoolOp .And (a :: b :: rest) pos) (andT ca cb) := fun P H σ Q S q => by
  refine wpW_of (pw_and tw ww) ?_
  refine evT_bindT ha S q fun x P1 H1 e1 S1 q1 => ?_
  cases x with
  | true => exact hb P1 H1 σ Q S1 q1
  | false => exact q1 P1 H1 (Ext.refl S1.sub)
theorem evW_or (ha : EvT X T W ρ a ca) (hb : EvW X T W ρ (.BoolOp .Or (b :: rest) pos) cb) : EvW X T W ρ (.BoolOp .Or (a :: b :: rest) pos) (orT ca cb) := fun P H σ Q S q => by
  refine wpW_of (pw_or tw ww) ?_
  refine evT_bindT ha S q fun x P1 H1 e1 S1 q1 => ?_
  cases x with
  | false => exact hb P1 H1 σ Q S1 q1
  | true => exact q1 P1 H1 (Ext.refl S1.sub)
/-- as values: each part but the last a truth -/
theorem ev_one {op} (ha : Ev X T W m ρ a da) : Ev X T W m ρ (.BoolOp op [a] pos) da := fun P H σ Q S q => wpE_of (pe_one pw) (ha P H σ Q S q)
theorem ev_and (ha : Ev X T W .P ρ a da) (hb : Ev X T W .P ρ (.BoolOp .And (b :: rest) pos) db) : Ev X T W .P ρ (.BoolOp .And (a :: b :: rest) pos) (andV da db) := fun P H σ Q S q => by
  refine wpE_of (pe_andT pw pw) ?_
  refine ev_bind ha S q fun x v P1 H1 e1 S1 r1 q1 => ?_
  unfold truT at q1
  split at q1
  · exact q1.elim
  rename_i hl
  cases ht : truD x with
  | ex e => cases x <;> cases ht
  | bad => rw [ht] at q1; exact q1.elim
  | ok t =>
    rw [ht] at q1
    refine ⟨t, tru_of S1.sub (RepM.of_P (H := H1) r1) ht (fun s es => by subst es; simpa [longD] using hl), ?_⟩
    cases t with
    | true => exact hb P1 H1 σ Q S1 q1
    | false => exact q1 v P1 H1 (Ext.refl S1.sub) r1
theorem ev_or (ha : Ev X T W .P ρ a da) (hb : Ev X T W .P ρ (.BoolOp .Or (b :: rest) pos) db) : Ev X T W .P ρ (.BoolOp .Or (a :: b :: rest) pos) (orV da db) := fun P H σ Q S q => by
  refine wpE_of (pe_orT pw pw) ?_
  refine ev_bind ha S q fun x v P1 H1 e1 S1 r1 q1 => ?_
  unfold truT at q1
  split at q1
  · exact q1.elim
  rename_i hl
  cases ht : truD x with
  | ex e => cases x <;> cases ht
  | bad => rw [ht] at q1; exact q1.elim
  | ok t =>
    rw [ht] at q1
    refine ⟨t, tru_of S1.sub (RepM.of_P (H := H1) r1) ht (fun s es => by subst es; simpa [longD] using hl), ?_⟩
    cases t with
    | false => exact hb P1 H1 σ Q S1 q1
    | true => exact q1 v P1 H1 (Ext.refl S1.sub) r1
/-- not as a value -/
theorem ev_not (ha : Ev X T W .B ρ a da) : Ev X T W .F ρ (.UnaryOp .Not a pos) (blE (notT (op1 truT da))) := fun P H σ Q S q => by
  refine wpE_of (pe_notT pw) ?_
  have q' : Post X.K T W .F P H σ (da.bind fun x => blE (notT (truT x))) Q := by cases da <;> exact q
  refine ev_bind ha S q' fun x v P1 H1 e1 S1 r1 q1 => ?_
  unfold truT at q1
  split at q1
  · exact q1.elim
  rename_i hl
  cases ht : truD x with
  | ex e => cases x <;> cases ht
  | bad => rw [ht] at q1; exact q1.elim
  | ok t =>
    rw [ht] at q1
    exact ⟨t, tru_of S1.sub r1 ht (fun s es => by subst es; simpa [longD] using hl), postB S1.sub q1⟩
theorem ev_ifE (hc : EvT X T W ρ c ca) (ha : Ev X T W m ρ a da) (hb : Ev X T W m ρ b db) : Ev X T W m ρ (.IfExp c a b pos) (ifE ca da db) := fun P H σ Q S q => by
  refine wpE_of (pe_ifExp tw pw pw) ?_
  refine evT_bind hc S q fun x P1 H1 e1 S1 q1 => ?_
  cases x with
  | true => exact ha P1 H1 σ Q S1 q1
  | false => exact hb P1 H1 σ Q S1 q1

/-! ### lists of expressions, displays -/
theorem evA_nil : EvA X T W ρ [] (.ok []) := fun P H σ Q S q => wpA_of pa_nil (q _ P H (Ext.refl S.sub) RepAll.nil)
theorem evA_cons {da : R D} {ds : List (R D)} (ha : Ev X T W .P ρ a da) (hr : EvA X T W ρ es (allR ds)) (hs : starEach (a :: es) X.env = (false, eval a X.env) :: starEach es X.env) : EvA X T W ρ (a :: es) (allR (da :: ds)) := fun P H σ Q S q => by
  refine wpA_of (pa_cons pw aw hs) ?_
  refine ha P H σ _ S ?_
  cases da with
  | ex x => exact fun cls dd H' s' r => q cls dd H' s' r
  | bad => exact q
  | ok v =>
    intro w P1 H1 e1 r1
    refine hr P1 H1 σ _ (S.ext e1) ?_
    have q' : PostA X.K T W P1 H1 σ ((allR ds).bind fun xs => .ok (v :: xs)) Q := PostA.shift e1 q
    cases h : allR ds with
    | ex x => rw [h] at q'; exact fun cls dd H' s' r => q' cls dd H' s' r
    | bad => rw [h] at q'; exact q'
    | ok vs =>
      rw [h] at q'
      exact fun ws P2 H2 e2 r2 => q' (w :: ws) P2 H2 e2 (RepAll.cons (Rep.mono e2.pp _ _ r1) r2)
theorem evA_bind {P H : Hp} {σ : L2.St} {Q : VK} {f : List D → R D} {dl : R (List D)} {Q1 : List V → Hp → Prop} (ha : EvA X T W ρ es dl) (S : Sim X.K T P H σ ρ) (h : Post X.K T W m P H σ (dl.bind f) Q)
    (kk : ∀ vs ws P1 H1, Ext P H P1 H1 → Sim X.K T P1 H1 σ ρ → RepAll X.K T P1 vs ws → Post X.K T W m P1 H1 σ (f vs) Q → Q1 ws H1) : wpA X es σ H Q1 := by
  refine ha P H σ Q1 S ?_
  cases dl with
  | ok v => exact fun w P' H' e' r => kk v w P' H' e' (S.ext e') r (h.shift e')
  | ex x => exact fun cls dd H' s' r => h cls dd H' s' r
  | bad => exact h
theorem allR_len : ∀ {ds : List (R D)} {vs : List D}, allR ds = .ok vs → vs.length = ds.length
  | [], _, h => by cases h; rfl
  | d :: ds, vs, h => by
    cases d with
    | ex x => cases h
    | bad => cases h
    | ok v =>
      cases q : allR ds with
      | ex x => rw [allR_ok, q] at h; cases h
      | bad => rw [allR_ok, q] at h; cases h
      | ok us =>
        rw [allR_ok, q] at h
        cases h
        simp [allR_len q]
theorem ev_tup {ds : List (R D)} {kx} (h : EvA X T W ρ es (allR ds)) (hl : ds.length ≤ 1000) : Ev X T W .F ρ (.Tuple es kx pos) (tupE ds) := fun P H σ Q S q => by
  refine wpE_of (pe_tup aw) ?_
  have q' : Post X.K T W .F P H σ ((allR ds).bind fun xs => if xs.length ≤ most then .ok (.tup xs) else .bad) Q := by
    unfold tupE at q
    cases hq : allR ds with
    | ok vs =>
      rw [hq] at q
      show Post X.K T W .F P H σ (if vs.length ≤ most then _ else _) Q
      rw [if_pos (by rw [allR_len hq]; exact Nat.le_trans hl (by decide))]
      exact q
    | ex x => rw [hq] at q; exact q
    | bad => rw [hq] at q; exact q
  refine evA_bind h S q' fun vs ws P1 H1 e1 S1 r1 q1 => ?_
  split at q1
  · rename_i hz
    exact ⟨by rw [r1.length]; exact most_le hz, fun p hp => postU S1.sub r1 hp q1⟩
  · exact q1.elim
theorem ev_lst {ds : List (R D)} (h : EvA X T W ρ es (allR ds)) (hl : ds.length ≤ 1000) : Ev X T W .F ρ (.List es pos) (lstE ds) := fun P H σ Q S q => by
  refine wpE_of (pe_lst aw) ?_
  have q' : Post X.K T W .F P H σ ((allR ds).bind fun xs => if xs.length ≤ most then .ok (.lst xs) else .bad) Q := by
    unfold lstE at q
    cases hq : allR ds with
    | ok vs =>
      rw [hq] at q
      show Post X.K T W .F P H σ (if vs.length ≤ most then _ else _) Q
      rw [if_pos (by rw [allR_len hq]; exact Nat.le_trans hl (by decide))]
      exact q
    | ex x => rw [hq] at q; exact q
    | bad => rw [hq] at q; exact q
  refine evA_bind h S q' fun vs ws P1 H1 e1 S1 r1 q1 => ?_
  split at q1
  · rename_i hz
    exact ⟨by rw [r1.length]; exact most_le hz, fun p hp => postL S1.sub r1 hp q1⟩
  · exact q1.elim

/-! ### subscripts, cuts -/
theorem ixN_eq (n : Nat) (i : Int) : L2.ixN n i = ixN n i := rfl
theorem atI_rep {K : PySem.W.Frag} {P : Hp} {ds : List D} {vs : List V} {i : Int} {d : D} (r : RepAll K T P ds vs) (h : atI ds i = some d) : ∃ v, L2.atI vs i = some v ∧ Rep K T P d v := by
  unfold atI at h
  cases q : ixN ds.length i with
  | none => rw [q] at h; cases h
  | some j =>
    rw [q] at h
    obtain ⟨v, h1, h2⟩ := r.get (i := j) h
    refine ⟨v, ?_, h2⟩
    unfold L2.atI
    rw [r.length, ixN_eq, q]
    exact h1
/-- what an item's rule wants -/
def rIxD (K : PySem.W.Frag) : R2 := fun x y H Q => (rIxL K x y H Q ∨ rIxT K x y H Q ∨ rIxS x y H Q)
theorem idx0_of {P2 H2 H H1 : Hp} {σ : L2.St} {Q : VK} {x y : D} {v w : V} (hs2 : Same P2 H2) (r1' : RepM X.K T .B H P2 H2 x v) (r2 : RepM X.K T .B H1 P2 H2 y w) (q2 : Post X.K T W .P P2 H2 σ (idxR0 x y) Q) : rIx X.K v w H2 Q := by
  unfold idxR0 at q2
  split at q2
  · rename_i xs i
    obtain rfl := B_int r2
    obtain ⟨p, vs, rfl, h1, h2⟩ := B_lst hs2 r1'
    cases hq : atI xs i with
    | none => rw [hq] at q2; exact q2.elim
    | some d =>
      rw [hq] at q2
      obtain ⟨v, h3, h4⟩ := atI_rep h2 hq
      exact .inl ⟨p, vs, i, v, rfl, rfl, SqL.of h1, h3, q2 v P2 H2 (Ext.refl hs2) h4⟩
  · rename_i xs i
    obtain rfl := B_int r2
    obtain ⟨p, vs, rfl, h1, h1', h2⟩ := B_tup hs2 r1'
    cases hq : atI xs i with
    | none => rw [hq] at q2; exact q2.elim
    | some d =>
      rw [hq] at q2
      obtain ⟨v, h3, h4⟩ := atI_rep h2 hq
      exact .inr (.inl ⟨p, vs, i, v, rfl, rfl, SqT.of h1', h3, q2 v P2 H2 (Ext.refl hs2) h4⟩)
  · rename_i ns i
    obtain rfl := B_int r2
    obtain ⟨p, rfl, h1⟩ := B_scr hs2 r1'
    cases hq : atI ns i with
    | none => rw [hq] at q2; exact q2.elim
    | some n =>
      rw [hq] at q2
      refine .inl ⟨p, _, i, .int n, rfl, rfl, h1, ?_, postPI hs2 q2⟩
      unfold atI at hq
      unfold L2.atI
      rw [List.length_map, ixN_eq]
      cases hj : ixN ns.length i with
      | none => rw [hj] at hq; cases hq
      | some j =>
        rw [hj] at hq
        show (ns.map V.int)[j]? = _
        rw [List.getElem?_map, show ns[j]? = some n from hq]
        rfl
  · rename_i s i
    split at q2
    · rename_i hl
      obtain rfl := B_int r2
      obtain rfl := B_str r1'
      cases hq : atI s i with
      | none => rw [hq] at q2; exact q2.elim
      | some n =>
        rw [hq] at q2
        exact .inr (.inr ⟨_, i, n, rfl, rfl, by rw [str_len]; exact most_le hl, hq, postPS hs2 q2⟩)
    · exact q2.elim
  · exact q2.elim
end
end Fj

/-! ## Lay5 -/
namespace Fj
open PySem PySem.Spec PyProof.Rows L2
section
variable {X : Cx} {T : Tb} {W : WX} {k : Nat} {ρ : List C} {a b c e : Expr} {es rest : List Expr} {da db : R D} {ca cb : R Bool} {pos p p2 : Pos} {m : Md}
/-! ### dicts: items, in -/
/-- a dict's key, as the layer has it -/
theorem key_flat {K : PySem.W.Frag} {P : Hp} {d : D} {w : V} (h : flatK d = true) (r : Rep K T P d w) : ∃ q : Key, ksD q = d ∧ w = kV q := by
  cases d with
  | int i => exact ⟨.inl i, rfl, rep_int.mp r⟩
  | str s => exact ⟨.inr ⟨s.toArray⟩, rfl, rep_str.mp r⟩
  | _ => cases h
theorem key_flats {K : PySem.W.Frag} {P : Hp} : ∀ {ds : List D} {vs : List V}, ds.all flatK = true → RepAll K T P ds vs → ∃ qs : List Key, qs.map ksD = ds ∧ vs = qs.map kV
  | [], _, _, r => by unfold RepAll at r; subst r; exact ⟨[], rfl, rfl⟩
  | d :: ds, _, h, r => by
    unfold RepAll at r
    obtain ⟨v, t, rfl, h1, h2⟩ := r
    simp only [List.all_cons, Bool.and_eq_true] at h
    obtain ⟨q, e1, e2⟩ := key_flat h.1 h1
    obtain ⟨qs, e3, e4⟩ := key_flats h.2 h2
    exact ⟨q :: qs, by rw [List.map_cons, e1, e3], by rw [List.map_cons, ← e2, ← e4]⟩
theorem ksD_inj : ∀ {q q' : Key}, ksD q = ksD q' → q = q'
  | .inl i, .inl j, h => by cases h; rfl
  | .inr x, .inr y, h => by
    obtain ⟨x⟩ := x
    obtain ⟨y⟩ := y
    have : x.toList = y.toList := by injection h
    rw [Array.toList_inj.mp this]
  | .inl i, .inr y, h => nomatch h
  | .inr x, .inl j, h => nomatch h
theorem map_ksD_inj : ∀ {q q' : List Key}, q.map ksD = q'.map ksD → q = q'
  | [], [], _ => rfl
  | [], _ :: _, h => nomatch h
  | _ :: _, [], h => nomatch h
  | a :: l, b :: r, h => by
    rw [List.map_cons, List.map_cons] at h
    injection h with h1 h2
    rw [ksD_inj h1, map_ksD_inj h2]
mutual
theorem same_eq : ∀ (x y : D), (sameD x y = true → x = y)
  | .non, y, h => by cases y <;> first | rfl | (simp [sameD] at h)
  | .bl a, y, h => by cases y <;> simp [sameD] at h; rw [h]
  | .int a, y, h => by cases y <;> simp [sameD] at h; rw [h]
  | .str a, y, h => by cases y <;> simp [sameD] at h; rw [h]
  | .tup xs, y, h => by
    cases y with
    | tup ys => rw [sames_eq xs ys (by simpa [sameD] using h)]
    | _ => simp [sameD] at h
  | .lst xs, y, h => by
    cases y with
    | lst ys => rw [sames_eq xs ys (by simpa [sameD] using h)]
    | _ => simp [sameD] at h
  | .dct _ _, y, h => by cases y <;> simp [sameD] at h
  | .fn _, y, h => by cases y <;> simp [sameD] at h
  | .exc _ _, y, h => by cases y <;> simp [sameD] at h
  | .scr _, y, h => by cases y <;> simp [sameD] at h
theorem sames_eq : ∀ (xs ys : List D), (sameDs xs ys = true → xs = ys)
  | [], [], _ => rfl
  | [], _ :: _, h => by simp [sameDs] at h
  | _ :: _, [], h => by simp [sameDs] at h
  | x :: xs, y :: ys, h => by
    have h' : sameD x y = true ∧ sameDs xs ys = true := by simpa [sameDs] using h
    rw [same_eq x y h'.1, sames_eq xs ys h'.2]
end
mutual
theorem same_refl : ∀ (x : D), keyOk x = true ∨ flatK x = true → sameD x x = true
  | .int a, _ => by simp [sameD]
  | .str a, _ => by simp [sameD]
  | .tup xs, h => by
    simp only [sameD]
    rcases h with h | h
    · exact sames_refl xs (by simpa [keyOk] using h)
    · cases h
  | .non, h => by rcases h with h | h <;> cases h
  | .bl _, h => by rcases h with h | h <;> cases h
  | .lst _, h => by rcases h with h | h <;> cases h
  | .dct _ _, h => by rcases h with h | h <;> cases h
  | .fn _, h => by rcases h with h | h <;> cases h
  | .exc _ _, h => by rcases h with h | h <;> cases h
  | .scr _, h => by rcases h with h | h <;> cases h
theorem sames_refl : ∀ (xs : List D), (∀ x ∈ xs, flatK x = true) → sameDs xs xs = true
  | [], _ => rfl
  | x :: xs, h => by
    simp only [sameDs, Bool.and_eq_true]
    exact ⟨same_refl x (.inr (h x List.mem_cons_self)), sames_refl xs fun y hy => h y (List.mem_cons_of_mem _ hy)⟩
end
theorem sameK (q q' : Key) : sameD (ksD q) (ksD q') = decide (q = q') := by
  by_cases h : q = q'
  · subst h
    rw [decide_eq_true rfl]
    exact same_refl _ (.inr (by cases q <;> rfl))
  · rw [decide_eq_false h, Bool.eq_false_iff]
    exact fun z => h (ksD_inj (same_eq _ _ z))
theorem sameT (q q' : List Key) : sameD (.tup (q.map ksD)) (.tup (q'.map ksD)) = decide (q = q') := by
  by_cases h : q = q'
  · subst h
    rw [decide_eq_true rfl]
    refine same_refl _ (.inl ?_)
    show (q.map ksD).all flatK = true
    rw [List.all_map, List.all_eq_true]
    intro x _
    cases x <;> rfl
  · rw [decide_eq_false h, Bool.eq_false_iff]
    intro z
    have := same_eq _ _ z
    injection this with this
    exact h (map_ksD_inj this)
/-- what a look-up gives -/
theorem look_rep {K : PySem.W.Frag} {P : Hp} {κ : Type} [DecidableEq κ] (g : κ → D) (hg : ∀ q q', sameD (g q) (g q') = decide (q = q')) (q : κ) : ∀ {kvs : List (D × D)} {l : List (κ × V)}, kvs.map (·.1) = l.map (fun p => g p.1) → RepVs K T P kvs (l.map (·.2)) →
    (lookD (g q) kvs = none ∧ valV l q = none) ∨ ∃ d v, lookD (g q) kvs = some d ∧ valV l q = some v ∧ Rep K T P d v
  | [], [], _, _ => .inl ⟨rfl, rfl⟩
  | [], _ :: _, h, _ => nomatch h
  | _ :: _, [], h, _ => nomatch h
  | (a, d) :: r, (q', v) :: l, h, hv => by
    rw [List.map_cons, List.map_cons] at h
    injection h with h1 h2
    have h1 : a = g q' := h1
    subst h1
    unfold RepVs at hv
    obtain ⟨v', t, e, hv1, hv2⟩ := hv
    rw [List.map_cons] at e
    injection e with e1 e2
    subst e1 e2
    unfold RepP at hv1
    unfold lookD
    rw [hg]
    by_cases c : q' = q
    · rw [decide_eq_true c, if_pos rfl, valV_pos c]
      exact .inr ⟨d, v, rfl, rfl, hv1⟩
    · rw [decide_eq_false c, if_neg (by decide), valV_neg c]
      exact look_rep g hg q h2 hv2
theorem dget_of {K : PySem.W.Frag} {P H : Hp} {t : Nat} {kvs : List (D × D)} {o : HO} {y : D} {w : V} {p : Addr} (hs : Same P H) (hk : kindOk y t = true) (hp : H p = some o) (ho : Own K T P (.dct t kvs) o) (r : Rep K T P y w) :
    ∃ ov, DGet H p w ov ∧ ((lookD y kvs = none ∧ ov = none) ∨ ∃ d v, lookD y kvs = some d ∧ ov = some v ∧ Rep K T P d v) := by
  unfold kindOk at hk
  obtain ⟨k1, k2⟩ := Bool.and_eq_true_iff.mp hk
  rcases ho with ⟨rfl, l, rfl, h1, h2⟩ | ⟨rfl, l, rfl, h1, h2⟩
  · have hf : flatK y = true := by cases y <;> first | rfl | cases k1 | cases k2
    obtain ⟨q, e1, e2⟩ := key_flat hf r
    subst e1 e2
    refine ⟨valV l q, DGet.k hp, ?_⟩
    rcases look_rep ksD sameK q h1 h2 with ⟨e1, e2⟩ | ⟨d, v, e1, e2, e3⟩
    · exact .inl ⟨e1, e2⟩
    · exact .inr ⟨d, v, e1, e2, e3⟩
  · cases y with
    | tup ds =>
      obtain ⟨b, vs, rfl, r1, r2⟩ := rep_tup.mp r
      obtain ⟨qs, e1, e2⟩ := key_flats (show ds.all flatK = true from k1) r2
      subst e1 e2
      refine ⟨valV l qs, DGet.t hp (hs _ _ r1), ?_⟩
      rcases look_rep (fun q : List Key => D.tup (q.map ksD)) sameT qs h1 h2 with ⟨e1, e2⟩ | ⟨d, v, e1, e2, e3⟩
      · exact .inl ⟨e1, e2⟩
      · exact .inr ⟨d, v, e1, e2, e3⟩
    | int i => cases k2
    | str i => cases k2
    | _ => cases k1
end
end Fj

/-! ## Lay6 -/
namespace Fj
open PySem PySem.Spec PyProof.Rows L2
section
variable {X : Cx} {T : Tb} {W : WX} {k : Nat} {ρ : List C} {a b c e : Expr} {es rest : List Expr} {da db : R D} {ca cb : R Bool} {pos p p2 : Pos} {m : Md} {x : Str}
/-! ### a[b] of whatever -/
def rIxDc : R2 := fun x y H Q => ∃ a v, x = .ref a ∧ DGet H a y (some v) ∧ Q v H
theorem ix_dict (hu : X.A.units + 1 < cLine) : IxR X rIxDc := by
  intro value slice pins s σ H x y v u Q I rx ry h hs
  obtain ⟨a, z, rfl, g, q⟩ := h
  obtain rfl : v = Value.ref a := rx
  exact tail_any (ops := [.ref a, u]) (dict_typeIs I g) PySem.F.slot_dict_getitem.lookup (d_getItem hu I g ry fun w' s3 I3 rw' => ⟨z, H, I3, rw', q⟩) hs
theorem rep_key {K : PySem.W.Frag} {P H H0 : Hp} {y : D} {w : V} {t : Nat} (hk : kindOk y t = true) (r : RepM K T .B H0 P H y w) : Rep K T P y w := by
  rcases r with r | ⟨_, _, _, _, _, h⟩
  · exact r
  · cases y <;> first | exact h.elim | (simp [kindOk, keyOk] at hk)
theorem units1 (g : Gd X k) : X.A.units + 1 < cLine := by have := g.room.un; omega
theorem units65 (g : Gd X k) : X.A.units + 65 < cLine := by have := g.room.un; omega
theorem ev_ix (g : Gd X k) (ha : Ev X T W .B ρ a da) (hb : Ev X T W .B ρ b db) (hs : PlainIx b) : Ev X T W .P ρ (.Subscript a b pos) (op2 idxR da db) := fun P H σ Q S q => by
  refine wpE_of (pe_ix ((ix_seq (X := X)).or (ix_dict (units1 g))) pw pw hs) ?_
  refine ev_bind ha S q fun x v P1 H1 e1 S1 r1 q1 => ?_
  refine ev_bind hb S1 q1 fun y w P2 H2 e2 S2 r2 q2 => ?_
  have r1' := r1.to e2 (by simp)
  unfold idxR at q2
  split at q2
  · rename_i t kvs
    obtain ⟨p, o, rfl, h1, h2⟩ := B_dct S2.sub r1'
    have q2 : Post X.K T W .P P2 H2 σ (if kindOk y t then ofO (lookD y kvs) else .bad) Q := q2
    split at q2
    · rename_i hk
      obtain ⟨ov, g1, g2⟩ := dget_of S2.sub hk h1 h2 (rep_key hk r2)
      rcases g2 with ⟨e3, e4⟩ | ⟨d, v, e3, e4, e5⟩
      · rw [e3] at q2; exact q2.elim
      · rw [e3] at q2
        subst e4
        exact .inr ⟨p, v, rfl, g1, q2 v P2 H2 (Ext.refl S2.sub) e5⟩
    · exact q2.elim
  · exact .inl (idx0_of S2.sub r1' r2 q2)
/-! ### in -/
def rInTup (K : PySem.W.Frag) (neg : Bool) : R2 := fun x y H Q => ∃ d ds, Dp K H x d ∧ Dp K H y (.tuple ds) ∧ SeqAt.shaped d = true ∧ SeqAt.shaped (.tuple ds) = true ∧ Q (.bl (if neg then !ds.any fun z => PyData.eqv z d else ds.any fun z => PyData.eqv z d)) H
theorem op_inTup (hu : X.A.units + 65 < cLine) : OpR X (compareOp .In) (rInTup X.K false) := by
  intro pins s σ H x y v u Q I rx ry h
  obtain ⟨d, ds, hd, he, sd, se, q⟩ := h
  obtain ⟨as, r1⟩ := Dp.reads I d x v hd rx
  obtain ⟨bs, r2⟩ := Dp.reads I (.tuple ds) y u he ry
  exact SeqAt.in_tuple_reads r2 r1 (SeqAt.canLay_of_shaped se) (SeqAt.canLay_of_shaped sd) (room_in_shaped sd hu) ⟨.bl _, H, I, rfl, q⟩
theorem op_notInTup (hu : X.A.units + 65 < cLine) : OpR X (compareOp .NotIn) (rInTup X.K true) := by
  intro pins s σ H x y v u Q I rx ry h
  obtain ⟨d, ds, hd, he, sd, se, q⟩ := h
  obtain ⟨as, r1⟩ := Dp.reads I d x v hd rx
  obtain ⟨bs, r2⟩ := Dp.reads I (.tuple ds) y u he ry
  exact SeqAt.notIn_tuple_reads r2 r1 (SeqAt.canLay_of_shaped se) (SeqAt.canLay_of_shaped sd) (room_in_shaped sd hu) ⟨.bl _, H, I, rfl, q⟩
def rInDc (neg : Bool) : R2 := fun y x H Q => ∃ a o, x = .ref a ∧ DGet H a y o ∧ Q (.bl (if neg then !o.isSome else o.isSome)) H
theorem op_inDc (hu : X.A.units + 1 < cLine) : OpR X (compareOp .In) (rInDc false) := by
  intro pins s σ H y x u v Q I ry rx h
  obtain ⟨a, o, rfl, g, q⟩ := h
  obtain rfl : v = Value.ref a := rx
  exact d_in hu I g ry fun s3 I3 => ⟨.bl o.isSome, H, I3, rfl, q⟩
theorem op_notInDc (hu : X.A.units + 1 < cLine) : OpR X (compareOp .NotIn) (rInDc true) := by
  intro pins s σ H y x u v Q I ry rx h
  obtain ⟨a, o, rfl, g, q⟩ := h
  obtain rfl : v = Value.ref a := rx
  exact d_notIn hu I g ry fun s3 I3 => ⟨.bl (!o.isSome), H, I3, rfl, q⟩
def rInQ (K : PySem.W.Frag) : R2 := fun x y H Q => rInD K x y H Q ∨ (rInTup K false x y H Q ∨ rInDc false x y H Q)
def rNotInQ (K : PySem.W.Frag) : R2 := fun x y H Q => rNotInD K x y H Q ∨ (rInTup K true x y H Q ∨ rInDc true x y H Q)
theorem op_inQ (g : Gd X k) : OpR X (compareOp .In) (rInQ X.K) := (op_inD (units65 g)).or ((op_inTup (units65 g)).or (op_inDc (units1 g)))
theorem op_notInQ (g : Gd X k) : OpR X (compareOp .NotIn) (rNotInQ X.K) := (op_notInD (units65 g)).or ((op_notInTup (units65 g)).or (op_notInDc (units1 g)))
theorem any_eqv {d : D} (hd : plainD d = true) : ∀ {ds : List D}, plainDs ds = true → ((toPys ds).any fun z => PyData.eqv z (toPy d)) = ds.any fun y => eqD y d
  | [], _ => rfl
  | y :: ds, h => by
    have h' : plainD y = true ∧ plainDs ds = true := by simpa [plainDs] using h
    simp only [toPys, List.any_cons]
    rw [eqv_of y d h'.1 hd, any_eqv hd h'.2]
theorem does_in : DoesC X T (rInQ X.K) inR := fun P H x y v w Q hs rx ry h he => by
  obtain ⟨t, ht⟩ := he
  have h := h t ht P H (Ext.refl hs)
  unfold inR at ht
  split at ht
  · split at ht
    · rename_i xs hc
      obtain ⟨h1, h2⟩ := Bool.and_eq_true_iff.mp hc
      have p2 := fit_plain h2
      cases ht
      refine .inl ⟨toPy x, toPys xs, dpB_of hs (fit_plain h1) rx, dpB_of hs p2 ry, fit_shaped h1, fit_shaped h2, ?_⟩
      rw [any_eqv (fit_plain h1) (by simpa [plainD] using p2)]
      exact h
    · cases ht
  · split at ht
    · rename_i xs hc
      obtain ⟨h1, h2⟩ := Bool.and_eq_true_iff.mp hc
      have p2 := fit_plain h2
      cases ht
      refine .inr (.inl ⟨toPy x, toPys xs, dpB_of hs (fit_plain h1) rx, dpB_of hs p2 ry, fit_shaped h1, fit_shaped h2, ?_⟩)
      rw [any_eqv (fit_plain h1) (by simpa [plainD] using p2)]
      exact h
    · cases ht
  · split at ht
    · rename_i t0 kvs hk
      cases ht
      obtain ⟨p, o, rfl, h1, h2⟩ := B_dct hs ry
      obtain ⟨ov, g1, g2⟩ := dget_of hs hk h1 h2 (rep_key hk rx)
      refine .inr (.inr ⟨p, ov, rfl, g1, ?_⟩)
      rcases g2 with ⟨e3, e4⟩ | ⟨d, v, e3, e4, e5⟩
      · rw [e3] at h; subst e4; exact h
      · rw [e3] at h; subst e4; exact h
    · cases ht
  · cases ht
theorem does_notIn : DoesC X T (rNotInQ X.K) notInR := fun P H x y v w Q hs rx ry h he => by
  obtain ⟨t, ht⟩ := he
  have h := h t ht P H (Ext.refl hs)
  unfold notInR at ht
  cases hi : inR x y with
  | ex z => rw [hi] at ht; cases ht
  | bad => rw [hi] at ht; cases ht
  | ok u =>
  rw [hi] at ht
  cases ht
  unfold inR at hi
  split at hi
  · split at hi
    · rename_i xs hc
      obtain ⟨h1, h2⟩ := Bool.and_eq_true_iff.mp hc
      have p2 := fit_plain h2
      cases hi
      refine .inl ⟨toPy x, toPys xs, dpB_of hs (fit_plain h1) rx, dpB_of hs p2 ry, fit_shaped h1, fit_shaped h2, ?_⟩
      rw [any_eqv (fit_plain h1) (by simpa [plainD] using p2)]
      exact h
    · cases hi
  · split at hi
    · rename_i xs hc
      obtain ⟨h1, h2⟩ := Bool.and_eq_true_iff.mp hc
      have p2 := fit_plain h2
      cases hi
      refine .inr (.inl ⟨toPy x, toPys xs, dpB_of hs (fit_plain h1) rx, dpB_of hs p2 ry, fit_shaped h1, fit_shaped h2, ?_⟩)
      rw [any_eqv (fit_plain h1) (by simpa [plainD] using p2)]
      exact h
    · cases hi
  · split at hi
    · rename_i t0 kvs hk
      cases hi
      obtain ⟨p, o, rfl, h1, h2⟩ := B_dct hs ry
      obtain ⟨ov, g1, g2⟩ := dget_of hs hk h1 h2 (rep_key hk rx)
      refine .inr (.inr ⟨p, ov, rfl, g1, ?_⟩)
      rcases g2 with ⟨e3, e4⟩ | ⟨d, v, e3, e4, e5⟩
      · rw [e3] at h; subst e4; exact h
      · rw [e3] at h; subst e4; exact h
    · cases hi
  · cases hi
theorem nx_in (x y e : D) : inR x y ≠ .ex e := by unfold inR; split <;> (try split) <;> simp
theorem nx_notIn (x y e : D) : notInR x y ≠ .ex e := by
  unfold notInR
  cases h : inR x y with
  | ok b => simp
  | ex z => exact absurd h (nx_in x y z)
  | bad => simp

/-! ### cuts -/
def PoX (X : Cx) (T : Tb) (W : WX) (ρ : List C) : Option Expr → Option (R D) → Prop
  | none, none => True
  | some e, some d => Ev X T W .B ρ e d
  | _, _ => False
theorem op_cut : SlR X (fun x lo hi H Q => rSlL X.K x lo hi H Q ∨ (rSlA X.K x lo hi H Q ∨ (fun x lo hi H Q => ∃ z, x = .str z ∧ z.length ≤ sizeLine ∧ Q (.str (cutS z lo hi)) H) x lo hi H Q)) := sl_list.or (sl_tupA.or sl_str)
theorem cutL_all {α : Type} {xs : List α} {lo hi : Option Int} (h : HT.sIx xs.length 0 lo = 0 ∧ HT.sIx xs.length xs.length hi = xs.length) : cutL xs lo hi = xs := by
  show (xs.drop (HT.sIx xs.length 0 lo)).take (HT.sIx xs.length xs.length hi - HT.sIx xs.length 0 lo) = xs
  rw [h.1, h.2]
  simp
theorem cutV_rep {K : PySem.W.Frag} {P : Hp} {ds : List D} {vs : List V} (r : RepAll K T P ds vs) (lo hi : Option Int) : RepAll K T P (cutL ds lo hi) (cutV vs lo hi) := by
  show RepAll K T P ((ds.drop (HT.sIx ds.length 0 lo)).take (HT.sIx ds.length ds.length hi - HT.sIx ds.length 0 lo)) ((vs.drop (HT.sIx vs.length 0 lo)).take (HT.sIx vs.length vs.length hi - HT.sIx vs.length 0 lo))
  rw [r.length]
  exact (r.drop _).take _
theorem cut_of {P H H0 : Hp} {σ : L2.St} {Q : VK} {x : D} {v : V} {lo hi : Option Int} (hs : Same P H) (r : RepM X.K T .B H0 P H x v) (q : Post X.K T W .F P H σ (cutI x lo hi) Q) :
    rSlL X.K v lo hi H Q ∨ (rSlA X.K v lo hi H Q ∨ (fun x lo hi H Q => ∃ z, x = .str z ∧ z.length ≤ sizeLine ∧ Q (.str (cutS z lo hi)) H) v lo hi H Q) := by
  unfold cutI at q
  split at q
  · obtain ⟨a, vs, rfl, h1, h2⟩ := B_lst hs r
    exact .inl ⟨a, vs, rfl, SqL.of h1, fun p hp => postL hs (cutV_rep h2 lo hi) hp q⟩
  · obtain ⟨a, vs, rfl, h1, h1', h2⟩ := B_tup hs r
    rename_i xs
    refine .inr (.inl ⟨a, vs, rfl, SqT.of h1', fun hw => ?_, fun hw p hp => postU hs (cutV_rep h2 lo hi) hp q⟩)
    rw [h2.length] at hw
    refine postR hs rfl ?_ q
    rw [cutL_all hw]
    exact rep_tup.mpr ⟨a, vs, rfl, h1, h2⟩
  · obtain ⟨a, rfl, h1⟩ := B_scr hs r
    rename_i ns
    refine .inl ⟨a, _, rfl, h1, fun p hp => postL hs ?_ hp q⟩
    have e : cutV (ns.map V.int) lo hi = (cutL ns lo hi).map V.int := by
      show ((ns.map V.int).drop (HT.sIx (ns.map V.int).length 0 lo)).take (HT.sIx (ns.map V.int).length (ns.map V.int).length hi - HT.sIx (ns.map V.int).length 0 lo) = ((ns.drop (HT.sIx ns.length 0 lo)).take (HT.sIx ns.length ns.length hi - HT.sIx ns.length 0 lo)).map V.int
      rw [List.length_map, List.map_take, List.map_drop]
    rw [e]
    exact repAll_ints _
  · split at q
    · rename_i s hl
      obtain rfl := B_str r
      refine .inr (.inr ⟨_, rfl, by rw [str_len]; exact most_le hl, ?_⟩)
      have e : cutS ⟨s.toArray⟩ lo hi = ⟨(cutL s lo hi).toArray⟩ := by
        show (⟨((s.toArray.toList.drop (HT.sIx (Str.length ⟨s.toArray⟩) 0 lo)).take (HT.sIx (Str.length ⟨s.toArray⟩) (Str.length ⟨s.toArray⟩) hi - HT.sIx (Str.length ⟨s.toArray⟩) 0 lo)).toArray⟩ : Str) = _
        rw [str_len]
        rfl
      rw [e]
      exact postS hs q
    · exact q.elim
  · exact q.elim
theorem bound_int {P H H0 : Hp} {σ : L2.St} {Q : VK} {f : Option Int → R D} {d : D} {w : V} (r : RepM X.K T .B H0 P H d w) (q : Post X.K T W .F P H σ ((boundR (some d)).bind f) Q) : ∃ i, w = .int i ∧ Post X.K T W .F P H σ (f (some i)) Q := by
  cases d with
  | int i => exact ⟨i, B_int r, q⟩
  | _ => exact q.elim
theorem ev_cut {lo hi : Option Expr} {dl dh : Option (R D)} {sp : Pos} (ha : Ev X T W .B ρ a da) (hl : PoX X T W ρ lo dl) (hh : PoX X T W ρ hi dh) : Ev X T W .F ρ (.Subscript a (.Slice lo hi none sp) pos) (cutE da dl dh) := fun P H σ Q S q => by
  unfold cutE at q
  cases lo with
  | none =>
    cases dl with
    | some _ => exact hl.elim
    | none =>
      cases hi with
      | none =>
        cases dh with
        | some _ => exact hh.elim
        | none =>
          refine wpE_of (pe_slice op_cut pw po_none po_none) ?_
          refine ev_bind ha S q fun x v P1 H1 e1 S1 r1 q1 => ?_
          exact cut_of S1.sub r1 q1
      | some h =>
        cases dh with
        | none => exact hh.elim
        | some dh =>
          refine wpE_of (pe_slice op_cut pw po_none (po_some pw)) ?_
          refine ev_bind ha S q fun x v P1 H1 e1 S1 r1 q1 => ?_
          have q1' : Post X.K T W .F P1 H1 σ (dh.bind fun y => (boundR (some y)).bind fun h => cutI x none h) Q := by cases dh <;> exact q1
          refine ev_bind (show Ev X T W .B ρ h dh from hh) S1 q1' fun y w P2 H2 e2 S2 r2 q2 => ?_
          obtain ⟨i, e, q3⟩ := bound_int r2 q2
          exact ⟨i, e, cut_of S2.sub (r1.to e2 (by simp)) q3⟩
  | some l =>
    cases dl with
    | none => exact hl.elim
    | some dl =>
      cases hi with
      | none =>
        cases dh with
        | some _ => exact hh.elim
        | none =>
          refine wpE_of (pe_slice op_cut pw (po_some pw) po_none) ?_
          refine ev_bind ha S q fun x v P1 H1 e1 S1 r1 q1 => ?_
          have q1' : Post X.K T W .F P1 H1 σ (dl.bind fun y => (boundR (some y)).bind fun l => cutI x l none) Q := by cases dl <;> exact q1
          refine ev_bind (show Ev X T W .B ρ l dl from hl) S1 q1' fun y w P2 H2 e2 S2 r2 q2 => ?_
          obtain ⟨i, e, q3⟩ := bound_int (f := fun l => cutI x l none) r2 q2
          exact ⟨i, e, cut_of S2.sub (r1.to e2 (by simp)) q3⟩
      | some h =>
        cases dh with
        | none => exact hh.elim
        | some dh =>
          refine wpE_of (pe_slice op_cut pw (po_some pw) (po_some pw)) ?_
          refine ev_bind ha S q fun x v P1 H1 e1 S1 r1 q1 => ?_
          have q1' : Post X.K T W .F P1 H1 σ (dl.bind fun y => (boundR (some y)).bind fun l => ((optR (some dh)).bind boundR).bind fun h => cutI x l h) Q := by cases dl <;> exact q1
          refine ev_bind (show Ev X T W .B ρ l dl from hl) S1 q1' fun y w P2 H2 e2 S2 r2 q2 => ?_
          obtain ⟨i, e, q3⟩ := bound_int (f := fun l => ((optR (some dh)).bind boundR).bind fun h => cutI x l h) r2 q2
          refine ⟨i, e, ?_⟩
          have q3' : Post X.K T W .F P2 H2 σ (dh.bind fun z => (boundR (some z)).bind fun h => cutI x (some i) h) Q := by cases dh <;> exact q3
          refine ev_bind (show Ev X T W .B ρ h dh from hh) S2 q3' fun z u P3 H3 e3 S3 r3 q4 => ?_
          obtain ⟨j, e', q5⟩ := bound_int (f := fun h => cutI x (some i) h) r3 q4
          exact ⟨j, e', cut_of S3.sub ((r1.to e2 (by simp)).to e3 (by simp)) q5⟩
end
end Fj

/-! ## Lay7 -/
namespace Fj
open PySem PySem.Spec PyProof.Rows L2
section
variable {X : Cx} {T : Tb} {W : WX} {k : Nat} {ρ : List C} {a b c e : Expr} {es rest : List Expr} {da db : R D} {ca cb : R Bool} {pos p p2 p3 : Pos} {m : Md} {x : Str}
/-! ### calls of built-ins -/
def Does1 (X : Cx) (T : Tb) (W : WX) (r : List V → Hp → VK → Prop) (f : D → R D) : Prop := ∀ P H σ y v Q, Same P H → RepM X.K T .B H P H y v → Post X.K T W .F P H σ (f y) Q → r [v] H Q
def DoesA (X : Cx) (T : Tb) (W : WX) (r : List V → Hp → VK → Prop) (f : D → D → R D) : Prop := ∀ P H σ y z v w Q, Same P H → RepM X.K T .B H P H y v → RepM X.K T .B H P H z w → Post X.K T W .F P H σ (f y z) Q → r [v, w] H Q
theorem ev_b1 {id : String} {r : List V → Hp → VK → Prop} {f : D → R D} (hc : CallR X (.builtin id) r) (hf : Does1 X T W r f) (hg : Gl X x) (hm : X.mg x = none) (hv : bootBuiltins x = some (.builtin id)) (ha : Ev X T W .B ρ a da)
    (hs : starEach [a] X.env = (false, eval a X.env) :: starEach [] X.env) (hn : x ≠ "__name__") (hdb : (x == ("__debug__" : Str)) = false) : Ev X T W .F ρ (.Call (.Name x p) [a] [] pos) (op1 f da) := fun P H σ Q S q => by
  refine wpE_of (pe_callB hc hg hm hv (pa_cons pw pa_nil hs) hn hdb hs rfl) ?_
  refine ev_bind ha S q fun y v P1 H1 e1 S1 r1 q1 => ?_
  exact hf P1 H1 σ y v Q S1.sub r1 q1
theorem ev_b2 {id : String} {r : List V → Hp → VK → Prop} {f : D → D → R D} (hc : CallR X (.builtin id) r) (hf : DoesA X T W r f) (hg : Gl X x) (hm : X.mg x = none) (hv : bootBuiltins x = some (.builtin id)) (ha : Ev X T W .B ρ a da) (hb : Ev X T W .B ρ b db)
    (hs : starEach [a, b] X.env = (false, eval a X.env) :: starEach [b] X.env) (hs' : starEach [b] X.env = (false, eval b X.env) :: starEach [] X.env) (hn : x ≠ "__name__") (hdb : (x == ("__debug__" : Str)) = false) (hp : (backTo pos (starEach [b] X.env)).any (·.1) = false) : Ev X T W .F ρ (.Call (.Name x p) [a, b] [] pos) (op2 f da db) := fun P H σ Q S q => by
  refine wpE_of (pe_callB hc hg hm hv (pa_cons pw (pa_cons pw pa_nil hs') hs) hn hdb hs hp) ?_
  refine ev_bind ha S q fun y v P1 H1 e1 S1 r1 q1 => ?_
  refine ev_bind hb S1 q1 fun z w P2 H2 e2 S2 r2 q2 => ?_
  exact hf P2 H2 σ y z v w Q S2.sub (r1.to e2 (by simp)) r2 q2
theorem ev_t1 {id : String} {r : List V → Hp → VK → Prop} {f : D → R D} (hc : CallR X (.type id) r) (hf : Does1 X T W r f) (hg : Gl X x) (hm : X.mg x = none) (hv : bootBuiltins x = some (.type id)) (ha : Ev X T W .B ρ a da)
    (hs : starEach [a] X.env = (false, eval a X.env) :: starEach [] X.env) (hn : x ≠ "__name__") (hdb : (x == ("__debug__" : Str)) = false) : Ev X T W .F ρ (.Call (.Name x p) [a] [] pos) (op1 f da) := fun P H σ Q S q => by
  refine wpE_of (pe_callTy hc hg hm hv (pa_cons pw pa_nil hs) hn hdb hs rfl) ?_
  refine ev_bind ha S q fun y v P1 H1 e1 S1 r1 q1 => ?_
  exact hf P1 H1 σ y v Q S1.sub r1 q1
/-! ### len, list, tuple, int, max, min, sum, all, any -/
theorem call_lenQ : CallR X (.builtin "len") (fun xs H Q => (fun xs H Q => ∃ x n, xs = [x] ∧ LenV X.K x H n ∧ Q (.int n) H) xs H Q ∨ ((fun xs H Q => ∃ a kvs, xs = [V.ref a] ∧ H a = some (.dK kvs) ∧ Q (.int kvs.length) H) xs H Q ∨ rLenT xs H Q)) := call_len.or (call_lenD.or call_len_dT)
theorem does_len : Does1 X T W (fun xs H Q => (fun xs H Q => ∃ x n, xs = [x] ∧ LenV X.K x H n ∧ Q (.int n) H) xs H Q ∨ ((fun xs H Q => ∃ a kvs, xs = [V.ref a] ∧ H a = some (.dK kvs) ∧ Q (.int kvs.length) H) xs H Q ∨ rLenT xs H Q)) lenR := fun P H σ y v Q hs r q => by
  unfold lenR at q
  split at q
  · obtain ⟨a, vs, rfl, h1, h2⟩ := B_lst hs r
    refine .inl ⟨_, vs.length, rfl, .inl ⟨vs, SqL.of h1, rfl⟩, ?_⟩
    rw [h2.length]
    exact postI hs q
  · obtain ⟨a, vs, rfl, h1, h1', h2⟩ := B_tup hs r
    refine .inl ⟨_, vs.length, rfl, .inr ⟨vs, SqT.of h1', rfl⟩, ?_⟩
    rw [h2.length]
    exact postI hs q
  · obtain ⟨a, rfl, h1⟩ := B_scr hs r
    rename_i ns
    refine .inl ⟨_, ns.length, rfl, .inl ⟨_, h1, by rw [List.length_map]⟩, postI hs q⟩
  · split at q
    · rename_i s hl
      obtain rfl := B_str r
      refine .inl ⟨_, s.length, rfl, ⟨by rw [str_len]; exact most_le hl, (str_len s).symm⟩, postI hs q⟩
    · exact q.elim
  · rename_i t kvs
    obtain ⟨p, o, rfl, h1, h2⟩ := B_dct hs r
    rcases h2 with ⟨_, l, rfl, h3, _⟩ | ⟨_, l, rfl, h3, _⟩
    · have e : kvs.length = l.length := by have := congrArg List.length h3; simpa using this
      exact .inr (.inl ⟨p, l, rfl, h1, by rw [← e]; exact postI hs q⟩)
    · have e : kvs.length = l.length := by have := congrArg List.length h3; simpa using this
      exact .inr (.inr ⟨p, l, rfl, h1, by rw [← e]; exact postI hs q⟩)
  · exact q.elim
theorem does_list : Does1 X T W (fun xs H Q => ∃ p ys, xs = [.ref p] ∧ (SqL X.K H p ys ∨ SqT X.K H p ys) ∧ ∀ l, H l = none → Q (.ref l) (upd H l (.lst ys))) listR := fun P H σ y v Q hs r q => by
  cases y with
  | lst xs =>
    obtain ⟨a, vs, rfl, h1, h2⟩ := B_lst hs r
    exact ⟨a, vs, rfl, .inl (SqL.of h1), fun l hl => postL hs h2 hl q⟩
  | tup xs =>
    obtain ⟨a, vs, rfl, h1, h1', h2⟩ := B_tup hs r
    exact ⟨a, vs, rfl, .inr (SqT.of h1'), fun l hl => postL hs h2 hl q⟩
  | _ => exact q.elim
theorem does_tuple : Does1 X T W (fun xs H Q => ∃ p ys, xs = [.ref p] ∧ ((SqL X.K H p ys ∧ ∀ l, H l = none → Q (.ref l) (upd H l (.tup ys))) ∨ (SqT X.K H p ys ∧ Q (.ref p) H))) tupleR := fun P H σ y v Q hs r q => by
  cases y with
  | lst xs =>
    obtain ⟨a, vs, rfl, h1, h2⟩ := B_lst hs r
    exact ⟨a, vs, rfl, .inl ⟨SqL.of h1, fun l hl => postU hs h2 hl q⟩⟩
  | tup xs =>
    obtain ⟨a, vs, rfl, h1, h1', h2⟩ := B_tup hs r
    exact ⟨a, vs, rfl, .inr ⟨SqT.of h1', postR hs rfl (rep_tup.mpr ⟨a, vs, rfl, h1, h2⟩) q⟩⟩
  | _ => exact q.elim
theorem does_int : Does1 X T W (fun xs H Q => (∃ i, xs = [.int i] ∧ Q (.int i) H) ∨ ∃ k, xs = [.bl k] ∧ Q (.int (if k then 1 else 0)) H) intR := fun P H σ y v Q hs r q => by
  cases y with
  | int i => rw [B_int r]; exact .inl ⟨i, rfl, postI hs q⟩
  | bl i => rw [B_bl r]; exact .inr ⟨i, rfl, postI hs q⟩
  | _ => exact q.elim
theorem does_max2 : DoesA X T W (fun xs H Q => ∃ i j, xs = [.int i, .int j] ∧ Q (.int (if j > i then j else i)) H) max2R := fun P H σ y z v w Q hs r r' q => by
  unfold max2R at q
  split at q
  · rw [B_int r, B_int r']; exact ⟨_, _, rfl, postI hs q⟩
  · exact q.elim
theorem does_min2 : DoesA X T W (fun xs H Q => ∃ i j, xs = [.int i, .int j] ∧ Q (.int (if j < i then j else i)) H) min2R := fun P H σ y z v w Q hs r r' q => by
  unfold min2R at q
  split at q
  · rw [B_int r, B_int r']; exact ⟨_, _, rfl, postI hs q⟩
  · exact q.elim
theorem does_sum : Does1 X T W (rSum X.K) sumR := fun P H σ y v Q hs r q => by
  unfold sumR at q
  split at q
  · rename_i xs
    obtain ⟨a, vs, rfl, h1, h2⟩ := B_lst hs r
    cases e : intsD xs with
    | none => rw [e] at q; exact q.elim
    | some ns =>
      rw [e] at q
      rw [repAll_intsD e h2] at h1
      exact ⟨a, ns, rfl, SqL.of h1, postI hs q⟩
  · exact q.elim
theorem minI_le : ∀ {ns : List Int} {y : Int}, y ∈ ns → minI ns ≤ y
  | [x], y, h => by rw [List.mem_singleton.mp h]; exact Int.le_refl _
  | x :: z :: r, y, h => by
    unfold minI
    rcases List.mem_cons.mp h with rfl | h
    · omega
    · have := minI_le (ns := z :: r) h; omega
theorem minI_mem : ∀ {ns : List Int}, ns ≠ [] → minI ns ∈ ns
  | [x], _ => by simp [minI]
  | x :: z :: r, _ => by
    have := minI_mem (ns := z :: r) (by simp)
    unfold minI
    by_cases h : x ≤ minI (z :: r)
    · rw [show min x (minI (z :: r)) = x by omega]; simp
    · rw [show min x (minI (z :: r)) = minI (z :: r) by omega]; exact List.mem_cons_of_mem _ this
theorem maxI_le : ∀ {ns : List Int} {y : Int}, y ∈ ns → y ≤ maxI ns
  | [x], y, h => by rw [List.mem_singleton.mp h]; exact Int.le_refl _
  | x :: z :: r, y, h => by
    unfold maxI
    rcases List.mem_cons.mp h with rfl | h
    · omega
    · have := maxI_le (ns := z :: r) h; omega
theorem maxI_mem : ∀ {ns : List Int}, ns ≠ [] → maxI ns ∈ ns
  | [x], _ => by simp [maxI]
  | x :: z :: r, _ => by
    have := maxI_mem (ns := z :: r) (by simp)
    unfold maxI
    by_cases h : maxI (z :: r) ≤ x
    · rw [show max x (maxI (z :: r)) = x by omega]; simp
    · rw [show max x (maxI (z :: r)) = maxI (z :: r) by omega]; exact List.mem_cons_of_mem _ this
theorem does_min : Does1 X T W (rMin X.K) minR := fun P H σ y v Q hs r q => by
  unfold minR at q
  split at q
  · rename_i xs
    obtain ⟨a, vs, rfl, h1, h2⟩ := B_lst hs r
    cases e : intsD xs with
    | none => rw [e] at q; exact q.elim
    | some ns =>
      rw [e] at q
      rw [repAll_intsD e h2] at h1
      cases ns with
      | nil => exact q.elim
      | cons n ns =>
        refine ⟨a, n :: ns, rfl, SqL.of h1, by simp, fun m hm hl => ?_⟩
        have e1 := minI_le hm
        have e2 := hl _ (minI_mem (ns := n :: ns) (by simp))
        rw [show m = minI (n :: ns) by omega]
        exact postI hs q
  · exact q.elim
theorem does_maxQ : Does1 X T W (rMax X.K) maxR := fun P H σ y v Q hs r q => by
  unfold maxR at q
  split at q
  · rename_i xs
    obtain ⟨a, vs, rfl, h1, h2⟩ := B_lst hs r
    cases e : intsD xs with
    | none => rw [e] at q; exact q.elim
    | some ns =>
      rw [e] at q
      rw [repAll_intsD e h2] at h1
      cases ns with
      | nil => exact q.elim
      | cons n ns =>
        refine ⟨a, n :: ns, rfl, SqL.of h1, by simp, fun m hm hl => ?_⟩
        have e1 := maxI_le hm
        have e2 := hl _ (maxI_mem (ns := n :: ns) (by simp))
        rw [show m = maxI (n :: ns) by omega]
        exact postI hs q
  · exact q.elim
theorem does_all : Does1 X T W (rAll X.K) allQ := fun P H σ y v Q hs r q => by
  unfold allQ at q
  split at q
  · rename_i xs
    obtain ⟨a, vs, rfl, h1, h2⟩ := B_lst hs r
    cases e : blsD xs with
    | none => rw [e] at q; exact q.elim
    | some ns =>
      rw [e] at q
      rw [repAll_blsD e h2] at h1
      exact ⟨a, ns, rfl, SqL.of h1, postB hs q⟩
  · exact q.elim
theorem does_any : Does1 X T W (rAny X.K) anyQ := fun P H σ y v Q hs r q => by
  unfold anyQ at q
  split at q
  · rename_i xs
    obtain ⟨a, vs, rfl, h1, h2⟩ := B_lst hs r
    cases e : blsD xs with
    | none => rw [e] at q; exact q.elim
    | some ns =>
      rw [e] at q
      rw [repAll_blsD e h2] at h1
      exact ⟨a, ns, rfl, SqL.of h1, postB hs q⟩
  · exact q.elim
/-! ### isinstance of a built-in class -/
def tyN : D → String
  | .non => "NoneType"
  | .bl _ => "bool"
  | .int _ => "int"
  | .str _ => "str"
  | .tup _ => "tuple"
  | .lst _ => "list"
  | .dct _ _ => "dict"
  | _ => ""
theorem tyX_of {K : PySem.W.Frag} {P H H0 : Hp} {d : D} {v : V} (hs : Same P H) (ho : isaOk d = true) (r : RepM K T .B H0 P H d v) : TyX K H v (.type (tyN d)) := by
  cases d with
  | non => rw [B_non r]; exact .base .non
  | bl b => rw [B_bl r]; exact .base (.bl b)
  | int b => rw [B_int r]; exact .base (.int b)
  | str s => rw [B_str r]; exact .base (.str _)
  | tup xs => obtain ⟨a, vs, rfl, _, h, _⟩ := B_tup hs r; exact .base (.tup h)
  | lst xs => obtain ⟨a, vs, rfl, h, _⟩ := B_lst hs r; exact .base (.lst h)
  | dct t kvs =>
    obtain ⟨a, o, rfl, h, h2⟩ := B_dct hs r
    rcases h2 with ⟨_, l, rfl, _⟩ | ⟨_, l, rfl, _⟩
    · exact .base (.dK h)
    · exact .base (.dT h)
  | fn _ => cases ho
  | exc _ _ => cases ho
  | scr _ => cases ho
theorem ev_isa {n : String} {q : D → Bool} {y : Str} (hq : ∀ d, isaOk d = true → kitB (tyN d) n = some (q d)) (hg : Gl X "isinstance") (hm : X.mg "isinstance" = none) (hgy : Gl X y) (hmy : X.mg y = none) (hv : bootBuiltins y = some (.type n)) (ha : Ev X T W .B ρ a da)
    (hs : starEach [a, .Name y p2] X.env = (false, eval a X.env) :: starEach [.Name y p2] X.env) (hn : y ≠ "__name__") (hdb : (y == ("__debug__" : Str)) = false) : Ev X T W .F ρ (.Call (.Name "isinstance" p) [a, .Name y p2] [] pos) (blE (op1 (isaR q) da)) := fun P H σ Q S w => by
  refine wpE_of (pe_callB call_isi hg hm boot_isinstance (pa_cons pw (pa_cons (pe_bltn hgy hmy hv (v := .ty n) rfl hn hdb) pa_nil rfl) hs) (by decide) (by decide) hs rfl) ?_
  unfold op1 at w
  rw [blE_bind] at w
  refine ev_bind ha S w fun y v P1 H1 e1 S1 r1 q1 => ?_
  unfold isaR at q1
  split at q1
  · rename_i ho
    exact ⟨v, .ty n, _, _, q y, rfl, .ty n, tyX_of S1.sub ho r1, kit_ty (hq y ho), postB S1.sub q1⟩
  · exact q1.elim
theorem kit_int : ∀ d, isaOk d = true → kitB (tyN d) "int" = some (isInt d)
  | .non, _ => (by decide +kernel : kitB "NoneType" "int" = some false)
  | .bl _, _ => (by decide +kernel : kitB "bool" "int" = some true)
  | .int _, _ => (by decide +kernel : kitB "int" "int" = some true)
  | .str _, _ => (by decide +kernel : kitB "str" "int" = some false)
  | .tup _, _ => (by decide +kernel : kitB "tuple" "int" = some false)
  | .lst _, _ => (by decide +kernel : kitB "list" "int" = some false)
  | .dct _ _, _ => (by decide +kernel : kitB "dict" "int" = some false)
  | .fn _, h => nomatch h
  | .exc _ _, h => nomatch h
  | .scr _, h => nomatch h
theorem kit_bool : ∀ d, isaOk d = true → kitB (tyN d) "bool" = some (isBool d)
  | .non, _ => (by decide +kernel : kitB "NoneType" "bool" = some false)
  | .bl _, _ => (by decide +kernel : kitB "bool" "bool" = some true)
  | .int _, _ => (by decide +kernel : kitB "int" "bool" = some false)
  | .str _, _ => (by decide +kernel : kitB "str" "bool" = some false)
  | .tup _, _ => (by decide +kernel : kitB "tuple" "bool" = some false)
  | .lst _, _ => (by decide +kernel : kitB "list" "bool" = some false)
  | .dct _ _, _ => (by decide +kernel : kitB "dict" "bool" = some false)
  | .fn _, h => nomatch h
  | .exc _ _, h => nomatch h
  | .scr _, h => nomatch h
theorem kit_tuple : ∀ d, isaOk d = true → kitB (tyN d) "tuple" = some (isTuple d)
  | .non, _ => (by decide +kernel : kitB "NoneType" "tuple" = some false)
  | .bl _, _ => (by decide +kernel : kitB "bool" "tuple" = some false)
  | .int _, _ => (by decide +kernel : kitB "int" "tuple" = some false)
  | .str _, _ => (by decide +kernel : kitB "str" "tuple" = some false)
  | .tup _, _ => (by decide +kernel : kitB "tuple" "tuple" = some true)
  | .lst _, _ => (by decide +kernel : kitB "list" "tuple" = some false)
  | .dct _ _, _ => (by decide +kernel : kitB "dict" "tuple" = some false)
  | .fn _, h => nomatch h
  | .exc _ _, h => nomatch h
  | .scr _, h => nomatch h
theorem kit_list : ∀ d, isaOk d = true → kitB (tyN d) "list" = some (isList d)
  | .non, _ => (by decide +kernel : kitB "NoneType" "list" = some false)
  | .bl _, _ => (by decide +kernel : kitB "bool" "list" = some false)
  | .int _, _ => (by decide +kernel : kitB "int" "list" = some false)
  | .str _, _ => (by decide +kernel : kitB "str" "list" = some false)
  | .tup _, _ => (by decide +kernel : kitB "tuple" "list" = some false)
  | .lst _, _ => (by decide +kernel : kitB "list" "list" = some true)
  | .dct _ _, _ => (by decide +kernel : kitB "dict" "list" = some false)
  | .fn _, h => nomatch h
  | .exc _ _, h => nomatch h
  | .scr _, h => nomatch h
theorem kit_str : ∀ d, isaOk d = true → kitB (tyN d) "str" = some (isStr d)
  | .non, _ => (by decide +kernel : kitB "NoneType" "str" = some false)
  | .bl _, _ => (by decide +kernel : kitB "bool" "str" = some false)
  | .int _, _ => (by decide +kernel : kitB "int" "str" = some false)
  | .str _, _ => (by decide +kernel : kitB "str" "str" = some true)
  | .tup _, _ => (by decide +kernel : kitB "tuple" "str" = some false)
  | .lst _, _ => (by decide +kernel : kitB "list" "str" = some false)
  | .dct _ _, _ => (by decide +kernel : kitB "dict" "str" = some false)
  | .fn _, h => nomatch h
  | .exc _ _, h => nomatch h
  | .scr _, h => nomatch h
theorem kit_dict : ∀ d, isaOk d = true → kitB (tyN d) "dict" = some (isDict d)
  | .non, _ => (by decide +kernel : kitB "NoneType" "dict" = some false)
  | .bl _, _ => (by decide +kernel : kitB "bool" "dict" = some false)
  | .int _, _ => (by decide +kernel : kitB "int" "dict" = some false)
  | .str _, _ => (by decide +kernel : kitB "str" "dict" = some false)
  | .tup _, _ => (by decide +kernel : kitB "tuple" "dict" = some false)
  | .lst _, _ => (by decide +kernel : kitB "list" "dict" = some false)
  | .dct _ _, _ => (by decide +kernel : kitB "dict" "dict" = some true)
  | .fn _, h => nomatch h
  | .exc _ _, h => nomatch h
  | .scr _, h => nomatch h
/-! ### ranges as arguments -/
theorem rg_rep {K : PySem.W.Frag} {P : Hp} {lo : Int} {n : Nat} : RepAll K T P (upI lo n) ((List.range n).map fun i => V.int (lo + (i : Nat))) := by
  unfold upI
  have : ∀ l : List Nat, RepAll K T P (l.map fun (k : Nat) => D.int (lo + k)) (l.map fun i => V.int (lo + (i : Nat))) := fun l => by
    induction l with
    | nil => exact RepAll.nil
    | cons a r ih => exact RepAll.cons (rep_int.mpr rfl) ih
  exact this _
theorem upI_len (lo : Int) (n : Nat) : (upI lo n).length = n := by simp [upI]
theorem big62_iff {i : Int} (h : big62 i = true) : -(2 ^ 62) ≤ i ∧ i < 2 ^ 62 := by unfold big62 at h; simpa using h
theorem ev_listRg1 (g : Gd X k) (hgl : Gl X "list") (hg : Gl X "range") (ha : Ev X T W .B ρ a da) (hs : starEach [a] X.env = (false, eval a X.env) :: starEach [] X.env) (hs2 : starEach [.Call (.Name "range" p) [a] [] p2] X.env = (false, eval (.Call (.Name "range" p) [a] [] p2) X.env) :: starEach [] X.env) :
    Ev X T W .F ρ (.Call (.Name "list" p3) [.Call (.Name "range" p) [a] [] p2] [] pos) (lstOf (op1 range1R da)) := fun P H σ Q S q => by
  refine wpE_of (pe_listRg g.calm hgl g.bi.list (prg_1 hg g.bi.range pw hs) hs2) ?_
  have q' : Post X.K T W .F P H σ (da.bind fun x => lstOf (range1R x)) Q := by cases da <;> exact q
  refine ev_bind ha S q' fun y v P1 H1 e1 S1 r1 q1 => ?_
  unfold range1R at q1
  split at q1
  · rename_i j
    split at q1
    · rename_i hb
      have q2 : Post X.K T W .F P1 H1 σ (if (upI 0 j.toNat).length ≤ most then .ok (.lst (upI 0 j.toNat)) else .bad) Q := q1
      rw [upI_len] at q2
      split at q2
      · rename_i hl
        have hb' := big62_iff hb
        refine ⟨j, B_int r1, ⟨by omega, by omega, hb'.1, hb'.2, ?_⟩, fun l hl' => ?_⟩
        · rw [Int.sub_zero]; exact Nat.le_trans hl (by decide)
        · have := rg_rep (K := X.K) (T := T) (P := P1) (lo := 0) (n := j.toNat)
          unfold rgV
          rw [Int.sub_zero]
          exact postL S1.sub this hl' q2
      · exact q2.elim
    · exact q1.elim
  · exact q1.elim
theorem ev_tupRg1 (g : Gd X k) (hgl : Gl X "tuple") (hg : Gl X "range") (ha : Ev X T W .B ρ a da) (hs : starEach [a] X.env = (false, eval a X.env) :: starEach [] X.env) (hs2 : starEach [.Call (.Name "range" p) [a] [] p2] X.env = (false, eval (.Call (.Name "range" p) [a] [] p2) X.env) :: starEach [] X.env) :
    Ev X T W .F ρ (.Call (.Name "tuple" p3) [.Call (.Name "range" p) [a] [] p2] [] pos) (tupOf (op1 range1R da)) := fun P H σ Q S q => by
  refine wpE_of (pe_tupRg g.calm hgl g.bi.tuple (prg_1 hg g.bi.range pw hs) hs2) ?_
  have q' : Post X.K T W .F P H σ (da.bind fun x => tupOf (range1R x)) Q := by cases da <;> exact q
  refine ev_bind ha S q' fun y v P1 H1 e1 S1 r1 q1 => ?_
  unfold range1R at q1
  split at q1
  · rename_i j
    split at q1
    · rename_i hb
      have q2 : Post X.K T W .F P1 H1 σ (if (upI 0 j.toNat).length ≤ most then .ok (.tup (upI 0 j.toNat)) else .bad) Q := q1
      rw [upI_len] at q2
      split at q2
      · rename_i hl
        have hb' := big62_iff hb
        refine ⟨j, B_int r1, ⟨by omega, by omega, hb'.1, hb'.2, ?_⟩, fun l hl' => ?_⟩
        · rw [Int.sub_zero]; exact Nat.le_trans hl (by decide)
        · have := rg_rep (K := X.K) (T := T) (P := P1) (lo := 0) (n := j.toNat)
          unfold rgV
          rw [Int.sub_zero]
          exact postU S1.sub this hl' q2
      · exact q2.elim
    · exact q1.elim
  · exact q1.elim
end
end Fj

/-! ## Lay8 -/
namespace Fj
open PySem PySem.Spec PyProof.Rows L2

/-! ### a def's run: what stood at its entry; which slots hold what the caller lent it -/
structure Zn where
  P0 : Hp
  H0 : Hp
  io : List (Nat × Addr)
structure SimZ (K : PySem.W.Frag) (T : Tb) (z : Zn) (P H : Hp) (σ : L2.St) (ρ : List C) : Prop where
  sim : Sim K T P H σ ρ
  frame : ∀ a o, z.H0 a = some o → (∀ p ∈ z.io, p.2 ≠ a) → H a = some o
  pp : Same z.P0 P
  nw : ∀ a, z.H0 a ≠ none → z.P0 a = none → P a = none
  loc : ∀ (i : Nat) (d : D) (a : Addr), ρ[i]? = some (C.own d) → σ[i]? = some (some (.ref a)) → z.H0 a = none ∨ (i, a) ∈ z.io
  ios : ∀ p ∈ z.io, σ[p.1]? = some (some (.ref p.2)) ∧ ∃ d, ρ[p.1]? = some (C.own d)
def FrZ (z : Zn) (H : Hp) : Prop := ∀ a o, z.H0 a = some o → (∀ p ∈ z.io, p.2 ≠ a) → H a = some o
def md (fr : Bool) : Md := if fr then .F else .P
/-- what a def hands back, and what the lent objects hold then -/
structure RetZ (K : PySem.W.Frag) (T : Tb) (fr : Bool) (z : Zn) (P H : Hp) (w : V) (d : D) (os : List D) : Prop where
  sub : Same P H
  frame : FrZ z H
  pp : Same z.P0 P
  nw : ∀ a, z.H0 a ≠ none → z.P0 a = none → P a = none
  rep : RepM K T (md fr) z.H0 P H d w
  outs : Paired (fun (p : Nat × Addr) (x : D) => P p.2 = none ∧ ∃ o, H p.2 = some o ∧ Own K T P x o) z.io os
section
variable {K : PySem.W.Frag} {T : Tb} {z : Zn} {P H P' H' : Hp} {σ : L2.St} {ρ : List C}
theorem SimZ.ext (S : SimZ K T z P H σ ρ) (e : Ext P H P' H') : SimZ K T z P' H' σ ρ := by
  refine ⟨S.sim.ext e, fun a o h1 h2 => e.hh _ _ (S.frame a o h1 h2), S.pp.trans e.pp, fun a h1 h2 => ?_, S.loc, S.ios⟩
  by_cases hio : ∀ p ∈ z.io, p.2 ≠ a
  · refine e.nw a ?_ (S.nw a h1 h2)
    cases q : z.H0 a with
    | none => exact absurd q h1
    | some o => rw [S.frame a o q hio]; simp
  · have : ∃ p, p ∈ z.io ∧ p.2 = a := Classical.byContradiction fun n => hio fun p hp he => n ⟨p, hp, he⟩
    obtain ⟨p, hp, rfl⟩ := this
    obtain ⟨h3, d, h4⟩ := S.ios p hp
    obtain ⟨v, h5, a', o, h6, h7, h8, h9⟩ := cell_at S.sim h4
    rw [h3] at h5
    cases h5
    cases h6
    exact e.nw _ (by rw [h8]; simp) h7
/-- a value stored in a slot of the def's own -/
theorem SimZ.set (S : SimZ K T z P H σ ρ) {i : Nat} {w : V} {d : D} (hi : ∀ p ∈ z.io, p.1 ≠ i) (r : Rep K T P d w) : SimZ K T z P H (σ.set i (some w)) (ρ.set i (.val d)) := by
  refine ⟨⟨S.sim.sub, by simpa using S.sim.len, fun j c v h1 h2 => ?_, fun j l d' e' a h1 h2 h3 h4 => ?_⟩, S.frame, S.pp, S.nw, fun j d' a h1 h2 => ?_, fun p hp => ?_⟩
  · by_cases q : i = j
    · subst q
      have hl : i < ρ.length := by
        have := (List.getElem?_eq_some_iff.mp h1).1
        simpa using this
      rw [List.getElem?_set_self hl] at h1
      rw [List.getElem?_set_self (by rw [← S.sim.len]; exact hl)] at h2
      cases h1; cases h2
      exact ⟨w, rfl, r⟩
    · rw [List.getElem?_set_ne q] at h1 h2
      exact S.sim.cell j c v h1 h2
  · have q1 : i ≠ j := fun q => by
      subst q
      have hl : i < ρ.length := by have := (List.getElem?_eq_some_iff.mp h1).1; simpa using this
      rw [List.getElem?_set_self hl] at h1; cases h1
    have q2 : i ≠ l := fun q => by
      subst q
      have hl : i < ρ.length := by have := (List.getElem?_eq_some_iff.mp h2).1; simpa using this
      rw [List.getElem?_set_self hl] at h2; cases h2
    rw [List.getElem?_set_ne q1] at h1 h3
    rw [List.getElem?_set_ne q2] at h2 h4
    exact S.sim.apart j l d' e' a h1 h2 h3 h4
  · have q1 : i ≠ j := fun q => by
      subst q
      have hl : i < ρ.length := by have := (List.getElem?_eq_some_iff.mp h1).1; simpa using this
      rw [List.getElem?_set_self hl] at h1; cases h1
    rw [List.getElem?_set_ne q1] at h1 h2
    exact S.loc j d' a h1 h2
  · have q := hi p hp
    rw [List.getElem?_set_ne (Ne.symm q), List.getElem?_set_ne (Ne.symm q)]
    exact S.ios p hp
/-- a new object of the def's own stored in a slot -/
theorem SimZ.setOwn (S : SimZ K T z P H σ ρ) {i : Nat} {a : Addr} {o : HO} {d : D} (hi : ∀ p ∈ z.io, p.1 ≠ i) (hP : P a = none) (hH : H a = some o) (ho : Own K T P d o) (hz : z.H0 a = none)
    (hn : ∀ (j : Nat) (e : D), j ≠ i → ρ[j]? = some (C.own e) → σ[j]? ≠ some (some (.ref a))) : SimZ K T z P H (σ.set i (some (.ref a))) (ρ.set i (.own d)) := by
  have at_i : ∀ {j : Nat} {c : C} {v : Option V}, (ρ.set i (.own d))[j]? = some c → (σ.set i (some (.ref a)))[j]? = some v → j = i → c = .own d ∧ v = some (.ref a) := fun {j c v} h1 h2 e => by
    subst e
    have hl : j < ρ.length := by have := (List.getElem?_eq_some_iff.mp h1).1; simpa using this
    rw [List.getElem?_set_self hl] at h1
    rw [List.getElem?_set_self (by rw [← S.sim.len]; exact hl)] at h2
    cases h1; cases h2
    exact ⟨rfl, rfl⟩
  refine ⟨⟨S.sim.sub, by simpa using S.sim.len, fun j c v h1 h2 => ?_, fun j l d' e' b h1 h2 h3 h4 => ?_⟩, S.frame, S.pp, S.nw, fun j d' b h1 h2 => ?_, fun p hp => ?_⟩
  · by_cases q : j = i
    · obtain ⟨rfl, rfl⟩ := at_i h1 h2 q
      exact ⟨a, o, rfl, hP, hH, ho⟩
    · rw [List.getElem?_set_ne (Ne.symm q)] at h1 h2
      exact S.sim.cell j c v h1 h2
  · by_cases q1 : j = i
    · obtain ⟨_, e1⟩ := at_i h1 h3 q1
      cases e1
      by_cases q2 : l = i
      · rw [q1, q2]
      · rw [List.getElem?_set_ne (Ne.symm q2)] at h2 h4
        exact absurd h4 (hn l e' q2 h2)
    · by_cases q2 : l = i
      · obtain ⟨_, e1⟩ := at_i h2 h4 q2
        cases e1
        rw [List.getElem?_set_ne (Ne.symm q1)] at h1 h3
        exact absurd h3 (hn j d' q1 h1)
      · rw [List.getElem?_set_ne (Ne.symm q1)] at h1 h3
        rw [List.getElem?_set_ne (Ne.symm q2)] at h2 h4
        exact S.sim.apart j l d' e' b h1 h2 h3 h4
  · by_cases q : j = i
    · obtain ⟨_, e1⟩ := at_i h1 h2 q
      cases e1
      exact .inl hz
    · rw [List.getElem?_set_ne (Ne.symm q)] at h1 h2
      exact S.loc j d' b h1 h2
  · have q := hi p hp
    rw [List.getElem?_set_ne (Ne.symm q), List.getElem?_set_ne (Ne.symm q)]
    exact S.ios p hp
/-- the object of a slot changed in place -/
theorem SimZ.change (S : SimZ K T z P H σ ρ) {i : Nat} {a : Addr} {o' : HO} {d d' : D} (hi : ρ[i]? = some (C.own d)) (hs : σ[i]? = some (some (.ref a))) (ho : Own K T P d' o') : SimZ K T z P (upd H a o') σ (ρ.set i (.own d')) := by
  obtain ⟨v, h5, a', o, h6, hP, hH, _⟩ := cell_at S.sim hi
  rw [hs] at h5
  cases h5
  cases h6
  have hl : i < ρ.length := (List.getElem?_eq_some_iff.mp hi).1
  have own_ne : ∀ {b : Addr} {x : HO}, P b = some x → b ≠ a := fun {b x} e q => by rw [q, hP] at e; cases e
  refine ⟨⟨fun b x e => by rw [upd_ne (own_ne e)]; exact S.sim.sub _ _ e, by simpa using S.sim.len, fun j c v h1 h2 => ?_, fun j l d1 e1 b h1 h2 h3 h4 => ?_⟩, fun b x h1 h2 => ?_, S.pp, S.nw, fun j d1 b h1 h2 => ?_, fun p hp => ?_⟩
  · by_cases q : i = j
    · subst q
      rw [List.getElem?_set_self hl] at h1
      cases h1
      rw [hs] at h2
      cases h2
      exact ⟨a, o', rfl, hP, upd_same, ho⟩
    · rw [List.getElem?_set_ne q] at h1
      have hc := S.sim.cell j c v h1 h2
      cases c with
      | un => trivial
      | val e => exact hc
      | own e =>
        obtain ⟨b, x, rfl, h7, h8, h9⟩ := hc
        have hb : b ≠ a := fun eb => q (S.sim.apart i j d e a hi h1 hs (by rw [h2, eb]))
        exact ⟨b, x, rfl, h7, by rw [upd_ne hb]; exact h8, h9⟩
  · have f : ∀ {m : Nat} {x : D}, (ρ.set i (.own d'))[m]? = some (C.own x) → ∃ y, ρ[m]? = some (C.own y) := fun {m x} h => by
      by_cases q : i = m
      · subst q; exact ⟨d, hi⟩
      · rw [List.getElem?_set_ne q] at h; exact ⟨x, h⟩
    obtain ⟨y1, g1⟩ := f h1
    obtain ⟨y2, g2⟩ := f h2
    exact S.sim.apart j l y1 y2 b g1 g2 h3 h4
  · have hb : b ≠ a := fun e => by
      subst e
      rcases S.loc i d b hi hs with q | q
      · rw [q] at h1; cases h1
      · exact h2 _ q rfl
    rw [upd_ne hb]
    exact S.frame b x h1 h2
  · by_cases q : i = j
    · subst q; exact S.loc i d b hi h2
    · rw [List.getElem?_set_ne q] at h1; exact S.loc j d1 b h1 h2
  · obtain ⟨h1, e, h2⟩ := S.ios p hp
    refine ⟨h1, ?_⟩
    by_cases q : i = p.1
    · subst q; exact ⟨d', List.getElem?_set_self hl⟩
    · rw [List.getElem?_set_ne q]; exact ⟨e, h2⟩
/-- forgetting -/
inductive Weak : List C → List C → Prop
  | nil : Weak [] []
  | un {c : C} {a b : List C} : Weak a b → Weak (c :: a) (.un :: b)
  | kp {c : C} {a b : List C} : Weak a b → Weak (c :: a) (c :: b)
def ownAt (ρ : List C) (i : Nat) : Bool := match ρ[i]? with
  | some (.own _) => true
  | _ => false
theorem Weak.len {a b : List C} (h : Weak a b) : b.length = a.length := by induction h <;> simp [*]
theorem Weak.get {a b : List C} {i : Nat} {c : C} (h : Weak a b) (e : b[i]? = some c) : c = .un ∨ a[i]? = some c := by
  induction h generalizing i with
  | nil => simp at e
  | un h ih =>
    cases i with
    | zero => simp at e; exact .inl e.symm
    | succ i => simpa using ih (by simpa using e)
  | kp h ih =>
    cases i with
    | zero => exact .inr e
    | succ i => simpa using ih (by simpa using e)
theorem Sim.weak {ρ' : List C} (S : Sim K T P H σ ρ) (h : Weak ρ ρ') : Sim K T P H σ ρ' := by
  refine ⟨S.sub, by rw [h.len]; exact S.len, fun i c v h1 h2 => ?_, fun i j d e a h1 h2 h3 h4 => ?_⟩
  · rcases h.get h1 with rfl | q
    · trivial
    · exact S.cell i c v q h2
  · rcases h.get h1 with q | q1
    · cases q
    · rcases h.get h2 with q | q2
      · cases q
      · exact S.apart i j d e a q1 q2 h3 h4
theorem SimZ.weak {ρ' : List C} (S : SimZ K T z P H σ ρ) (h : Weak ρ ρ') (ho : (z.io.map (·.1)).all (ownAt ρ') = true) : SimZ K T z P H σ ρ' := by
  refine ⟨S.sim.weak h, S.frame, S.pp, S.nw, fun i d a h1 h2 => ?_, fun p hp => ⟨(S.ios p hp).1, ?_⟩⟩
  · rcases h.get h1 with q | q
    · cases q
    · exact S.loc i d a q h2
  · have := List.all_eq_true.mp ho p.1 (List.mem_map_of_mem hp)
    unfold ownAt at this
    split at this
    · rename_i d q; exact ⟨d, q⟩
    · cases this
end

/-! ### statements -/
def wpS (X : Cx) (st : Stmt) : TS := fun D σ H => ∀ pins s, Inv X pins σ H s → wpAny (model X.prog X.w) X.A (exec st X.env) (SP X pins D) X.xe s
def wpSs (X : Cx) (st : List Stmt) : TS := fun D σ H => ∀ pins s, Inv X pins σ H s → wpAny (model X.prog X.w) X.A (execs st X.env) (SP X pins D) X.xe s
theorem sw {X : Cx} {st : Stmt} : PS X st (wpS X st) := ⟨fun pins s σ H D I h => h pins s I⟩
theorem ssw {X : Cx} {st : List Stmt} : PSs X st (wpSs X st) := ⟨fun pins s σ H D I h => h pins s I⟩
theorem wpSs_of {X : Cx} {st : List Stmt} {σ : L2.St} {H : Hp} {D : Ends} {t : TS} (p : PSs X st t) (h : t D σ H) : wpSs X st D σ H := fun pins s I => p.run pins s σ H D I h
def PostS {S B : Type} (K : PySem.W.Frag) (T : Tb) (W : WX) (fr : Bool) (mkN : S → List C) (mkB : B → List C) (z : Zn) (r : R (Fl S B)) (D : Ends) : Prop := match r with
  | .ok (.nx s) => ∀ P H σ, SimZ K T z P H σ (mkN s) → D.nx σ H
  | .ok (.bk b) => ∀ P H σ, SimZ K T z P H σ (mkB b) → D.bk σ H
  | .ok (.rt d os) => ∀ P H w, RetZ K T fr z P H w d os → D.rt w H
  | .ex e => ∀ cls dd σ H, FrZ z H → ExR T e cls dd H → W cls dd σ H
  | .bad => False
def Ss {S B : Type} (X : Cx) (T : Tb) (W : WX) (fr : Bool) (ios : List Nat) (mkN : S → List C) (mkB : B → List C) (ρ : List C) (st : List Stmt) (r : R (Fl S B)) : Prop :=
  ∀ z P H σ (D : Ends), z.io.map (·.1) = ios → SimZ X.K T z P H σ ρ → PostS X.K T W fr mkN mkB z r D → wpSs X st D σ H

/-! ### what a def promises -/
def argC (io : List Nat) : Nat → List D → List C
  | _, [] => []
  | i, d :: ds => (if io.contains i then C.own d else C.val d) :: argC io (i + 1) ds
def PostI (K : PySem.W.Frag) (T : Tb) (fr : Bool) (z : Zn) (E : XK) (r : R (D × List D)) (Q : VK) : Prop := match r with
  | .ok (d, os) => ∀ P H w, RetZ K T fr z P H w d os → Q w H
  | .ex e => ∀ cls dd H, FrZ z H → ExR T e cls dd H → E cls dd H
  | .bad => False
/-- the addresses of what is lent -/
def ioAt (io : List Nat) (vs : List V) : List (Nat × Addr) := io.filterMap fun i => match (vs[i]? : Option V) with
  | some (V.ref a) => some (i, a)
  | _ => none
def spI (K : PySem.W.Frag) (T : Tb) (fr : Bool) (io : List Nat) (n : Nat) (m : List D → R (D × List D)) : Sp := fun vs H Q E => vs.length = n ∧ ∃ P ds, Sim K T P H (vs.map some) (argC io 0 ds) ∧ PostI K T fr ⟨P, H, ioAt io vs⟩ E (m ds) Q
/-- a def of the text that does m, called by its name x from level k on -/
structure FD (P : Program) (w : World) (K : PySem.W.Frag) (mg : Str → Option Value) (base : Heap) (T : Tb) (k : Nat) (x : Str) (f : Addr) (fr : Bool) (io : List Nat) (n : Nat) (m : List D → R (D × List D)) : Prop where
  ex : ∃ fd ps, FnOk P w K mg base (L2.CX P w) k f fd ps (spI K T fr io n m) ∧ Binds K fd ps []
  gl : mg x = some (.ref f)
  kp : PySem.W.keepIn K (.ref f) = true
/-- a def without lent arguments -/
def pureM (m : List D → R D) : List D → R (D × List D) := fun ds => (m ds).bind fun d => .ok (d, [])
end Fj

/-! ## Lay9 -/
namespace Fj
open PySem PySem.Spec PyProof.Rows L2
section
variable {X : Cx} {T : Tb} {W : WX} {k j : Nat} {ρ : List C} {a b c e : Expr} {es : List Expr} {da db : R D} {ca cb : R Bool} {pos p p2 p3 : Pos} {m : Md} {x : Str} {fr : Bool}
/-! ### calls of the text's own defs -/
theorem evA_bind' {P H : Hp} {σ : L2.St} {Q : VK} {f : List D → R D} {dl : R (List D)} {Q1 : List V → Hp → Prop} (ha : EvA X T W ρ es dl) (S : Sim X.K T P H σ ρ) (h : Post X.K T W m P H σ (dl.bind f) Q)
    (kk : ∀ vs ws P1 H1, dl = .ok vs → Ext P H P1 H1 → Sim X.K T P1 H1 σ ρ → RepAll X.K T P1 vs ws → Post X.K T W m P1 H1 σ (f vs) Q → Q1 ws H1) : wpA X es σ H Q1 := by
  refine ha P H σ Q1 S ?_
  cases dl with
  | ok v => exact fun w P' H' e' r => kk v w P' H' rfl e' (S.ext e') r (h.shift e')
  | ex x => exact fun cls dd H' s' r => h cls dd H' s' r
  | bad => exact h
theorem sim_args {K : PySem.W.Frag} {P H : Hp} (hs : Same P H) : ∀ {ds : List D} {vs : List V} (i : Nat), RepAll K T P ds vs → ∀ (n : Nat) (c : C) (v : Option V), (argC [] i ds)[n]? = some c → (vs.map some)[n]? = some v → CellOk K T P H c v
  | [], _, _, _, _, _, _, h, _ => by simp [argC] at h
  | d :: ds, _, i, r, n, c, v, h1, h2 => by
    unfold RepAll at r
    obtain ⟨w, t, rfl, r1, r2⟩ := r
    cases n with
    | zero =>
      simp [argC] at h1 h2
      subst h1 h2
      exact ⟨w, rfl, r1⟩
    | succ n => exact sim_args hs (i + 1) r2 n c v (by simpa [argC] using h1) (by simpa using h2)
theorem argC_len (io : List Nat) : ∀ (i : Nat) (ds : List D), (argC io i ds).length = ds.length
  | _, [] => rfl
  | i, _ :: ds => by simp [argC, argC_len io (i + 1) ds]
theorem argC_nil_own : ∀ (i n : Nat) (ds : List D) (d : D), (argC [] i ds)[n]? ≠ some (C.own d)
  | _, n, [], _, h => by simp [argC] at h
  | i, 0, _ :: ds, _, h => by simp [argC] at h
  | i, n + 1, _ :: ds, d, h => argC_nil_own (i + 1) n ds d (by simpa [argC] using h)
theorem ev_call {f : Addr} {n : Nat} {mm : List D → R D} {ds : List (R D)} (g : Gd X k) (F : FD X.prog X.w X.K X.mg X.base T j x f fr [] n (pureM mm)) (hj : j ≤ k) (tk : Takes X W) (hg : Gl X x) (ha : EvA X T W ρ (a :: es) (allR ds)) (hn : ds.length = n)
    (hdb : (x == ("__debug__" : Str)) = false) (he : starEach (a :: es) X.env = (false, eval a X.env) :: starEach es X.env) (hpl : (backTo pos (starEach es X.env)).any (·.1) = false) : Ev X T W (md fr) ρ (.Call (.Name x p) (a :: es) [] pos) ((allR ds).bind mm) := fun P H σ Q S q => by
  obtain ⟨fd, ps, F1, B1⟩ := F.ex
  refine wpE_of (pe_callSD F1 (g.room.mono hj) hg F.gl F.kp B1 .nil (fun σ => passAt tk σ) aw hdb he hpl) ?_
  refine evA_bind' ha S q fun vs ws P1 H1 hv e1 S1 r1 q1 => ?_
  show spI X.K T fr [] n (pureM mm) (ws ++ []) H1 Q (WE W σ)
  rw [List.append_nil]
  have hl : ws.length = n := by rw [r1.length, allR_len hv, hn]
  refine ⟨hl, P1, vs, ⟨S1.sub, by rw [argC_len, List.length_map, r1.length], fun i c v h1 h2 => sim_args S1.sub 0 r1 i c v h1 h2, fun i _ d _ _ h1 => absurd h1 (argC_nil_own 0 i vs d)⟩, ?_⟩
  unfold pureM
  cases hm : mm vs with
  | bad => rw [hm] at q1; exact q1
  | ex z =>
    rw [hm] at q1
    exact fun cls dd H2 h1 h2 => q1 cls dd H2 (fun b o e => h1 b o e fun p hp => nomatch hp) h2
  | ok d =>
    rw [hm] at q1
    exact fun P2 H2 w rz => q1 w P2 H2 ⟨rz.pp, fun b o e => rz.frame b o e (fun p hp => nomatch hp), rz.sub, rz.nw⟩ rz.rep

/-! ### statements -/
variable {S B : Type} {ios : List Nat} {mkN : S → List C} {mkB : B → List C} {rest body : List Stmt} {st : Stmt} {i : Nat}
theorem ss_bind {z : Zn} {P H : Hp} {σ : L2.St} {D1 : Ends} {F : D → R (Fl S B)} {Q1 : VK} (ha : Ev X T W m ρ e da) (Z : SimZ X.K T z P H σ ρ) (h : PostS X.K T W fr mkN mkB z (da.bind F) D1)
    (kk : ∀ v w P1 H1, Ext P H P1 H1 → SimZ X.K T z P1 H1 σ ρ → RepM X.K T m H P1 H1 v w → PostS X.K T W fr mkN mkB z (F v) D1 → Q1 w H1) : wpE X e σ H Q1 := by
  refine ha P H σ Q1 Z.sim ?_
  cases da with
  | ok v => exact fun w P' H' e' r => kk v w P' H' e' (Z.ext e') r h
  | ex x => exact fun cls dd H' s' r => h cls dd σ H' (fun b o e1 e2 => s' _ _ (Z.frame b o e1 e2)) r
  | bad => exact h
theorem ss_bindT {z : Zn} {P H : Hp} {σ : L2.St} {D1 : Ends} {F : Bool → R (Fl S B)} {Q1 : Bool → Hp → Prop} (ha : EvT X T W ρ e ca) (Z : SimZ X.K T z P H σ ρ) (h : PostS X.K T W fr mkN mkB z (ca.bind F) D1)
    (kk : ∀ v P1 H1, Ext P H P1 H1 → SimZ X.K T z P1 H1 σ ρ → PostS X.K T W fr mkN mkB z (F v) D1 → Q1 v H1) : wpT X e σ H Q1 := by
  refine ha P H σ Q1 Z.sim ?_
  cases ca with
  | ok v => exact fun P' H' e' => kk v P' H' e' (Z.ext e') h
  | ex x => exact fun cls dd H' s' r => h cls dd σ H' (fun b o e1 e2 => s' _ _ (Z.frame b o e1 e2)) r
  | bad => exact h
theorem io_ne {z : Zn} (hz : z.io.map (·.1) = ios) (hi : ios.contains i = false) : ∀ q ∈ z.io, q.1 ≠ i := fun q hq e => by
  have : i ∈ ios := by rw [← hz, ← e]; exact List.mem_map_of_mem hq
  rw [List.contains_eq_mem, decide_eq_true this] at hi
  cases hi
theorem ss_nil {s : S} (hw : Weak ρ (mkN s)) (ho : ios.all (ownAt (mkN s)) = true) : Ss X T W fr ios mkN mkB ρ [] (.ok (.nx s)) := fun z P H σ D1 hz Z h =>
  wpSs_of pss_nil (h P H σ (Z.weak hw (by rw [hz]; exact ho)))
/-- x = e -/
theorem ss_asg {pos' : Pos} {F : D → R (Fl S B)} (g : Gd X k) (hi : X.N[i]? = some x) (hx : Loc X.env.scope x) (hf : X.fn x = true ∨ X.env.scope.names.lookup x = some .local) (hs : swapsWith e (some (.Name x pos')) pos.line X.env = pure false) (hio : ios.contains i = false)
    (he : Ev X T W .P ρ e da) (hr : ∀ v, Ss X T W fr ios mkN mkB (ρ.set i (.val v)) rest (F v)) : Ss X T W fr ios mkN mkB ρ (.Assign [.Name x pos'] e pos :: rest) (da.bind F) := fun z P H σ D1 hz Z h => by
  refine wpSs_of (pss_cons (ps_set g.nd hi hx pw hs hf) ssw) ?_
  refine ss_bind he Z h fun v w P1 H1 e1 Z1 r1 q1 => ?_
  exact hr v z P1 H1 _ D1 hz (Z1.set (io_ne hz hio) r1) q1
/-- x = e, e a new list or dict that is the def's own from here on -/
theorem ss_own {pos' : Pos} {F : D → R (Fl S B)} (g : Gd X k) (hi : X.N[i]? = some x) (hx : Loc X.env.scope x) (hf : X.fn x = true ∨ X.env.scope.names.lookup x = some .local) (hs : swapsWith e (some (.Name x pos')) pos.line X.env = pure false) (hio : ios.contains i = false)
    (he : Ev X T W .F ρ e da) (hr : ∀ v, Ss X T W fr ios mkN mkB (ρ.set i (.own v)) rest (F v)) : Ss X T W fr ios mkN mkB ρ (.Assign [.Name x pos'] e pos :: rest) (ownR da F) := fun z P H σ D1 hz Z h => by
  refine wpSs_of (pss_cons (ps_set g.nd hi hx pw hs hf) ssw) ?_
  refine ss_bind he Z h fun v w P1 H1 e1 Z1 r1 q1 => ?_
  split at q1
  · rename_i hc
    unfold RepM at r1
    dsimp only at r1
    rw [if_pos hc] at r1
    obtain ⟨a, o, rfl, h0, h1, h2, h3⟩ := r1
    refine hr v z P1 H1 _ D1 hz (Z1.setOwn (io_ne hz hio) h1 h2 h3 ?_ fun j d hj hd hs' => ?_) q1
    · cases q : z.H0 a with
      | none => rfl
      | some y =>
        by_cases hp : ∀ p ∈ z.io, p.2 ≠ a
        · rw [Z.frame a y q hp] at h0; cases h0
        · have : ∃ p, p ∈ z.io ∧ p.2 = a := Classical.byContradiction fun n => hp fun p hp he => n ⟨p, hp, he⟩
          obtain ⟨p, hpm, rfl⟩ := this
          obtain ⟨h3, d, h4⟩ := Z.ios p hpm
          obtain ⟨u, h5, a', o', h6, h7, h8, h9⟩ := cell_at Z.sim h4
          rw [h3] at h5
          cases h5
          cases h6
          rw [h8] at h0; cases h0
    · obtain ⟨u, h5, a', o', h6, h7, h8, h9⟩ := cell_at Z.sim hd
      rw [hs'] at h5
      cases h5
      cases h6
      rw [h8] at h0; cases h0
  · exact q1.elim
/-- e, its value dropped -/
theorem ss_expr {F : D → R (Fl S B)} (hs : swapsWith e none pos.line X.env = pure false) (he : Ev X T W m ρ e da) (hr : ∀ v, Ss X T W fr ios mkN mkB ρ rest (F v)) : Ss X T W fr ios mkN mkB ρ (.Expr e pos :: rest) (da.bind F) := fun z P H σ D1 hz Z h => by
  refine wpSs_of (pss_cons (ps_expr pw hs) ssw) ?_
  exact ss_bind he Z h fun v w P1 H1 e1 Z1 r1 q1 => hr v z P1 H1 _ D1 hz Z1 q1
theorem ss_pass {r : R (Fl S B)} (hr : Ss X T W fr ios mkN mkB ρ rest r) : Ss X T W fr ios mkN mkB ρ (.Pass pos :: rest) r := fun z P H σ D1 hz Z h => by
  refine wpSs_of (pss_cons ps_pass ssw) ?_
  exact hr z P H _ D1 hz Z h
theorem ss_break {s : B} (hw : Weak ρ (mkB s)) (ho : ios.all (ownAt (mkB s)) = true) : Ss X T W fr ios mkN mkB ρ (.Break pos :: rest) (.ok (.bk s)) := fun z P H σ D1 hz Z h => by
  refine wpSs_of (pss_cons ps_break (ssw (st := rest))) ?_
  exact h P H σ (Z.weak hw (by rw [hz]; exact ho))
/-- what the lent cells hold -/
def outsOf (ρ : List C) : List Nat → Option (List D)
  | [] => some []
  | i :: r => match ρ[i]? with
    | some (.own d) => (outsOf ρ r).map (d :: ·)
    | _ => none
theorem outs_of {K : PySem.W.Frag} {z : Zn} {P H : Hp} {σ : L2.St} (Z : SimZ K T z P H σ ρ) : ∀ {l : List (Nat × Addr)} {os : List D}, (∀ p ∈ l, p ∈ z.io) → outsOf ρ (l.map (·.1)) = some os →
    Paired (fun (p : Nat × Addr) (x : D) => P p.2 = none ∧ ∃ o, H p.2 = some o ∧ Own K T P x o) l os
  | [], os, _, h => by
    have : os = [] := by simpa [outsOf] using h.symm
    subst this
    exact .nil
  | p :: r, os, hl, h => by
    rw [List.map_cons] at h
    obtain ⟨h3, d, h4⟩ := Z.ios p (hl p List.mem_cons_self)
    unfold outsOf at h
    rw [h4] at h
    dsimp only at h
    cases q : outsOf ρ (r.map (·.1)) with
    | none => rw [q] at h; cases h
    | some os' =>
      rw [q] at h
      cases h
      obtain ⟨u, h5, a', o', h6, h7, h8, h9⟩ := cell_at Z.sim h4
      rw [h3] at h5
      cases h5
      cases h6
      exact .cons ⟨h7, o', h8, h9⟩ (outs_of Z (fun p hp => hl p (List.mem_cons_of_mem _ hp)) q)
theorem fresh_back {z : Zn} {P H P1 H1 : Hp} {K : PySem.W.Frag} {σ : L2.St} (Z : SimZ K T z P H σ ρ) {v : D} {w : V} (r : RepM K T (md fr) H P1 H1 v w) : RepM K T (md fr) z.H0 P1 H1 v w := by
  cases fr with
  | false => exact r
  | true =>
    have r : RepM K T .F H P1 H1 v w := r
    show RepM K T .F z.H0 P1 H1 v w
    unfold RepM at r ⊢
    dsimp only at r ⊢
    by_cases hc : cont v = true
    · rw [if_pos hc] at r ⊢
      obtain ⟨a, o, rfl, h0, h1, h2, h3⟩ := r
      refine ⟨a, o, rfl, ?_, h1, h2, h3⟩
      cases q : z.H0 a with
      | none => rfl
      | some y =>
        by_cases hp : ∀ p ∈ z.io, p.2 ≠ a
        · rw [Z.frame a y q hp] at h0; cases h0
        · have : ∃ p, p ∈ z.io ∧ p.2 = a := Classical.byContradiction fun n => hp fun p hp he => n ⟨p, hp, he⟩
          obtain ⟨p, hpm, rfl⟩ := this
          obtain ⟨h3, d, h4⟩ := Z.ios p hpm
          obtain ⟨u, h5, a', o', h6, h7, h8, h9⟩ := cell_at Z.sim h4
          rw [h3] at h5
          cases h5
          cases h6
          rw [h8] at h0; cases h0
    · rw [if_neg hc] at r ⊢
      exact r
/-- return e -/
theorem ss_ret {os : List D} (ho : outsOf ρ ios = some os) (he : Ev X T W (md fr) ρ e da) : Ss X T W fr ios mkN mkB ρ (.Return (some e) pos :: rest) (da.bind fun v => .ok (.rt v os)) := fun z P H σ D1 hz Z h => by
  refine wpSs_of (pss_cons (ps_ret pw) (ssw (st := rest))) ?_
  refine ss_bind he Z h fun v w P1 H1 e1 Z1 r1 q1 => ?_
  refine q1 P1 H1 w ⟨Z1.sim.sub, Z1.frame, Z1.pp, Z1.nw, fresh_back Z r1, outs_of Z1 (fun p hp => hp) (by rw [hz]; exact ho)⟩
/-- return x, x the def's own -/
theorem ss_retOwn {os : List D} {d : D} {px : Pos} (hi : ρ[i]? = some (.own d)) (hio : ios.contains i = false) (hN : X.N[i]? = some x) (hv : Vis X.env.scope x) (hd : (x == ("__debug__" : Str)) = false) (hcd : (x == ("__classdict__" : Str)) = false) (ho : outsOf ρ ios = some os) :
    Ss X T W true ios mkN mkB ρ (.Return (some (.Name x px)) pos :: rest) (.ok (.rt d os)) := fun z P H σ D1 hz Z h => by
  refine wpSs_of (pss_cons (ps_ret (pe_var hN hv hd hcd)) (ssw (st := rest))) ?_
  obtain ⟨u, h5, a', o', rfl, h7, h8, h9⟩ := cell_at Z.sim hi
  refine ⟨_, h5, h P H _ ⟨Z.sim.sub, Z.frame, Z.pp, Z.nw, ?_, outs_of Z (fun p hp => hp) (by rw [hz]; exact ho)⟩⟩
  show RepM X.K T .F z.H0 P H d _
  unfold RepM
  dsimp only
  have hc : cont d = true := by cases d <;> first | rfl | exact h9.elim
  rw [if_pos hc]
  refine ⟨a', o', rfl, ?_, h7, h8, h9⟩
  rcases Z.loc i d a' hi h5 with q | q
  · exact q
  · exact absurd rfl (io_ne hz hio _ q)
/-- x.append(e) -/
theorem ss_append {pa px pp : Pos} {d : D} {F : D → R (Fl S B)} (hi : ρ[i]? = some (.own d)) (hN : X.N[i]? = some x) (hv : Vis X.env.scope x) (hd : (x == ("__debug__" : Str)) = false) (hcd : (x == ("__classdict__" : Str)) = false)
    (hs : swapsWith (.Call (.Attribute (.Name x px) "append" pa) [e] [] pp) none pos.line X.env = pure false) (he : Ev X T W .P ρ e da)
    (hbm : PE X (.Call (.Attribute (.Name x px) "append" pa) [e] [] pp) (tBM X.K "list" rAppend (tVar i) (tCons (wpE X e) tNil))) (hr : ∀ v, Ss X T W fr ios mkN mkB (ρ.set i (.own v)) rest (F v)) :
    Ss X T W fr ios mkN mkB ρ (.Expr (.Call (.Attribute (.Name x px) "append" pa) [e] [] pp) pos :: rest) ((appendE d da).bind F) := fun z P H σ D1 hz Z h => by
  refine wpSs_of (pss_cons (ps_expr hbm hs) ssw) ?_
  obtain ⟨u, h5, a', o', rfl, h7, h8, h9⟩ := cell_at Z.sim hi
  cases d with
  | lst xs =>
    have h' : PostS X.K T W fr mkN mkB z (da.bind fun v => (appendR (.lst xs) v).bind F) D1 := by cases da <;> exact h
    obtain ⟨vs, rfl, h10⟩ := h9
    refine ⟨_, h5, .inl ⟨rfl, _, .inl (.inl h8)⟩, ?_⟩
    refine ss_bind he Z h' fun v w P1 H1 e1 Z1 r1 q1 => ?_
    have q2 : PostS X.K T W fr mkN mkB z ((if xs.length < most then .ok (.lst (xs ++ [v])) else .bad : R D).bind F) D1 := q1
    split at q2
    · rename_i hl
      have h8' := e1.hh _ _ h8
      have h10' := RepAll.mono e1.pp _ _ h10
      refine ⟨a', vs, w, rfl, rfl, h8', by rw [h10.length]; exact most_lt (by omega), ?_⟩
      exact hr _ z P1 _ _ D1 hz (Z1.change (d' := .lst (xs ++ [v])) hi h5 ⟨vs ++ [w], rfl, h10'.append (RepAll.cons r1 RepAll.nil)⟩) q2
    · exact q2.elim
  | dct t kvs => exact h.elim
  | _ => exact h9.elim
end
end Fj

/-! ## Lay10 -/
namespace Fj
open PySem PySem.Spec PyProof.Rows L2

/-! ### what is walked -/
def wpI (X : Cx) (tg iter : Expr) : TI := fun σ H R => ∀ pins s, Inv X pins σ H s →
  wpAny (model X.prog X.w) X.A (eval iter X.env) (fun v s1 => wpAny (model X.prog X.w) X.A (pyIter v) (PIE X pins σ tg R) X.xe s1) X.xe s
theorem iw {X : Cx} {tg iter : Expr} : PI X tg iter (wpI X tg iter) := ⟨fun pins s σ H R I h => h pins s I⟩
theorem wpI_of {X : Cx} {tg iter : Expr} {wi : TI} {σ : L2.St} {H : Hp} {R1 : It → Hp → Prop} (p : PI X tg iter wi) (h : wi σ H R1) : wpI X tg iter σ H R1 := fun pins s I => p.run pins s σ H R1 I h
/-- a walk that gives ds -/
def ItOk (K : PySem.W.Frag) (T : Tb) (P : Hp) (J : It) (ds : List D) : Prop := ∀ (i : Nat) (P' H' : Hp), Same P P' → Same P' H' →
  (i < ds.length → J.go i H') ∧ (ds.length ≤ i → J.stop i H') ∧ ∀ (x : V) (H'' : Hp), i < ds.length → J.yld i H' x H'' → ∃ P'' d, Ext P' H' P'' H'' ∧ ds[i]? = some d ∧ Rep K T P'' d x
def PostIt (K : PySem.W.Frag) (T : Tb) (W : WX) (P H : Hp) (σ : L2.St) (r : R (List D)) (R1 : It → Hp → Prop) : Prop := match r with
  | .ok ds => ∀ J P' H', Ext P H P' H' → ItOk K T P' J ds → R1 J H'
  | .ex e => ∀ cls dd H', Same H H' → ExR T e cls dd H' → W cls dd σ H'
  | .bad => False
def EvI (X : Cx) (T : Tb) (W : WX) (ρ : List C) (tg iter : Expr) (r : R (List D)) : Prop :=
  ∀ P H σ R1, Sim X.K T P H σ ρ → PostIt X.K T W P H σ r R1 → wpI X tg iter σ H R1
/-- .. as long as nothing changes -/
def ItOkW (K : PySem.W.Frag) (T : Tb) (P H : Hp) (J : It) (ds : List D) : Prop := ∀ (i : Nat) (P' H' : Hp), Same P P' → Same P' H' → Same H H' →
  (i < ds.length → J.go i H') ∧ (ds.length ≤ i → J.stop i H') ∧ ∀ (x : V) (H'' : Hp), i < ds.length → J.yld i H' x H'' → ∃ P'' d, Ext P' H' P'' H'' ∧ ds[i]? = some d ∧ Rep K T P'' d x
def PostItW (K : PySem.W.Frag) (T : Tb) (W : WX) (P H : Hp) (σ : L2.St) (r : R (List D)) (R1 : It → Hp → Prop) : Prop := match r with
  | .ok ds => ∀ J P' H', Ext P H P' H' → ItOkW K T P' H' J ds → R1 J H'
  | .ex e => ∀ cls dd H', Same H H' → ExR T e cls dd H' → W cls dd σ H'
  | .bad => False
def EvIW (X : Cx) (T : Tb) (W : WX) (ρ : List C) (tg iter : Expr) (r : R (List D)) : Prop :=
  ∀ P H σ R1, Sim X.K T P H σ ρ → PostItW X.K T W P H σ r R1 → wpI X tg iter σ H R1
theorem EvI.w {X : Cx} {T : Tb} {W : WX} {ρ : List C} {tg iter : Expr} {r : R (List D)} (h : EvI X T W ρ tg iter r) : EvIW X T W ρ tg iter r := fun P H σ R1 S q => h P H σ R1 S (by
  cases r with
  | ok ds => exact fun J P' H' e o => q J P' H' e fun i P2 H2 h1 h2 _ => o i P2 H2 h1 h2
  | ex e => exact q
  | bad => exact q)
section
variable {X : Cx} {T : Tb} {W : WX} {k : Nat} {ρ : List C} {a b c e tg : Expr} {da db : R D} {ca cb : R Bool} {pos p p2 p3 : Pos} {m : Md} {x : Str} {fr : Bool}
theorem PostIt.shift {P H P1 H1 : Hp} {σ : L2.St} {r : R (List D)} {R1 : It → Hp → Prop} (h : PostIt X.K T W P H σ r R1) (e1 : Ext P H P1 H1) : PostIt X.K T W P1 H1 σ r R1 := by
  cases r with
  | ok d => exact fun J P' H' e2 o => h J P' H' (e1.trans e2) o
  | ex x => exact fun cls dd H' s r => h cls dd H' (e1.hh.trans s) r
  | bad => exact h
theorem evI_bind {P H : Hp} {σ : L2.St} {R1 : It → Hp → Prop} {f : D → R (List D)} {Q1 : VK} (ha : Ev X T W .P ρ e da) (S : Sim X.K T P H σ ρ) (h : PostIt X.K T W P H σ (da.bind f) R1)
    (kk : ∀ v w P1 H1, da = .ok v → Ext P H P1 H1 → Sim X.K T P1 H1 σ ρ → Rep X.K T P1 v w → PostIt X.K T W P1 H1 σ (f v) R1 → Q1 w H1) : wpE X e σ H Q1 := by
  refine ha P H σ Q1 S ?_
  cases da with
  | ok v => exact fun w P' H' e' r => kk v w P' H' rfl e' (S.ext e') r (h.shift e')
  | ex x => exact fun cls dd H' s' r => h cls dd H' s' r
  | bad => exact h
theorem rep_at {K : PySem.W.Frag} {P : Hp} : ∀ {ds : List D} {vs : List V} {i : Nat} {v : V}, RepAll K T P ds vs → vs[i]? = some v → ∃ d, ds[i]? = some d ∧ Rep K T P d v
  | [], _, i, v, h, e => by unfold RepAll at h; subst h; simp at e
  | d :: ds, vs, i, v, h, e => by
    unfold RepAll at h
    obtain ⟨w, t, rfl, r1, r2⟩ := h
    cases i with
    | zero => simp at e; subst e; exact ⟨d, rfl, r1⟩
    | succ n => simpa using rep_at r2 (by simpa using e)
theorem at_of_lt {α : Type} {xs : List α} {i : Nat} (h : i < xs.length) : ∃ x, xs[i]? = some x := ⟨xs[i], by simp [h]⟩
theorem itOk_l {K : PySem.W.Frag} {P : Hp} {l : Addr} {ds : List D} {vs : List V} (hP : P l = some (.lst vs)) (r : RepAll K T P ds vs) : ItOk K T P (Itl K l) ds := fun i P' H' hp hh => by
  have hS : SqL K H' l vs := SqL.of (hh _ _ (hp _ _ hP))
  refine ⟨fun hi => ?_, fun hi => ⟨vs, hS, by rw [r.length]; exact hi⟩, fun v H'' hi hy => ?_⟩
  · obtain ⟨v, hv⟩ := at_of_lt (xs := vs) (by rw [r.length]; exact hi)
    exact ⟨vs, v, hS, hv⟩
  · obtain ⟨rfl, h2⟩ := hy
    have hv := h2 vs hS
    obtain ⟨d, h3, h4⟩ := rep_at r hv
    exact ⟨P', d, Ext.refl hh, h3, Rep.mono hp _ _ h4⟩
theorem itOk_t {K : PySem.W.Frag} {P : Hp} {l : Addr} {ds : List D} {vs : List V} (hS : ∀ H', Same P H' → SqT K H' l vs) (r : RepAll K T P ds vs) : ItOk K T P (Itt K l) ds := fun i P' H' hp hh => by
  have hS : SqT K H' l vs := hS H' (hp.trans hh)
  refine ⟨fun hi => ?_, fun hi => ⟨vs, hS, by rw [r.length]; exact hi⟩, fun v H'' hi hy => ?_⟩
  · obtain ⟨v, hv⟩ := at_of_lt (xs := vs) (by rw [r.length]; exact hi)
    exact ⟨vs, v, hS, hv⟩
  · obtain ⟨rfl, h2⟩ := hy
    have hv := h2 vs hS
    obtain ⟨d, h3, h4⟩ := rep_at r hv
    exact ⟨P', d, Ext.refl hh, h3, Rep.mono hp _ _ h4⟩
theorem itOk_r {K : PySem.W.Frag} {P : Hp} {lo : Int} {n : Nat} : ItOk K T P (Itr lo n) (upI lo n) := fun i P' H' hp hh => by
  have hl : (upI lo n).length = n := by simp [upI]
  refine ⟨fun hi => by rw [hl] at hi; exact hi, fun hi => by rw [hl] at hi; exact hi, fun v H'' hi hy => ?_⟩
  obtain ⟨rfl, rfl⟩ := hy
  rw [hl] at hi
  exact ⟨P', .int (lo + i), Ext.refl hh, by simp [upI, hi], by unfold Rep; rfl⟩
theorem itOk_d {K : PySem.W.Frag} {P : Hp} {hi : Int} {n : Nat} : ItOk K T P (Itc hi (-1) n) (downI hi n) := fun i P' H' hp hh => by
  have hl : (downI hi n).length = n := by simp [downI]
  refine ⟨fun hi => by rw [hl] at hi; exact hi, fun hi => by rw [hl] at hi; exact hi, fun v H'' h1 hy => ?_⟩
  obtain ⟨rfl, rfl⟩ := hy
  rw [hl] at h1
  exact ⟨P', .int (hi - i), Ext.refl hh, by simp [downI, h1], by unfold Rep; congr 1; omega⟩
/-- a list or a tuple -/
theorem evI_seq (ha : Ev X T W .P ρ e da) : EvI X T W ρ tg e (da.bind seqsR) := fun P H σ R1 S h => by
  cases hd : da with
  | bad => rw [hd] at h; exact h.elim
  | ex z =>
    refine wpI_of (pi_list pw) ?_
    exact evI_bind ha S h fun v w P1 H1 h1 => by rw [hd] at h1; cases h1
  | ok d =>
    cases d with
    | lst ds =>
      refine wpI_of (pi_list pw) ?_
      refine evI_bind ha S h fun v w P1 H1 h1 e1 S1 r1 q1 => ?_
      rw [hd] at h1
      cases h1
      unfold Rep at r1
      obtain ⟨l, vs, rfl, h2, h3⟩ := r1
      exact ⟨l, rfl, ⟨vs, SqL.of (e1.ph _ _ h2)⟩, q1 _ P1 H1 (Ext.refl e1.ph) (itOk_l h2 h3)⟩
    | tup ds =>
      refine wpI_of (pi_tup pw) ?_
      refine evI_bind ha S h fun v w P1 H1 h1 e1 S1 r1 q1 => ?_
      rw [hd] at h1
      cases h1
      unfold Rep at r1
      obtain ⟨l, vs, rfl, h2, h3⟩ := r1
      have hS : ∀ H', Same P1 H' → SqT X.K H' l vs := fun H' hs => .inl (.inl (hs _ _ h2))
      exact ⟨l, rfl, ⟨vs, hS _ e1.ph⟩, q1 _ P1 H1 (Ext.refl e1.ph) (itOk_t hS h3)⟩
    | _ => rw [hd] at h; exact h.elim
theorem evIA_bind {P H : Hp} {σ : L2.St} {R1 : It → Hp → Prop} {f : List D → R (List D)} {es : List Expr} {dl : R (List D)} {Q1 : List V → Hp → Prop} (ha : EvA X T W ρ es dl) (S : Sim X.K T P H σ ρ) (h : PostIt X.K T W P H σ (dl.bind f) R1)
    (kk : ∀ vs ws P1 H1, dl = .ok vs → Ext P H P1 H1 → Sim X.K T P1 H1 σ ρ → RepAll X.K T P1 vs ws → PostIt X.K T W P1 H1 σ (f vs) R1 → Q1 ws H1) : wpA X es σ H Q1 := by
  refine ha P H σ Q1 S ?_
  cases dl with
  | ok v => exact fun w P' H' e' r => kk v w P' H' rfl e' (S.ext e') r (h.shift e')
  | ex x => exact fun cls dd H' s' r => h cls dd H' s' r
  | bad => exact h
theorem all1 {f : D → R (List D)} : da.bind f = (allR [da]).bind fun | [v] => f v | _ => .bad := by cases da <;> rfl
theorem all2 {f : D → D → R (List D)} : op2 f da db = (allR [da, db]).bind fun | [v, w] => f v w | _ => .bad := by cases da <;> cases db <;> rfl
/-- ranges -/
theorem evI_rg1 (g : Gd X k) (hg : Gl X "range") (ha : EvA X T W ρ [a] (allR [da])) (hs : starEach [a] X.env = [(false, eval a X.env)]) : EvI X T W ρ tg (.Call (.Name "range" p) [a] [] pos) (da.bind range1R) := fun P H σ R1 S h => by
  refine wpI_of (pi_range1 hg g.bi.range aw hs) ?_
  rw [all1] at h
  refine evIA_bind ha S h fun vs ws P1 H1 h1 e1 S1 r1 q1 => ?_
  match vs, r1, q1 with
  | [v], r1, q1 =>
    unfold RepAll at r1
    obtain ⟨w, t, rfl, r1, r2⟩ := r1
    unfold RepAll at r2
    subst r2
    refine (show ∃ j, [w] = [V.int j] ∧ _ from ?_)
    cases v with
    | int j =>
      dsimp only at q1
      unfold range1R at q1
      dsimp only at q1
      split at q1
      · rename_i hb
        unfold Rep at r1
        subst r1
        unfold big62 at hb
        simp only [Bool.and_eq_true, decide_eq_true_eq] at hb
        exact ⟨j, rfl, hb.1, hb.2, q1 _ P1 H1 (Ext.refl e1.ph) itOk_r⟩
      · exact q1.elim
    | _ => exact q1.elim
  | [], _, q1 => exact q1.elim
  | _ :: _ :: _, _, q1 => exact q1.elim
theorem evI_rg2 (g : Gd X k) (hg : Gl X "range") (ha : EvA X T W ρ [a, b] (allR [da, db])) (hs : starEach [a, b] X.env = [(false, eval a X.env), (false, eval b X.env)]) (hs2 : starEach [b] X.env = [(false, eval b X.env)]) :
    EvI X T W ρ tg (.Call (.Name "range" p) [a, b] [] pos) (op2 range2R da db) := fun P H σ R1 S h => by
  refine wpI_of (pi_range2 hg g.bi.range aw hs hs2) ?_
  rw [all2] at h
  refine evIA_bind ha S h fun vs ws P1 H1 h1 e1 S1 r1 q1 => ?_
  match vs, r1, q1 with
  | [v, v2], r1, q1 =>
    unfold RepAll at r1
    obtain ⟨w, t, rfl, r1, r2⟩ := r1
    unfold RepAll at r2
    obtain ⟨w2, t2, rfl, r2, r3⟩ := r2
    unfold RepAll at r3
    subst r3
    refine (show ∃ i j, [w, w2] = [V.int i, V.int j] ∧ _ from ?_)
    cases v with
    | int i =>
      cases v2 with
      | int j =>
        dsimp only at q1
        unfold range2R at q1
        dsimp only at q1
        split at q1
        · rename_i hb
          unfold Rep at r1 r2
          subst r1 r2
          unfold big62 at hb
          simp only [Bool.and_eq_true, decide_eq_true_eq] at hb
          exact ⟨i, j, rfl, ⟨hb.1.1, hb.1.2, hb.2.1, hb.2.2⟩, q1 _ P1 H1 (Ext.refl e1.ph) itOk_r⟩
        · exact q1.elim
      | _ => exact q1.elim
    | _ => exact q1.elim
  | [], _, q1 => exact q1.elim
  | [_], _, q1 => exact q1.elim
  | _ :: _ :: _ :: _, _, q1 => exact q1.elim
theorem rgC_down {i j : Int} (h1 : -(2 ^ 62) ≤ i) (h2 : i < 2 ^ 62) (h3 : -(2 ^ 62) ≤ j) (h4 : j < 2 ^ 62) : RgC i j (-1) (i - j).toNat := by
  have hs : Builtin.Range.rangeSize i j (-1) = ((i - j).toNat : Int) := by
    unfold Builtin.Range.rangeSize
    rw [if_neg (by decide)]
    split
    · rw [show (- -1 : Int) = 1 from rfl, Int.ediv_one]; omega
    · omega
  refine ⟨by decide, by decide, ?_, hs⟩
  unfold Builtin.Range.small
  rw [hs]
  unfold Builtin.Range.rangeFitsLong
  rw [if_neg (by decide)]
  simp
  omega
theorem evI_rgD (g : Gd X k) (hg : Gl X "range") (ha : EvA X T W ρ [a, b, c] (allR [da, db, .ok (.int (-1))])) (hs : starEach [a, b, c] X.env = (false, eval a X.env) :: starEach [b, c] X.env) (hs2 : (backTo pos (starEach [b, c] X.env)).any (·.1) = false) :
    EvI X T W ρ tg (.Call (.Name "range" p) [a, b, c] [] pos) (op2 rangeDR da db) := fun P H σ R1 S h => by
  refine wpI_of (pi_range3 hg g.bi.range aw hs hs2) ?_
  rw [show op2 rangeDR da db = (allR [da, db, .ok (.int (-1))]).bind fun | [v, w, _] => rangeDR v w | _ => .bad by cases da <;> cases db <;> rfl] at h
  refine evIA_bind ha S h fun vs ws P1 H1 h1 e1 S1 r1 q1 => ?_
  match vs, h1, r1, q1 with
  | [v, v2, v3], h1, r1, q1 =>
    have h3 : v3 = .int (-1) := by cases da <;> cases db <;> simp [allR] at h1; exact h1.2.2.symm
    subst h3
    unfold RepAll at r1
    obtain ⟨w, t, rfl, r1, r2⟩ := r1
    unfold RepAll at r2
    obtain ⟨w2, t2, rfl, r2, r3⟩ := r2
    unfold RepAll at r3
    obtain ⟨w3, t3, rfl, r3, r4⟩ := r3
    unfold RepAll at r4
    subst r4
    refine (show ∃ i j c n, [w, w2, w3] = [V.int i, V.int j, V.int c] ∧ _ from ?_)
    cases v with
    | int i =>
      cases v2 with
      | int j =>
        dsimp only at q1
        unfold rangeDR at q1
        dsimp only at q1
        split at q1
        · rename_i hb
          unfold Rep at r1 r2 r3
          subst r1 r2 r3
          unfold big62 at hb
          simp only [Bool.and_eq_true, decide_eq_true_eq] at hb
          exact ⟨i, j, -1, _, rfl, rgC_down hb.1.1 hb.1.2 hb.2.1 hb.2.2, q1 _ P1 H1 (Ext.refl e1.ph) itOk_d⟩
        · exact q1.elim
      | _ => exact q1.elim
    | _ => exact q1.elim
  | [], _, _, q1 => exact q1.elim
  | [_], _, _, q1 => exact q1.elim
  | [_, _], _, _, q1 => exact q1.elim
  | _ :: _ :: _ :: _ :: _, _, _, q1 => exact q1.elim
/-- an own list that stands still -/
theorem evIW_own {px : Pos} {i : Nat} {d : D} (hi : ρ[i]? = some (.own d)) (hN : X.N[i]? = some x) (hv : Vis X.env.scope x) (hd : (x == ("__debug__" : Str)) = false) (hcd : (x == ("__classdict__" : Str)) = false) : EvIW X T W ρ tg (.Name x px) (seqsR d) := fun P H σ R1 S q => by
  obtain ⟨u, h5, a', o', rfl, h7, h8, h9⟩ := cell_at S hi
  cases d with
  | lst ds =>
    refine wpI_of (pi_list (pe_var hN hv hd hcd)) ?_
    obtain ⟨vs, rfl, h10⟩ := h9
    refine ⟨_, h5, a', rfl, ⟨vs, SqL.of h8⟩, q _ P H (Ext.refl S.sub) fun i P' H' hp hs hh => ?_⟩
    have hS : SqL X.K H' a' vs := SqL.of (hh _ _ h8)
    have r := RepAll.mono hp _ _ h10
    refine ⟨fun hi => ?_, fun hi => ⟨vs, hS, by rw [r.length]; exact hi⟩, fun v H'' hi hy => ?_⟩
    · obtain ⟨v, hv⟩ := at_of_lt (xs := vs) (by rw [r.length]; exact hi)
      exact ⟨vs, v, hS, hv⟩
    · obtain ⟨rfl, h2⟩ := hy
      have hv := h2 vs hS
      obtain ⟨d, h3, h4⟩ := rep_at r hv
      exact ⟨P', d, Ext.refl hs, h3, h4⟩
  | dct t kvs => exact q.elim
  | _ => exact h9.elim
end
end Fj

/-! ## Lay11 -/
namespace Fj
open PySem PySem.Spec PyProof.Rows L2
section
variable {X : Cx} {T : Tb} {W : WX} {k : Nat} {ρ : List C} {a b c e tg iter : Expr} {da db : R D} {ca cb : R Bool} {pos p p2 p3 : Pos} {m : Md} {x y : Str} {fr : Bool}
/-! ### zip, enumerate -/
theorem ext_new {P H : Hp} {t : Addr} {o : HO} (hs : Same P H) (ht : H t = none) : Ext P H (upd P t o) (upd H t o) := by
  have hp : P t = none := by
    cases q : P t with
    | none => rfl
    | some z => rw [hs _ _ q] at ht; cases ht
  refine ⟨fun b z h => ?_, fun b z h => ?_, fun b z h => ?_, fun b h1 h2 => ?_⟩
  · rw [upd_ne (fun e => by rw [e, hp] at h; cases h)]; exact h
  · rw [upd_ne (fun e => by rw [e, ht] at h; cases h)]; exact h
  · by_cases q : b = t
    · subst q; rw [upd_same] at h ⊢; exact h
    · rw [upd_ne q] at h ⊢; exact hs _ _ h
  · by_cases q : b = t
    · subst q; exact absurd ht h1
    · rw [upd_ne q]; exact h2
theorem zipL_len : ∀ (xs ys : List D), (zipL xs ys).length = min xs.length ys.length
  | [], _ => by simp [zipL]
  | _ :: _, [] => by simp [zipL]
  | x :: xs, y :: ys => by simp [zipL, zipL_len xs ys]
theorem zipL_at : ∀ {xs ys : List D} {i : Nat} {x y : D}, xs[i]? = some x → ys[i]? = some y → (zipL xs ys)[i]? = some (.tup [x, y])
  | [], _, i, x, y, h, _ => by simp at h
  | _ :: _, [], i, x, y, _, h => by simp at h
  | a :: xs, b :: ys, 0, x, y, h1, h2 => by simp at h1 h2; subst h1 h2; rfl
  | a :: xs, b :: ys, i + 1, x, y, h1, h2 => by simpa [zipL] using zipL_at (by simpa using h1) (by simpa using h2)
theorem enumL_len : ∀ (k : Nat) (xs : List D), (enumL k xs).length = xs.length
  | _, [] => rfl
  | k, _ :: xs => by simp [enumL, enumL_len (k + 1) xs]
theorem enumL_at : ∀ {xs : List D} {k i : Nat} {x : D}, xs[i]? = some x → (enumL k xs)[i]? = some (.tup [.int ((k + i : Nat)), x])
  | [], _, i, x, h => by simp at h
  | a :: xs, k, 0, x, h => by simp at h; subst h; simp [enumL]
  | a :: xs, k, i + 1, x, h => by
    have := enumL_at (k := k + 1) (xs := xs) (i := i) (x := x) (by simpa using h)
    simp only [enumL, List.getElem?_cons_succ]
    rw [this, Nat.add_assoc, Nat.add_comm 1 i]
theorem rep_tup2 {K : PySem.W.Frag} {P : Hp} {t : Addr} {x y : D} {v w : V} (hP : P t = some (.tup [v, w])) (h1 : Rep K T P x v) (h2 : Rep K T P y w) : Rep K T P (.tup [x, y]) (.ref t) := by
  unfold Rep
  exact ⟨t, [v, w], rfl, hP, RepAll.cons h1 (RepAll.cons h2 RepAll.nil)⟩
theorem itOk_zip {K : PySem.W.Frag} {P : Hp} {l l2 : Addr} {ds es : List D} {vs ws : List V} {Sq : Hp → Addr → List V → Prop} {J : It}
    (hJ : J = { go := fun i H => ∃ xs ys x y, Sq H l xs ∧ Sq H l2 ys ∧ xs[i]? = some x ∧ ys[i]? = some y, yld := fun i H v H' => ∃ T x y, v = V.ref T ∧ H T = none ∧ H' = upd H T (HO.tup [x, y]) ∧ (∀ (xs : List V), Sq H l xs → xs[i]? = some x) ∧ ∀ (ys : List V), Sq H l2 ys → ys[i]? = some y, stop := fun i H => ∃ xs ys, Sq H l xs ∧ Sq H l2 ys ∧ (xs.length ≤ i ∨ ys.length ≤ i) })
    (h1 : ∀ H', Same P H' → Sq H' l vs) (h2 : ∀ H', Same P H' → Sq H' l2 ws) (r1 : RepAll K T P ds vs) (r2 : RepAll K T P es ws) : ItOk K T P J (zipL ds es) := fun i P' H' hp hh => by
  subst hJ
  have g1 := h1 H' (hp.trans hh)
  have g2 := h2 H' (hp.trans hh)
  have l1 := r1.length
  have l2 := r2.length
  rw [zipL_len]
  refine ⟨fun hi => ?_, fun hi => ⟨vs, ws, g1, g2, by omega⟩, fun v H'' hi hy => ?_⟩
  · obtain ⟨v, hv⟩ := at_of_lt (xs := vs) (i := i) (by omega)
    obtain ⟨w, hw⟩ := at_of_lt (xs := ws) (i := i) (by omega)
    exact ⟨vs, ws, v, w, g1, g2, hv, hw⟩
  · obtain ⟨t, u, w, rfl, ht, rfl, hu, hw⟩ := hy
    obtain ⟨d, h3, h4⟩ := rep_at r1 (hu _ g1)
    obtain ⟨d2, h5, h6⟩ := rep_at r2 (hw _ g2)
    have ex := ext_new (o := HO.tup [u, w]) hh ht
    exact ⟨_, _, ex, zipL_at h3 h5, rep_tup2 upd_same (Rep.mono (hp.trans ex.pp) _ _ h4) (Rep.mono (hp.trans ex.pp) _ _ h6)⟩
theorem itOk_enum {K : PySem.W.Frag} {P : Hp} {l : Addr} {ds : List D} {vs : List V} (h1 : ∀ H', Same P H' → SqL K H' l vs) (r1 : RepAll K T P ds vs) : ItOk K T P (Ite K l) (enumL 0 ds) := fun i P' H' hp hh => by
  have g1 := h1 H' (hp.trans hh)
  have l1 := r1.length
  rw [enumL_len]
  refine ⟨fun hi => ?_, fun hi => ⟨vs, g1, by omega⟩, fun v H'' hi hy => ?_⟩
  · obtain ⟨v, hv⟩ := at_of_lt (xs := vs) (i := i) (by omega)
    exact ⟨vs, v, g1, hv⟩
  · obtain ⟨t, u, rfl, ht, rfl, hu⟩ := hy
    obtain ⟨d, h3, h4⟩ := rep_at r1 (hu _ g1)
    have ex := ext_new (o := HO.tup [.int i, u]) hh ht
    refine ⟨_, _, ex, enumL_at h3, rep_tup2 upd_same ?_ (Rep.mono (hp.trans ex.pp) _ _ h4)⟩
    unfold Rep
    simp
def zipR : D → D → R (List D)
  | .lst xs, .lst ys => .ok (zipL xs ys)
  | .tup xs, .tup ys => .ok (zipL xs ys)
  | _, _ => .bad
def enumR : D → R (List D)
  | .lst xs => .ok (enumL 0 xs)
  | _ => .bad
theorem evI_zip {tpos : Pos} {elts : List Expr} {kk : Nat} (g : Gd X k) (hg : Gl X "zip") (ha : EvA X T W ρ [a, b] (allR [da, db])) (hs : starEach [a, b] X.env = (false, eval a X.env) :: starEach [b] X.env) (hs2 : (backTo pos (starEach [b] X.env)).any (·.1) = false) :
    EvI X T W ρ (.Tuple elts kk tpos) (.Call (.Name "zip" p) [a, b] [] pos) (op2 zipR da db) := fun P H σ R1 S h => by
  refine wpI_of (RZ.pi_zipA hg g.bi.zip aw hs hs2) ?_
  rw [all2] at h
  refine evIA_bind ha S h fun vs ws P1 H1 h1 e1 S1 r1 q1 => ?_
  match vs, r1, q1 with
  | [v, v2], r1, q1 =>
    unfold RepAll at r1
    obtain ⟨w, t, rfl, r1, r2⟩ := r1
    unfold RepAll at r2
    obtain ⟨w2, t2, rfl, r2, r3⟩ := r2
    unfold RepAll at r3
    subst r3
    cases v with
    | lst ds =>
      cases v2 with
      | lst es =>
        unfold Rep at r1 r2
        obtain ⟨l, us, rfl, h2, h3⟩ := r1
        obtain ⟨l2, us2, rfl, h4, h5⟩ := r2
        refine ⟨l, l2, us, us2, rfl, .inl ⟨SqL.of (e1.ph _ _ h2), SqL.of (e1.ph _ _ h4), q1 _ P1 H1 (Ext.refl e1.ph) (itOk_zip (Sq := SqL X.K) rfl (fun H' hs => SqL.of (hs _ _ h2)) (fun H' hs => SqL.of (hs _ _ h4)) h3 h5)⟩⟩
      | _ => exact q1.elim
    | tup ds =>
      cases v2 with
      | tup es =>
        unfold Rep at r1 r2
        obtain ⟨l, us, rfl, h2, h3⟩ := r1
        obtain ⟨l2, us2, rfl, h4, h5⟩ := r2
        refine ⟨l, l2, us, us2, rfl, .inr ⟨.inl (.inl (e1.ph _ _ h2)), .inl (.inl (e1.ph _ _ h4)), q1 _ P1 H1 (Ext.refl e1.ph) (itOk_zip (Sq := SqT X.K) rfl (fun H' hs => .inl (.inl (hs _ _ h2))) (fun H' hs => .inl (.inl (hs _ _ h4))) h3 h5)⟩⟩
      | _ => exact q1.elim
    | _ => exact q1.elim
  | [], _, q1 => exact q1.elim
  | [_], _, q1 => exact q1.elim
  | _ :: _ :: _ :: _, _, q1 => exact q1.elim
theorem evI_enum {tpos : Pos} {elts : List Expr} {kk : Nat} (g : Gd X k) (hg : Gl X "enumerate") (ha : EvA X T W ρ [a] (allR [da])) (hs : starEach [a] X.env = [(false, eval a X.env)]) :
    EvI X T W ρ (.Tuple elts kk tpos) (.Call (.Name "enumerate" p) [a] [] pos) (da.bind enumR) := fun P H σ R1 S h => by
  refine wpI_of (pi_enum hg g.bi.enumerate aw hs) ?_
  rw [all1] at h
  refine evIA_bind ha S h fun vs ws P1 H1 h1 e1 S1 r1 q1 => ?_
  match vs, r1, q1 with
  | [v], r1, q1 =>
    unfold RepAll at r1
    obtain ⟨w, t, rfl, r1, r2⟩ := r1
    unfold RepAll at r2
    subst r2
    cases v with
    | lst ds =>
      unfold Rep at r1
      obtain ⟨l, us, rfl, h2, h3⟩ := r1
      exact ⟨l, us, rfl, SqL.of (e1.ph _ _ h2), q1 _ P1 H1 (Ext.refl e1.ph) (itOk_enum (fun H' hs => SqL.of (hs _ _ h2)) h3)⟩
    | _ => exact q1.elim
  | [], _, q1 => exact q1.elim
  | _ :: _ :: _, _, q1 => exact q1.elim

/-! ### if -/
variable {S S' B : Type} {ios : List Nat} {mkN : S → List C} {mkB : B → List C} {rest body thn els : List Stmt} {st : Stmt} {i j : Nat}
theorem post_seq {mk : S' → List C} {z : Zn} {ra : R (Fl S' B)} {kk : S' → R (Fl S B)} {D1 : Ends} (hz : z.io.map (·.1) = ios) (hr : ∀ s, Ss X T W fr ios mkN mkB (mk s) rest (kk s)) (h : PostS X.K T W fr mkN mkB z (seqR ra kk) D1) :
    PostS X.K T W fr mk mkB z ra ⟨wpSs X rest D1, D1.rt, D1.bk, D1.ct⟩ := by
  cases ra with
  | ok f =>
    cases f with
    | nx s => exact fun P H σ Z => hr s z P H σ D1 hz Z h
    | bk b => exact h
    | rt d os => exact h
  | ex e => exact h
  | bad => exact h
theorem post_end {mk : Empty → List C} {z : Zn} {ra : R (Fl Empty B)} {D1 : Ends} {nx : L2.St → Hp → Prop} (h : PostS X.K T W fr mkN mkB z (endR ra) D1) : PostS X.K T W fr mk mkB z ra ⟨nx, D1.rt, D1.bk, D1.ct⟩ := by
  cases ra with
  | ok f =>
    cases f with
    | nx s => exact nomatch s
    | bk b => exact h
    | rt d os => exact h
  | ex e => exact h
  | bad => exact h
/-- both ways go on -/
theorem ss_if {mk : S' → List C} {ra rb : R (Fl S' B)} {kk : S' → R (Fl S B)} (hc : EvT X T W ρ c ca) (ha : Ss X T W fr ios mk mkB ρ thn ra) (hb : Ss X T W fr ios mk mkB ρ els rb) (hr : ∀ s, Ss X T W fr ios mkN mkB (mk s) rest (kk s)) :
    Ss X T W fr ios mkN mkB ρ (.If c thn els pos :: rest) (seqR (ifE ca ra rb) kk) := fun z P H σ D1 hz Z h => by
  refine wpSs_of (pss_cons (ps_if tw ssw ssw) ssw) ?_
  have h2 : PostS X.K T W fr mk mkB z (ca.bind fun k => if k = true then ra else rb) ⟨wpSs X rest D1, D1.rt, D1.bk, D1.ct⟩ := post_seq hz hr h
  refine ss_bindT hc Z h2 fun v P1 H1 e1 Z1 q1 => ?_
  cases v with
  | true => exact ha z P1 H1 σ _ hz Z1 q1
  | false => exact hb z P1 H1 σ _ hz Z1 q1
/-- the first way goes out -/
theorem ss_ifE {mk : Empty → List C} {ra : R (Fl Empty B)} {rr : R (Fl S B)} (hc : EvT X T W ρ c ca) (ha : Ss X T W fr ios mk mkB ρ thn ra) (hr : Ss X T W fr ios mkN mkB ρ rest rr) :
    Ss X T W fr ios mkN mkB ρ (.If c thn [] pos :: rest) (ifE ca (endR ra) rr) := fun z P H σ D1 hz Z h => by
  refine wpSs_of (pss_cons (ps_if tw ssw pss_nil) ssw) ?_
  have h2 : PostS X.K T W fr mkN mkB z (ca.bind fun k => if k = true then endR ra else rr) D1 := h
  refine ss_bindT hc Z h2 fun v P1 H1 e1 Z1 q1 => ?_
  cases v with
  | true => exact ha z P1 H1 σ _ hz Z1 (post_end q1)
  | false => exact hr z P1 H1 σ _ hz Z1 q1
/-! ### for -/
theorem same_z {z : Zn} {P H P1 : Hp} {σ : L2.St} (Z : SimZ X.K T z P H σ ρ) : SimZ X.K T ⟨P, z.H0, z.io⟩ P H σ ρ := ⟨Z.sim, Z.frame, Same.refl _, fun _ _ h => h, Z.loc, Z.ios⟩
theorem back_z {z : Zn} {P H P1 : Hp} {σ σ1 : L2.St} {ρ' : List C} (hp : Same z.P0 P1) (hn : ∀ a, z.H0 a ≠ none → z.P0 a = none → P1 a = none) (Z : SimZ X.K T ⟨P1, z.H0, z.io⟩ P H σ ρ') : SimZ X.K T z P H σ ρ' :=
  ⟨Z.sim, Z.frame, hp.trans Z.pp, fun a h1 h2 => Z.nw a h1 (hn a h1 h2), Z.loc, Z.ios⟩
theorem back_r {z : Zn} {P H P1 : Hp} {w : V} {d : D} {os : List D} (hp : Same z.P0 P1) (hn : ∀ a, z.H0 a ≠ none → z.P0 a = none → P1 a = none) (Z : RetZ X.K T fr ⟨P1, z.H0, z.io⟩ P H w d os) : RetZ X.K T fr z P H w d os :=
  ⟨Z.sub, Z.frame, hp.trans Z.pp, fun a h1 h2 => Z.nw a h1 (hn a h1 h2), Z.rep, Z.outs⟩
theorem post_z {z : Zn} {P1 : Hp} {r : R (Fl S B)} {D1 : Ends} (hp : Same z.P0 P1) (hn : ∀ a, z.H0 a ≠ none → z.P0 a = none → P1 a = none) (h : PostS X.K T W fr mkN mkB z r D1) : PostS X.K T W fr mkN mkB ⟨P1, z.H0, z.io⟩ r D1 := by
  cases r with
  | ok f =>
    cases f with
    | nx s => exact fun P H σ Z => h P H σ (back_z (σ1 := σ) hp hn Z)
    | bk b => exact fun P H σ Z => h P H σ (back_z (σ1 := σ) hp hn Z)
    | rt d os => exact fun P H w Z => h P H w (back_r hp hn Z)
  | ex e => exact h
  | bad => exact h
theorem post_aft {mk : S' → List C} {z : Zn} {r : R (Fl S' S')} {kk : S' → R (Fl S B)} {D1 : Ends} (hz : z.io.map (·.1) = ios) (hr : ∀ s, Ss X T W fr ios mkN mkB (mk s) rest (kk s)) (h : PostS X.K T W fr mkN mkB z (aftR r kk) D1) :
    PostS X.K T W fr mk mk z r ⟨wpSs X rest D1, D1.rt, wpSs X rest D1, D1.ct⟩ := by
  cases r with
  | ok f =>
    cases f with
    | nx s => exact fun P H σ Z => hr s z P H σ D1 hz Z h
    | bk s => exact fun P H σ Z => hr s z P H σ D1 hz Z h
    | rt d os => exact h
  | ex e => exact h
  | bad => exact h
/-- the turns of a for -/
theorem for_turns {mk : S' → List C} {z : Zn} {P H : Hp} {σ : L2.St} {D2 : Ends} {J : It} {ds : List D} {s0 : S'} {f : D → S' → R (Fl S' S')} {g : TG} {tb : TS} (hD : D2.nx = D2.bk) (hz : z.io.map (·.1) = ios) (hJ : ItOk X.K T P J ds)
    (hg : ∀ (z : Zn) d v s P H σ (D3 : Ends), z.io.map (·.1) = ios → SimZ X.K T z P H σ (mk s) → Rep X.K T P d v → PostS X.K T W fr mk mk z (f d s) D3 → g v σ H fun σ2 H2 => tb D3 σ2 H2)
    (Z : SimZ X.K T z P H σ (mk s0)) (h : PostS X.K T W fr mk mk z (forR ds s0 f) D2) :
    ∃ Wm : Nat → Nat → L2.St → Hp → Prop, (∃ m, Wm 0 m σ H) ∧ ∀ (i m : Nat) (σ : L2.St) (H : Hp), Wm i m σ H → (J.stop i H ∧ D2.nx σ H) ∨ (J.go i H ∧ ∃ N : L2.St → Hp → Prop, (∀ σ' H', N σ' H' → ∃ m', m' < m ∧ Wm (i + 1) m' σ' H') ∧
      ∀ x H', J.yld i H x H' → g x σ H' fun σ2 H2 => tb { nx := N, rt := D2.rt, bk := D2.nx, ct := N } σ2 H2) := by
  have h := post_z Z.pp Z.nw h
  have Z := same_z (P1 := P) Z
  refine ⟨fun i m σ H => i + m = ds.length ∧ ∃ s P', SimZ X.K T ⟨P, z.H0, z.io⟩ P' H σ (mk s) ∧ PostS X.K T W fr mk mk ⟨P, z.H0, z.io⟩ (forR (ds.drop i) s f) D2, ⟨ds.length, by omega, s0, P, Z, h⟩, ?_⟩
  rintro i m σ1 H1 ⟨hm, s, P', Z', h'⟩
  obtain ⟨j1, j2, j3⟩ := hJ i P' H1 Z'.pp Z'.sim.sub
  by_cases hi : i < ds.length
  · refine .inr ⟨j1 hi, fun σ' H' => ∃ m', m' < m ∧ (i + 1 + m' = ds.length ∧ ∃ s P', SimZ X.K T ⟨P, z.H0, z.io⟩ P' H' σ' (mk s) ∧ PostS X.K T W fr mk mk ⟨P, z.H0, z.io⟩ (forR (ds.drop (i + 1)) s f) D2), fun _ _ h => h, fun x H' hy => ?_⟩
    obtain ⟨P'', d, e1, hd, hr⟩ := j3 x H' hi hy
    have hdr : ds.drop i = d :: ds.drop (i + 1) := by
      rw [List.drop_eq_getElem_cons hi]
      congr 1
      rw [List.getElem?_eq_getElem hi] at hd
      exact Option.some.inj hd
    rw [hdr] at h'
    refine hg ⟨P, z.H0, z.io⟩ d x s P'' H' σ1 _ hz (Z'.ext e1) hr ?_
    unfold forR at h'
    cases hf : f d s with
    | bad => rw [hf] at h'; exact h'
    | ex e => rw [hf] at h'; exact h'
    | ok fl =>
      rw [hf] at h'
      cases fl with
      | nx s' => exact fun P3 H3 σ3 Z3 => ⟨m - 1, by omega, by omega, s', P3, Z3, h'⟩
      | bk b =>
        show ∀ P3 H3 σ3, _ → D2.nx σ3 H3
        rw [hD]
        exact h'
      | rt d2 os => exact h'
  · refine .inl ⟨j2 (by omega), ?_⟩
    rw [List.drop_eq_nil_of_le (by omega)] at h'
    exact h' P' H1 σ1 Z'
/-- for x in it -/
theorem ss_for {mk : S' → List C} {it : R (List D)} {s0 : S'} {f : D → S' → R (Fl S' S')} {kk : S' → R (Fl S B)} {px : Pos} (g : Gd X k) (hp : PassesOwn (model X.prog X.w) X.A X.env X.xe) (hi : X.N[i]? = some x) (hx : Loc X.env.scope x) (hf : X.fn x = true ∨ X.env.scope.names.lookup x = some .local) (hio : ios.contains i = false)
    (hit : EvI X T W ρ (.Name x px) iter it) (hw : Weak ρ (mk s0)) (ho : ios.all (ownAt (mk s0)) = true) (hb : ∀ d s, Ss X T W fr ios mk mk ((mk s).set i (.val d)) body (f d s)) (hr : ∀ s, Ss X T W fr ios mkN mkB (mk s) rest (kk s))
    (hfs : ∀ u, foldedSetIterable iter X.env u = pure u := by intro u; rfl) :
    Ss X T W fr ios mkN mkB ρ (.For (.Name x px) iter body [] pos :: rest) (aftR (it.bind fun xs => forR xs s0 f) kk) := fun z P H σ D1 hz Z h => by
  refine wpSs_of (pss_cons (ps_for hp g.calm iw (pg_name g.nd hi hx hf) ssw hfs) ssw) ?_
  have h2 := post_aft hz hr h
  show wpI X _ iter σ H _
  refine hit P H σ _ Z.sim ?_
  cases it with
  | bad => exact h2
  | ex e => exact fun cls dd H' s' r => h2 cls dd σ H' (fun b o e1 e2 => s' _ _ (Z.frame b o e1 e2)) r
  | ok ds =>
    intro J P1 H1 e1 hJ
    have Z1 := (Z.ext e1).weak hw (by rw [hz]; exact ho)
    exact for_turns (D2 := ⟨wpSs X rest D1, D1.rt, wpSs X rest D1, D1.ct⟩) rfl hz hJ (fun z d v s P H σ D3 hz Z r q => hb d s z P H _ D3 hz (Z.set (io_ne hz hio) r) q) Z1 h2
theorem rep2 {K : PySem.W.Frag} {P : Hp} {d d2 : D} {v : V} (r : Rep K T P (.tup [d, d2]) v) : ∃ t u w, v = .ref t ∧ P t = some (.tup [u, w]) ∧ Rep K T P d u ∧ Rep K T P d2 w := by
  unfold Rep at r
  obtain ⟨t, vs, rfl, h1, h2⟩ := r
  unfold RepAll at h2
  obtain ⟨u, l, rfl, h3, h4⟩ := h2
  unfold RepAll at h4
  obtain ⟨w, l2, rfl, h5, h6⟩ := h4
  unfold RepAll at h6
  subst h6
  exact ⟨t, u, w, rfl, h1, h3, h5⟩
theorem post_un2 {z : Zn} {d : D} {F : D → D → R (Fl S B)} {D1 : Ends} (h : PostS X.K T W fr mkN mkB z (un2 F d) D1) : ∃ a b, d = .tup [a, b] ∧ PostS X.K T W fr mkN mkB z (F a b) D1 := by
  unfold un2 at h
  split at h
  · exact ⟨_, _, rfl, h⟩
  · exact h.elim
theorem post_un3 {z : Zn} {d : D} {F : D → D → D → R (Fl S B)} {D1 : Ends} (h : PostS X.K T W fr mkN mkB z (un3 F d) D1) : ∃ a b c, d = .tup [a, b, c] ∧ PostS X.K T W fr mkN mkB z (F a b c) D1 := by
  unfold un3 at h
  split at h
  · exact ⟨_, _, _, rfl, h⟩
  · exact h.elim
/-- a slot that a store may go to -/
structure Sl (X : Cx) (ios : List Nat) (i : Nat) (x : Str) : Prop where
  nm : X.N[i]? = some x
  lo : Loc X.env.scope x
  fn : X.fn x = true ∨ X.env.scope.names.lookup x = some .local
  io : ios.contains i = false
/-- for x, y in it -/
theorem ss_for2 {mk : S' → List C} {it : R (List D)} {s0 : S'} {f : D → D → S' → R (Fl S' S')} {kk : S' → R (Fl S B)} {px py pt : Pos} {kt : Nat} (g : Gd X k) (hp : PassesOwn (model X.prog X.w) X.A X.env X.xe) (hi : Sl X ios i x) (hj : Sl X ios j y)
    (hit : EvI X T W ρ (.Tuple [.Name x px, .Name y py] kt pt) iter it) (hw : Weak ρ (mk s0)) (ho : ios.all (ownAt (mk s0)) = true) (hb : ∀ d d2 s, Ss X T W fr ios mk mk (((mk s).set i (.val d)).set j (.val d2)) body (f d d2 s)) (hr : ∀ s, Ss X T W fr ios mkN mkB (mk s) rest (kk s))
    (hfs : ∀ u, foldedSetIterable iter X.env u = pure u := by intro u; rfl) :
    Ss X T W fr ios mkN mkB ρ (.For (.Tuple [.Name x px, .Name y py] kt pt) iter body [] pos :: rest) (aftR (it.bind fun xs => forR xs s0 fun d s => un2 (fun a b => f a b s) d) kk) := fun z P H σ D1 hz Z h => by
  refine wpSs_of (pss_cons (ps_for hp g.calm iw (pg_tup g.calm (pgs_cons (pg_name g.nd hi.nm hi.lo hi.fn) (pgs_cons (pg_name g.nd hj.nm hj.lo hj.fn) pgs_nil rfl) rfl) (n := 2) rfl rfl) ssw hfs) ssw) ?_
  have h2 := post_aft hz hr h
  show wpI X _ iter σ H _
  refine hit P H σ _ Z.sim ?_
  cases it with
  | bad => exact h2
  | ex e => exact fun cls dd H' s' r => h2 cls dd σ H' (fun b o e1 e2 => s' _ _ (Z.frame b o e1 e2)) r
  | ok ds =>
    intro J P1 H1 e1 hJ
    have Z1 := (Z.ext e1).weak hw (by rw [hz]; exact ho)
    refine for_turns (D2 := ⟨wpSs X rest D1, D1.rt, wpSs X rest D1, D1.ct⟩) rfl hz hJ (fun z d v s P H σ D3 hz Z r q => ?_) Z1 h2
    obtain ⟨a, b, rfl, q⟩ := post_un2 q
    obtain ⟨t, u, w, rfl, h3, h4, h5⟩ := rep2 r
    exact ⟨t, _, rfl, .inl (.inl (Z.sim.sub _ _ h3)), rfl, _, _, rfl, _, _, rfl, rfl, hb a b s z P H _ D3 hz ((Z.set (io_ne hz hi.io) h4).set (io_ne hz hj.io) h5) q⟩
/-- x, y = e -/
theorem ss_un2 {px py pt : Pos} {kt : Nat} {F : D → D → R (Fl S B)} (g : Gd X k) (hi : Sl X ios i x) (hj : Sl X ios j y) (he : Ev X T W .P ρ e da) (hs : swapsWithSole [.Tuple [.Name x px, .Name y py] kt pt] e pos.line X.env = pure false) (hs2 : swappedStores [.Tuple [.Name x px, .Name y py] kt pt] e X.env = pure none)
    (hr : ∀ a b, Ss X T W fr ios mkN mkB ((ρ.set i (.val a)).set j (.val b)) rest (F a b)) : Ss X T W fr ios mkN mkB ρ (.Assign [.Tuple [.Name x px, .Name y py] kt pt] e pos :: rest) (da.bind (un2 F)) := fun z P H σ D1 hz Z h => by
  refine wpSs_of (pss_cons (ps_asg pw (pg_tup g.calm (pgs_cons (pg_name g.nd hi.nm hi.lo hi.fn) (pgs_cons (pg_name g.nd hj.nm hj.lo hj.fn) pgs_nil rfl) rfl) (n := 2) rfl rfl) hs hs2) ssw) ?_
  refine ss_bind he Z h fun v w P1 H1 e1 Z1 r1 q1 => ?_
  obtain ⟨a, b, rfl, q⟩ := post_un2 q1
  obtain ⟨t, u, w, rfl, h3, h4, h5⟩ := rep2 r1
  exact ⟨t, _, rfl, .inl (.inl (Z1.sim.sub _ _ h3)), rfl, _, _, rfl, _, _, rfl, rfl, hr a b z P1 H1 _ D1 hz ((Z1.set (io_ne hz hi.io) h4).set (io_ne hz hj.io) h5) q⟩
/-! ### while -/
theorem ss_while {mk : S' → List C} {s0 : S'} {n : Nat} {fc : S' → R Bool} {f : S' → R (Fl S' S')} {kk : S' → R (Fl S B)} (hp : PassesOwn (model X.prog X.w) X.A X.env X.xe) (hw : Weak ρ (mk s0)) (ho : ios.all (ownAt (mk s0)) = true)
    (hc : ∀ s, EvT X T W (mk s) c (fc s)) (hb : ∀ s, Ss X T W fr ios mk mk (mk s) body (f s)) (hr : ∀ s, Ss X T W fr ios mkN mkB (mk s) rest (kk s)) :
    Ss X T W fr ios mkN mkB ρ (.While c body [] pos :: rest) (aftR (whileR n s0 fc f) kk) := fun z P H σ D1 hz Z h => by
  refine wpSs_of (pss_cons (ps_while hp tw ssw) ssw) ?_
  have h2 := post_aft hz hr h
  refine ⟨fun m σ H => ∃ s P, SimZ X.K T z P H σ (mk s) ∧ PostS X.K T W fr mk mk z (whileR m s fc f) ⟨wpSs X rest D1, D1.rt, wpSs X rest D1, D1.ct⟩, ⟨n, s0, P, Z.weak hw (by rw [hz]; exact ho), h2⟩, ?_⟩
  rintro m σ1 H1 ⟨s, P1, Z1, h3⟩
  cases m with
  | zero => exact h3.elim
  | succ m =>
    unfold whileR at h3
    refine ss_bindT (hc s) Z1 h3 fun v P2 H2 e2 Z2 q2 => ?_
    cases v with
    | false => exact q2 P2 H2 σ1 Z2
    | true =>
      refine ⟨fun σ' H' => ∃ s P, SimZ X.K T z P H' σ' (mk s) ∧ PostS X.K T W fr mk mk z (whileR m s fc f) ⟨wpSs X rest D1, D1.rt, wpSs X rest D1, D1.ct⟩, fun σ' H' h => ⟨m, Nat.lt_succ_self m, h⟩, ?_⟩
      refine hb s z P2 H2 σ1 _ hz Z2 ?_
      cases hf : f s with
      | bad => rw [hf] at q2; exact q2
      | ex e => rw [hf] at q2; exact q2
      | ok fl =>
        rw [hf] at q2
        cases fl with
        | nx s' => exact fun P3 H3 σ3 Z3 => ⟨s', P3, Z3, q2⟩
        | bk b => exact q2
        | rt d os => exact q2
/-! ### x, y = a, b with two locals -/
theorem ss_par {px py pt pt2 : Pos} {kt k2 : Nat} {F : D → D → R (Fl S B)} (g : Gd X k) (hi : Sl X ios i x) (hj : Sl X ios j y) (hij : i ≠ j) (hx : X.env.scope.names.lookup x = some .local) (hy : X.env.scope.names.lookup y = some .local) (ha : EvA X T W ρ [a, b] (allR [da, db]))
    (hsw : swappedStores [.Tuple [.Name x px, .Name y py] kt pt] (.Tuple [a, b] k2 pt2) X.env = pure (some [x, y])) (hs : swapsWithSole [.Tuple [.Name x px, .Name y py] kt pt] (.Tuple [a, b] k2 pt2) pos.line X.env = pure false)
    (hr : ∀ a b, Ss X T W fr ios mkN mkB ((ρ.set i (.val a)).set j (.val b)) rest (F a b)) : Ss X T W fr ios mkN mkB ρ (.Assign [.Tuple [.Name x px, .Name y py] kt pt] (.Tuple [a, b] k2 pt2) pos :: rest) (op2 F da db) := fun z P H σ D1 hz Z h => by
  refine wpSs_of (pss_cons (ps_par g.calm g.nd hi.nm hj.nm hij hx hy aw hsw hs) ssw) ?_
  have h2 : PostS X.K T W fr mkN mkB z ((allR [da, db]).bind fun | [a, b] => F a b | _ => .bad) D1 := by cases da <;> cases db <;> exact h
  show wpA X [a, b] σ H _
  refine ha P H σ _ Z.sim ?_
  cases hd : allR [da, db] with
  | bad => rw [hd] at h2; exact h2
  | ex e => rw [hd] at h2; exact fun cls dd H' s' r => h2 cls dd σ H' (fun b o e1 e2 => s' _ _ (Z.frame b o e1 e2)) r
  | ok ds =>
    rw [hd] at h2
    intro ws P1 H1 e1 rr
    match ds, rr, h2 with
    | [v, v2], rr, h2 =>
      unfold RepAll at rr
      obtain ⟨w, t, rfl, r1, r2⟩ := rr
      unfold RepAll at r2
      obtain ⟨w2, t2, rfl, r2, r3⟩ := r2
      unfold RepAll at r3
      subst r3
      exact ⟨w, w2, rfl, hr v v2 z P1 H1 _ D1 hz (((Z.ext e1).set (io_ne hz hi.io) r1).set (io_ne hz hj.io) r2) h2⟩
    | [], _, h2 => exact h2.elim
    | [_], _, h2 => exact h2.elim
    | _ :: _ :: _ :: _, _, h2 => exact h2.elim
end
end Fj

/-! ## Lay12 -/
namespace Fj
open PySem PySem.Spec PyProof.Rows L2

/-! ### comprehensions -/
def WF : WX := fun _ _ _ _ => False
theorem takesF {X : Cx} : Takes X WF := by
  rintro u s' ⟨a, B, sI, pins, σ, H, cls, d, _, _, _, _, _, _, _, _, h⟩
  exact h.elim
def wipeC (ρ : List C) : List Nat → List C
  | [] => ρ
  | i :: r => (wipeC ρ r).set i .un
section
variable {K : PySem.W.Frag} {X : Cx} {T : Tb} {W : WX} {k : Nat} {ρ : List C} {a b c e tg iter elt : Expr} {da db : R D} {ca cb : R Bool} {pos p p2 p3 : Pos} {m : Md} {x y : Str} {fr : Bool} {i j : Nat}
theorem Sim.wipe1 {P H : Hp} {σ : L2.St} (S : Sim K T P H σ ρ) (i : Nat) : Sim K T P H (σ.set i none) (ρ.set i .un) := by
  refine ⟨S.sub, by simpa using S.len, fun j c v h1 h2 => ?_, fun j l d e a h1 h2 h3 h4 => ?_⟩
  · by_cases q : i = j
    · subst q
      have hl : i < ρ.length := by have := (List.getElem?_eq_some_iff.mp h1).1; simpa using this
      rw [List.getElem?_set_self hl] at h1
      cases h1; trivial
    · rw [List.getElem?_set_ne q] at h1 h2
      exact S.cell j c v h1 h2
  · have q : ∀ {n : Nat} {d : D}, (ρ.set i C.un)[n]? = some (C.own d) → i ≠ n := fun {n d} h e => by
      subst e
      have hl : i < ρ.length := by have := (List.getElem?_eq_some_iff.mp h).1; simpa using this
      rw [List.getElem?_set_self hl] at h; cases h
    have q1 := q h1
    have q2 := q h2
    rw [List.getElem?_set_ne q1] at h1 h3
    rw [List.getElem?_set_ne q2] at h2 h4
    exact S.apart j l d e a h1 h2 h3 h4
theorem Sim.wipe {P H : Hp} {σ : L2.St} {ρ : List C} (S : Sim K T P H σ ρ) : ∀ (vs : List Nat), Sim K T P H (wipe σ vs) (wipeC ρ vs)
  | [] => S
  | i :: r => (Sim.wipe S r).wipe1 i
theorem Sim.set {P H : Hp} {σ : L2.St} {w : V} {d : D} (S : Sim K T P H σ ρ) (i : Nat) (r : Rep K T P d w) : Sim K T P H (σ.set i (some w)) (ρ.set i (.val d)) := by
  refine ⟨S.sub, by simpa using S.len, fun j c v h1 h2 => ?_, fun j l d' e' a h1 h2 h3 h4 => ?_⟩
  · by_cases q : i = j
    · subst q
      have hl : i < ρ.length := by have := (List.getElem?_eq_some_iff.mp h1).1; simpa using this
      rw [List.getElem?_set_self hl] at h1
      rw [List.getElem?_set_self (by rw [← S.len]; exact hl)] at h2
      cases h1; cases h2
      exact ⟨w, rfl, r⟩
    · rw [List.getElem?_set_ne q] at h1 h2
      exact S.cell j c v h1 h2
  · have q1 : i ≠ j := fun q => by
      subst q
      have hl : i < ρ.length := by have := (List.getElem?_eq_some_iff.mp h1).1; simpa using this
      rw [List.getElem?_set_self hl] at h1; cases h1
    have q2 : i ≠ l := fun q => by
      subst q
      have hl : i < ρ.length := by have := (List.getElem?_eq_some_iff.mp h2).1; simpa using this
      rw [List.getElem?_set_self hl] at h2; cases h2
    rw [List.getElem?_set_ne q1] at h1 h3
    rw [List.getElem?_set_ne q2] at h2 h4
    exact S.apart j l d' e' a h1 h2 h3 h4
/-- what the inner block's rules are asked for -/
def EvB (X : Cx) (scope : Scope) (T : Tb) (ρ : List C) (e : Expr) (d : R D) : Prop := ∀ s H C cl fp, Ev (X.blk s H scope (compEnvC scope cl C X.env) fp) T WF .P ρ e d
def EvTB (X : Cx) (scope : Scope) (T : Tb) (ρ : List C) (e : Expr) (d : R Bool) : Prop := ∀ s H C cl fp, EvT (X.blk s H scope (compEnvC scope cl C X.env) fp) T WF ρ e d
/-- the filters -/
structure Flt (X : Cx) (scope : Scope) (T : Tb) (ifs : List Expr) (tt : TT) (ρf : D → List C) (t : D → R Bool) : Prop where
  pt : ∀ s H C cl fp, PTs (X.blk s H scope (compEnvC scope cl C X.env) fp) ifs tt
  ev : ∀ d P H σ Q, Sim X.K T P H σ (ρf d) → PostT T WF P H σ (t d) Q → tt σ H Q
/-- the target -/
structure Tgt (X : Cx) (scope : Scope) (T : Tb) (tg : Expr) (g : TG) (vs : List Nat) (ρ : List C) (ok : D → Bool) (ρf : D → List C) : Prop where
  pg : ∀ s H C cl fp, PG (X.blk s H scope (compEnvC scope cl C X.env) fp) tg g
  ev : ∀ d v P H σ Q, ok d = true → Sim X.K T P H σ ρ → Rep X.K T P d v → (∀ σ2, Sim X.K T P H σ2 (ρf d) → wipe σ2 vs = wipe σ vs → Q σ2 H) → g v (wipe σ vs) H Q
theorem compL_bad {t : D → R Bool} {f : D → R D} {x : D} {xs : List D} {ys : List D} (h : compL t f (x :: xs) = .ok ys) : (∃ z, f x = .ok z ∧ t x = .ok true ∧ ∃ zs, compL t f xs = .ok zs ∧ ys = z :: zs) ∨ (t x = .ok false ∧ compL t f xs = .ok ys) := by
  unfold compL at h
  cases ht : t x with
  | bad => rw [ht] at h; cases h
  | ex e => rw [ht] at h; cases h
  | ok c =>
    rw [ht] at h
    cases c with
    | false => exact .inr ⟨rfl, h⟩
    | true =>
      simp only [R.nox_ok, R.ok_bind, if_true] at h
      cases hf : f x with
      | bad => rw [hf] at h; cases h
      | ex e => rw [hf] at h; cases h
      | ok z =>
        rw [hf] at h
        simp only [R.nox_ok, R.ok_bind] at h
        cases hc : compL t f xs with
        | bad => rw [hc] at h; cases h
        | ex e => rw [hc] at h; cases h
        | ok zs =>
          rw [hc] at h
          simp only [R.ok_bind] at h
          cases h
          exact .inl ⟨z, rfl, rfl, zs, rfl, rfl⟩
theorem compL_ex {t : D → R Bool} {f : D → R D} {e : D} : ∀ {xs : List D}, compL t f xs ≠ .ex e
  | [] => by simp [compL]
  | x :: xs => by
    unfold compL
    cases ht : t x with
    | bad => simp [R.nox, R.bind]
    | ex e => simp [R.nox, R.bind]
    | ok c =>
      cases c with
      | false => simpa using compL_ex
      | true =>
        simp only [R.nox_ok, R.ok_bind, if_true]
        cases hf : f x with
        | bad => simp [R.nox, R.bind]
        | ex e => simp [R.nox, R.bind]
        | ok z =>
          simp only [R.nox_ok, R.ok_bind]
          cases hc : compL t f xs with
          | bad => simp
          | ex e2 => exact absurd hc compL_ex
          | ok zs => simp
theorem compL_len {t : D → R Bool} {f : D → R D} : ∀ {xs ys : List D}, compL t f xs = .ok ys → ys.length ≤ xs.length
  | [], ys, h => by simp [compL] at h; subst h; simp
  | x :: xs, ys, h => by
    rcases compL_bad h with ⟨z, _, _, zs, hz, rfl⟩ | ⟨_, hz⟩
    · have := compL_len hz; simp; omega
    · have := compL_len hz; simp; omega
abbrev teB (X : Cx) (scope : Scope) (elt : Expr) : TE := fun σ H Q => ∀ s0 H0 C cl fp, wpE (X.blk s0 H0 scope (compEnvC scope cl C X.env) fp) elt σ H Q
theorem comp_core {vs : List Nat} {scope : Scope} {ifs : List Expr} {it : R (List D)} {t : D → R Bool} {f : D → R D} {g : TG} {tt : TT} {ok : D → Bool} {ρf : D → List C} (hit : EvIW X T W ρ tg iter it)
    (hT : Tgt X scope T tg g vs ρ ok ρf) (hF : Flt X scope T ifs tt ρf t) (he : ∀ d, EvB X scope T (ρf d) elt (f d)) (hok : ∀ d, ok d = false → (t d = .ok true ∧ f d = .bad) ∨ t d = .bad)
    {P H : Hp} {σ : L2.St} {Q : VK} (S : Sim X.K T P H σ ρ) (q : Post X.K T W .F P H σ (compE it t f) Q) : tLc (wpI X tg iter) g tt (teB X scope elt) vs σ H Q := by
  show wpI X tg iter σ H _
  refine hit P H σ _ S ?_
  cases it with
  | bad => exact q.elim
  | ex e => exact q
  | ok ds =>
    intro J P1 H1 e1 hJ A hA
    have q : Post X.K T W .F P H σ (if ds.length ≤ most then (compL t f ds).bind fun ys => .ok (.lst ys) else .bad) Q := q
    split at q
    case isFalse => exact q.elim
    case isTrue hlen =>
    cases hc : compL t f ds with
    | bad => rw [hc] at q; exact q.elim
    | ex e => exact absurd hc compL_ex
    | ok ys =>
      rw [hc] at q
      have hyl := compL_len hc
      have hPA : P1 A = none := by
        cases qq : P1 A with
        | none => rfl
        | some z => rw [e1.ph _ _ qq] at hA; cases hA
      refine ⟨fun i m H => i + m = ds.length ∧ ∃ P' accD acc zs, Same P1 P' ∧ Same P' H ∧ Same H1 H ∧ (∀ b, H1 b ≠ none → P1 b = none → P' b = none) ∧ P' A = none ∧ H A = some (.lst acc) ∧ RepAll X.K T P' accD acc ∧ compL t f (ds.drop i) = .ok zs ∧ ys = accD ++ zs ∧ accD.length ≤ i,
        ⟨ds.length, by omega, P1, [], [], ys, Same.refl _, fun b z h => by rw [upd_ne (fun e => by rw [e, hPA] at h; cases h)]; exact e1.ph _ _ h, fun b z h => by rw [upd_ne (fun e => by rw [e, hA] at h; cases h)]; exact h, fun _ _ h => h, hPA, upd_same, RepAll.nil, hc, rfl, Nat.zero_le _⟩, ?_⟩
      rintro i m H2 ⟨hm, P2, accD, acc, zs, s1, s2, s3, s4, s5, s6, s7, s8, rfl, s9⟩
      obtain ⟨j1, j2, j3⟩ := hJ i P2 H2 s1 s2 s3
      by_cases hi : i < ds.length
      · refine .inr ⟨j1 hi, fun H' => ∃ m', m' < m ∧ (i + 1 + m' = ds.length ∧ ∃ P' accD' acc' zs', Same P1 P' ∧ Same P' H' ∧ Same H1 H' ∧ (∀ b, H1 b ≠ none → P1 b = none → P' b = none) ∧ P' A = none ∧ H' A = some (.lst acc') ∧ RepAll X.K T P' accD' acc' ∧ compL t f (ds.drop (i + 1)) = .ok zs' ∧ accD ++ zs = accD' ++ zs' ∧ accD'.length ≤ i + 1), fun _ h => h, fun x H3 hy => ?_⟩
        obtain ⟨P3, d, e3, hd, hr⟩ := j3 x H3 hi hy
        have hdr : ds.drop i = d :: ds.drop (i + 1) := by
          rw [List.drop_eq_getElem_cons hi]
          congr 1
          rw [List.getElem?_eq_getElem hi] at hd
          exact Option.some.inj hd
        rw [hdr] at s8
        have hokd : ok d = true := by
          cases hh : ok d with
          | true => rfl
          | false =>
            rcases hok d hh with ⟨h1, h2⟩ | h1
            · unfold compL at s8; rw [h1, h2] at s8; cases s8
            · unfold compL at s8; rw [h1] at s8; cases s8
        have S3 : Sim X.K T P3 H3 σ ρ := by
          have S1 := S.ext e1
          have ex2 : Ext P1 H1 P2 H2 := ⟨s1, s3, s2, s4⟩
          exact (S1.ext ex2).ext e3
        refine hT.ev d x P3 H3 σ _ hokd S3 hr fun σ2 S4 hwp => ⟨hwp, ?_⟩
        have hA3 : H3 A = some (.lst acc) := e3.hh _ _ s6
        have hP3 : P3 A = none := e3.nw _ (by rw [s6]; simp) s5
        refine hF.ev d P3 H3 σ2 _ S4 ?_
        rcases compL_bad s8 with ⟨z, hz, ht, zs', hzs, rfl⟩ | ⟨ht, hzs⟩
        · rw [ht]
          intro P4 H4 e4
          show ∀ s0 H0 C cl fp, wpE (X.blk s0 H0 scope (compEnvC scope cl C X.env) fp) elt σ2 H4 _
          intro s0 H0 C cl fp
          refine he d s0 H0 C cl fp P4 H4 σ2 _ (S4.ext e4) ?_
          rw [hz]
          intro w P5 H5 e5 r5
          have hA5 : H5 A = some (.lst acc) := e5.hh _ _ (e4.hh _ _ hA3)
          have hP5 : P5 A = none := e5.nw _ (by rw [e4.hh _ _ hA3]; simp) (e4.nw _ (by rw [hA3]; simp) hP3)
          have r5 : Rep X.K T P5 z w := r5
          have hpp : Same P2 P5 := e3.pp.trans (e4.pp.trans e5.pp)
          refine ⟨acc, hA5, by rw [s7.length]; exact most_lt (by omega), m - 1, by omega, by omega, P5, accD ++ [z], acc ++ [w], zs', s1.trans hpp, fun b o h => ?_, fun b o h => ?_, fun b h1 h2 => ?_, hP5, upd_same, (RepAll.mono hpp _ _ s7).append (RepAll.cons r5 RepAll.nil), hzs, by simp, by simp; omega⟩
          · rw [upd_ne (fun e => by rw [e, hP5] at h; cases h)]; exact e5.ph _ _ h
          · rw [upd_ne (fun e => by rw [e, hA] at h; cases h)]
            exact e5.hh _ _ (e4.hh _ _ (e3.hh _ _ (s3 _ _ h)))
          · have g2 : H2 b ≠ none := ne_of_same s3 h1
            have g3 := ne_of_same e3.hh g2
            have g4 := ne_of_same e4.hh g3
            exact e5.nw _ g4 (e4.nw _ g3 (e3.nw _ g2 (s4 _ h1 h2)))
        · rw [ht]
          intro P4 H4 e4
          have hpp : Same P2 P4 := e3.pp.trans e4.pp
          have g3 : ∀ b, H2 b ≠ none → P2 b = none → P4 b = none := fun b h1 h2 => e4.nw _ (ne_of_same e3.hh h1) (e3.nw _ h1 h2)
          exact ⟨m - 1, by omega, by omega, P4, accD, acc, zs, s1.trans hpp, e4.ph, s3.trans (e3.hh.trans e4.hh), fun b h1 h2 => g3 b (ne_of_same s3 h1) (s4 _ h1 h2), g3 _ (by rw [s6]; simp) s5, e4.hh _ _ hA3, RepAll.mono hpp _ _ s7, hzs, rfl, by omega⟩
      · refine .inl ⟨j2 (by omega), ?_⟩
        rw [List.drop_eq_nil_of_le (by omega)] at s8
        have hz : zs = [] := by unfold compL at s8; cases s8; rfl
        subst hz
        rw [List.append_nil] at q
        refine q (.ref A) P2 H2 (e1.trans ⟨s1, s3, s2, s4⟩) ?_
        show RepM X.K T .F H P2 H2 (.lst accD) (.ref A)
        unfold RepM
        dsimp only
        rw [if_pos (by rfl)]
        refine ⟨A, _, rfl, ?_, s5, s6, acc, rfl, s7⟩
        cases hh : H A with
        | none => rfl
        | some z => rw [e1.hh _ _ hh] at hA; cases hA
theorem flt_no {scope : Scope} {ρf : D → List C} : Flt X scope T [] tYes ρf yesT := ⟨fun s H C cl fp => pts_nil, fun d P H σ Q S q => q P H (Ext.refl S.sub)⟩
theorem flt_one {scope : Scope} {ρf : D → List C} {t : D → R Bool} (h : ∀ d, EvTB X scope T (ρf d) c (t d)) : Flt X scope T [c] (fun σ H Q => ∀ s0 H0 C cl fp, wpT (X.blk s0 H0 scope (compEnvC scope cl C X.env) fp) c σ H Q) ρf t :=
  ⟨fun s H C cl fp => pts_one ⟨fun pins s1 σ H1 Q I h => h s H C cl fp pins s1 I⟩, fun d P H σ Q S q s0 H0 C cl fp => h d s0 H0 C cl fp P H σ Q S q⟩
theorem wipe_set {σ : L2.St} {i : Nat} {v : Option V} : wipe ((wipe σ [i]).set i v) [i] = wipe σ [i] := by
  show ((σ.set i none).set i v).set i none = σ.set i none
  rw [List.set_set, List.set_set]
theorem tgt_nm {scope : Scope} {px : Pos} (gd : Gd X k) (hi : X.N[i]? = some x) (hx : Loc (relabel scope X.env) x) (hf : (scope.names.lookup x == some NameKind.cell) = true ∨ (relabel scope X.env).names.lookup x = some .local) :
    Tgt X scope T (.Name x px) (gName i) [i] ρ (fun _ => true) (fun d => (ρ.set i .un).set i (.val d)) :=
  ⟨fun s H C cl fp => pg_name gd.nd hi hx hf, fun d v P H σ Q _ S r q => q _ ((S.wipe [i]).set i r) wipe_set⟩
def is2 : D → Bool
  | .tup [_, _] => true
  | _ => false
def rho2 (ρ : List C) (i j : Nat) : D → List C
  | .tup [a, b] => (((ρ.set j .un).set i .un).set i (.val a)).set j (.val b)
  | _ => ρ
theorem tgt_nm2 {scope : Scope} {px py pt : Pos} {kt : Nat} (gd : Gd X k) (hij : i ≠ j) (hi : X.N[i]? = some x) (hx : Loc (relabel scope X.env) x) (hf : (scope.names.lookup x == some NameKind.cell) = true ∨ (relabel scope X.env).names.lookup x = some .local)
    (hj : X.N[j]? = some y) (hy : Loc (relabel scope X.env) y) (hfy : (scope.names.lookup y == some NameKind.cell) = true ∨ (relabel scope X.env).names.lookup y = some .local) :
    Tgt X scope T (.Tuple [.Name x px, .Name y py] kt pt) (gTup X.K 2 (gCons (gName i) (gCons (gName j) gNil))) [i, j] ρ is2 (rho2 ρ i j) := by
  refine ⟨fun s H C cl fp => pg_tup gd.calm (pgs_cons (pg_name gd.nd hi hx hf) (pgs_cons (pg_name gd.nd hj hy hfy) pgs_nil rfl) rfl) rfl rfl, fun d v P H σ Q h S r q => ?_⟩
  unfold is2 at h
  split at h
  · rename_i a b
    obtain ⟨t, u, w, rfl, h3, h4, h5⟩ := rep2 r
    refine ⟨t, _, rfl, .inl (.inl (S.sub _ _ h3)), rfl, _, _, rfl, _, _, rfl, rfl, q _ (((S.wipe [i, j]).set i h4).set j h5) ?_⟩
    show (((((σ.set j none).set i none).set i (some u)).set j (some w)).set j none).set i none = (σ.set j none).set i none
    apply List.ext_getElem?
    intro n
    simp only [List.getElem?_set]
    by_cases h1 : i = n <;> by_cases h2 : j = n <;> simp [h1, h2]
  · cases h
theorem un2_not {α : Type} {f : D → D → R α} {d : D} (h : is2 d = false) : un2 f d = .bad := by
  unfold un2
  split
  · cases h
  · rfl
theorem evb2 {scope : Scope} {f : D → D → R D} (he : ∀ d d2, EvB X scope T ((((ρ.set j .un).set i .un).set i (.val d)).set j (.val d2)) elt (f d d2)) (d : D) : EvB X scope T (rho2 ρ i j d) elt (un2 f d) := by
  cases h : is2 d with
  | false => intro s H C cl fp P H' σ Q S q; rw [un2_not h] at q; exact q.elim
  | true =>
    unfold is2 at h
    split at h
    · exact he _ _
    · cases h
theorem evtb2 {scope : Scope} {f : D → D → R Bool} (he : ∀ d d2, EvTB X scope T ((((ρ.set j .un).set i .un).set i (.val d)).set j (.val d2)) elt (f d d2)) (d : D) : EvTB X scope T (rho2 ρ i j d) elt (un2 f d) := by
  cases h : is2 d with
  | false => intro s H C cl fp P H' σ Q S q; rw [un2_not h] at q; exact q.elim
  | true =>
    unfold is2 at h
    split at h
    · exact he _ _
    · cases h
/-- a name that a block stores -/
structure Bn (X : Cx) (scope : Scope) (i : Nat) (x : Str) : Prop where
  nm : X.N[i]? = some x
  lo : Loc (relabel scope X.env) x
  fn : (scope.names.lookup x == some NameKind.cell) = true ∨ (relabel scope X.env).names.lookup x = some .local
/-! x = [..], x a plain local: the store is of the block's own frame -/
/-- a comprehension, and its store in a plain local -/
def Cm (X : Cx) (T : Tb) (W : WX) (m : Md) (ρ : List C) (e : Expr) (d : R D) : Prop :=
  ∃ te : TE, (∀ {i : Nat} {y : Str} {py spos : Pos}, X.N[i]? = some y → X.env.scope.names.lookup y = some .local → swapsWith e (some (.Name y py)) spos.line X.env = pure true → PS X (.Assign [.Name y py] e spos) (tAsg te (gName i))) ∧ PE X e te ∧
    ∀ P H σ Q, Sim X.K T P H σ ρ → Post X.K T W m P H σ d Q → te σ H Q
theorem Cm.ev {d : R D} (h : Cm X T W m ρ e d) : Ev X T W m ρ e d := fun P H σ Q S q => by
  obtain ⟨te, _, h2, h3⟩ := h
  exact wpE_of h2 (h3 P H σ Q S q)
theorem Cm.lasting {d : R D} (h : Cm X T W .F ρ e d) : Cm X T W .P ρ e d := by
  obtain ⟨te, h1, h2, h3⟩ := h
  refine ⟨te, h1, h2, fun P H σ Q S q => h3 P H σ Q S ?_⟩
  cases d with
  | ok v =>
    intro w P' H' e' r
    exact freeze S.sub e' r fun P2 e2 r2 => q w P2 H' e2 r2
  | ex x => exact q
  | bad => exact q
theorem cm_compG {own : List (Str × Nat)} {scope : Scope} {ifs : List Expr} {it : R (List D)} {t : D → R Bool} {f : D → R D} {g : TG} {tt : TT} {ok : D → Bool} {ρf : D → List C} (gd : Gd X k) (hit : EvIW X T W ρ tg iter it)
    (hB : BlkOk X.N X.env.scope scope own) (hT : Tgt X scope T tg g (own.map (·.2)) ρ ok ρf) (hF : Flt X scope T ifs tt ρf t) (he : ∀ d, EvB X scope T (ρf d) elt (f d)) (hok : ∀ d, ok d = false → (t d = .ok true ∧ f d = .bad) ∨ t d = .bad)
    (hfs : ∀ u, foldedSetIterable iter X.env u = pure u) : Cm X T W .F ρ (.ListComp elt [{ target := tg, iter := iter, ifs := ifs, is_async := 0 }] scope pos) (compE it t f) :=
  ⟨tLc (wpI X tg iter) g tt (teB X scope elt) (own.map (·.2)),
   fun h1 h2 h3 => ps_setLc gd.calm gd.nd h1 h2 h3 iw hB (fun s H C cl fp => hT.pg s H C cl fp) (fun s H C cl fp => hF.pt s H C cl fp) (fun s H C cl fp => ⟨fun pins s1 σ H1 Q I h => h s H C cl fp pins s1 I⟩) hfs,
   pe_lc gd.calm gd.nd iw hB (fun s H C cl fp => hT.pg s H C cl fp) (fun s H C cl fp => hF.pt s H C cl fp) (fun s H C cl fp => ⟨fun pins s1 σ H1 Q I h => h s H C cl fp pins s1 I⟩) hfs,
   fun P H σ Q S q => comp_core hit hT hF he hok S q⟩
theorem cm_comp {it : R (List D)} {f : D → R D} {scope : Scope} {px : Pos} (gd : Gd X k) (hi : Bn X scope i x)
    (hB : BlkOk X.N X.env.scope scope [(x, i)]) (hit : EvIW X T W ρ (.Name x px) iter it) (he : ∀ d, EvB X scope T ((ρ.set i .un).set i (.val d)) elt (f d)) (hfs : ∀ u, foldedSetIterable iter X.env u = pure u := by intro u; rfl) :
    Cm X T W .F ρ (.ListComp elt [{ target := .Name x px, iter := iter, ifs := [], is_async := 0 }] scope pos) (compE it yesT f) :=
  cm_compG gd hit hB (tgt_nm gd hi.nm hi.lo hi.fn) flt_no he (fun d h => nomatch h) hfs
theorem cm_compF {it : R (List D)} {f : D → R D} {t : D → R Bool} {scope : Scope} {px : Pos} (gd : Gd X k) (hi : Bn X scope i x)
    (hB : BlkOk X.N X.env.scope scope [(x, i)]) (hit : EvIW X T W ρ (.Name x px) iter it) (ht : ∀ d, EvTB X scope T ((ρ.set i .un).set i (.val d)) c (t d)) (he : ∀ d, EvB X scope T ((ρ.set i .un).set i (.val d)) elt (f d)) (hfs : ∀ u, foldedSetIterable iter X.env u = pure u := by intro u; rfl) :
    Cm X T W .F ρ (.ListComp elt [{ target := .Name x px, iter := iter, ifs := [c], is_async := 0 }] scope pos) (compE it t f) :=
  cm_compG gd hit hB (tgt_nm gd hi.nm hi.lo hi.fn) (flt_one ht) he (fun d h => nomatch h) hfs
theorem cm_comp2 {it : R (List D)} {f : D → D → R D} {scope : Scope} {px py pt : Pos} {kt : Nat} (gd : Gd X k) (hij : i ≠ j) (hi : Bn X scope i x) (hj : Bn X scope j y)
    (hB : BlkOk X.N X.env.scope scope [(x, i), (y, j)]) (hit : EvIW X T W ρ (.Tuple [.Name x px, .Name y py] kt pt) iter it) (he : ∀ d d2, EvB X scope T ((((ρ.set j .un).set i .un).set i (.val d)).set j (.val d2)) elt (f d d2)) (hfs : ∀ u, foldedSetIterable iter X.env u = pure u := by intro u; rfl) :
    Cm X T W .F ρ (.ListComp elt [{ target := .Tuple [.Name x px, .Name y py] kt pt, iter := iter, ifs := [], is_async := 0 }] scope pos) (compE it yesT (un2 f)) :=
  cm_compG gd hit hB (tgt_nm2 gd hij hi.nm hi.lo hi.fn hj.nm hj.lo hj.fn) flt_no (evb2 he) (fun d h => .inl ⟨rfl, un2_not h⟩) hfs
theorem cm_comp2F {it : R (List D)} {f : D → D → R D} {t : D → D → R Bool} {scope : Scope} {px py pt : Pos} {kt : Nat} (gd : Gd X k) (hij : i ≠ j) (hi : Bn X scope i x) (hj : Bn X scope j y)
    (hB : BlkOk X.N X.env.scope scope [(x, i), (y, j)]) (hit : EvIW X T W ρ (.Tuple [.Name x px, .Name y py] kt pt) iter it) (ht : ∀ d d2, EvTB X scope T ((((ρ.set j .un).set i .un).set i (.val d)).set j (.val d2)) c (t d d2)) (he : ∀ d d2, EvB X scope T ((((ρ.set j .un).set i .un).set i (.val d)).set j (.val d2)) elt (f d d2)) (hfs : ∀ u, foldedSetIterable iter X.env u = pure u := by intro u; rfl) :
    Cm X T W .F ρ (.ListComp elt [{ target := .Tuple [.Name x px, .Name y py] kt pt, iter := iter, ifs := [c], is_async := 0 }] scope pos) (compE it (un2 t) (un2 f)) :=
  cm_compG gd hit hB (tgt_nm2 gd hij hi.nm hi.lo hi.fn hj.nm hj.lo hj.fn) (flt_one (evtb2 ht)) (evb2 he) (fun d h => .inr (un2_not h)) hfs
variable {S B : Type} {ios : List Nat} {mkN : S → List C} {mkB : B → List C} {rest body : List Stmt}
theorem ss_bindC {te : TE} {d : R D} {z : Zn} {P H : Hp} {σ : L2.St} {D1 : Ends} {F : D → R (Fl S B)} {Q1 : VK} (ha : ∀ P H σ Q, Sim X.K T P H σ ρ → Post X.K T W m P H σ d Q → te σ H Q) (Z : SimZ X.K T z P H σ ρ) (h : PostS X.K T W fr mkN mkB z (d.bind F) D1)
    (kk : ∀ v w P1 H1, Ext P H P1 H1 → SimZ X.K T z P1 H1 σ ρ → RepM X.K T m H P1 H1 v w → PostS X.K T W fr mkN mkB z (F v) D1 → Q1 w H1) : te σ H Q1 := by
  refine ha P H σ Q1 Z.sim ?_
  cases d with
  | ok v => exact fun w P' H' e' r => kk v w P' H' e' (Z.ext e') r h
  | ex x => exact fun cls dd H' s' r => h cls dd σ H' (fun b o e1 e2 => s' _ _ (Z.frame b o e1 e2)) r
  | bad => exact h
theorem ss_asgC {pos' : Pos} {F : D → R (Fl S B)} (hi : X.N[i]? = some x) (hx : X.env.scope.names.lookup x = some .local) (hs : swapsWith e (some (.Name x pos')) pos.line X.env = pure true) (hio : ios.contains i = false)
    (he : Cm X T W .P ρ e da) (hr : ∀ v, Ss X T W fr ios mkN mkB (ρ.set i (.val v)) rest (F v)) : Ss X T W fr ios mkN mkB ρ (.Assign [.Name x pos'] e pos :: rest) (da.bind F) := fun z P H σ D1 hz Z h => by
  obtain ⟨te, h1, h2, h3⟩ := he
  refine wpSs_of (pss_cons (h1 hi hx hs) ssw) ?_
  refine ss_bindC h3 Z h fun v w P1 H1 e1 Z1 r1 q1 => ?_
  exact hr v z P1 H1 _ D1 hz (Z1.set (io_ne hz hio) r1) q1
theorem own_new {z : Zn} {P H P1 H1 : Hp} {σ : L2.St} {v : D} {w : V} (hz : z.io.map (·.1) = ios) (hio : ios.contains i = false) (Z : SimZ X.K T z P H σ ρ) (Z1 : SimZ X.K T z P1 H1 σ ρ) (hc : contD v = true) (r1 : RepM X.K T .F H P1 H1 v w) : SimZ X.K T z P1 H1 (σ.set i (some w)) (ρ.set i (.own v)) := by
  unfold RepM at r1
  dsimp only at r1
  rw [if_pos hc] at r1
  obtain ⟨a, o, rfl, h0, h1, h2, h3⟩ := r1
  refine Z1.setOwn (io_ne hz hio) h1 h2 h3 ?_ fun j d hj hd hs' => ?_
  · cases q : z.H0 a with
    | none => rfl
    | some y =>
      by_cases hp : ∀ p ∈ z.io, p.2 ≠ a
      · rw [Z.frame a y q hp] at h0; cases h0
      · have : ∃ p, p ∈ z.io ∧ p.2 = a := Classical.byContradiction fun n => hp fun p hp he => n ⟨p, hp, he⟩
        obtain ⟨p, hpm, rfl⟩ := this
        obtain ⟨h3, d, h4⟩ := Z.ios p hpm
        obtain ⟨u, h5, a', o', h6, h7, h8, h9⟩ := cell_at Z.sim h4
        rw [h3] at h5
        cases h5
        cases h6
        rw [h8] at h0; cases h0
  · obtain ⟨u, h5, a', o', h6, h7, h8, h9⟩ := cell_at Z.sim hd
    rw [hs'] at h5
    cases h5
    cases h6
    rw [h8] at h0; cases h0
theorem ss_ownC {pos' : Pos} {F : D → R (Fl S B)} (hi : X.N[i]? = some x) (hx : X.env.scope.names.lookup x = some .local) (hs : swapsWith e (some (.Name x pos')) pos.line X.env = pure true) (hio : ios.contains i = false)
    (he : Cm X T W .F ρ e da) (hr : ∀ v, Ss X T W fr ios mkN mkB (ρ.set i (.own v)) rest (F v)) : Ss X T W fr ios mkN mkB ρ (.Assign [.Name x pos'] e pos :: rest) (ownR da F) := fun z P H σ D1 hz Z h => by
  obtain ⟨te, h1, h2, h3⟩ := he
  refine wpSs_of (pss_cons (h1 hi hx hs) ssw) ?_
  refine ss_bindC h3 Z h fun v w P1 H1 e1 Z1 r1 q1 => ?_
  split at q1
  · rename_i hc
    exact hr v z P1 H1 _ D1 hz (own_new hz hio Z Z1 hc r1) q1
  · exact q1.elim
end
end Fj

/-! ## Lay13 -/
namespace Fj
open PySem PySem.Spec PyProof.Rows L2
section
variable {K : PySem.W.Frag} {X : Cx} {T : Tb} {W : WX} {k : Nat} {ρ : List C} {a b c e ei tg iter elt : Expr} {da db di : R D} {ca cb : R Bool} {pos p p2 p3 px : Pos} {m : Md} {x y : Str} {fr : Bool} {i j : Nat}
variable {S B : Type} {ios : List Nat} {mkN : S → List C} {mkB : B → List C} {rest body : List Stmt} {r : R (Fl S B)} {st : List Stmt} {d : D}
theorem Own.cont {P : Hp} {d : D} {o : HO} (h : Own K T P d o) : contD d = true := by cases d <;> first | rfl | exact h.elim
theorem SimZ.freeze {z : Zn} {P H : Hp} {σ : L2.St} {d : D} {i : Nat} {a : Addr} {o : HO} (Z : SimZ K T z P H σ ρ) (hi : ρ[i]? = some (.own d)) (hio : ∀ p ∈ z.io, p.1 ≠ i) (hs : σ[i]? = some (some (.ref a))) (hP : P a = none) (hH : H a = some o) (ho : Own K T P d o) :
    SimZ K T z (upd P a o) H σ (ρ.set i (.val d)) := by
  have hpp : Same P (upd P a o) := fun b x h => by rw [upd_ne (fun e => by rw [e, hP] at h; cases h)]; exact h
  have hl : i < ρ.length := (List.getElem?_eq_some_iff.mp hi).1
  have back : ∀ {n : Nat} {e : D}, (ρ.set i (C.val d))[n]? = some (C.own e) → i ≠ n ∧ ρ[n]? = some (C.own e) := fun {n e} h => by
    by_cases q : i = n
    · subst q; rw [List.getElem?_set_self hl] at h; cases h
    · rw [List.getElem?_set_ne q] at h; exact ⟨q, h⟩
  refine ⟨⟨fun b x h => ?_, by simpa using Z.sim.len, fun j c v h1 h2 => ?_, fun j l e e' b h1 h2 h3 h4 => ?_⟩, Z.frame, Z.pp.trans hpp, fun b h1 h2 => ?_, fun j e b h1 h2 => ?_, fun p hp => ?_⟩
  · by_cases q : b = a
    · subst q; rw [upd_same] at h; cases h; exact hH
    · rw [upd_ne q] at h; exact Z.sim.sub _ _ h
  · by_cases q : i = j
    · subst q
      rw [List.getElem?_set_self hl] at h1
      cases h1
      rw [hs] at h2
      cases h2
      exact ⟨_, rfl, (rep_own (Own.cont ho)).mpr ⟨a, o, rfl, upd_same, Own.mono hpp ho⟩⟩
    · rw [List.getElem?_set_ne q] at h1
      have hc := Z.sim.cell j c v h1 h2
      cases c with
      | un => trivial
      | val e => obtain ⟨w, rfl, h⟩ := hc; exact ⟨w, rfl, Rep.mono hpp _ _ h⟩
      | own e =>
        obtain ⟨b, x, rfl, h7, h8, h9⟩ := hc
        have hb : b ≠ a := fun eb => q (Z.sim.apart i j d e a hi h1 hs (by rw [h2, eb]))
        exact ⟨b, x, rfl, by rw [upd_ne hb]; exact h7, h8, Own.mono hpp h9⟩
  · exact Z.sim.apart j l e e' b (back h1).2 (back h2).2 h3 h4
  · have hb : b ≠ a := fun q => by
      subst q
      rcases Z.loc i d b hi hs with q | q
      · exact h1 q
      · exact hio _ q rfl
    rw [upd_ne hb]
    exact Z.nw b h1 h2
  · exact Z.loc j e b (back h1).2 h2
  · obtain ⟨h1, e, h2⟩ := Z.ios p hp
    exact ⟨h1, e, by rw [List.getElem?_set_ne (Ne.symm (hio p hp))]; exact h2⟩
/-- an own object stays as it is from here on -/
theorem ss_freeze (hi : ρ[i]? = some (.own d)) (hio : ios.contains i = false) (h : Ss X T W fr ios mkN mkB (ρ.set i (.val d)) st r) : Ss X T W fr ios mkN mkB ρ st r := fun z P H σ D1 hz Z q => by
  obtain ⟨u, h5, a', o', rfl, h7, h8, h9⟩ := cell_at Z.sim hi
  exact h z _ H σ D1 hz (Z.freeze hi (io_ne hz hio) h5 h7 h8 h9) q
/-! ### x[i] = e -/
theorem set_rep {P : Hp} : ∀ {ds : List D} {vs : List V} {n : Nat} {d : D} {v : V}, RepAll K T P ds vs → Rep K T P d v → RepAll K T P (ds.set n d) (vs.set n v)
  | [], vs, n, d, v, h, _ => by unfold RepAll at h; subst h; simpa using RepAll.nil
  | x :: ds, vs, n, d, v, h, r => by
    unfold RepAll at h
    obtain ⟨w, t, rfl, r1, r2⟩ := h
    cases n with
    | zero => exact RepAll.cons r r2
    | succ n => exact RepAll.cons r1 (set_rep r2 r)
theorem put_rep {P : Hp} {κ : Type} [DecidableEq κ] (g : κ → D) (hg : ∀ q q', sameD (g q) (g q') = decide (q = q')) (q : κ) {d : D} {v : V} (rr : Rep K T P d v) {kvs : List (D × D)} {l : List (κ × V)} (h1 : kvs.map (·.1) = l.map (fun p => g p.1)) (h2 : RepVs K T P kvs (l.map (·.2))) :
    (putD (g q) d kvs).map (·.1) = (putK l q v).map (fun p => g p.1) ∧ RepVs K T P (putD (g q) d kvs) ((putK l q v).map (·.2)) := by
  have ha : ∀ {kvs : List (D × D)} {l : List (κ × V)}, kvs.map (·.1) = l.map (fun p => g p.1) → kvs.any (fun p => sameD p.1 (g q)) = l.any fun kv => decide (kv.1 = q) := by
    intro kvs
    induction kvs with
    | nil => intro l h; cases l with | nil => rfl | cons _ _ => cases h
    | cons p r ih =>
      intro l h
      cases l with
      | nil => cases h
      | cons p' l =>
        injection h with e1 e2
        have e1 : p.1 = g p'.1 := e1
        rw [List.any_cons, List.any_cons, ih e2, e1, hg]
  have hm : ∀ {kvs : List (D × D)} {l : List (κ × V)}, kvs.map (·.1) = l.map (fun p => g p.1) → RepVs K T P kvs (l.map (·.2)) →
      (kvs.map (fun p => if sameD p.1 (g q) = true then (p.1, d) else p)).map (·.1) = (l.map fun kv => if kv.1 = q then (kv.1, v) else kv).map (fun p => g p.1) ∧
      RepVs K T P (kvs.map (fun p => if sameD p.1 (g q) = true then (p.1, d) else p)) ((l.map fun kv => if kv.1 = q then (kv.1, v) else kv).map (·.2)) := by
    intro kvs
    induction kvs with
    | nil => intro l h h2; cases l with | nil => exact ⟨rfl, h2⟩ | cons _ _ => cases h
    | cons p r ih =>
      intro l h h2
      cases l with
      | nil => cases h
      | cons p' l =>
        injection h with e1 e2
        have e1 : p.1 = g p'.1 := e1
        unfold RepVs at h2
        obtain ⟨w, t, e, hv1, hv2⟩ := h2
        rw [List.map_cons] at e
        injection e with e3 e4
        subst e3 e4
        obtain ⟨i1, i2⟩ := ih e2 hv2
        rw [List.map_cons, List.map_cons, List.map_cons, List.map_cons, List.map_cons, i1]
        obtain ⟨pa, pd⟩ := p
        obtain ⟨qa, qv⟩ := p'
        dsimp only at e1 ⊢
        subst e1
        rw [hg]
        unfold RepP at hv1
        by_cases c : qa = q
        · subst c
          simp only [decide_true, if_true]
          refine ⟨trivial, ?_⟩
          unfold RepVs
          exact ⟨_, _, rfl, by unfold RepP; exact rr, i2⟩
        · simp only [c, decide_false, if_false, Bool.false_eq_true]
          refine ⟨trivial, ?_⟩
          unfold RepVs
          exact ⟨_, _, rfl, by unfold RepP; exact hv1, i2⟩
  have happ : ∀ {kvs : List (D × D)} {vs : List V}, RepVs K T P kvs vs → RepVs K T P (kvs ++ [(g q, d)]) (vs ++ [v]) := by
    intro kvs
    induction kvs with
    | nil => intro vs h; unfold RepVs at h; subst h; show RepVs K T P [(g q, d)] [v]; unfold RepVs; exact ⟨_, _, rfl, by unfold RepP; exact rr, by unfold RepVs; rfl⟩
    | cons p r ih =>
      intro vs h
      unfold RepVs at h
      obtain ⟨w, t, rfl, h3, h4⟩ := h
      show RepVs K T P (p :: (r ++ _)) (w :: (t ++ _))
      unfold RepVs
      exact ⟨_, _, rfl, h3, ih h4⟩
  unfold putD putK
  rw [ha h1]
  split
  · exact hm h1 h2
  · refine ⟨by simp [h1], ?_⟩
    rw [List.map_append]
    exact happ h2
/-- a store to o[i] that is no store to a cut -/
def SubSt (X : Cx) (o i : Expr) (pos : Pos) : Prop := ∀ v : Value, assign (.Subscript o i pos) X.env v = (do
  let ov ← holding [v] (eval o X.env)
  let iv ← holding [v, ov] (eval i X.env)
  standAt pos
  holding [v, ov, iv] (setItem ov iv v)
  release [v, ov, iv] [])
/-- x[i] = e -/
theorem ss_set {sp : Pos} {F : D → R (Fl S B)} (g : Gd X k) (hi : ρ[i]? = some (.own d)) (hN : X.N[i]? = some x) (hv : Vis X.env.scope x) (hd : (x == ("__debug__" : Str)) = false) (hcd : (x == ("__classdict__" : Str)) = false)
    (he : Ev X T W .P ρ e da) (hj : Ev X T W .P ρ ei di) (hs : swapsWith e (some (.Subscript (.Name x px) ei sp)) pos.line X.env = pure false)
    (hpg : SubSt X (.Name x px) ei sp) (hs1 : swapsWithSole [.Subscript (.Name x px) ei sp] e pos.line X.env = pure false) (hs2 : swappedStores [.Subscript (.Name x px) ei sp] e X.env = pure none)
    (hr : ∀ v, Ss X T W fr ios mkN mkB (ρ.set i (.own v)) rest (F v)) : Ss X T W fr ios mkN mkB ρ (.Assign [.Subscript (.Name x px) ei sp] e pos :: rest) ((setE d di da).bind F) := fun z P H σ D1 hz Z h => by
  obtain ⟨u, h5, a', o', rfl, h7, h8, h9⟩ := cell_at Z.sim hi
  have h2 : PostS X.K T W fr mkN mkB z (da.bind fun x => di.bind fun j => (setR d j x).bind F) D1 := by cases da <;> cases di <;> exact h
  cases d with
  | lst xs =>
    refine wpSs_of (pss_cons (ps_asg pw (pg_sub (pe_var hN hv hd hcd) pw set_list hpg) hs1 hs2) ssw) ?_
    refine ss_bind he Z h2 fun v w P1 H1 e1 Z1 r1 q1 => ?_
    refine ⟨_, h5, ?_⟩
    refine ss_bind hj Z1 q1 fun v2 w2 P2 H2 e2 Z2 r2 q2 => ?_
    cases v2 with
    | int j =>
      have q2 : PostS X.K T W fr mkN mkB z (((ofO (ixN xs.length j)).bind fun n => .ok (.lst (xs.set n v))).bind F) D1 := q2
      cases hn : Fj.ixN xs.length j with
      | none => rw [hn] at q2; exact q2.elim
      | some n =>
        rw [hn] at q2
        obtain ⟨vs, rfl, h10⟩ := h9
        have r2 : w2 = .int j := by unfold RepM Rep at r2; exact r2
        have h8' := e2.hh _ _ (e1.hh _ _ h8)
        have h10' := RepAll.mono (e1.pp.trans e2.pp) _ _ h10
        refine ⟨a', vs, j, n, rfl, r2, h8', by rw [h10.length]; exact hn, ?_⟩
        exact hr _ z P2 _ _ D1 hz (Z2.change (d' := .lst (xs.set n v)) hi h5 ⟨vs.set n w, rfl, set_rep h10' (Rep.mono e2.pp _ _ r1)⟩) q2
    | _ => exact q2.elim
  | dct t kvs =>
    refine wpSs_of (pss_cons (ps_dput (units1 g) (pe_var hN hv hd hcd) pw pw hs) ssw) ?_
    refine ss_bind he Z h2 fun v w P1 H1 e1 Z1 r1 q1 => ?_
    refine ⟨_, h5, ?_⟩
    refine ss_bind hj Z1 q1 fun v2 w2 P2 H2 e2 Z2 r2 q2 => ?_
    have q2 : PostS X.K T W fr mkN mkB z ((if (kindOk v2 t && decide (kvs.length < most)) = true then .ok (.dct t (putD v2 v kvs)) else .bad : R D).bind F) D1 := by cases v2 <;> exact q2
    split at q2
    case isFalse => exact q2.elim
    case isTrue hk =>
    obtain ⟨hk, hlen⟩ := Bool.and_eq_true_iff.mp hk
    have hlen : kvs.length < most := of_decide_eq_true hlen
    have h8' := e2.hh _ _ (e1.hh _ _ h8)
    have h9' := Own.mono (e1.pp.trans e2.pp) h9
    have r1' := Rep.mono e2.pp _ _ r1
    unfold kindOk at hk
    obtain ⟨k1, k2⟩ := Bool.and_eq_true_iff.mp hk
    rcases h9' with ⟨rfl, l, rfl, h1, h3⟩ | ⟨rfl, l, rfl, h1, h3⟩
    · have hf : flatK v2 = true := by cases v2 <;> first | rfl | cases k1 | cases k2
      obtain ⟨q, e3, e4⟩ := key_flat hf r2
      subst e3 e4
      have hl : kvs.length = l.length := by simpa using congrArg List.length h1
      obtain ⟨p1, p2⟩ := put_rep ksD sameK q r1' h1 h3
      exact ⟨a', _, rfl, DPut.k h8' (by rw [← hl]; exact most_lt (by omega)), hr _ z P2 _ _ D1 hz (Z2.change (d' := .dct 0 (putD (ksD q) v kvs)) hi h5 (.inl ⟨rfl, _, rfl, p1, p2⟩)) q2⟩
    · cases v2 with
      | tup ds =>
        obtain ⟨bb, vs, rfl, r3, r4⟩ := rep_tup.mp r2
        obtain ⟨qs, e3, e4⟩ := key_flats (show ds.all flatK = true from k1) r4
        subst e3 e4
        have hl : kvs.length = l.length := by simpa using congrArg List.length h1
        obtain ⟨p1, p2⟩ := put_rep (fun q : List Key => D.tup (q.map ksD)) sameT qs r1' h1 h3
        exact ⟨a', _, rfl, DPut.t h8' (Z2.sim.sub _ _ r3) (by rw [← hl]; exact most_lt (by omega)), hr _ z P2 _ _ D1 hz (Z2.change (d' := .dct 1 (putD (.tup (qs.map ksD)) v kvs)) hi h5 (.inr ⟨rfl, _, rfl, p1, p2⟩)) q2⟩
      | int i => cases k2
      | str i => cases k2
      | _ => cases k1
  | _ => exact h9.elim
/-- x.extend(e) -/
theorem ss_extend {pa pp : Pos} {F : D → R (Fl S B)} (hi : ρ[i]? = some (.own d)) (hN : X.N[i]? = some x) (hv : Vis X.env.scope x) (hd : (x == ("__debug__" : Str)) = false) (hcd : (x == ("__classdict__" : Str)) = false)
    (hs : swapsWith (.Call (.Attribute (.Name x px) "extend" pa) [e] [] pp) none pos.line X.env = pure false) (he : Ev X T W .P ρ e da)
    (hbm : PE X (.Call (.Attribute (.Name x px) "extend" pa) [e] [] pp) (tBM X.K "list" rExtend (tVar i) (tCons (wpE X e) tNil))) (hr : ∀ v, Ss X T W fr ios mkN mkB (ρ.set i (.own v)) rest (F v)) :
    Ss X T W fr ios mkN mkB ρ (.Expr (.Call (.Attribute (.Name x px) "extend" pa) [e] [] pp) pos :: rest) ((extendE d da).bind F) := fun z P H σ D1 hz Z h => by
  refine wpSs_of (pss_cons (ps_expr hbm hs) ssw) ?_
  obtain ⟨u, h5, a', o', rfl, h7, h8, h9⟩ := cell_at Z.sim hi
  cases d with
  | lst xs =>
    have h' : PostS X.K T W fr mkN mkB z (da.bind fun v => (extendR (.lst xs) v).bind F) D1 := by cases da <;> exact h
    obtain ⟨vs, rfl, h10⟩ := h9
    refine ⟨_, h5, .inl ⟨rfl, _, .inl (.inl h8)⟩, ?_⟩
    refine ss_bind he Z h' fun v w P1 H1 e1 Z1 r1 q1 => ?_
    cases v with
    | lst ys =>
      have q2 : PostS X.K T W fr mkN mkB z ((if xs.length + ys.length ≤ most then .ok (.lst (xs ++ ys)) else .bad : R D).bind F) D1 := q1
      split at q2
      · rename_i hl
        have r1 : Rep X.K T P1 (.lst ys) w := r1
        unfold Rep at r1
        obtain ⟨b, us, rfl, r1, r2⟩ := r1
        have h8' := e1.hh _ _ h8
        have h10' := RepAll.mono e1.pp _ _ h10
        refine ⟨a', b, vs, us, rfl, rfl, h8', Z1.sim.sub _ _ r1, by rw [h10.length, r2.length]; exact most_le hl, ?_⟩
        exact hr _ z P1 _ _ D1 hz (Z1.change (d' := .lst (xs ++ ys)) hi h5 ⟨vs ++ us, rfl, h10'.append r2⟩) q2
      · exact q2.elim
    | _ => exact q1.elim
  | dct t kvs => exact h.elim
  | _ => exact h9.elim

/-! ### defs -/
theorem argC_own {io : List Nat} : ∀ {j n : Nat} {ds : List D} {d : D}, (argC io j ds)[n]? = some (C.own d) → io.contains (j + n) = true ∧ ds[n]? = some d
  | _, n, [], _, h => by simp [argC] at h
  | j, 0, x :: ds, d, h => by
    simp only [argC, List.getElem?_cons_zero, Option.some.injEq] at h
    split at h
    · rename_i hc; cases h; exact ⟨hc, rfl⟩
    · cases h
  | j, n + 1, x :: ds, d, h => by
    have := argC_own (j := j + 1) (n := n) (ds := ds) (d := d) (by simpa [argC] using h)
    rw [show j + (n + 1) = j + 1 + n by omega]
    simpa using this
theorem argC_at {io : List Nat} : ∀ {j n : Nat} {ds : List D}, n < ds.length → io.contains (j + n) = true → ∃ d, (argC io j ds)[n]? = some (C.own d)
  | _, n, [], h, _ => by simp at h
  | j, 0, x :: ds, h, hc => ⟨x, by
    have hc : io.contains j = true := hc
    simp only [argC, List.getElem?_cons_zero]; rw [if_pos hc]⟩
  | j, n + 1, x :: ds, h, hc => by
    obtain ⟨d, e⟩ := argC_at (io := io) (j := j + 1) (n := n) (ds := ds) (by simpa using h) (by rw [show j + 1 + n = j + (n + 1) by omega]; exact hc)
    exact ⟨d, by simpa [argC] using e⟩
theorem ioAt_mem {vs : List V} {i : Nat} {a : Addr} : ∀ {io : List Nat}, (i, a) ∈ ioAt io vs ↔ i ∈ io ∧ vs[i]? = some (.ref a) := by
  intro io
  unfold ioAt
  rw [List.mem_filterMap]
  constructor
  · rintro ⟨j, hj, e⟩
    split at e
    · rename_i b hb
      cases e
      exact ⟨hj, hb⟩
    · cases e
  · rintro ⟨h1, h2⟩
    exact ⟨i, h1, by rw [h2]⟩
theorem ioAt_fst {vs : List V} : ∀ {io : List Nat}, (∀ i ∈ io, ∃ a : Addr, vs[i]? = some (.ref a)) → (ioAt io vs).map (·.1) = io
  | [], _ => rfl
  | i :: r, h => by
    obtain ⟨a, e⟩ := h i List.mem_cons_self
    have ih := ioAt_fst (io := r) fun j hj => h j (List.mem_cons_of_mem _ hj)
    unfold ioAt at ih ⊢
    rw [List.filterMap_cons, e]
    simp only [List.map_cons]
    rw [ih]
def uns (n : Nat) : List C := List.replicate n .un
theorem sim0 {K : PySem.W.Frag} {P H : Hp} {vs : List V} {ρ0 : List C} {io : List Nat} {ds : List D} {N : List Str} {n : Nat} (S : Sim K T P H (vs.map some) (argC io 0 ds)) (hv : vs.length = n) (hn : N.length = n + j) (hio : ∀ i ∈ io, i < n) :
    SimZ K T ⟨P, H, ioAt io vs⟩ P H (L2.start N vs) (argC io 0 ds ++ uns j) ∧ (ioAt io vs).map (·.1) = io := by
  have hlen : (argC io 0 ds).length = n := by rw [S.len, List.length_map, hv]
  have hds : ds.length = n := by rw [← hlen, argC_len]
  have hst : L2.start N vs = vs.map some ++ List.replicate j none := by
    unfold L2.start
    rw [show N.length - vs.length = j by omega]
  have lo : ∀ {i : Nat} {c : C}, (argC io 0 ds ++ uns j)[i]? = some c → c ≠ .un → i < n ∧ (argC io 0 ds)[i]? = some c := fun {i c} h hc => by
    by_cases q : i < n
    · rw [List.getElem?_append_left (by omega)] at h; exact ⟨q, h⟩
    · rw [List.getElem?_append_right (by omega)] at h
      unfold uns at h
      rw [List.getElem?_replicate] at h
      split at h
      · cases h; exact absurd rfl hc
      · cases h
  have ls : ∀ {i : Nat} {v : Option V}, i < n → (vs.map some ++ List.replicate j (none : Option V))[i]? = some v → (vs.map some)[i]? = some v := fun {i v} q h => by
    rw [List.getElem?_append_left (by simp; omega)] at h; exact h
  have own_mem : ∀ {i : Nat} {d : D} {a : Addr}, (argC io 0 ds)[i]? = some (C.own d) → (vs.map some)[i]? = some (some (V.ref a)) → (i, a) ∈ ioAt io vs := fun {i d a} h1 h2 => by
    obtain ⟨h3, _⟩ := argC_own h1
    rw [Nat.zero_add, List.contains_eq_mem] at h3
    refine ioAt_mem.mpr ⟨of_decide_eq_true h3, ?_⟩
    rw [List.getElem?_map] at h2
    cases q : vs[i]? with
    | none => rw [q] at h2; cases h2
    | some z => rw [q] at h2; simp at h2; rw [h2]
  rw [hst]
  refine ⟨⟨⟨S.sub, by simp [uns, S.len], fun i c v h1 h2 => ?_, fun i l d e a h1 h2 h3 h4 => ?_⟩, fun a o h _ => h, Same.refl _, fun _ _ h => h, fun i d a h1 h2 => ?_, fun p hp => ?_⟩, ?_⟩
  · cases c with
    | un => trivial
    | val d => obtain ⟨q, h⟩ := lo h1 (by simp); exact S.cell i _ v h (ls q h2)
    | own d => obtain ⟨q, h⟩ := lo h1 (by simp); exact S.cell i _ v h (ls q h2)
  · obtain ⟨q1, h1⟩ := lo h1 (by simp)
    obtain ⟨q2, h2⟩ := lo h2 (by simp)
    exact S.apart i l d e a h1 h2 (ls q1 h3) (ls q2 h4)
  · obtain ⟨q1, h1⟩ := lo h1 (by simp)
    exact .inr (own_mem h1 (ls q1 h2))
  · obtain ⟨i, a⟩ := p
    obtain ⟨h1, h2⟩ := ioAt_mem.mp hp
    have hi := hio i h1
    obtain ⟨d, hd⟩ := argC_at (io := io) (j := 0) (n := i) (ds := ds) (by omega) (by rw [Nat.zero_add, List.contains_eq_mem]; exact decide_eq_true h1)
    refine ⟨?_, d, ?_⟩
    · rw [List.getElem?_append_left (by simp; omega), List.getElem?_map, h2]; rfl
    · rw [List.getElem?_append_left (by omega)]; exact hd
  · refine ioAt_fst fun i h1 => ?_
    have hi := hio i h1
    obtain ⟨d, hd⟩ := argC_at (io := io) (j := 0) (n := i) (ds := ds) (by omega) (by rw [Nat.zero_add, List.contains_eq_mem]; exact decide_eq_true h1)
    obtain ⟨v, h2, a, o, rfl, _⟩ := cell_at S hd
    refine ⟨a, ?_⟩
    rw [List.getElem?_map] at h2
    cases q : vs[i]? with
    | none => rw [q] at h2; cases h2
    | some z => rw [q] at h2; simp at h2; rw [h2]
abbrev WE0 (E : XK) : WX := fun cls d _ H => E cls d H
/-- a def from its body's rule -/
theorem fd_io {P : Program} {w : World} {K : PySem.W.Frag} {mg : Str → Option Value} {base : Heap} {x qual : Str} {st : Stmt} {f : Addr} {fd : FuncData} {N ps : List Str} {io : List Nat} {n j : Nat} {mm : List D → R (Fl Unit Empty)} {mkN : Unit → List C} {mkB : Empty → List C}
    (hF : Fun K x qual st f fd) (hs : FnScope N ps (defScope st)) (hn : ps.length = n) (hN : N.length = n + j) (hb : Binds K fd ps []) (hg : mg x = some (.ref f)) (bi : Bi mg) (hio : ∀ i ∈ io, i < n)
    (hbody : ∀ (cdv : Value) (A : Around) (outer : List Env) (s : Shared) (H : Hp) (E : XK), Gd (cxOf (CX P w) P w K mg base N qual (defScope st) f cdv A outer s H E) k → Takes (cxOf (CX P w) P w K mg base N qual (defScope st) f cdv A outer s H E) (WE0 E) →
      ∀ ds, ds.length = n → Ss (cxOf (CX P w) P w K mg base N qual (defScope st) f cdv A outer s H E) T (WE0 E) fr io mkN mkB (argC io 0 ds ++ uns j) (defBody st) (mm ds)) :
    FD P w K mg base T (k + 1) x f fr io n (fun ds => finR (mm ds)) := by
  refine ⟨⟨fd, ps, Fun.okX hF hs (fun vs H Q E h => by rw [hn]; exact h.1) (fun cdv A outer s H vs Q E hr h => ?_), hb⟩, hg, hF.kp⟩
  obtain ⟨hv, P0, ds, S, q⟩ := h
  obtain ⟨Z, hz⟩ := sim0 (ρ0 := []) (N := N) (j := j) S hv hN hio
  refine ⟨_, ssw, ?_⟩
  have hds : ds.length = n := by rw [← argC_len io 0 ds, S.len, List.length_map, hv]
  refine hbody cdv A outer s H E ⟨rfl, hs.nd, hr, bi⟩ (takes_of rfl rfl rfl rfl) ds hds _ P0 H _ _ hz Z ?_
  have q : PostI K T fr ⟨P0, H, ioAt io vs⟩ E (finR (mm ds)) Q := q
  cases hm : mm ds with
  | bad => rw [hm] at q; exact q
  | ex e => rw [hm] at q; exact fun cls dd σ H' h1 h2 => q cls dd H' h1 h2
  | ok fl =>
    rw [hm] at q
    cases fl with
    | nx s => exact q.elim
    | bk b => exact nomatch b
    | rt d os => exact q
theorem fn_pure {P : Program} {w : World} {K : PySem.W.Frag} {mg : Str → Option Value} {base : Heap} {x qual : Str} {st : Stmt} {f : Addr} {fd : FuncData} {N ps : List Str} {n j : Nat} {mm : List D → R (Fl Unit Empty)} {mkN : Unit → List C} {mkB : Empty → List C}
    (hF : Fun K x qual st f fd) (hs : FnScope N ps (defScope st)) (hn : ps.length = n) (hN : N.length = n + j) (bi : Bi mg)
    (hbody : ∀ (cdv : Value) (A : Around) (outer : List Env) (s : Shared) (H : Hp) (E : XK), Gd (cxOf (CX P w) P w K mg base N qual (defScope st) f cdv A outer s H E) k → Takes (cxOf (CX P w) P w K mg base N qual (defScope st) f cdv A outer s H E) (WE0 E) →
      ∀ ds, ds.length = n → Ss (cxOf (CX P w) P w K mg base N qual (defScope st) f cdv A outer s H E) T (WE0 E) fr [] mkN mkB (argC [] 0 ds ++ uns j) (defBody st) (mm ds)) :
    FnOk P w K mg base (CX P w) (k + 1) f fd ps (spI K T fr [] n (pureM fun ds => finP (mm ds))) := by
  refine Fun.okX hF hs (fun vs H Q E h => by rw [hn]; exact h.1) (fun cdv A outer s H vs Q E hr h => ?_)
  obtain ⟨hv, P0, ds, S, q⟩ := h
  obtain ⟨Z, hz⟩ := sim0 (ρ0 := []) (N := N) (j := j) S hv hN (fun i h => nomatch h)
  refine ⟨_, ssw, ?_⟩
  have hds : ds.length = n := by rw [← argC_len [] 0 ds, S.len, List.length_map, hv]
  refine hbody cdv A outer s H E ⟨rfl, hs.nd, hr, bi⟩ (takes_of rfl rfl rfl rfl) ds hds _ P0 H _ _ hz Z ?_
  have q : PostI K T fr ⟨P0, H, ioAt [] vs⟩ E ((finP (mm ds)).bind fun d => .ok (d, [])) Q := q
  cases hm : mm ds with
  | bad => rw [hm] at q; exact q
  | ex e => rw [hm] at q; exact fun cls dd σ H' h1 h2 => q cls dd H' h1 h2
  | ok fl =>
    rw [hm] at q
    cases fl with
    | nx s =>
      intro P1 H1 σ1 Z1
      refine q P1 H1 .non ⟨Z1.sim.sub, Z1.frame, Z1.pp, Z1.nw, ?_, .nil⟩
      cases fr <;> (unfold md RepM; first | exact (by unfold Rep; rfl) | (dsimp only; unfold Rep; rfl))
    | bk b => exact nomatch b
    | rt d os =>
      intro P1 H1 w1 rz
      refine q P1 H1 w1 ⟨rz.sub, rz.frame, rz.pp, rz.nw, rz.rep, ?_⟩
      have := rz.outs
      exact .nil
theorem fd_pure {P : Program} {w : World} {K : PySem.W.Frag} {mg : Str → Option Value} {base : Heap} {x qual : Str} {st : Stmt} {f : Addr} {fd : FuncData} {N ps : List Str} {n j : Nat} {mm : List D → R (Fl Unit Empty)} {mkN : Unit → List C} {mkB : Empty → List C}
    (hF : Fun K x qual st f fd) (hs : FnScope N ps (defScope st)) (hn : ps.length = n) (hN : N.length = n + j) (hb : Binds K fd ps []) (hg : mg x = some (.ref f)) (bi : Bi mg)
    (hbody : ∀ (cdv : Value) (A : Around) (outer : List Env) (s : Shared) (H : Hp) (E : XK), Gd (cxOf (CX P w) P w K mg base N qual (defScope st) f cdv A outer s H E) k → Takes (cxOf (CX P w) P w K mg base N qual (defScope st) f cdv A outer s H E) (WE0 E) →
      ∀ ds, ds.length = n → Ss (cxOf (CX P w) P w K mg base N qual (defScope st) f cdv A outer s H E) T (WE0 E) fr [] mkN mkB (argC [] 0 ds ++ uns j) (defBody st) (mm ds)) :
    FD P w K mg base T (k + 1) x f fr [] n (pureM fun ds => finP (mm ds)) :=
  ⟨⟨fd, ps, fn_pure hF hs hn hN bi hbody, hb⟩, hg, hF.kp⟩
end
end Fj

/-! ## Lay14 -/
namespace Fj
open PySem PySem.Spec PyProof.Rows L2

/-! ### expressions that change the def's own objects on their way -/
def RepX (K : PySem.W.Frag) (T : Tb) (m : Md) (z : Zn) (ρ : List C) (σ : L2.St) (P H : Hp) (d : D) (w : V) : Prop := match m with
  | .F => if contD d = true then ∃ a o, w = .ref a ∧ z.H0 a = none ∧ P a = none ∧ H a = some o ∧ Own K T P d o ∧ ∀ (j : Nat) (e : D), ρ[j]? = some (C.own e) → σ[j]? ≠ some (some (.ref a)) else Rep K T P d w
  | _ => Rep K T P d w
section
variable {S : Type}
def PostX (K : PySem.W.Frag) (T : Tb) (W : WX) (m : Md) (mk : S → List C) (z : Zn) (P : Hp) (σ : L2.St) (r : R (D × S)) (Q : VK) : Prop := match r with
  | .ok (d, s) => ∀ w P' H', Same P P' → SimZ K T z P' H' σ (mk s) → RepX K T m z (mk s) σ P' H' d w → Q w H'
  | .ex e => ∀ cls dd H', FrZ z H' → ExR T e cls dd H' → W cls dd σ H'
  | .bad => False
def PostXT (K : PySem.W.Frag) (T : Tb) (W : WX) (mk : S → List C) (z : Zn) (P : Hp) (σ : L2.St) (r : R (Bool × S)) (Q : Bool → Hp → Prop) : Prop := match r with
  | .ok (b, s) => ∀ P' H', Same P P' → SimZ K T z P' H' σ (mk s) → Q b H'
  | .ex e => ∀ cls dd H', FrZ z H' → ExR T e cls dd H' → W cls dd σ H'
  | .bad => False
/-- the values of arguments; some are slots of own objects -/
def RepSl (K : PySem.W.Frag) (T : Tb) (P : Hp) (σ : L2.St) : List (Option Nat) → List D → List V → Prop
  | [], ds, vs => ds = [] ∧ vs = []
  | none :: sl, ds, vs => ∃ d dr v vr, ds = d :: dr ∧ vs = v :: vr ∧ Rep K T P d v ∧ RepSl K T P σ sl dr vr
  | some i :: sl, ds, vs => ∃ v vr, vs = v :: vr ∧ σ[i]? = some (some v) ∧ RepSl K T P σ sl ds vr
def PostXA (K : PySem.W.Frag) (T : Tb) (W : WX) (mk : S → List C) (sl : List (Option Nat)) (z : Zn) (P : Hp) (σ : L2.St) (r : R (List D × S)) (Q : List V → Hp → Prop) : Prop := match r with
  | .ok (ds, s) => ∀ ws P' H', Same P P' → SimZ K T z P' H' σ (mk s) → RepSl K T P' σ sl ds ws → Q ws H'
  | .ex e => ∀ cls dd H', FrZ z H' → ExR T e cls dd H' → W cls dd σ H'
  | .bad => False
def EvX (X : Cx) (T : Tb) (W : WX) (m : Md) (ios : List Nat) (mk : S → List C) (s : S) (e : Expr) (r : R (D × S)) : Prop := ∀ z P H σ Q, z.io.map (·.1) = ios → SimZ X.K T z P H σ (mk s) → PostX X.K T W m mk z P σ r Q → wpE X e σ H Q
def EvXT (X : Cx) (T : Tb) (W : WX) (ios : List Nat) (mk : S → List C) (s : S) (e : Expr) (r : R (Bool × S)) : Prop := ∀ z P H σ Q, z.io.map (·.1) = ios → SimZ X.K T z P H σ (mk s) → PostXT X.K T W mk z P σ r Q → wpT X e σ H Q
def EvXW (X : Cx) (T : Tb) (W : WX) (ios : List Nat) (mk : S → List C) (s : S) (e : Expr) (r : R (Bool × S)) : Prop := ∀ z P H σ Q, z.io.map (·.1) = ios → SimZ X.K T z P H σ (mk s) → PostXT X.K T W mk z P σ r Q → wpW X e σ H Q
def EvXA (X : Cx) (T : Tb) (W : WX) (ios : List Nat) (mk : S → List C) (s : S) (sl : List (Option Nat)) (es : List Expr) (r : R (List D × S)) : Prop := ∀ z P H σ Q, z.io.map (·.1) = ios → SimZ X.K T z P H σ (mk s) → PostXA X.K T W mk sl z P σ r Q → wpA X es σ H Q
end
section
variable {K : PySem.W.Frag} {X : Cx} {T : Tb} {W : WX} {k : Nat} {ρ : List C} {a b c e ei tg iter elt : Expr} {es : List Expr} {da db di : R D} {ca cb : R Bool} {pos p p2 p3 px : Pos} {m : Md} {x y : Str} {fr : Bool} {i j : Nat}
variable {S : Type} {mk : S → List C} {s : S} {ios : List Nat} {ra rb : R (D × S)} {rt : R (Bool × S)}
theorem new_z {z : Zn} {P H : Hp} {σ : L2.St} {a : Addr} (Z : SimZ K T z P H σ ρ) (h : H a = none) : z.H0 a = none ∧ ∀ (j : Nat) (e : D), ρ[j]? = some (C.own e) → σ[j]? ≠ some (some (.ref a)) := by
  refine ⟨?_, fun j d hd hs' => ?_⟩
  · cases q : z.H0 a with
    | none => rfl
    | some y =>
      by_cases hp : ∀ p ∈ z.io, p.2 ≠ a
      · rw [Z.frame a y q hp] at h; cases h
      · have : ∃ p, p ∈ z.io ∧ p.2 = a := Classical.byContradiction fun n => hp fun p hp he => n ⟨p, hp, he⟩
        obtain ⟨p, hpm, rfl⟩ := this
        obtain ⟨h3, d, h4⟩ := Z.ios p hpm
        obtain ⟨u, h5, a', o', h6, h7, h8, h9⟩ := cell_at Z.sim h4
        rw [h3] at h5
        cases h5
        cases h6
        rw [h8] at h; cases h
  · obtain ⟨u, h5, a', o', h6, h7, h8, h9⟩ := cell_at Z.sim hd
    rw [hs'] at h5
    cases h5
    cases h6
    rw [h8] at h; cases h
def pX (d : R D) (s : S) : R (D × S) := d.bind fun x => .ok (x, s)
def pXT (d : R Bool) (s : S) : R (Bool × S) := d.bind fun x => .ok (x, s)
/-- what changes no own object -/
theorem post_px {z : Zn} {P P0 H : Hp} {σ : L2.St} {Q : VK} {d : R D} (h0 : Same P0 P) (Z : SimZ X.K T z P H σ (mk s)) (q : PostX X.K T W m mk z P0 σ (pX d s) Q) (hm : m ≠ .B) : Post X.K T W m P H σ d Q := by
  cases d with
  | bad => exact q
  | ex e => exact fun cls dd H' s' r => q cls dd H' (fun b o e1 e2 => s' _ _ (Z.frame b o e1 e2)) r
  | ok v =>
    intro w P' H' e' r
    refine q w P' H' (h0.trans e'.pp) (Z.ext e') ?_
    cases m with
    | B => exact absurd rfl hm
    | P => exact r
    | F =>
      unfold RepM at r
      unfold RepX
      dsimp only at r ⊢
      split at r
      · rename_i hc
        rw [if_pos hc]
        obtain ⟨a, o, rfl, h1, h2, h3, h4⟩ := r
        obtain ⟨n1, n2⟩ := new_z Z h1
        exact ⟨a, o, rfl, n1, h2, h3, h4, n2⟩
      · rename_i hc
        rw [if_neg hc]
        exact r
theorem post_pxT {z : Zn} {P P0 H : Hp} {σ : L2.St} {Q : Bool → Hp → Prop} {d : R Bool} (h0 : Same P0 P) (Z : SimZ X.K T z P H σ (mk s)) (q : PostXT X.K T W mk z P0 σ (pXT d s) Q) : PostT T W P H σ d Q := by
  cases d with
  | bad => exact q
  | ex e => exact fun cls dd H' s' r => q cls dd H' (fun b o e1 e2 => s' _ _ (Z.frame b o e1 e2)) r
  | ok v => exact fun P' H' e' => q P' H' (h0.trans e'.pp) (Z.ext e')
theorem evx_of (hm : m ≠ .B) (h : Ev X T W m (mk s) e da) : EvX X T W m ios mk s e (pX da s) := fun z P H σ Q hz Z q => h P H σ Q Z.sim (post_px (Same.refl _) Z q hm)
theorem evxT_of (h : EvT X T W (mk s) e ca) : EvXT X T W ios mk s e (pXT ca s) := fun z P H σ Q hz Z q => h P H σ Q Z.sim (post_pxT (Same.refl _) Z q)
theorem evxW_of (h : EvW X T W (mk s) e ca) : EvXW X T W ios mk s e (pXT ca s) := fun z P H σ Q hz Z q => h P H σ Q Z.sim (post_pxT (Same.refl _) Z q)
/-- one more lasting object -/
theorem SimZ.adopt {z : Zn} {P H : Hp} {σ : L2.St} {d : D} {a : Addr} {o : HO} (Z : SimZ K T z P H σ ρ) (hz : z.H0 a = none) (hP : P a = none) (hH : H a = some o) (hn : ∀ (j : Nat) (e : D), ρ[j]? = some (C.own e) → σ[j]? ≠ some (some (.ref a))) : Same P (upd P a o) ∧ SimZ K T z (upd P a o) H σ ρ := by
  have hpp : Same P (upd P a o) := fun b x h => by rw [upd_ne (fun e => by rw [e, hP] at h; cases h)]; exact h
  refine ⟨hpp, ⟨fun b x h => ?_, Z.sim.len, fun j c v h1 h2 => ?_, Z.sim.apart⟩, Z.frame, Z.pp.trans hpp, fun b h1 h2 => ?_, Z.loc, Z.ios⟩
  · by_cases q : b = a
    · subst q; rw [upd_same] at h; cases h; exact hH
    · rw [upd_ne q] at h; exact Z.sim.sub _ _ h
  · have hc := Z.sim.cell j c v h1 h2
    cases c with
    | un => trivial
    | val e => obtain ⟨w, rfl, h⟩ := hc; exact ⟨w, rfl, Rep.mono hpp _ _ h⟩
    | own e =>
      obtain ⟨b, x, rfl, h7, h8, h9⟩ := hc
      have hb : b ≠ a := fun eb => hn j e h1 (by rw [h2, eb])
      exact ⟨b, x, rfl, by rw [upd_ne hb]; exact h7, h8, Own.mono hpp h9⟩
  · have hb : b ≠ a := fun q => by subst q; exact h1 hz
    rw [upd_ne hb]
    exact Z.nw b h1 h2
theorem EvX.lasting (h : EvX X T W .F ios mk s e ra) : EvX X T W .P ios mk s e ra := fun z P H σ Q hz Z q => h z P H σ Q hz Z (by
  cases ra with
  | bad => exact q
  | ex e => exact q
  | ok v =>
    obtain ⟨v, s'⟩ := v
    intro w P' H' hp Z' r
    unfold RepX at r
    dsimp only at r
    split at r
    · obtain ⟨a, o, rfl, h1, h2, h3, h4, h5⟩ := r
      obtain ⟨g1, g2⟩ := Z'.adopt (d := v) h1 h2 h3 h5
      exact q _ _ _ (hp.trans g1) g2 ((rep_own (Own.cont h4)).mpr ⟨a, o, rfl, upd_same, Own.mono g1 h4⟩)
    · exact q _ _ _ hp Z' r)
/-- on with it -/
theorem evx_bind {z : Zn} {P P0 H : Hp} {σ : L2.St} {Q : VK} {F : D × S → R (D × S)} {Q1 : VK} {m' : Md} (ha : EvX X T W m ios mk s a ra) (h0 : Same P0 P) (hz : z.io.map (·.1) = ios) (Z : SimZ X.K T z P H σ (mk s)) (h : PostX X.K T W m' mk z P0 σ (ra.bind F) Q)
    (kk : ∀ v s' w P1 H1, Same P P1 → Same P0 P1 → SimZ X.K T z P1 H1 σ (mk s') → RepX X.K T m z (mk s') σ P1 H1 v w → PostX X.K T W m' mk z P0 σ (F (v, s')) Q → Q1 w H1) : wpE X a σ H Q1 := by
  refine ha z P H σ Q1 hz Z ?_
  cases ra with
  | ok v => exact fun w P' H' hp Z' r => kk v.1 v.2 w P' H' hp (h0.trans hp) Z' r h
  | ex x => exact h
  | bad => exact h
theorem evx_bindT {z : Zn} {P P0 H : Hp} {σ : L2.St} {Q : Bool → Hp → Prop} {F : D × S → R (Bool × S)} {Q1 : VK} (ha : EvX X T W m ios mk s a ra) (h0 : Same P0 P) (hz : z.io.map (·.1) = ios) (Z : SimZ X.K T z P H σ (mk s)) (h : PostXT X.K T W mk z P0 σ (ra.bind F) Q)
    (kk : ∀ v s' w P1 H1, Same P P1 → Same P0 P1 → SimZ X.K T z P1 H1 σ (mk s') → RepX X.K T m z (mk s') σ P1 H1 v w → PostXT X.K T W mk z P0 σ (F (v, s')) Q → Q1 w H1) : wpE X a σ H Q1 := by
  refine ha z P H σ Q1 hz Z ?_
  cases ra with
  | ok v => exact fun w P' H' hp Z' r => kk v.1 v.2 w P' H' hp (h0.trans hp) Z' r h
  | ex x => exact h
  | bad => exact h
theorem evxT_bindT {z : Zn} {P P0 H : Hp} {σ : L2.St} {Q : Bool → Hp → Prop} {F : Bool × S → R (Bool × S)} {Q1 : Bool → Hp → Prop} (ha : EvXT X T W ios mk s a rt) (h0 : Same P0 P) (hz : z.io.map (·.1) = ios) (Z : SimZ X.K T z P H σ (mk s)) (h : PostXT X.K T W mk z P0 σ (rt.bind F) Q)
    (kk : ∀ v s' P1 H1, Same P P1 → Same P0 P1 → SimZ X.K T z P1 H1 σ (mk s') → PostXT X.K T W mk z P0 σ (F (v, s')) Q → Q1 v H1) : wpT X a σ H Q1 := by
  refine ha z P H σ Q1 hz Z ?_
  cases rt with
  | ok v => exact fun P' H' hp Z' => kk v.1 v.2 P' H' hp (h0.trans hp) Z' h
  | ex x => exact h
  | bad => exact h
/-! operators -/
def opX (f : D → D → R D) (a : R (D × S)) (b : S → R (D × S)) : R (D × S) := a.bind fun p => (b p.2).bind fun q => pX (f p.1 q.1) q.2
theorem evx_bin {op : Operator} {r : R2} {f : D → D → R D} {rb : S → R (D × S)} (ho : OpR X (binaryOp op) r) (hf : Does2 X T W r f) (ha : EvX X T W .P ios mk s a ra) (hb : ∀ s, EvX X T W .P ios mk s b (rb s)) :
    EvX X T W .F ios mk s (.BinOp a op b pos) (opX f ra rb) := fun z P H σ Q hz Z q => by
  refine wpE_of (pe_op ho pw pw) ?_
  refine evx_bind ha (Same.refl _) hz Z q fun x s1 v P1 H1 e1 g1 Z1 r1 q1 => ?_
  refine evx_bind (hb s1) g1 hz Z1 q1 fun y s2 w P2 H2 e2 g2 Z2 r2 q2 => ?_
  exact hf P2 H2 σ x y v w Q Z2.sim.sub (.inl (Rep.mono e2 _ _ r1)) (.inl r2) (post_px g2 Z2 q2 (by simp))
def opXT (f : D → D → R Bool) (a : R (D × S)) (b : S → R (D × S)) : R (Bool × S) := a.bind fun p => (b p.2).bind fun q => pXT (f p.1 q.1) q.2
theorem evxT_cmp {op : CmpOp} {r : R2} {f : D → D → R Bool} {rb : S → R (D × S)} (ho : OpR X (compareOp op) r) (hf : DoesC X T r f) (hn : ∀ x y e, f x y ≠ .ex e) (hm : behindInMarks op b = false) (ha : EvX X T W .P ios mk s a ra) (hb : ∀ s, EvX X T W .P ios mk s b (rb s)) :
    EvXT X T W ios mk s (.Compare a [op] [b] pos) (opXT f ra rb) := fun z P H σ Q hz Z q => by
  refine wpT_of (pt_cmpR ho pw pw hm) ?_
  refine evx_bindT ha (Same.refl _) hz Z q fun x s1 v P1 H1 e1 g1 Z1 r1 q1 => ?_
  refine evx_bindT (hb s1) g1 hz Z1 q1 fun y s2 w P2 H2 e2 g2 Z2 r2 q2 => ?_
  obtain ⟨h1, h2⟩ := ok_of (post_pxT g2 Z2 q2) (hn x y)
  exact hf P2 H2 x y v w _ Z2.sim.sub (.inl (Rep.mono e2 _ _ r1)) (.inl r2) (fun b hb P' H' e' => ⟨b, rfl, h2 b hb P' H' e'⟩) h1
def blX (r : R (Bool × S)) : R (D × S) := r.bind fun p => .ok (.bl p.1, p.2)
theorem evx_cmp {op : CmpOp} {r : R2} {f : D → D → R Bool} {rb : S → R (D × S)} (ho : OpR X (compareOp op) r) (hf : DoesC X T r f) (hn : ∀ x y e, f x y ≠ .ex e) (hm : behindInMarks op b = false) (ha : EvX X T W .P ios mk s a ra) (hb : ∀ s, EvX X T W .P ios mk s b (rb s)) :
    EvX X T W .F ios mk s (.Compare a [op] [b] pos) (blX (opXT f ra rb)) := fun z P H σ Q hz Z q => by
  refine wpE_of (pe_cmpR ho pw pw hm) ?_
  have q' : PostX X.K T W .F mk z P σ (ra.bind fun p => (rb p.2).bind fun q => pX (blE (f p.1 q.1)) q.2) Q := by
    unfold blX opXT at q
    cases ra with
    | bad => exact q
    | ex e => exact q
    | ok p =>
      simp only [R.ok_bind] at q ⊢
      cases h : rb p.2 with
      | bad => rw [h] at q; exact q
      | ex e => rw [h] at q; exact q
      | ok p2 =>
        rw [h] at q
        simp only [R.ok_bind] at q ⊢
        unfold pXT at q
        unfold pX blE
        cases h2 : f p.1 p2.1 <;> (rw [h2] at q; exact q)
  refine evx_bind ha (Same.refl _) hz Z q' fun x s1 v P1 H1 e1 g1 Z1 r1 q1 => ?_
  refine evx_bind (hb s1) g1 hz Z1 q1 fun y s2 w P2 H2 e2 g2 Z2 r2 q2 => ?_
  obtain ⟨h1, h2⟩ := okD_of (post_px g2 Z2 q2 (by simp)) (hn x y)
  exact hf P2 H2 x y v w _ Z2.sim.sub (.inl (Rep.mono e2 _ _ r1)) (.inl r2) (fun b hb P' H' e' => h2 b hb P' H' e') h1
/-! a[b] -/
theorem evx_ix {rb : S → R (D × S)} (g : Gd X k) (ha : EvX X T W .P ios mk s a ra) (hb : ∀ s, EvX X T W .P ios mk s b (rb s)) (hs : PlainIx b) : EvX X T W .P ios mk s (.Subscript a b pos) (opX idxR ra rb) := fun z P H σ Q hz Z q => by
  refine wpE_of (pe_ix ((ix_seq (X := X)).or (ix_dict (units1 g))) pw pw hs) ?_
  refine evx_bind ha (Same.refl _) hz Z q fun x s1 v P1 H1 e1 g1 Z1 r1 q1 => ?_
  refine evx_bind (hb s1) g1 hz Z1 q1 fun y s2 w P2 H2 e2 g2 Z2 r2 q2 => ?_
  have q3 : Post X.K T W .P P2 H2 σ (idxR x y) Q := post_px g2 Z2 q2 (by simp)
  have r1' : RepM X.K T .B H2 P2 H2 x v := .inl (Rep.mono e2 _ _ r1)
  have r2' : RepM X.K T .B H2 P2 H2 y w := .inl r2
  clear q2 q1
  unfold idxR at q3
  split at q3
  · rename_i t kvs
    obtain ⟨p, o, rfl, h1, h2⟩ := B_dct Z2.sim.sub r1'
    have q3 : Post X.K T W .P P2 H2 σ (if kindOk y t then ofO (lookD y kvs) else .bad) Q := q3
    split at q3
    · rename_i hk
      obtain ⟨ov, g1, g2⟩ := dget_of Z2.sim.sub hk h1 h2 (rep_key hk r2')
      rcases g2 with ⟨e3, e4⟩ | ⟨d, v, e3, e4, e5⟩
      · rw [e3] at q3; exact q3.elim
      · rw [e3] at q3
        subst e4
        exact .inr ⟨p, v, rfl, g1, q3 v P2 H2 (Ext.refl Z2.sim.sub) e5⟩
    · exact q3.elim
  · exact .inl (idx0_of Z2.sim.sub r1' r2' q3)
/-! tests -/
def notX (r : R (Bool × S)) : R (Bool × S) := r.bind fun p => .ok (!p.1, p.2)
def andX (r : R (Bool × S)) (f : S → R (Bool × S)) : R (Bool × S) := r.bind fun p => if p.1 = true then f p.2 else .ok (false, p.2)
def orX (r : R (Bool × S)) (f : S → R (Bool × S)) : R (Bool × S) := r.bind fun p => if p.1 = true then .ok (true, p.2) else f p.2
def truX (r : R (D × S)) : R (Bool × S) := r.bind fun p => pXT (truT p.1) p.2
theorem evxT_not (h : EvXT X T W ios mk s a rt) : EvXT X T W ios mk s (.UnaryOp .Not a pos) (notX rt) := fun z P H σ Q hz Z q => by
  refine wpT_of (pt_not tw) ?_
  exact evxT_bindT h (Same.refl _) hz Z q fun v s1 P1 H1 e1 g1 Z1 q1 => q1 P1 H1 g1 Z1
theorem evxT_val (ha : EvX X T W .P ios mk s a ra) (he : ∀ whole, isTrue a X.env whole = (do let v ← whole; standAt a.pos; holding [v] (truthy v))) : EvXT X T W ios mk s a (truX ra) := fun z P H σ Q hz Z q => by
  refine wpT_of (pt_truth pw he) ?_
  refine evx_bindT ha (Same.refl _) hz Z q fun x s1 v P1 H1 e1 g1 Z1 r1 q1 => ?_
  have q1 := post_pxT g1 Z1 q1
  unfold truT at q1
  split at q1
  · exact q1.elim
  · rename_i hl
    cases ht : truD x with
    | ok t =>
      rw [ht] at q1
      refine ⟨t, tru_of (H0 := H1) Z1.sim.sub (.inl r1) ht (fun s es => ?_), q1 P1 H1 (Ext.refl Z1.sim.sub)⟩
      subst es
      simpa [longD] using hl
    | ex e => cases x <;> cases ht
    | bad => rw [ht] at q1; exact q1.elim
theorem EvXW.t (h : EvXW X T W ios mk s a rt) : EvXT X T W ios mk s a rt := fun z P H σ Q hz Z q pins st I => h z P H σ Q hz Z q _ pins st I
theorem evxW_and1 (ha : EvXT X T W ios mk s a rt) : EvXW X T W ios mk s (.BoolOp .And [a] pos) rt := fun z P H σ Q hz Z q => wpW_of (pw_and1 tw) (ha z P H σ Q hz Z q)
theorem evxW_or1 (ha : EvXT X T W ios mk s a rt) : EvXW X T W ios mk s (.BoolOp .Or [a] pos) rt := fun z P H σ Q hz Z q => wpW_of (pw_or1 tw) (ha z P H σ Q hz Z q)
theorem evxW_and {rest : List Expr} {ru : S → R (Bool × S)} (ha : EvXT X T W ios mk s a rt) (hb : ∀ s, EvXW X T W ios mk s (.BoolOp .And (b :: rest) pos) (ru s)) : EvXW X T W ios mk s (.BoolOp .And (a :: b :: rest) pos) (andX rt ru) := fun z P H σ Q hz Z q => by
  refine wpW_of (pw_and tw ww) ?_
  refine evxT_bindT ha (Same.refl _) hz Z q fun v s1 P1 H1 e1 g1 Z1 q1 => ?_
  cases v with
  | true => exact hb s1 z P1 H1 σ Q hz Z1 (by
      cases h : ru s1 with
      | bad => simp only [h, if_true] at q1; exact q1
      | ex e => simp only [h, if_true] at q1; exact q1
      | ok p => simp only [h, if_true] at q1; exact fun P' H' e' Z' => q1 P' H' (g1.trans e') Z')
  | false => exact q1 P1 H1 g1 Z1
theorem evxW_or {rest : List Expr} {ru : S → R (Bool × S)} (ha : EvXT X T W ios mk s a rt) (hb : ∀ s, EvXW X T W ios mk s (.BoolOp .Or (b :: rest) pos) (ru s)) : EvXW X T W ios mk s (.BoolOp .Or (a :: b :: rest) pos) (orX rt ru) := fun z P H σ Q hz Z q => by
  refine wpW_of (pw_or tw ww) ?_
  refine evxT_bindT ha (Same.refl _) hz Z q fun v s1 P1 H1 e1 g1 Z1 q1 => ?_
  cases v with
  | false => exact hb s1 z P1 H1 σ Q hz Z1 (by
      cases h : ru s1 with
      | bad => simp only [h, Bool.false_eq_true, if_false] at q1; exact q1
      | ex e => simp only [h, Bool.false_eq_true, if_false] at q1; exact q1
      | ok p => simp only [h, Bool.false_eq_true, if_false] at q1; exact fun P' H' e' Z' => q1 P' H' (g1.trans e') Z')
  | true => exact q1 P1 H1 g1 Z1
/-! arguments -/
theorem RepSl.mono {P P' : Hp} (h : Same P P') {σ : L2.St} : ∀ {sl : List (Option Nat)} {ds : List D} {vs : List V}, RepSl K T P σ sl ds vs → RepSl K T P' σ sl ds vs
  | [], _, _, r => r
  | none :: sl, _, _, r => by
    unfold RepSl at r ⊢
    obtain ⟨d, dr, v, vr, h1, h2, h3, h4⟩ := r
    exact ⟨d, dr, v, vr, h1, h2, Rep.mono h _ _ h3, RepSl.mono h h4⟩
  | some i :: sl, _, _, r => by
    unfold RepSl at r ⊢
    obtain ⟨v, vr, h2, h3, h4⟩ := r
    exact ⟨v, vr, h2, h3, RepSl.mono h h4⟩
def consX (r : R (D × S)) (t : S → R (List D × S)) : R (List D × S) := r.bind fun p => (t p.2).bind fun q => .ok (p.1 :: q.1, q.2)
theorem evxA_nil : EvXA X T W ios mk s [] [] (.ok ([], s)) := fun z P H σ Q hz Z q => wpA_of pa_nil (q _ P H (Same.refl _) Z (by unfold RepSl; exact ⟨rfl, rfl⟩))
theorem evxA_cons {sl : List (Option Nat)} {rl : S → R (List D × S)} (ha : EvX X T W .P ios mk s a ra) (hr : ∀ s, EvXA X T W ios mk s sl es (rl s)) (hs : starEach (a :: es) X.env = (false, eval a X.env) :: starEach es X.env) : EvXA X T W ios mk s (none :: sl) (a :: es) (consX ra rl) := fun z P H σ Q hz Z q => by
  refine wpA_of (pa_cons pw aw hs) ?_
  refine ha z P H σ _ hz Z ?_
  cases ra with
  | bad => exact q
  | ex e => exact q
  | ok p =>
    intro w P1 H1 e1 Z1 r1
    refine hr p.2 z P1 H1 σ _ hz Z1 ?_
    have q : PostXA X.K T W mk (none :: sl) z P σ ((rl p.2).bind fun q => .ok (p.1 :: q.1, q.2)) Q := q
    cases h : rl p.2 with
    | bad => rw [h] at q; exact q
    | ex e => rw [h] at q; exact q
    | ok t =>
      rw [h] at q
      exact fun ws P2 H2 e2 Z2 r2 => q (w :: ws) P2 H2 (e1.trans e2) Z2 (by unfold RepSl; exact ⟨_, _, _, _, rfl, rfl, Rep.mono e2 _ _ r1, r2⟩)
theorem evxA_own {sl : List (Option Nat)} {rl : R (List D × S)} {d : D} (hi : (mk s)[i]? = some (.own d)) (hN : X.N[i]? = some x) (hv : Vis X.env.scope x) (hd : (x == ("__debug__" : Str)) = false) (hcd : (x == ("__classdict__" : Str)) = false)
    (hr : EvXA X T W ios mk s sl es rl) (hs : starEach (.Name x px :: es) X.env = (false, eval (.Name x px) X.env) :: starEach es X.env) : EvXA X T W ios mk s (some i :: sl) (.Name x px :: es) rl := fun z P H σ Q hz Z q => by
  refine wpA_of (pa_cons (pe_var hN hv hd hcd) aw hs) ?_
  obtain ⟨u, h5, a', o', rfl, h7, h8, h9⟩ := cell_at Z.sim hi
  refine ⟨_, h5, ?_⟩
  refine hr z P H σ _ hz Z ?_
  cases rl with
  | bad => exact q
  | ex e => exact q
  | ok t => exact fun ws P2 H2 e2 Z2 r2 => q (_ :: ws) P2 H2 e2 Z2 (by unfold RepSl; exact ⟨_, _, rfl, h5, r2⟩)
/-- plain arguments -/
theorem repSl_none {P : Hp} {σ : L2.St} : ∀ {n : Nat} {ds : List D} {vs : List V}, RepSl K T P σ (List.replicate n none) ds vs → RepAll K T P ds vs ∧ ds.length = n
  | 0, ds, vs, r => by
    have r : ds = [] ∧ vs = [] := by simpa [List.replicate, RepSl] using r
    obtain ⟨rfl, rfl⟩ := r
    exact ⟨RepAll.nil, rfl⟩
  | n + 1, ds, vs, r => by
    rw [List.replicate_succ] at r
    unfold RepSl at r
    obtain ⟨d, dr, v, vr, rfl, rfl, h3, h4⟩ := r
    obtain ⟨g1, g2⟩ := repSl_none h4
    exact ⟨RepAll.cons h3 g1, by simp [g2]⟩
theorem evxA_bind {sl : List (Option Nat)} {rl : R (List D × S)} {z : Zn} {P P0 H : Hp} {σ : L2.St} {Q : VK} {F : List D × S → R (D × S)} {Q1 : List V → Hp → Prop} {m' : Md} (ha : EvXA X T W ios mk s sl es rl) (h0 : Same P0 P) (hz : z.io.map (·.1) = ios) (Z : SimZ X.K T z P H σ (mk s)) (h : PostX X.K T W m' mk z P0 σ (rl.bind F) Q)
    (kk : ∀ v s' w P1 H1, Same P P1 → Same P0 P1 → SimZ X.K T z P1 H1 σ (mk s') → RepSl X.K T P1 σ sl v w → PostX X.K T W m' mk z P0 σ (F (v, s')) Q → Q1 w H1) : wpA X es σ H Q1 := by
  refine ha z P H σ Q1 hz Z ?_
  cases rl with
  | ok v => exact fun w P' H' hp Z' r => kk v.1 v.2 w P' H' hp (h0.trans hp) Z' r h
  | ex x => exact h
  | bad => exact h
def tupX (r : R (List D × S)) : R (D × S) := r.bind fun p => .ok (.tup p.1, p.2)
def lstX (r : R (List D × S)) : R (D × S) := r.bind fun p => .ok (.lst p.1, p.2)
theorem evx_tup {n : Nat} {kx} {rl : R (List D × S)} (h : EvXA X T W ios mk s (List.replicate n none) es rl) (hl : n ≤ 1000) : EvX X T W .F ios mk s (.Tuple es kx pos) (tupX rl) := fun z P H σ Q hz Z q => by
  refine wpE_of (pe_tup aw) ?_
  refine evxA_bind h (Same.refl _) hz Z q fun vs s1 ws P1 H1 e1 g1 Z1 r1 q1 => ?_
  obtain ⟨r2, r3⟩ := repSl_none r1
  have q2 : Post X.K T W .F P1 H1 σ (.ok (.tup vs)) Q := post_px g1 Z1 q1 (by simp)
  exact ⟨by rw [r2.length, r3]; exact most_le (Nat.le_trans hl (by decide)), fun p hp => postU Z1.sim.sub r2 hp q2⟩
theorem evx_lst {n : Nat} {rl : R (List D × S)} (h : EvXA X T W ios mk s (List.replicate n none) es rl) (hl : n ≤ 1000) : EvX X T W .F ios mk s (.List es pos) (lstX rl) := fun z P H σ Q hz Z q => by
  refine wpE_of (pe_lst aw) ?_
  refine evxA_bind h (Same.refl _) hz Z q fun vs s1 ws P1 H1 e1 g1 Z1 r1 q1 => ?_
  obtain ⟨r2, r3⟩ := repSl_none r1
  have q2 : Post X.K T W .F P1 H1 σ (.ok (.lst vs)) Q := post_px g1 Z1 q1 (by simp)
  exact ⟨by rw [r2.length, r3]; exact most_le (Nat.le_trans hl (by decide)), fun p hp => postL Z1.sim.sub r2 hp q2⟩
/-! calls -/
def op1X (f : D → R D) (a : R (D × S)) : R (D × S) := a.bind fun p => pX (f p.1) p.2
theorem evx_b1 {id : String} {r : List V → Hp → VK → Prop} {f : D → R D} (hc : CallR X (.builtin id) r) (hf : Does1 X T W r f) (hg : Gl X x) (hm : X.mg x = none) (hv : bootBuiltins x = some (.builtin id)) (ha : EvX X T W .P ios mk s a ra)
    (hs : starEach [a] X.env = (false, eval a X.env) :: starEach [] X.env) (hn : x ≠ "__name__") (hdb : (x == ("__debug__" : Str)) = false) : EvX X T W .F ios mk s (.Call (.Name x p) [a] [] pos) (op1X f ra) := fun z P H σ Q hz Z q => by
  refine wpE_of (pe_callB hc hg hm hv (pa_cons pw pa_nil hs) hn hdb hs rfl) ?_
  refine evx_bind ha (Same.refl _) hz Z q fun y s1 v P1 H1 e1 g1 Z1 r1 q1 => ?_
  exact hf P1 H1 σ y v Q Z1.sim.sub (.inl r1) (post_px g1 Z1 q1 (by simp))
theorem evx_t1 {id : String} {r : List V → Hp → VK → Prop} {f : D → R D} (hc : CallR X (.type id) r) (hf : Does1 X T W r f) (hg : Gl X x) (hm : X.mg x = none) (hv : bootBuiltins x = some (.type id)) (ha : EvX X T W .P ios mk s a ra)
    (hs : starEach [a] X.env = (false, eval a X.env) :: starEach [] X.env) (hn : x ≠ "__name__") (hdb : (x == ("__debug__" : Str)) = false) : EvX X T W .F ios mk s (.Call (.Name x p) [a] [] pos) (op1X f ra) := fun z P H σ Q hz Z q => by
  refine wpE_of (pe_callTy hc hg hm hv (pa_cons pw pa_nil hs) hn hdb hs rfl) ?_
  refine evx_bind ha (Same.refl _) hz Z q fun y s1 v P1 H1 e1 g1 Z1 r1 q1 => ?_
  exact hf P1 H1 σ y v Q Z1.sim.sub (.inl r1) (post_px g1 Z1 q1 (by simp))
/-- a def without lent arguments, its arguments with changes -/
def callX (f : List D → R D) (r : R (List D × S)) : R (D × S) := r.bind fun p => pX (f p.1) p.2
theorem evx_call {f : Addr} {n : Nat} {mm : List D → R D} {rl : R (List D × S)} (g : Gd X k) (F : FD X.prog X.w X.K X.mg X.base T j x f fr [] n (pureM mm)) (hj : j ≤ k) (tk : Takes X W) (hg : Gl X x) (ha : EvXA X T W ios mk s (List.replicate n none) (a :: es) rl)
    (hdb : (x == ("__debug__" : Str)) = false) (he : starEach (a :: es) X.env = (false, eval a X.env) :: starEach es X.env) (hpl : (backTo pos (starEach es X.env)).any (·.1) = false) : EvX X T W (md fr) ios mk s (.Call (.Name x p) (a :: es) [] pos) (callX mm rl) := fun z P H σ Q hz Z q => by
  obtain ⟨fd, ps, F1, B1⟩ := F.ex
  refine wpE_of (pe_callSD F1 (g.room.mono hj) hg F.gl F.kp B1 .nil (fun σ => passAt tk σ) aw hdb he hpl) ?_
  refine evxA_bind ha (Same.refl _) hz Z q fun vs s1 ws P1 H1 e1 g1 Z1 rs q1 => ?_
  obtain ⟨r1, r3⟩ := repSl_none rs
  have hmd : md fr ≠ .B := by cases fr <;> simp [md]
  have q1 : Post X.K T W (md fr) P1 H1 σ (mm vs) Q := post_px g1 Z1 q1 hmd
  show spI X.K T fr [] n (pureM mm) (ws ++ []) H1 Q (WE W σ)
  rw [List.append_nil]
  refine ⟨by rw [r1.length, r3], P1, vs, ⟨Z1.sim.sub, by rw [argC_len, List.length_map, r1.length], fun i c v h1 h2 => sim_args Z1.sim.sub 0 r1 i c v h1 h2, fun i _ d _ _ h1 => absurd h1 (argC_nil_own 0 i vs d)⟩, ?_⟩
  unfold pureM
  cases hm : mm vs with
  | bad => rw [hm] at q1; exact q1
  | ex z =>
    rw [hm] at q1
    exact fun cls dd H2 h1 h2 => q1 cls dd H2 (fun b o e => h1 b o e fun p hp => nomatch hp) h2
  | ok d =>
    rw [hm] at q1
    exact fun P2 H2 w rz => q1 w P2 H2 ⟨rz.pp, fun b o e => rz.frame b o e (fun p hp => nomatch hp), rz.sub, rz.nw⟩ rz.rep
end
end Fj

/-! ## Lay15 -/
namespace Fj
open PySem PySem.Spec PyProof.Rows L2
section
variable {K : PySem.W.Frag} {X : Cx} {T : Tb} {W : WX} {k : Nat} {ρ : List C} {a b c e ei tg iter elt : Expr} {es : List Expr} {da db di : R D} {ca cb : R Bool} {pos p p2 p3 px : Pos} {m : Md} {x y : Str} {fr : Bool} {i j : Nat}
variable {S : Type} {mk : S → List C} {s : S} {ios : List Nat} {ra rb : R (D × S)} {rt : R (Bool × S)}
/-- an own object lent to a call -/
theorem SimZ.lent {z : Zn} {P H P2 H2 : Hp} {σ : L2.St} {i : Nat} {a : Addr} {d d' : D} {ho : HO} (Z : SimZ K T z P H σ ρ) (hi : ρ[i]? = some (C.own d)) (hs : σ[i]? = some (some (.ref a))) (hsub : Same P2 H2) (hfr : ∀ b o, H b = some o → b ≠ a → H2 b = some o) (hpp : Same P P2)
    (hnw : ∀ b, H b ≠ none → P b = none → P2 b = none) (h2 : H2 a = some ho) (hown : Own K T P2 d' ho) : SimZ K T z P2 H2 σ (ρ.set i (.own d')) := by
  obtain ⟨v, h5, a', o, h6, hP, hH, _⟩ := cell_at Z.sim hi
  rw [hs] at h5
  cases h5
  cases h6
  have hl : i < ρ.length := (List.getElem?_eq_some_iff.mp hi).1
  refine ⟨⟨hsub, by simpa using Z.sim.len, fun j c v h1 h2' => ?_, fun j l d1 e1 b h1 h2' h3 h4 => ?_⟩, fun b x h1 h2' => ?_, Z.pp.trans hpp, fun b h1 h2' => ?_, fun j d1 b h1 h2' => ?_, fun p hp => ?_⟩
  · by_cases q : i = j
    · subst q
      rw [List.getElem?_set_self hl] at h1
      cases h1
      rw [hs] at h2'
      cases h2'
      exact ⟨a, ho, rfl, hnw _ (by rw [hH]; simp) hP, h2, hown⟩
    · rw [List.getElem?_set_ne q] at h1
      have hc := Z.sim.cell j c v h1 h2'
      cases c with
      | un => trivial
      | val e => obtain ⟨w, rfl, h⟩ := hc; exact ⟨w, rfl, Rep.mono hpp _ _ h⟩
      | own e =>
        obtain ⟨b, x, rfl, h7, h8, h9⟩ := hc
        have hb : b ≠ a := fun eb => q (Z.sim.apart i j d e a hi h1 hs (by rw [h2', eb]))
        exact ⟨b, x, rfl, hnw _ (by rw [h8]; simp) h7, hfr _ _ h8 hb, Own.mono hpp h9⟩
  · have f : ∀ {m : Nat} {x : D}, (ρ.set i (.own d'))[m]? = some (C.own x) → ∃ y, ρ[m]? = some (C.own y) := fun {m x} h => by
      by_cases q : i = m
      · subst q; exact ⟨d, hi⟩
      · rw [List.getElem?_set_ne q] at h; exact ⟨x, h⟩
    obtain ⟨y1, g1⟩ := f h1
    obtain ⟨y2, g2⟩ := f h2'
    exact Z.sim.apart j l y1 y2 b g1 g2 h3 h4
  · have hb : b ≠ a := fun e => by
      subst e
      rcases Z.loc i d b hi hs with q | q
      · rw [q] at h1; cases h1
      · exact h2' _ q rfl
    exact hfr _ _ (Z.frame b x h1 h2') hb
  · refine hnw b ?_ (Z.nw b h1 h2')
    cases q : z.H0 b with
    | none => exact absurd q h1
    | some o' =>
      by_cases hp : ∀ p ∈ z.io, p.2 ≠ b
      · rw [Z.frame b o' q hp]; simp
      · have : ∃ p, p ∈ z.io ∧ p.2 = b := Classical.byContradiction fun n => hp fun p hp he => n ⟨p, hp, he⟩
        obtain ⟨p, hpm, rfl⟩ := this
        obtain ⟨h3, d3, h4⟩ := Z.ios p hpm
        obtain ⟨u, h5, a', o', h6, h7, h8, h9⟩ := cell_at Z.sim h4
        rw [h3] at h5
        cases h5
        cases h6
        rw [h8]; simp
  · by_cases q : i = j
    · subst q; exact Z.loc i d b hi h2'
    · rw [List.getElem?_set_ne q] at h1; exact Z.loc j d1 b h1 h2'
  · obtain ⟨h1, e, h2'⟩ := Z.ios p hp
    refine ⟨h1, ?_⟩
    by_cases q : i = p.1
    · subst q; exact ⟨d', List.getElem?_set_self hl⟩
    · rw [List.getElem?_set_ne q]; exact ⟨e, h2'⟩
/-- where an own object's content stands in the state -/
structure At (mk : S → List C) (i : Nat) (gt : S → D) (up : S → D → S) : Prop where
  gt : ∀ s, (mk s)[i]? = some (.own (gt s))
  up : ∀ s d, mk (up s d) = (mk s).set i (.own d)
/-- the lent thing among the arguments -/
def fillR (o : D) : Nat → List D → List D
  | 0, ds => o :: ds
  | n + 1, d :: ds => d :: fillR o n ds
  | _ + 1, [] => [o]
def ioX (mm : List D → R (D × List D)) (q : Nat) (gt : S → D) (up : S → D → S) (r : R (List D × S)) : R (D × S) := r.bind fun t => (mm (fillR (gt t.2) q t.1)).bind fun p => match p.2 with
  | [o] => .ok (p.1, up t.2 o)
  | _ => .bad
theorem fill_cells {P H : Hp} {σ : L2.St} {o : D} {a : Addr} (hs : Same P H) (ho : ∃ h, P a = none ∧ H a = some h ∧ Own K T P o h) (hσ : σ[i]? = some (some (.ref a))) : ∀ {q r : Nat} {ds : List D} {ws : List V} {j : Nat}, RepSl K T P σ (List.replicate q none ++ some i :: List.replicate r none) ds ws →
    ws.length = q + 1 + r ∧ (fillR o q ds).length = ws.length ∧ ws[q]? = some (.ref a) ∧ (∀ (n : Nat) (c : C) (v : Option V), (argC [j + q] j (fillR o q ds))[n]? = some c → (ws.map some)[n]? = some v → CellOk K T P H c v) ∧ (∀ (n : Nat) (d : D), (argC [j + q] j (fillR o q ds))[n]? = some (C.own d) → n = q)
  | 0, r, ds, ws, j, h => by
    have h : RepSl K T P σ (some i :: List.replicate r none) ds ws := h
    unfold RepSl at h
    obtain ⟨v, vr, rfl, h3, h4⟩ := h
    rw [hσ] at h3
    cases h3
    obtain ⟨g1, g2⟩ := repSl_none h4
    have hnil : ∀ (l : List D) (m : Nat), argC [j + 0] (j + 1 + m) l = argC [] (j + 1 + m) l := by
      intro l
      induction l with
      | nil => intro m; rfl
      | cons d l ih =>
        intro m
        unfold argC
        have : [j + 0].contains (j + 1 + m) = false := by simp; omega
        rw [this, show j + 1 + m + 1 = j + 1 + (m + 1) by omega, ih]
        rfl
    refine ⟨by simp [g1.length, g2] <;> omega, by simp [fillR, g1.length], rfl, fun n c v h1 h2 => ?_, fun n d h1 => ?_⟩
    · unfold fillR argC at h1
      cases n with
      | zero =>
        simp at h1 h2
        subst h1 h2
        obtain ⟨hh, ho1, ho2, ho3⟩ := ho
        exact ⟨a, hh, rfl, ho1, ho2, ho3⟩
      | succ n =>
        simp only [List.getElem?_cons_succ] at h1
        rw [show j + 1 = j + 1 + 0 by rfl, hnil] at h1
        exact sim_args hs _ g1 n c v h1 (by simpa using h2)
    · cases n with
      | zero => rfl
      | succ n =>
        unfold fillR argC at h1
        simp only [List.getElem?_cons_succ] at h1
        rw [show j + 1 = j + 1 + 0 by rfl, hnil] at h1
        exact absurd h1 (argC_nil_own _ _ _ _)
  | q + 1, r, ds, ws, j, h => by
    have h : RepSl K T P σ (none :: (List.replicate q none ++ some i :: List.replicate r none)) ds ws := by
      rw [List.replicate_succ, List.cons_append] at h; exact h
    unfold RepSl at h
    obtain ⟨d, dr, v, vr, rfl, rfl, h3, h4⟩ := h
    obtain ⟨g1, g2, g3, g4, g5⟩ := fill_cells (o := o) (a := a) hs ho hσ (j := j + 1) h4
    have hc : [j + (q + 1)].contains j = false := by simp <;> omega
    refine ⟨by simp [g1] <;> omega, by simp [fillR, g2], by simpa using g3, fun n c w h1 h2 => ?_, fun n e h1 => ?_⟩
    · unfold fillR argC at h1
      rw [hc] at h1
      cases n with
      | zero =>
        simp at h1 h2
        subst h1 h2
        exact ⟨v, rfl, h3⟩
      | succ n =>
        simp only [List.getElem?_cons_succ] at h1
        rw [show j + (q + 1) = j + 1 + q by omega] at h1
        exact g4 n c w h1 (by simpa using h2)
    · unfold fillR argC at h1
      rw [hc] at h1
      cases n with
      | zero => simp at h1
      | succ n =>
        simp only [List.getElem?_cons_succ] at h1
        rw [show j + (q + 1) = j + 1 + q by omega] at h1
        rw [g5 n e h1]
theorem evx_io {f : Addr} {q r : Nat} {mm : List D → R (D × List D)} {rl : R (List D × S)} {gt : S → D} {up : S → D → S} (g : Gd X k) (F : FD X.prog X.w X.K X.mg X.base T j x f fr [q] (q + 1 + r) mm) (hj : j ≤ k) (tk : Takes X W) (hg : Gl X x) (hat : At mk i gt up)
    (ha : EvXA X T W ios mk s (List.replicate q none ++ some i :: List.replicate r none) (a :: es) rl)
    (hdb : (x == ("__debug__" : Str)) = false) (he : starEach (a :: es) X.env = (false, eval a X.env) :: starEach es X.env) (hpl : (backTo pos (starEach es X.env)).any (·.1) = false) : EvX X T W (md fr) ios mk s (.Call (.Name x p) (a :: es) [] pos) (ioX mm q gt up rl) := fun z P H σ Q hz Z qq => by
  obtain ⟨fd, ps, F1, B1⟩ := F.ex
  refine wpE_of (pe_callSD F1 (g.room.mono hj) hg F.gl F.kp B1 .nil (fun σ => passAt tk σ) aw hdb he hpl) ?_
  refine evxA_bind ha (Same.refl _) hz Z qq fun vs s1 ws P1 H1 e1 g1 Z1 rs q1 => ?_
  obtain ⟨u, h5, a', o', rfl, h7, h8, h9⟩ := cell_at Z1.sim (hat.gt s1)
  obtain ⟨f1, f2, f3, f4, f5⟩ := fill_cells (o := gt s1) (a := a') (j := 0) Z1.sim.sub ⟨o', h7, h8, h9⟩ h5 rs
  rw [Nat.zero_add] at f4 f5
  show spI X.K T fr [q] (q + 1 + r) mm (ws ++ []) H1 Q (WE W σ)
  rw [List.append_nil]
  refine ⟨f1, P1, fillR (gt s1) q vs, ⟨Z1.sim.sub, by rw [argC_len, List.length_map, f2], f4, fun n1 n2 d1 d2 b h1 h2 _ _ => by rw [f5 _ _ h1, f5 _ _ h2]⟩, ?_⟩
  have hio : ioAt [q] ws = [(q, a')] := by unfold ioAt; rw [List.filterMap_cons, f3]; rfl
  rw [hio]
  have q1 : PostX X.K T W (md fr) mk z P σ ((mm (fillR (gt s1) q vs)).bind fun p => match p.2 with | [o] => .ok (p.1, up s1 o) | _ => .bad) Q := q1
  cases hm : mm (fillR (gt s1) q vs) with
  | bad => rw [hm] at q1; exact q1
  | ex e =>
    rw [hm] at q1
    refine fun cls dd H2 h1 h2 => q1 cls dd H2 (fun b o e1 e2 => ?_) h2
    refine h1 b o (Z1.frame b o e1 e2) fun p hp => ?_
    rw [List.mem_singleton] at hp
    subst hp
    intro e3
    subst e3
    rcases Z1.loc i _ _ (hat.gt s1) h5 with w | w
    · rw [w] at e1; cases e1
    · exact e2 _ w rfl
  | ok dp =>
    rw [hm] at q1
    obtain ⟨d, os⟩ := dp
    intro P2 H2 w rz
    have hos := rz.outs
    cases os with
    | nil => exact nomatch hos
    | cons o'' os' =>
    cases os' with
    | cons _ _ => cases hos with | cons _ h => exact nomatch h
    | nil =>
    cases hos with
    | cons h _ =>
    obtain ⟨h10, ho2, h11, h12⟩ := h
    have hfr : ∀ b o, H1 b = some o → b ≠ a' → H2 b = some o := fun b o h hb => rz.frame b o h fun p hp => by
      rw [List.mem_singleton] at hp; subst hp; exact fun e => hb e.symm
    have Z2 := Z1.lent (d' := o'') (hat.gt s1) h5 rz.sub hfr rz.pp rz.nw h11 h12
    have q1 : ∀ w P' H', Same P P' → SimZ X.K T z P' H' σ (mk (up s1 o'')) → RepX X.K T (md fr) z (mk (up s1 o'')) σ P' H' d w → Q w H' := q1
    rw [hat.up] at q1
    refine q1 w P2 H2 (g1.trans rz.pp) Z2 ?_
    have rr := rz.rep
    cases fr with
    | false => exact rr
    | true =>
      have rr : RepM X.K T .F H1 P2 H2 d w := rr
      show RepX X.K T .F _ _ _ _ _ _ _
      unfold RepM at rr
      unfold RepX
      dsimp only at rr ⊢
      split at rr
      · rename_i hc
        rw [if_pos hc]
        obtain ⟨b, o, rfl, t1, t2, t3, t4⟩ := rr
        obtain ⟨n1, n2⟩ := new_z Z1 t1
        refine ⟨b, o, rfl, n1, t2, t3, t4, fun j e h1 h2 => ?_⟩
        by_cases hij : i = j
        · subst hij
          rw [h5] at h2
          cases h2
          rw [h8] at t1; cases t1
        · rw [List.getElem?_set_ne hij] at h1
          exact n2 j e h1 h2
      · rename_i hc
        rw [if_neg hc]
        exact rr
/-! x.pop(e), x.pop() -/
theorem seq_ix {n : Nat} {k : Int} {j : Nat} (h : Fj.ixN n k = some j) : seqIndex? k n = some j := by
  unfold Fj.ixN at h
  unfold seqIndex?
  dsimp only
  by_cases h0 : 0 ≤ k
  · rw [if_pos h0] at h
    split at h
    · cases h
      have h1 : ¬ k < 0 := by omega
      simp only [h1, if_false]
      rw [if_pos (by simp; omega)]
    · cases h
  · rw [if_neg h0] at h
    split at h
    · cases h
      have h1 : k < 0 := by omega
      simp only [h1, if_true]
      rw [if_pos (by simp; omega)]
    · cases h
theorem rep_get {P : Hp} : ∀ {ds : List D} {vs : List V} {i : Nat} {d : D}, RepAll K T P ds vs → ds[i]? = some d → ∃ v, vs[i]? = some v ∧ Rep K T P d v
  | [], _, i, d, _, e => by simp at e
  | x :: ds, vs, i, d, h, e => by
    unfold RepAll at h
    obtain ⟨w, t, rfl, r1, r2⟩ := h
    cases i with
    | zero => simp at e; subst e; exact ⟨w, rfl, r1⟩
    | succ n => simpa using rep_get r2 (by simpa using e)
theorem rep_erase {P : Hp} : ∀ {ds : List D} {vs : List V} {i : Nat}, RepAll K T P ds vs → RepAll K T P (ds.eraseIdx i) (vs.eraseIdx i)
  | [], _, i, h => by unfold RepAll at h; subst h; exact RepAll.nil
  | x :: ds, vs, i, h => by
    unfold RepAll at h
    obtain ⟨w, t, rfl, r1, r2⟩ := h
    cases i with
    | zero => exact r2
    | succ n => exact RepAll.cons r1 (rep_erase r2)
def popX (gt : S → D) (up : S → D → S) (r : R (D × S)) : R (D × S) := r.bind fun t => (popAtR (gt t.2) t.1).bind fun p => .ok (p.1, up t.2 p.2)
theorem evx_pop {pa pp : Pos} {gt : S → D} {up : S → D → S} (hat : At mk i gt up) (hN : X.N[i]? = some x) (hv : Vis X.env.scope x) (hd : (x == ("__debug__" : Str)) = false) (hcd : (x == ("__classdict__" : Str)) = false)
    (he : EvX X T W .P ios mk s e ra) (hl : contD (gt s) = true → isList (gt s) = true) (hbm : PE X (.Call (.Attribute (.Name x px) "pop" pa) [e] [] pp) (tBM X.K "list" rPopAt (tVar i) (tCons (wpE X e) tNil))) :
    EvX X T W .P ios mk s (.Call (.Attribute (.Name x px) "pop" pa) [e] [] pp) (popX gt up ra) := fun z P H σ Q hz Z q => by
  refine wpE_of hbm ?_
  obtain ⟨u, h5, a', o', rfl, h7, h8, h9⟩ := cell_at Z.sim (hat.gt s)
  have hl0 := hl (Own.cont h9)
  cases hg : gt s with
  | lst xs0 =>
    rw [hg] at h9
    obtain ⟨vs0, rfl, _⟩ := h9
    refine ⟨_, h5, .inl ⟨rfl, _, .inl (.inl h8)⟩, ?_⟩
    refine evx_bind he (Same.refl _) hz Z q fun v s1 w P1 H1 e1 g1 Z1 r1 q1 => ?_
    obtain ⟨u, h5', a2, o2, rfl, h7', h8', h9'⟩ := cell_at Z1.sim (hat.gt s1)
    rw [h5] at h5'
    cases h5'
    have q1 : PostX X.K T W .P mk z P σ ((popAtR (gt s1) v).bind fun p => .ok (p.1, up s1 p.2)) Q := q1
    cases hg1 : gt s1 with
    | lst xs =>
      rw [hg1] at q1 h9'
      obtain ⟨vs, rfl, h10⟩ := h9'
      cases v with
      | int n =>
        unfold popAtR at q1
        dsimp only at q1
        split at q1
        case isFalse => exact q1.elim
        case isTrue hb =>
        unfold big62 at hb
        simp only [Bool.and_eq_true, decide_eq_true_eq] at hb
        cases hix : Fj.ixN xs.length n with
        | none => rw [hix] at q1; exact q1.elim
        | some j =>
          rw [hix] at q1
          simp only [ofO_some, R.ok_bind] at q1
          cases hxj : xs[j]? with
          | none => rw [hxj] at q1; exact q1.elim
          | some y =>
            rw [hxj] at q1
            have q1 : ∀ w P' H', Same P P' → SimZ X.K T z P' H' σ (mk (up s1 (.lst (xs.eraseIdx j)))) → RepX X.K T .P z (mk (up s1 (.lst (xs.eraseIdx j)))) σ P' H' y w → Q w H' := q1
            rw [hat.up] at q1
            obtain ⟨w', hw1, hw2⟩ := rep_get h10 hxj
            have r1 : w = .int n := by unfold RepX Rep at r1; exact r1
            have hA : -2 ^ 63 ≤ n := Int.le_trans (by decide) hb.1
            have hB : n < 2 ^ 63 := Int.lt_of_lt_of_le hb.2 (by decide)
            have hC : seqIndex? n vs.length = some j := by rw [h10.length]; exact seq_ix hix
            refine ⟨_, vs, n, j, w', rfl, by rw [r1], h8', hA, hB, hC, hw1, ?_⟩
            refine q1 w' P1 _ g1 (Z1.change (d := gt s1) (d' := .lst (xs.eraseIdx j)) (hat.gt s1) h5 ⟨_, rfl, rep_erase h10⟩) hw2
      | _ => exact q1.elim
    | _ => rw [hg1] at q1; cases v <;> exact q1.elim
  | _ => rw [hg] at hl0; cases hl0
/-! ### statements -/
def two {α : Type} (f : D → D → R α) : List D → R α
  | [u, v] => f u v
  | _ => .bad
variable {S' B : Type} {mkN : S' → List C} {mkB : B → List C} {rest body thn els : List Stmt}
theorem repSl_two {P : Hp} {σ : L2.St} {ds : List D} {ws : List V} (h : RepSl K T P σ [none, none] ds ws) : ∃ v v2 w w2, ds = [v, v2] ∧ ws = [w, w2] ∧ Rep K T P v w ∧ Rep K T P v2 w2 := by
  unfold RepSl at h
  obtain ⟨v, dr, w, wr, rfl, rfl, r1, h⟩ := h
  unfold RepSl at h
  obtain ⟨v2, dr, w2, wr, rfl, rfl, r2, h⟩ := h
  unfold RepSl at h
  obtain ⟨rfl, rfl⟩ := h
  exact ⟨v, v2, w, w2, rfl, rfl, r1, r2⟩
theorem ssx_bind {z : Zn} {P H : Hp} {σ : L2.St} {D1 : Ends} {F : D × S → R (Fl S' B)} {Q1 : VK} (ha : EvX X T W m ios mk s a ra) (hz : z.io.map (·.1) = ios) (Z : SimZ X.K T z P H σ (mk s)) (h : PostS X.K T W fr mkN mkB z (ra.bind F) D1)
    (kk : ∀ v s' w P1 H1, Same P P1 → SimZ X.K T z P1 H1 σ (mk s') → RepX X.K T m z (mk s') σ P1 H1 v w → PostS X.K T W fr mkN mkB z (F (v, s')) D1 → Q1 w H1) : wpE X a σ H Q1 := by
  refine ha z P H σ Q1 hz Z ?_
  cases ra with
  | ok v => exact fun w P' H' hp Z' r => kk v.1 v.2 w P' H' hp Z' r h
  | ex x => exact fun cls dd H' h1 h2 => h cls dd σ H' h1 h2
  | bad => exact h
theorem ssx_bindT {z : Zn} {P H : Hp} {σ : L2.St} {D1 : Ends} {F : Bool × S → R (Fl S' B)} {Q1 : Bool → Hp → Prop} (ha : EvXT X T W ios mk s a rt) (hz : z.io.map (·.1) = ios) (Z : SimZ X.K T z P H σ (mk s)) (h : PostS X.K T W fr mkN mkB z (rt.bind F) D1)
    (kk : ∀ v s' P1 H1, Same P P1 → SimZ X.K T z P1 H1 σ (mk s') → PostS X.K T W fr mkN mkB z (F (v, s')) D1 → Q1 v H1) : wpT X a σ H Q1 := by
  refine ha z P H σ Q1 hz Z ?_
  cases rt with
  | ok v => exact fun P' H' hp Z' => kk v.1 v.2 P' H' hp Z' h
  | ex x => exact fun cls dd H' h1 h2 => h cls dd σ H' h1 h2
  | bad => exact h
theorem ssx_bindA {sl : List (Option Nat)} {rl : R (List D × S)} {z : Zn} {P H : Hp} {σ : L2.St} {D1 : Ends} {F : List D × S → R (Fl S' B)} {Q1 : List V → Hp → Prop} (ha : EvXA X T W ios mk s sl es rl) (hz : z.io.map (·.1) = ios) (Z : SimZ X.K T z P H σ (mk s)) (h : PostS X.K T W fr mkN mkB z (rl.bind F) D1)
    (kk : ∀ v s' w P1 H1, Same P P1 → SimZ X.K T z P1 H1 σ (mk s') → RepSl X.K T P1 σ sl v w → PostS X.K T W fr mkN mkB z (F (v, s')) D1 → Q1 w H1) : wpA X es σ H Q1 := by
  refine ha z P H σ Q1 hz Z ?_
  cases rl with
  | ok v => exact fun w P' H' hp Z' r => kk v.1 v.2 w P' H' hp Z' r h
  | ex x => exact fun cls dd H' h1 h2 => h cls dd σ H' h1 h2
  | bad => exact h
def bindX {β : Type} (r : R (D × S)) (F : D → S → R β) : R β := r.bind fun p => F p.1 p.2
def stX {β : Type} (r : R (D × S)) (F : S → R β) : R β := r.bind fun p => F p.2
def retX (r : R (D × S)) (os : S → List D) : R (Fl S' B) := r.bind fun p => .ok (.rt p.1 (os p.2))
def parX {β : Type} (r : R (List D × S)) (F : D → D → S → R β) : R β := r.bind fun p => two (fun u v => F u v p.2) p.1
def unX {β : Type} (r : R (D × S)) (F : D → D → S → R β) : R β := r.bind fun p => un2 (fun a b => F a b p.2) p.1
def appX {β : Type} (gt : S → D) (s : S) (r : R (D × S)) (F : D → S → R β) : R β := if isList (gt s) = true then r.bind fun p => (appendR (gt p.2) p.1).bind fun d => F d p.2 else .bad
theorem ss_asgX {pos' : Pos} {F : D → S → R (Fl S' B)} (g : Gd X k) (hi : Sl X ios i x) (hs : swapsWith e (some (.Name x pos')) pos.line X.env = pure false)
    (he : EvX X T W .P ios mk s e ra) (hr : ∀ v s, Ss X T W fr ios mkN mkB ((mk s).set i (.val v)) rest (F v s)) : Ss X T W fr ios mkN mkB (mk s) (.Assign [.Name x pos'] e pos :: rest) (bindX ra F) := fun z P H σ D1 hz Z h => by
  refine wpSs_of (pss_cons (ps_set g.nd hi.nm hi.lo pw hs hi.fn) ssw) ?_
  refine ssx_bind he hz Z h fun v s1 w P1 H1 e1 Z1 r1 q1 => ?_
  exact hr v s1 z P1 H1 _ D1 hz (Z1.set (io_ne hz hi.io) r1) q1
def ownX (r : R (D × S)) (F : D → S → R (Fl S' B)) : R (Fl S' B) := r.bind fun p => if contD p.1 = true then F p.1 p.2 else .bad
theorem ss_ownX {pos' : Pos} {F : D → S → R (Fl S' B)} (g : Gd X k) (hi : Sl X ios i x) (hs : swapsWith e (some (.Name x pos')) pos.line X.env = pure false)
    (he : EvX X T W .F ios mk s e ra) (hr : ∀ v s, Ss X T W fr ios mkN mkB ((mk s).set i (.own v)) rest (F v s)) : Ss X T W fr ios mkN mkB (mk s) (.Assign [.Name x pos'] e pos :: rest) (ownX ra F) := fun z P H σ D1 hz Z h => by
  refine wpSs_of (pss_cons (ps_set g.nd hi.nm hi.lo pw hs hi.fn) ssw) ?_
  refine ssx_bind he hz Z h fun v s1 w P1 H1 e1 Z1 r1 q1 => ?_
  have q1 : PostS X.K T W fr mkN mkB z (if contD v = true then F v s1 else .bad) D1 := q1
  split at q1
  · rename_i hc
    unfold RepX at r1
    dsimp only at r1
    rw [if_pos hc] at r1
    obtain ⟨b, o, rfl, n1, n2, n3, n4, n5⟩ := r1
    exact hr v s1 z P1 H1 _ D1 hz (Z1.setOwn (io_ne hz hi.io) n2 n3 n4 n1 fun j e hj h1 => n5 j e h1) q1
  · exact q1.elim
theorem ss_exprX {F : S → R (Fl S' B)} (hs : swapsWith e none pos.line X.env = pure false) (he : EvX X T W m ios mk s e ra) (hr : ∀ s, Ss X T W fr ios mkN mkB (mk s) rest (F s)) : Ss X T W fr ios mkN mkB (mk s) (.Expr e pos :: rest) (stX ra F) := fun z P H σ D1 hz Z h => by
  refine wpSs_of (pss_cons (ps_expr pw hs) ssw) ?_
  exact ssx_bind he hz Z h fun v s1 w P1 H1 e1 Z1 r1 q1 => hr s1 z P1 H1 _ D1 hz Z1 q1
theorem ss_retX {os : S → List D} (ho : ∀ s, outsOf (mk s) ios = some (os s)) (he : EvX X T W (md fr) ios mk s e ra) : Ss X T W fr ios mkN mkB (mk s) (.Return (some e) pos :: rest) (retX ra os) := fun z P H σ D1 hz Z h => by
  refine wpSs_of (pss_cons (ps_ret pw) (ssw (st := rest))) ?_
  refine ssx_bind he hz Z h fun v s1 w P1 H1 e1 Z1 r1 q1 => ?_
  refine q1 P1 H1 w ⟨Z1.sim.sub, Z1.frame, Z1.pp, Z1.nw, ?_, outs_of Z1 (fun p hp => hp) (by rw [hz]; exact ho s1)⟩
  cases fr with
  | false => exact r1
  | true =>
    have r1 : RepX X.K T .F z (mk s1) σ P1 H1 v w := r1
    show RepM X.K T .F z.H0 P1 H1 v w
    unfold RepX at r1
    unfold RepM
    dsimp only at r1 ⊢
    split at r1
    · rename_i hc
      rw [if_pos hc]
      obtain ⟨b, o, rfl, n1, n2, n3, n4, n5⟩ := r1
      exact ⟨b, o, rfl, n1, n2, n3, n4⟩
    · rename_i hc
      rw [if_neg hc]
      exact r1
def ifX {α : Type} (r : R (Bool × S)) (a b : S → R α) : R α := r.bind fun p => if p.1 = true then a p.2 else b p.2
theorem ss_ifX {S2 : Type} {mk2 : S2 → List C} {fa fb : S → R (Fl S2 B)} {kk : S2 → R (Fl S' B)} (hc : EvXT X T W ios mk s c rt) (ha : ∀ s, Ss X T W fr ios mk2 mkB (mk s) thn (fa s)) (hb : ∀ s, Ss X T W fr ios mk2 mkB (mk s) els (fb s)) (hr : ∀ s, Ss X T W fr ios mkN mkB (mk2 s) rest (kk s)) :
    Ss X T W fr ios mkN mkB (mk s) (.If c thn els pos :: rest) (seqR (ifX rt fa fb) kk) := fun z P H σ D1 hz Z h => by
  refine wpSs_of (pss_cons (ps_if tw ssw ssw) ssw) ?_
  have h2 : PostS X.K T W fr mk2 mkB z (ifX rt fa fb) ⟨wpSs X rest D1, D1.rt, D1.bk, D1.ct⟩ := post_seq hz hr h
  refine ssx_bindT hc hz Z h2 fun v s1 P1 H1 e1 Z1 q1 => ?_
  cases v with
  | true => exact ha s1 z P1 H1 σ _ hz Z1 q1
  | false => exact hb s1 z P1 H1 σ _ hz Z1 q1
theorem ss_ifEX {mk2 : Empty → List C} {fa : S → R (Fl Empty B)} {fr' : S → R (Fl S' B)} (hc : EvXT X T W ios mk s c rt) (ha : ∀ s, Ss X T W fr ios mk2 mkB (mk s) thn (fa s)) (hr : ∀ s, Ss X T W fr ios mkN mkB (mk s) rest (fr' s)) :
    Ss X T W fr ios mkN mkB (mk s) (.If c thn [] pos :: rest) (ifX rt (fun s => endR (fa s)) fr') := fun z P H σ D1 hz Z h => by
  refine wpSs_of (pss_cons (ps_if tw ssw pss_nil) ssw) ?_
  refine ssx_bindT hc hz Z h fun v s1 P1 H1 e1 Z1 q1 => ?_
  cases v with
  | true => exact ha s1 z P1 H1 σ _ hz Z1 (post_end q1)
  | false => exact hr s1 z P1 H1 σ _ hz Z1 q1
/-- x, y = a, b -/
theorem ss_parX {px py pt pt2 : Pos} {kt k2 : Nat} {rl : R (List D × S)} {F : D → D → S → R (Fl S' B)} (g : Gd X k) (hi : Sl X ios i x) (hj : Sl X ios j y) (hij : i ≠ j) (hx : X.env.scope.names.lookup x = some .local) (hy : X.env.scope.names.lookup y = some .local) (ha : EvXA X T W ios mk s [none, none] [a, b] rl)
    (hsw : swappedStores [.Tuple [.Name x px, .Name y py] kt pt] (.Tuple [a, b] k2 pt2) X.env = pure (some [x, y])) (hs : swapsWithSole [.Tuple [.Name x px, .Name y py] kt pt] (.Tuple [a, b] k2 pt2) pos.line X.env = pure false)
    (hr : ∀ a b s, Ss X T W fr ios mkN mkB (((mk s).set i (.val a)).set j (.val b)) rest (F a b s)) : Ss X T W fr ios mkN mkB (mk s) (.Assign [.Tuple [.Name x px, .Name y py] kt pt] (.Tuple [a, b] k2 pt2) pos :: rest) (parX rl F) := fun z P H σ D1 hz Z h => by
  refine wpSs_of (pss_cons (ps_par g.calm g.nd hi.nm hj.nm hij hx hy aw hsw hs) ssw) ?_
  show wpA X [a, b] σ H _
  refine ssx_bindA ha hz Z h fun vs s1 ws P1 H1 e1 Z1 rs q1 => ?_
  obtain ⟨v, v2, w, w2, rfl, rfl, r1, r2⟩ := repSl_two rs
  exact ⟨w, w2, rfl, hr v v2 s1 z P1 H1 _ D1 hz ((Z1.set (io_ne hz hi.io) r1).set (io_ne hz hj.io) r2) q1⟩
/-- x, y = e -/
theorem ss_un2X {px py pt : Pos} {kt : Nat} {F : D → D → S → R (Fl S' B)} (g : Gd X k) (hi : Sl X ios i x) (hj : Sl X ios j y) (he : EvX X T W .P ios mk s e ra) (hs : swapsWithSole [.Tuple [.Name x px, .Name y py] kt pt] e pos.line X.env = pure false) (hs2 : swappedStores [.Tuple [.Name x px, .Name y py] kt pt] e X.env = pure none)
    (hr : ∀ a b s, Ss X T W fr ios mkN mkB (((mk s).set i (.val a)).set j (.val b)) rest (F a b s)) : Ss X T W fr ios mkN mkB (mk s) (.Assign [.Tuple [.Name x px, .Name y py] kt pt] e pos :: rest) (unX ra F) := fun z P H σ D1 hz Z h => by
  refine wpSs_of (pss_cons (ps_asg pw (pg_tup g.calm (pgs_cons (pg_name g.nd hi.nm hi.lo hi.fn) (pgs_cons (pg_name g.nd hj.nm hj.lo hj.fn) pgs_nil rfl) rfl) (n := 2) rfl rfl) hs hs2) ssw) ?_
  refine ssx_bind he hz Z h fun v s1 w P1 H1 e1 Z1 r1 q1 => ?_
  obtain ⟨a, b, rfl, q⟩ := post_un2 q1
  obtain ⟨t, u, w, rfl, h3, h4, h5⟩ := rep2 r1
  exact ⟨t, _, rfl, .inl (.inl (Z1.sim.sub _ _ h3)), rfl, _, _, rfl, _, _, rfl, rfl, hr a b s1 z P1 H1 _ D1 hz ((Z1.set (io_ne hz hi.io) h4).set (io_ne hz hj.io) h5) q⟩
/-- x.append(e) -/
theorem ss_appendX {pa pp : Pos} {gt : S → D} {F : D → S → R (Fl S' B)} (hi : ∀ s, (mk s)[i]? = some (.own (gt s))) (hN : X.N[i]? = some x) (hv : Vis X.env.scope x) (hd : (x == ("__debug__" : Str)) = false) (hcd : (x == ("__classdict__" : Str)) = false)
    (hs : swapsWith (.Call (.Attribute (.Name x px) "append" pa) [e] [] pp) none pos.line X.env = pure false) (he : EvX X T W .P ios mk s e ra)
    (hbm : PE X (.Call (.Attribute (.Name x px) "append" pa) [e] [] pp) (tBM X.K "list" rAppend (tVar i) (tCons (wpE X e) tNil))) (hr : ∀ v s, Ss X T W fr ios mkN mkB ((mk s).set i (.own v)) rest (F v s)) :
    Ss X T W fr ios mkN mkB (mk s) (.Expr (.Call (.Attribute (.Name x px) "append" pa) [e] [] pp) pos :: rest) (appX gt s ra F) := fun z P H σ D1 hz Z h => by
  unfold appX at h
  refine wpSs_of (pss_cons (ps_expr hbm hs) ssw) ?_
  obtain ⟨u, h5, a', o', rfl, h7, h8, h9⟩ := cell_at Z.sim (hi s)
  split at h
  case isFalse => exact h.elim
  case isTrue hl =>
  cases hg : gt s with
  | lst xs0 =>
    rw [hg] at h9
    obtain ⟨vs0, rfl, _⟩ := h9
    refine ⟨_, h5, .inl ⟨rfl, _, .inl (.inl h8)⟩, ?_⟩
    refine ssx_bind he hz Z h fun v s1 w P1 H1 e1 Z1 r1 q1 => ?_
    obtain ⟨u, h5', a2, o2, rfl, h7', h8', h9'⟩ := cell_at Z1.sim (hi s1)
    rw [h5] at h5'
    cases h5'
    have q1 : PostS X.K T W fr mkN mkB z ((appendR (gt s1) v).bind fun d => F d s1) D1 := q1
    cases hg1 : gt s1 with
    | lst xs =>
      rw [hg1] at q1 h9'
      obtain ⟨vs, rfl, h10⟩ := h9'
      have q2 : PostS X.K T W fr mkN mkB z ((if xs.length < most then .ok (.lst (xs ++ [v])) else .bad : R D).bind fun d => F d s1) D1 := q1
      split at q2
      · rename_i hl
        refine ⟨_, vs, w, rfl, rfl, h8', by rw [h10.length]; exact most_lt (by omega), ?_⟩
        exact hr _ s1 z P1 _ _ D1 hz (Z1.change (d := gt s1) (d' := .lst (xs ++ [v])) (hi s1) h5 ⟨vs ++ [w], rfl, h10.append (RepAll.cons r1 RepAll.nil)⟩) q2
      · exact q2.elim
    | _ => rw [hg1] at q1; exact q1.elim
  | _ => rw [hg] at hl; cases hl
def insX {β : Type} (gt : S → D) (s : S) (r : R (List D × S)) (ins : D → D → D → R D) (F : D → S → R β) : R β := if isList (gt s) = true then r.bind fun p => two (fun u v => (ins (gt p.2) u v).bind fun d => F d p.2) p.1 else .bad
def insertR (d i v : D) : R D := match d, i with
  | .lst xs, .int k => if 0 ≤ k ∧ big62 k = true ∧ xs.length < most then .ok (.lst (xs.take k.toNat ++ [v] ++ xs.drop k.toNat)) else .bad
  | _, _ => .bad
theorem rep_take {P : Hp} : ∀ {n : Nat} {ds : List D} {vs : List V}, RepAll K T P ds vs → RepAll K T P (ds.take n) (vs.take n) ∧ RepAll K T P (ds.drop n) (vs.drop n)
  | 0, ds, vs, h => ⟨by simpa using RepAll.nil, by simpa using h⟩
  | n + 1, [], vs, h => by unfold RepAll at h; subst h; exact ⟨by simpa using RepAll.nil, by simpa using RepAll.nil⟩
  | n + 1, x :: ds, vs, h => by
    unfold RepAll at h
    obtain ⟨w, t, rfl, r1, r2⟩ := h
    obtain ⟨g1, g2⟩ := rep_take (n := n) r2
    exact ⟨RepAll.cons r1 g1, g2⟩
/-- x.insert(a, b) -/
theorem ss_insertX {pa pp : Pos} {gt : S → D} {rl : R (List D × S)} {F : D → S → R (Fl S' B)} (hi : ∀ s, (mk s)[i]? = some (.own (gt s)))
    (hs : swapsWith (.Call (.Attribute (.Name x px) "insert" pa) [a, b] [] pp) none pos.line X.env = pure false) (he : EvXA X T W ios mk s [none, none] [a, b] rl)
    (hbm : PE X (.Call (.Attribute (.Name x px) "insert" pa) [a, b] [] pp) (tBM X.K "list" (fun x vs H Q => ∃ l xs i y, x = V.ref l ∧ vs = [V.int i, y] ∧ H l = some (HO.lst xs) ∧ xs.length < sizeLine ∧ 0 ≤ i ∧ i < 2 ^ 63 ∧ Q V.non (upd H l (HO.lst (List.take i.toNat xs ++ [y] ++ List.drop i.toNat xs)))) (tVar i) (wpA X [a, b]))) (hr : ∀ v s, Ss X T W fr ios mkN mkB ((mk s).set i (.own v)) rest (F v s)) :
    Ss X T W fr ios mkN mkB (mk s) (.Expr (.Call (.Attribute (.Name x px) "insert" pa) [a, b] [] pp) pos :: rest) (insX gt s rl insertR F) := fun z P H σ D1 hz Z h => by
  unfold insX at h
  refine wpSs_of (pss_cons (ps_expr hbm hs) ssw) ?_
  obtain ⟨u, h5, a', o', rfl, h7, h8, h9⟩ := cell_at Z.sim (hi s)
  split at h
  case isFalse => exact h.elim
  case isTrue hl =>
  cases hg : gt s with
  | lst xs0 =>
    rw [hg] at h9
    obtain ⟨vs0, rfl, _⟩ := h9
    refine ⟨_, h5, .inl ⟨rfl, _, .inl (.inl h8)⟩, ?_⟩
    refine ssx_bindA he hz Z h fun vs s1 ws P1 H1 e1 Z1 rs q1 => ?_
    obtain ⟨v, v2, w, w2, rfl, rfl, r1, r2⟩ := repSl_two rs
    obtain ⟨u, h5', a2, o2, rfl, h7', h8', h9'⟩ := cell_at Z1.sim (hi s1)
    rw [h5] at h5'
    cases h5'
    have q1 : PostS X.K T W fr mkN mkB z ((insertR (gt s1) v v2).bind fun d => F d s1) D1 := q1
    cases hg1 : gt s1 with
    | lst xs =>
      rw [hg1] at q1 h9'
      obtain ⟨vs, rfl, h10⟩ := h9'
      cases v with
      | int n =>
        unfold insertR at q1
        dsimp only at q1
        split at q1
        case isFalse => exact q1.elim
        case isTrue hb =>
        obtain ⟨hb1, hb2, hb3⟩ := hb
        unfold big62 at hb2
        simp only [Bool.and_eq_true, decide_eq_true_eq] at hb2
        unfold Rep at r1
        subst r1
        obtain ⟨t1, t2⟩ := rep_take (n := n.toNat) h10
        have hB : n < 2 ^ 63 := Int.lt_of_lt_of_le hb2.2 (by decide)
        have hC : vs.length < sizeLine := by rw [h10.length]; exact most_lt (by omega)
        refine ⟨_, vs, n, w2, rfl, rfl, h8', hC, hb1, hB, ?_⟩
        exact hr _ s1 z P1 _ _ D1 hz (Z1.change (d := gt s1) (d' := .lst (xs.take n.toNat ++ [v2] ++ xs.drop n.toNat)) (hi s1) h5 ⟨_, rfl, (t1.append (RepAll.cons r2 RepAll.nil)).append t2⟩) q1
      | _ => exact q1.elim
    | _ => rw [hg1] at q1; cases v <;> exact q1.elim
  | _ => rw [hg] at hl; cases hl
end
end Fj

/-! ## Lay16 -/
namespace Fj
open PySem PySem.Spec PyProof.Rows L2
section
variable {K : PySem.W.Frag} {X : Cx} {T : Tb} {W : WX} {k : Nat} {ρ : List C} {a b c e ei tg iter elt : Expr} {es : List Expr} {da db di : R D} {ca cb : R Bool} {pos p p2 p3 px q q2 : Pos} {m : Md} {x y : Str} {fr : Bool} {i j : Nat}
/-! ### sorted(set(..)) of tuples of whole numbers -/
theorem code_lex {B : Int} : ∀ {r q : List Int}, r.length = q.length → TS.Bd B r → TS.Bd B q → (lexLt r q = true ↔ TS.code B r < TS.code B q)
  | [], [], _, _, _ => by simp [lexLt]
  | [], _ :: _, h, _, _ => by simp at h
  | _ :: _, [], h, _, _ => by simp at h
  | x :: r, y :: q, h, h1, h2 => by
    have hl : r.length = q.length := by simpa using h
    unfold lexLt
    by_cases e : x = y
    · subst e
      rw [if_pos rfl, TS.code_same hl]
      exact code_lex hl h1.tail h2.tail
    · rw [if_neg e]
      by_cases g : x < y
      · simp only [g, decide_true, true_iff]
        exact TS.code_lt hl h1.tail h2.tail g
      · simp only [g, decide_false, Bool.false_eq_true, false_iff, Int.not_lt]
        exact Int.le_of_lt (TS.code_lt hl.symm h2.tail h1.tail (by omega))
theorem ints_rep {P : Hp} : ∀ {xs : List D} {a : List Int} {us : List V}, intsD xs = some a → RepAll K T P xs us → us = a.map V.int
  | [], a, us, h, g => by unfold RepAll at g; subst g; simp [intsD] at h; subst h; rfl
  | x :: xs, a, us, h1, g2 => by
    unfold RepAll at g2
    obtain ⟨w, t, rfl, r1, r2⟩ := g2
    cases x with
    | int n =>
      unfold intsD at h1
      cases h3 : intsD xs with
      | none => rw [h3] at h1; cases h1
      | some l =>
        rw [h3] at h1
        cases h1
        unfold Rep at r1
        subst r1
        rw [ints_rep h3 r2]
        rfl
    | _ => cases h1
theorem tupsI_rep {P : Hp} : ∀ {ds : List D} {ks : List (List Int)} {vs : List V}, tupsI ds = some ks → RepAll K T P ds vs → ∃ ps : List (Addr × List Int), vs = ps.map (fun p => V.ref p.1) ∧ ps.map (·.2) = ks ∧ ∀ p ∈ ps, P p.1 = some (.tup (p.2.map V.int))
  | [], ks, vs, h, r => by
    unfold RepAll at r
    subst r
    simp [tupsI] at h
    subst h
    exact ⟨[], rfl, rfl, fun p h => nomatch h⟩
  | d :: ds, ks, vs, h, r => by
    unfold RepAll at r
    obtain ⟨w, t, rfl, r1, r2⟩ := r
    unfold tupsI at h
    cases h1 : tupI d with
    | none => rw [h1] at h; cases h
    | some a =>
      rw [h1] at h
      cases h2 : tupsI ds with
      | none => rw [h2] at h; cases h
      | some as =>
        rw [h2] at h
        cases h
        obtain ⟨ps, rfl, e2, e3⟩ := tupsI_rep h2 r2
        unfold tupI at h1
        split at h1
        · rename_i xs
          obtain ⟨b, us, rfl, g1, g2⟩ := rep_tup.mp r1
          have : us = a.map V.int := ints_rep h1 g2
          subst this
          exact ⟨(b, a) :: ps, rfl, by simp [e2], fun p hp => by
            rcases List.mem_cons.mp hp with rfl | hp
            · exact g1
            · exact e3 p hp⟩
        · cases h1
theorem intsD_map (a : List Int) : intsD (a.map .int) = some a := by
  induction a with
  | nil => rfl
  | cons x a ih => simp [intsD, ih]
theorem rep_ints {P : Hp} (l : List Int) : RepAll K T P (l.map D.int) (l.map V.int) := by
  induction l with
  | nil => exact RepAll.nil
  | cons x l ih => exact RepAll.cons (by unfold Rep; rfl) ih
theorem big_bound (ks : List (List Int)) (h : ∀ a ∈ ks, ∀ i ∈ a, 0 ≤ i) : ∃ B : Int, ∀ a ∈ ks, TS.Bd B a := by
  have one : ∀ a : List Int, ∃ B : Int, ∀ i ∈ a, i < B := by
    intro a
    induction a with
    | nil => exact ⟨0, fun i h => nomatch h⟩
    | cons x a ih =>
      obtain ⟨B, hB⟩ := ih
      refine ⟨max B (x + 1), fun i hi => ?_⟩
      rcases List.mem_cons.mp hi with rfl | hi
      · omega
      · have := hB i hi; omega
  have all : ∃ B : Int, ∀ a ∈ ks, ∀ i ∈ a, i < B := by
    clear h
    induction ks with
    | nil => exact ⟨0, fun a h => nomatch h⟩
    | cons a ks ih =>
      obtain ⟨B, hB⟩ := ih
      obtain ⟨B', hB'⟩ := one a
      refine ⟨max B B', fun c hc i hi => ?_⟩
      rcases List.mem_cons.mp hc with rfl | hc
      · have := hB' i hi; omega
      · have := hB c hc i hi; omega
  obtain ⟨B, hB⟩ := all
  exact ⟨B, fun a ha i hi => ⟨h a ha i hi, hB a ha i hi⟩⟩
theorem ev_sortSet (g : Gd X k) (hg : Gl X "sorted") (hg2 : Gl X "set") (ha : Ev X T W .P ρ a da) (hs : starEach [a] X.env = (false, eval a X.env) :: starEach [] X.env)
    (hs2 : starEach [.Call (.Name "set" p2) [a] [] q2] X.env = (false, eval (.Call (.Name "set" p2) [a] [] q2) X.env) :: starEach [] X.env) :
    Ev X T W .F ρ (.Call (.Name "sorted" p) [.Call (.Name "set" p2) [a] [] q2] [] pos) (da.bind sortSetR) := fun P H σ Q S qq => by
  have hu : X.A.units + 64 < cLine := by have := g.room.un; omega
  refine wpE_of (pe_callB (cr_sortedT g.calm) hg g.bi.sorted (by decide +kernel) (pa_cons (pe_callTy (cr_setOfT g.calm hu) hg2 g.bi.set (by decide +kernel) (pa_cons pw pa_nil hs) (by decide +kernel) (by decide +kernel) hs rfl) pa_nil hs2) (by decide +kernel) (by decide +kernel) hs2 rfl) ?_
  refine ev_bind ha S qq fun v w P1 H1 e1 S1 r1 q1 => ?_
  cases v with
  | lst xs =>
    have r1 : Rep X.K T P1 (.lst xs) w := r1
    unfold Rep at r1
    obtain ⟨l, vs, rfl, h1, h2⟩ := r1
    unfold sortSetR at q1
    dsimp only at q1
    cases hk : tupsI xs with
    | none => rw [hk] at q1; exact q1.elim
    | some ks =>
      rw [hk] at q1
      simp only [ofO_some, R.ok_bind] at q1
      split at q1
      case isFalse => exact q1.elim
      case isTrue hok =>
      simp only [Bool.and_eq_true, decide_eq_true_eq, List.all_eq_true] at hok
      obtain ⟨⟨hlen, hall⟩, hd⟩ := hok
      obtain ⟨ps, rfl, e2, e3⟩ := tupsI_rep hk h2
      obtain ⟨B, hB⟩ := big_bound ks fun a ha i hi => (hall a ha).2 i hi
      have hmem : ∀ p ∈ ps, p.2 ∈ ks := fun p hp => by rw [← e2]; exact List.mem_map_of_mem hp
      refine ⟨l, ps, rfl, SqL.of (e1.ph _ _ h1), fun p hp => .inl (.inl (e1.ph _ _ (e3 p hp))), by rw [← e2] at hlen; simpa using hlen, fun s L hs0 hL1 hL2 => ?_⟩
      refine ⟨s, L, (ks.headD [0]).length, B, rfl, upd_same, fun p hp => ?_, hd, fun p hp => ?_, fun L' t hperm hnd h64 hpw ht => ?_⟩
      · have := e3 p (hL1 p hp)
        refine .inl (.inl ?_)
        rw [upd_ne (fun e => by rw [e] at this; rw [e1.ph _ _ this] at hs0; cases hs0)]
        exact e1.ph _ _ this
      · have h4 := hmem p (hL1 p hp)
        exact ⟨(hall p.2 h4).1, hB p.2 h4⟩
      · have hmL : ∀ p, p ∈ L' ↔ p ∈ L := fun p => hperm.mem_iff
        have hsnd : ∀ a, a ∈ L'.map (·.2) ↔ a ∈ ks := fun a => by
          constructor
          · intro h
            obtain ⟨p, hp, rfl⟩ := List.mem_map.mp h
            exact hmem p (hL1 p ((hmL p).mp hp))
          · intro h
            rw [← e2] at h
            obtain ⟨p, hp, rfl⟩ := List.mem_map.mp h
            obtain ⟨p', hp', e⟩ := List.mem_map.mp (hL2 p hp)
            rw [← e]
            exact List.mem_map_of_mem ((hmL p').mpr hp')
        have hss : SS (L'.map (·.2)) := by
          have hq : (L'.map (·.2)).Pairwise fun q r => TS.code B q ≤ TS.code B r := List.pairwise_map.mpr hpw
          refine List.Pairwise.imp_of_mem (fun {q r} hq hr h => ?_) (List.Pairwise.and hq hnd)
          have hq' := (hsnd q).mp hq
          have hr' := (hsnd r).mp hr
          rcases lexLt_total q r with h' | h' | h'
          · exact h'
          · exact absurd h' h.2
          · have := (code_lex (by rw [(hall q hq').1, (hall r hr').1]) (hB r hr') (hB q hq')).mp h'
            omega
        have heq : L'.map (·.2) = setLex ks := ss_eq hss setLex_ss fun a => by rw [hsnd, mem_setLex]
        have q1 : ∀ w P' H', Ext P1 H1 P' H' → RepM X.K T .F H1 P' H' (.lst ((setLex ks).map fun k => .tup (k.map .int))) w → Q w H' := q1
        rw [← heq, List.map_map] at q1
        have hP1s : P1 s = none := by
          cases hh : P1 s with
          | none => rfl
          | some z => rw [e1.ph _ _ hh] at hs0; cases hs0
        have ht0 : H1 t = none := by
          by_cases e : t = s
          · subst e; exact hs0
          · rw [upd_ne e] at ht; exact ht
        have hP1t : P1 t = none := by
          cases hh : P1 t with
          | none => rfl
          | some z => rw [e1.ph _ _ hh] at ht0; cases ht0
        refine q1 _ P1 _ ⟨Same.refl _, fun b z h => ?_, fun b z h => ?_, fun _ _ h => h⟩ ?_
        · rw [upd_ne (fun e => by rw [e, ht0] at h; cases h), upd_ne (fun e => by rw [e, hs0] at h; cases h)]; exact h
        · rw [upd_ne (fun e => by rw [e, hP1t] at h; cases h), upd_ne (fun e => by rw [e, hP1s] at h; cases h)]; exact e1.ph _ _ h
        · show RepM X.K T .F H1 P1 _ (.lst _) (.ref t)
          unfold RepM
          dsimp only
          rw [if_pos (show cont (D.lst (List.map ((fun k => D.tup (List.map D.int k)) ∘ fun x => x.snd) L')) = true from rfl)]
          refine ⟨t, _, rfl, ht0, hP1t, upd_same, _, rfl, ?_⟩
          clear q1 heq hss hsnd hpw hnd h64
          have hin : ∀ p ∈ L', P1 p.1 = some (.tup (p.2.map V.int)) := fun p hp => e3 p (hL1 p ((hmL p).mp hp))
          clear hmL hperm
          induction L' with
          | nil => exact RepAll.nil
          | cons p L' ih =>
            exact RepAll.cons (rep_tup.mpr ⟨p.1, p.2.map V.int, rfl, hin p List.mem_cons_self, rep_ints p.2⟩) (ih fun p hp => hin p (List.mem_cons_of_mem _ hp))
  | _ => exact q1.elim
end
end Fj

/-! ## Lay17 -/
namespace Fj
open PySem PySem.Spec PyProof.Rows L2
section
variable {K : PySem.W.Frag} {X : Cx} {T : Tb} {W : WX} {k : Nat} {ρ : List C} {a b c e ei tg iter elt : Expr} {es : List Expr} {da db di : R D} {ca cb : R Bool} {pos p p2 p3 px : Pos} {m : Md} {x y : Str} {fr : Bool} {i j : Nat}
variable {S : Type} {mk : S → List C} {s : S} {ios : List Nat} {ra rb : R (D × S)} {rt : R (Bool × S)}
/-! ### comprehensions whose parts change own objects -/
/-- one more thing that must stand still -/
theorem SimZ.hold {z : Zn} {P H : Hp} {σ : L2.St} {A : Addr} {o : HO} (Z : SimZ K T z P H σ ρ) (hP : P A = none) (hH : H A = some o) (hn : ∀ (j : Nat) (e : D), ρ[j]? = some (C.own e) → σ[j]? ≠ some (some (.ref A))) (hz : z.H0 A = none) :
    SimZ K T ⟨P, upd z.H0 A o, z.io⟩ P H σ ρ := by
  refine ⟨Z.sim, fun b x h1 h2 => ?_, Same.refl _, fun _ _ h => h, fun j d b h1 h2 => ?_, Z.ios⟩
  · by_cases q : b = A
    · subst q
      have h1 : upd z.H0 b o b = some x := h1
      rw [upd_same] at h1; cases h1; exact hH
    · have h1 : upd z.H0 A o b = some x := h1
      rw [upd_ne q] at h1; exact Z.frame b x h1 h2
  · have hb : b ≠ A := fun q => hn j d h1 (by rw [h2, q])
    rcases Z.loc j d b h1 h2 with w | w
    · refine .inl ?_
      show upd z.H0 A o b = none
      rw [upd_ne hb]; exact w
    · exact .inr w
/-- the slots of the block laid aside -/
theorem SimZ.inBlock {z : Zn} {P H : Hp} {σ : L2.St} {w : V} {d : D} (Z : SimZ K T z P H σ ρ) (hi : ∀ p ∈ z.io, p.1 ≠ i) (r : Rep K T P d w) : SimZ K T z P H ((wipe σ [i]).set i (some w)) ((ρ.set i .un).set i (.val d)) := by
  show SimZ K T z P H ((σ.set i none).set i (some w)) ((ρ.set i .un).set i (.val d))
  rw [List.set_set, List.set_set]
  exact Z.set hi r
theorem SimZ.outBlock {z : Zn} {P H P2 H2 : Hp} {σ : L2.St} {w : Option V} {c : C} {rho2 : List C} (Z : SimZ K T z P H σ ρ) (Z2 : SimZ K T z P2 H2 ((σ.set i none).set i w) ((rho2.set i .un).set i c)) (hp : Same P P2) (hi : ∀ p ∈ z.io, p.1 ≠ i) (hc : rho2[i]? = ρ[i]?) (hno : ∀ d, ρ[i]? ≠ some (.own d)) : SimZ K T z P2 H2 σ rho2 := by
  rw [List.set_set, List.set_set] at Z2
  have hown : ∀ {j : Nat} {d : D}, rho2[j]? = some (.own d) → i ≠ j := fun {j d} h e => by subst e; rw [hc] at h; exact hno _ h
  refine ⟨⟨Z2.sim.sub, by simpa using Z2.sim.len, fun j c' v h1 h2 => ?_, fun j l d e a h1 h2 h3 h4 => ?_⟩, Z2.frame, Z2.pp, Z2.nw, fun j d a h1 h2 => ?_, fun p hp => ?_⟩
  · by_cases q : i = j
    · subst q
      rw [hc] at h1
      have := Z.sim.cell i c' v h1 h2
      cases c' with
      | un => trivial
      | val d => obtain ⟨w, rfl, h⟩ := this; exact ⟨w, rfl, Rep.mono hp _ _ h⟩
      | own d => exact absurd h1 (hno d)
    · exact Z2.sim.cell j c' v (by rw [List.getElem?_set_ne q]; exact h1) (by rw [List.getElem?_set_ne q]; exact h2)
  · have q1 := hown h1
    have q2 := hown h2
    exact Z2.sim.apart j l d e a (by rw [List.getElem?_set_ne q1]; exact h1) (by rw [List.getElem?_set_ne q2]; exact h2) (by rw [List.getElem?_set_ne q1]; exact h3) (by rw [List.getElem?_set_ne q2]; exact h4)
  · have q1 := hown h1
    exact Z2.loc j d a (by rw [List.getElem?_set_ne q1]; exact h1) (by rw [List.getElem?_set_ne q1]; exact h2)
  · have q := Ne.symm (hi p hp)
    obtain ⟨h1, d, h2⟩ := Z2.ios p hp
    rw [List.getElem?_set_ne q] at h1 h2
    exact ⟨h1, d, h2⟩
/-- a turn: its test, its element -/
def turnX (t : D → S → R (Bool × S)) (f : D → S → R (D × S)) (d : D) (s : S) : R (Option D × S) := (t d s).bind fun p => if p.1 = true then (f d p.2).bind fun q => .ok (some q.1, q.2) else .ok (none, p.2)
def compX (it : R (List D)) (f : D → S → R (Option D × S)) (s : S) : R (D × S) := it.bind fun xs => if xs.length ≤ most then (compS f xs s).bind fun q => .ok (.lst q.1, q.2) else .bad
def EvXB (X : Cx) (scope : Scope) (T : Tb) (ios : List Nat) (mk : S → List C) (s : S) (e : Expr) (r : R (D × S)) : Prop := ∀ s1 H C cl fp, EvX (X.blk s1 H scope (compEnvC scope cl C X.env) fp) T WF .P ios mk s e r
def EvXTB (X : Cx) (scope : Scope) (T : Tb) (ios : List Nat) (mk : S → List C) (s : S) (e : Expr) (r : R (Bool × S)) : Prop := ∀ s1 H C cl fp, EvXT (X.blk s1 H scope (compEnvC scope cl C X.env) fp) T WF ios mk s e r
abbrev blkC' (mk : S → List C) (i : Nat) (d : D) : S → List C := fun s => ((mk s).set i .un).set i (.val d)
structure FltX (X : Cx) (scope : Scope) (T : Tb) (ios : List Nat) (mk : D → S → List C) (ifs : List Expr) (tt : TT) (t : D → S → R (Bool × S)) : Prop where
  pt : ∀ s1 H C cl fp, PTs (X.blk s1 H scope (compEnvC scope cl C X.env) fp) ifs tt
  ev : ∀ d s z P H σ Q, z.io.map (·.1) = ios → SimZ X.K T z P H σ (mk d s) → PostXT X.K T WF (mk d) z P σ (t d s) Q → tt σ H Q
def consO (o : Option D) (ys : List D) : List D := match o with | some y => y :: ys | none => ys
theorem compS_cons {f : D → S → R (Option D × S)} {x : D} {xs : List D} {s : S} {r : List D × S} (h : compS f (x :: xs) s = .ok r) : ∃ o s1 ys, f x s = .ok (o, s1) ∧ compS f xs s1 = .ok (ys, r.2) ∧ r.1 = consO o ys := by
  unfold compS at h
  cases hf : f x s with
  | bad => rw [hf] at h; cases h
  | ex e => rw [hf] at h; cases h
  | ok p =>
    rw [hf] at h
    simp only [R.nox_ok, R.ok_bind] at h
    cases hc : compS f xs p.2 with
    | bad => rw [hc] at h; cases h
    | ex e => rw [hc] at h; cases h
    | ok q =>
      rw [hc] at h
      simp only [R.ok_bind] at h
      cases h
      exact ⟨p.1, p.2, q.1, rfl, hc, rfl⟩
theorem compS_ex {f : D → S → R (Option D × S)} {e : D} : ∀ {xs : List D} {s : S}, compS f xs s ≠ .ex e
  | [], s => by simp [compS]
  | x :: xs, s => by
    unfold compS
    cases hf : f x s with
    | bad => simp [R.nox, R.bind]
    | ex e => simp [R.nox, R.bind]
    | ok p =>
      simp only [R.nox_ok, R.ok_bind]
      cases hc : compS f xs p.2 with
      | bad => simp
      | ex e2 => exact absurd hc compS_ex
      | ok q => simp
theorem turn_ok {t : D → S → R (Bool × S)} {f : D → S → R (D × S)} {d : D} {s s1 : S} {o : Option D} (h : turnX t f d s = .ok (o, s1)) : (∃ s2 y, t d s = .ok (true, s2) ∧ f d s2 = .ok (y, s1) ∧ o = some y) ∨ (t d s = .ok (false, s1) ∧ o = none) := by
  unfold turnX at h
  cases ht : t d s with
  | bad => rw [ht] at h; cases h
  | ex e => rw [ht] at h; cases h
  | ok p =>
    rw [ht] at h
    obtain ⟨b, s2⟩ := p
    cases b with
    | false => cases h; exact .inr ⟨rfl, rfl⟩
    | true =>
      simp only [R.ok_bind, if_true] at h
      cases hf : f d s2 with
      | bad => rw [hf] at h; cases h
      | ex e => rw [hf] at h; cases h
      | ok q =>
        rw [hf] at h
        obtain ⟨y, s3⟩ := q
        cases h
        exact .inl ⟨s2, y, rfl, hf, rfl⟩
theorem compX_core {it : R (List D)} {scope : Scope} {ifs : List Expr} {tt : TT} {t : D → S → R (Bool × S)} {f : D → S → R (D × S)} (gd : Gd X k) (hi : Bn X scope i x) (hio : ios.contains i = false)
    (hci : ∀ s s', (mk s)[i]? = (mk s')[i]?) (hno : ∀ s d, (mk s)[i]? ≠ some (.own d)) (hit : EvI X T W (mk s) (.Name x px) iter it)
    (hF : FltX X scope T ios (blkC' mk i) ifs tt t) (he : ∀ d s, EvXB X scope T ios (blkC' mk i d) s elt (f d s))
    {z : Zn} {P H : Hp} {σ : L2.St} {Q : VK} (hz : z.io.map (·.1) = ios) (Z : SimZ X.K T z P H σ (mk s)) (q : PostX X.K T W .F mk z P σ (compX it (turnX t f) s) Q) : tLc (wpI X (.Name x px) iter) (gName i) tt (teB X scope elt) [i] σ H Q := by
  have hne := io_ne hz hio
  show wpI X (.Name x px) iter σ H _
  refine hit P H σ _ Z.sim ?_
  cases it with
  | bad => exact q.elim
  | ex e => exact fun cls dd H' s' r => q cls dd H' (fun b o e1 e2 => s' _ _ (Z.frame b o e1 e2)) r
  | ok ds =>
    intro J P1 H1 e1 hJ A hA
    have q : PostX X.K T W .F mk z P σ (if ds.length ≤ most then (compS (turnX t f) ds s).bind fun q => .ok (.lst q.1, q.2) else .bad) Q := q
    split at q
    case isFalse => exact q.elim
    case isTrue hlen =>
    cases hc : compS (turnX t f) ds s with
    | bad => rw [hc] at q; exact q.elim
    | ex e => exact absurd hc compS_ex
    | ok r =>
      rw [hc] at q
      have Z1 := Z.ext e1
      obtain ⟨zA, nA⟩ := new_z Z1 hA
      have hPA : P1 A = none := by
        cases qq : P1 A with
        | none => rfl
        | some z => rw [e1.ph _ _ qq] at hA; cases hA
      -- the new list does not stand in the def's way
      have Z1' : SimZ X.K T z P1 (upd H1 A (.lst [])) σ (mk s) := by
        refine ⟨⟨fun b x h => ?_, Z1.sim.len, fun j c v h1 h2 => ?_, Z1.sim.apart⟩, fun b x h1 h2 => ?_, Z1.pp, Z1.nw, Z1.loc, Z1.ios⟩
        · rw [upd_ne (fun e => by rw [e, hPA] at h; cases h)]; exact e1.ph _ _ h
        · have hc := Z1.sim.cell j c v h1 h2
          cases c with
          | un => trivial
          | val e => exact hc
          | own e =>
            obtain ⟨b, x, rfl, h7, h8, h9⟩ := hc
            exact ⟨b, x, rfl, h7, by rw [upd_ne (fun e => by rw [e, hA] at h8; cases h8)]; exact h8, h9⟩
        · rw [upd_ne (fun e => by rw [e, zA] at h1; cases h1)]; exact Z1.frame b x h1 h2
      refine ⟨fun i' m H => i' + m = ds.length ∧ ∃ s' P' accD acc ys, Same P1 P' ∧ SimZ X.K T z P' H σ (mk s') ∧ P' A = none ∧ H A = some (.lst acc) ∧ RepAll X.K T P' accD acc ∧ compS (turnX t f) (ds.drop i') s' = .ok (ys, r.2) ∧ r.1 = accD ++ ys ∧ accD.length ≤ i' ∧ (∀ (j : Nat) (e : D), (mk s')[j]? = some (C.own e) → σ[j]? ≠ some (some (.ref A))),
        ⟨ds.length, by omega, s, P1, [], [], r.1, Same.refl _, Z1', hPA, upd_same, RepAll.nil, hc, rfl, Nat.zero_le _, nA⟩, ?_⟩
      rintro i' m H2 ⟨hm, s', P2, accD, acc, ys, s1, Z2, s5, s6, s7, s8, s9, s10, s11⟩
      obtain ⟨j1, j2, j3⟩ := hJ i' P2 H2 s1 Z2.sim.sub
      by_cases hi' : i' < ds.length
      · refine .inr ⟨j1 hi', fun H' => ∃ m', m' < m ∧ (i' + 1 + m' = ds.length ∧ ∃ s' P' accD' acc' ys', Same P1 P' ∧ SimZ X.K T z P' H' σ (mk s') ∧ P' A = none ∧ H' A = some (.lst acc') ∧ RepAll X.K T P' accD' acc' ∧ compS (turnX t f) (ds.drop (i' + 1)) s' = .ok (ys', r.2) ∧ r.1 = accD' ++ ys' ∧ accD'.length ≤ i' + 1 ∧ (∀ (j : Nat) (e : D), (mk s')[j]? = some (C.own e) → σ[j]? ≠ some (some (.ref A)))), fun _ h => h, fun v H3 hy => ?_⟩
        obtain ⟨P3, d, e3, hd, hr⟩ := j3 v H3 hi' hy
        have hdr : ds.drop i' = d :: ds.drop (i' + 1) := by
          rw [List.drop_eq_getElem_cons hi']
          congr 1
          rw [List.getElem?_eq_getElem hi'] at hd
          exact Option.some.inj hd
        rw [hdr] at s8
        obtain ⟨o, s2, ys', t1, t2, t3⟩ := compS_cons s8
        have Z3 := Z2.ext e3
        have hA3 : H3 A = some (.lst acc) := e3.hh _ _ s6
        have hP3 : P3 A = none := e3.nw _ (by rw [s6]; simp) s5
        have Zh := Z3.hold hP3 hA3 s11 zA
        have Zb := Zh.inBlock (i := i) hne hr
        refine ⟨wipe_set, ?_⟩
        refine hF.ev d s' ⟨P3, upd z.H0 A (.lst acc), z.io⟩ P3 H3 _ _ hz Zb ?_
        -- what an own slot's address is not
        have fin : ∀ {sx : S} {P5 H5 : Hp}, Same P3 P5 → SimZ X.K T ⟨P3, upd z.H0 A (.lst acc), z.io⟩ P5 H5 ((wipe σ [i]).set i (some v)) (blkC' mk i d sx) →
            SimZ X.K T z P5 H5 σ (mk sx) ∧ P5 A = none ∧ H5 A = some (.lst acc) ∧ (∀ (j : Nat) (e : D), (mk sx)[j]? = some (C.own e) → σ[j]? ≠ some (some (.ref A))) := by
          intro sx P5 H5 hpp Z5
          have Z6 : SimZ X.K T ⟨P3, upd z.H0 A (.lst acc), z.io⟩ P5 H5 σ (mk sx) := SimZ.outBlock Zh Z5 hpp hne (hci sx s') (hno s')
          have hAio : ∀ p ∈ z.io, p.2 ≠ A := fun p hp e => by
            obtain ⟨h3, d3, h4⟩ := Z3.ios p hp
            exact s11 _ _ h4 (by rw [h3, e])
          have nown : ∀ (j : Nat) (e : D), (mk sx)[j]? = some (C.own e) → σ[j]? ≠ some (some (.ref A)) := fun j e h1 h2 => by
            rcases Z6.loc j e A h1 h2 with w | w
            · have w : upd z.H0 A (.lst acc) A = none := w
              rw [upd_same] at w; cases w
            · exact hAio _ w rfl
          have hA5 : H5 A = some (.lst acc) := Z6.frame A _ (show upd z.H0 A (.lst acc) A = _ from upd_same) hAio
          have hP5 : P5 A = none := Z6.nw A (by show upd z.H0 A (.lst acc) A ≠ none; rw [upd_same]; simp) hP3
          refine ⟨⟨Z6.sim, fun b x h1 h2 => ?_, Z3.pp.trans hpp, fun b h1 h2 => ?_, fun j e b h1 h2 => ?_, Z6.ios⟩, hP5, hA5, nown⟩
          · exact Z6.frame b x (by show upd z.H0 A (.lst acc) b = _; rw [upd_ne (fun e => by rw [e, zA] at h1; cases h1)]; exact h1) h2
          · refine Z6.nw b ?_ (Z3.nw b h1 h2)
            show upd z.H0 A (.lst acc) b ≠ none
            rw [upd_ne (fun e => by rw [e, zA] at h1; exact h1 rfl)]; exact h1
          · rcases Z6.loc j e b h1 h2 with w | w
            · refine .inl ?_
              have hb : b ≠ A := fun q => nown j e h1 (by rw [h2, q])
              have w : upd z.H0 A (.lst acc) b = none := w
              rw [upd_ne hb] at w; exact w
            · exact .inr w
        rcases turn_ok t1 with ⟨s3, y, u1, u2, rfl⟩ | ⟨u1, rfl⟩
        · rw [u1]
          intro P4 H4 e4 Z4
          show ∀ s0 H0 C cl fp, wpE (X.blk s0 H0 scope (compEnvC scope cl C X.env) fp) elt _ H4 _
          intro s0 H0 C cl fp
          refine he d s3 s0 H0 C cl fp ⟨P3, upd z.H0 A (.lst acc), z.io⟩ P4 H4 _ _ hz Z4 ?_
          rw [u2]
          intro w P5 H5 e5 Z5 r5
          obtain ⟨Z7, hP5, hA5, nown⟩ := fin (e4.trans e5) Z5
          have r5 : Rep X.K T P5 y w := r5
          have hpp : Same P2 P5 := e3.pp.trans (e4.trans e5)
          refine ⟨acc, hA5, by rw [s7.length]; exact most_lt (by omega), m - 1, by omega, by omega, s2, P5, accD ++ [y], acc ++ [w], ys', s1.trans hpp, ?_, hP5, upd_same, (RepAll.mono hpp _ _ s7).append (RepAll.cons r5 RepAll.nil), t2, by rw [s9, show ys = _ from t3]; simp [consO], by simp; omega, nown⟩
          refine ⟨⟨fun b x h => ?_, Z7.sim.len, fun j c v h1 h2 => ?_, Z7.sim.apart⟩, fun b x h1 h2 => ?_, Z7.pp, Z7.nw, Z7.loc, Z7.ios⟩
          · rw [upd_ne (fun e => by rw [e, hP5] at h; cases h)]; exact Z7.sim.sub _ _ h
          · have hc := Z7.sim.cell j c v h1 h2
            cases c with
            | un => trivial
            | val e => exact hc
            | own e =>
              obtain ⟨b, x, rfl, h7, h8, h9⟩ := hc
              exact ⟨b, x, rfl, h7, by rw [upd_ne (fun eb => nown j e h1 (by rw [h2, eb]))]; exact h8, h9⟩
          · rw [upd_ne (fun e => by rw [e, zA] at h1; cases h1)]; exact Z7.frame b x h1 h2
        · rw [u1]
          intro P4 H4 e4 Z4
          obtain ⟨Z7, hP5, hA5, nown⟩ := fin e4 Z4
          have hpp : Same P2 P4 := e3.pp.trans e4
          exact ⟨m - 1, by omega, by omega, s2, P4, accD, acc, ys', s1.trans hpp, Z7, hP5, hA5, RepAll.mono hpp _ _ s7, t2, by rw [s9, show ys = _ from t3]; rfl, by omega, nown⟩
      · refine .inl ⟨j2 (by omega), ?_⟩
        rw [List.drop_eq_nil_of_le (by omega)] at s8
        unfold compS at s8
        cases s8
        have q : ∀ w P' H', Same P P' → SimZ X.K T z P' H' σ (mk r.2) → RepX X.K T .F z (mk r.2) σ P' H' (.lst r.1) w → Q w H' := q
        refine q (.ref A) P2 H2 (e1.pp.trans s1) Z2 ?_
        unfold RepX
        dsimp only
        rw [if_pos (show contD (.lst r.1) = true from rfl), s9, List.append_nil]
        exact ⟨A, _, rfl, zA, s5, s6, ⟨acc, rfl, s7⟩, s11⟩
theorem fltX_no {scope : Scope} {mk : D → S → List C} : FltX X scope T ios mk [] tYes (fun _ s => .ok (true, s)) := ⟨fun s H C cl fp => pts_nil, fun d s z P H σ Q hz Z q => q P H (Same.refl _) Z⟩
theorem fltX_one {scope : Scope} {mk : D → S → List C} {t : D → S → R (Bool × S)} (h : ∀ d s, EvXTB X scope T ios (mk d) s c (t d s)) : FltX X scope T ios mk [c] (fun σ H Q => ∀ s0 H0 C cl fp, wpT (X.blk s0 H0 scope (compEnvC scope cl C X.env) fp) c σ H Q) t :=
  ⟨fun s H C cl fp => pts_one ⟨fun pins s1 σ H1 Q I h => h s H C cl fp pins s1 I⟩, fun d s z P H σ Q hz Z q s0 H0 C cl fp => h d s s0 H0 C cl fp z P H σ Q hz Z q⟩
/-- .. and its store in a plain local -/
def CmX (X : Cx) (T : Tb) (W : WX) (m : Md) (ios : List Nat) (mk : S → List C) (s : S) (e : Expr) (r : R (D × S)) : Prop :=
  ∃ te : TE, (∀ {i : Nat} {y : Str} {py spos : Pos}, X.N[i]? = some y → X.env.scope.names.lookup y = some .local → swapsWith e (some (.Name y py)) spos.line X.env = pure true → PS X (.Assign [.Name y py] e spos) (tAsg te (gName i))) ∧ PE X e te ∧
    ∀ z P H σ Q, z.io.map (·.1) = ios → SimZ X.K T z P H σ (mk s) → PostX X.K T W m mk z P σ r Q → te σ H Q
theorem CmX.ev (h : CmX X T W m ios mk s e ra) : EvX X T W m ios mk s e ra := fun z P H σ Q hz Z q => by
  obtain ⟨te, _, h2, h3⟩ := h
  exact wpE_of h2 (h3 z P H σ Q hz Z q)
theorem cmx_comp {it : R (List D)} {scope : Scope} {ifs : List Expr} {tt : TT} {t : D → S → R (Bool × S)} {f : D → S → R (D × S)} (gd : Gd X k) (hi : Bn X scope i x) (hio : ios.contains i = false) (hB : BlkOk X.N X.env.scope scope [(x, i)])
    (hci : ∀ s s', (mk s)[i]? = (mk s')[i]?) (hno : ∀ s d, (mk s)[i]? ≠ some (.own d)) (hit : EvI X T W (mk s) (.Name x px) iter it)
    (hF : FltX X scope T ios (blkC' mk i) ifs tt t) (he : ∀ d s, EvXB X scope T ios (blkC' mk i d) s elt (f d s)) (hfs : ∀ u, foldedSetIterable iter X.env u = pure u := by intro u; rfl) :
    CmX X T W .F ios mk s (.ListComp elt [{ target := .Name x px, iter := iter, ifs := ifs, is_async := 0 }] scope pos) (compX it (turnX t f) s) :=
  ⟨tLc (wpI X (.Name x px) iter) (gName i) tt (teB X scope elt) [i],
   fun h1 h2 h3 => ps_setLc (own := [(x, i)]) gd.calm gd.nd h1 h2 h3 iw hB (fun s H C cl fp => pg_name gd.nd hi.nm hi.lo hi.fn) (fun s H C cl fp => hF.pt s H C cl fp) (fun s H C cl fp => ⟨fun pins s1 σ H1 Q I h => h s H C cl fp pins s1 I⟩) hfs,
   pe_lc (own := [(x, i)]) gd.calm gd.nd iw hB (fun s H C cl fp => pg_name gd.nd hi.nm hi.lo hi.fn) (fun s H C cl fp => hF.pt s H C cl fp) (fun s H C cl fp => ⟨fun pins s1 σ H1 Q I h => h s H C cl fp pins s1 I⟩) hfs,
   fun z P H σ Q hz Z q => compX_core gd hi hio hci hno hit hF he hz Z q⟩
theorem lastX {z : Zn} {P : Hp} {σ : L2.St} {Q : VK} (q : PostX X.K T W .P mk z P σ ra Q) : PostX X.K T W .F mk z P σ ra Q := by
  cases ra with
  | bad => exact q
  | ex e => exact q
  | ok v =>
    obtain ⟨v, s'⟩ := v
    intro w P' H' hp Z' r
    unfold RepX at r
    dsimp only at r
    split at r
    · obtain ⟨a, o, rfl, h1, h2, h3, h4, h5⟩ := r
      obtain ⟨g1, g2⟩ := Z'.adopt (d := v) h1 h2 h3 h5
      exact q _ _ _ (hp.trans g1) g2 ((rep_own (Own.cont h4)).mpr ⟨a, o, rfl, upd_same, Own.mono g1 h4⟩)
    · exact q _ _ _ hp Z' r
theorem CmX.lasting (h : CmX X T W .F ios mk s e ra) : CmX X T W .P ios mk s e ra := by
  obtain ⟨te, h1, h2, h3⟩ := h
  exact ⟨te, h1, h2, fun z P H σ Q hz Z q => h3 z P H σ Q hz Z (lastX q)⟩
variable {S' B : Type} {mkN : S' → List C} {mkB : B → List C} {rest body thn els : List Stmt}
theorem ssx_bindC {te : TE} {z : Zn} {P H : Hp} {σ : L2.St} {D1 : Ends} {F : D × S → R (Fl S' B)} {Q1 : VK} (ha : ∀ z P H σ Q, z.io.map (·.1) = ios → SimZ X.K T z P H σ (mk s) → PostX X.K T W m mk z P σ ra Q → te σ H Q) (hz : z.io.map (·.1) = ios) (Z : SimZ X.K T z P H σ (mk s)) (h : PostS X.K T W fr mkN mkB z (ra.bind F) D1)
    (kk : ∀ v s' w P1 H1, Same P P1 → SimZ X.K T z P1 H1 σ (mk s') → RepX X.K T m z (mk s') σ P1 H1 v w → PostS X.K T W fr mkN mkB z (F (v, s')) D1 → Q1 w H1) : te σ H Q1 := by
  refine ha z P H σ Q1 hz Z ?_
  cases ra with
  | ok v => exact fun w P' H' hp Z' r => kk v.1 v.2 w P' H' hp Z' r h
  | ex x => exact fun cls dd H' h1 h2 => h cls dd σ H' h1 h2
  | bad => exact h
theorem ss_asgCX {pos' : Pos} {y : Str} {j : Nat} {F : D → S → R (Fl S' B)} (hi : X.N[j]? = some y) (hx : X.env.scope.names.lookup y = some .local) (hs : swapsWith e (some (.Name y pos')) pos.line X.env = pure true) (hio : ios.contains j = false)
    (he : CmX X T W .P ios mk s e ra) (hr : ∀ v s, Ss X T W fr ios mkN mkB ((mk s).set j (.val v)) rest (F v s)) : Ss X T W fr ios mkN mkB (mk s) (.Assign [.Name y pos'] e pos :: rest) (bindX ra F) := fun z P H σ D1 hz Z h => by
  obtain ⟨te, h1, h2, h3⟩ := he
  refine wpSs_of (pss_cons (h1 hi hx hs) ssw) ?_
  refine ssx_bindC h3 hz Z h fun v s1 w P1 H1 e1 Z1 r1 q1 => ?_
  exact hr v s1 z P1 H1 _ D1 hz (Z1.set (io_ne hz hio) r1) q1
theorem ss_ownCX {pos' : Pos} {y : Str} {j : Nat} {F : D → S → R (Fl S' B)} (hi : X.N[j]? = some y) (hx : X.env.scope.names.lookup y = some .local) (hs : swapsWith e (some (.Name y pos')) pos.line X.env = pure true) (hio : ios.contains j = false)
    (he : CmX X T W .F ios mk s e ra) (hr : ∀ v s, Ss X T W fr ios mkN mkB ((mk s).set j (.own v)) rest (F v s)) : Ss X T W fr ios mkN mkB (mk s) (.Assign [.Name y pos'] e pos :: rest) (ownX ra F) := fun z P H σ D1 hz Z h => by
  obtain ⟨te, h1, h2, h3⟩ := he
  refine wpSs_of (pss_cons (h1 hi hx hs) ssw) ?_
  refine ssx_bindC h3 hz Z h fun v s1 w P1 H1 e1 Z1 r1 q1 => ?_
  have q1 : PostS X.K T W fr mkN mkB z (if contD v = true then F v s1 else .bad) D1 := q1
  split at q1
  · rename_i hc
    unfold RepX at r1
    dsimp only at r1
    rw [if_pos hc] at r1
    obtain ⟨b, o, rfl, n1, n2, n3, n4, n5⟩ := r1
    exact hr v s1 z P1 H1 _ D1 hz (Z1.setOwn (io_ne hz hio) n2 n3 n4 n1 fun j e hj h1 => n5 j e h1) q1
  · exact q1.elim
/-! ### walks over what is made with changes -/
def PostXI (K : PySem.W.Frag) (T : Tb) (W : WX) (mk : S → List C) (z : Zn) (P : Hp) (σ : L2.St) (r : R (List D × S)) (R1 : It → Hp → Prop) : Prop := match r with
  | .ok (ds, s) => ∀ J P' H', Same P P' → SimZ K T z P' H' σ (mk s) → ItOk K T P' J ds → R1 J H'
  | .ex e => ∀ cls dd H', FrZ z H' → ExR T e cls dd H' → W cls dd σ H'
  | .bad => False
def EvXI (X : Cx) (T : Tb) (W : WX) (ios : List Nat) (mk : S → List C) (s : S) (tg iter : Expr) (r : R (List D × S)) : Prop := ∀ z P H σ R1, z.io.map (·.1) = ios → SimZ X.K T z P H σ (mk s) → PostXI X.K T W mk z P σ r R1 → wpI X tg iter σ H R1
def iterX (r : R (D × S)) (f : D → R (List D)) : R (List D × S) := r.bind fun p => (f p.1).bind fun ds => .ok (ds, p.2)
theorem evxI_bind {z : Zn} {P H : Hp} {σ : L2.St} {R1 : It → Hp → Prop} {F : D × S → R (List D × S)} {Q1 : VK} (ha : EvX X T W m ios mk s a ra) (hz : z.io.map (·.1) = ios) (Z : SimZ X.K T z P H σ (mk s)) (h : PostXI X.K T W mk z P σ (ra.bind F) R1)
    (kk : ∀ v s' w P1 H1, ra = .ok (v, s') → Same P P1 → SimZ X.K T z P1 H1 σ (mk s') → RepX X.K T m z (mk s') σ P1 H1 v w → PostXI X.K T W mk z P σ (F (v, s')) R1 → Q1 w H1) : wpE X a σ H Q1 := by
  refine ha z P H σ Q1 hz Z ?_
  cases ra with
  | ok v => exact fun w P' H' hp Z' r => kk v.1 v.2 w P' H' rfl hp Z' r h
  | ex x => exact h
  | bad => exact h
theorem evxI_seq (ha : EvX X T W .P ios mk s e ra) : EvXI X T W ios mk s tg e (iterX ra seqsR) := fun z P H σ R1 hz Z h => by
  cases hd : ra with
  | bad => rw [hd] at h; exact h.elim
  | ex z1 =>
    refine wpI_of (pi_list pw) ?_
    exact evxI_bind ha hz Z h fun v s' w P1 H1 h1 => by rw [hd] at h1; cases h1
  | ok d =>
    obtain ⟨d, s0⟩ := d
    cases d with
    | lst ds =>
      refine wpI_of (pi_list pw) ?_
      refine evxI_bind ha hz Z h fun v s' w P1 H1 h1 e1 Z1 r1 q1 => ?_
      rw [hd] at h1
      cases h1
      have r1 : Rep X.K T P1 (.lst ds) w := r1
      unfold Rep at r1
      obtain ⟨l, vs, rfl, h2, h3⟩ := r1
      exact ⟨l, rfl, ⟨vs, SqL.of (Z1.sim.sub _ _ h2)⟩, q1 _ P1 H1 e1 Z1 (itOk_l h2 h3)⟩
    | tup ds =>
      refine wpI_of (pi_tup pw) ?_
      refine evxI_bind ha hz Z h fun v s' w P1 H1 h1 e1 Z1 r1 q1 => ?_
      rw [hd] at h1
      cases h1
      have r1 : Rep X.K T P1 (.tup ds) w := r1
      unfold Rep at r1
      obtain ⟨l, vs, rfl, h2, h3⟩ := r1
      have hS : ∀ H', Same P1 H' → SqT X.K H' l vs := fun H' hs => .inl (.inl (hs _ _ h2))
      exact ⟨l, rfl, ⟨vs, hS _ Z1.sim.sub⟩, q1 _ P1 H1 e1 Z1 (itOk_t hS h3)⟩
    | _ => rw [hd] at h; exact h.elim
theorem evxI_rg1 (g : Gd X k) (hg : Gl X "range") (ha : EvX X T W .P ios mk s a ra) (hs : starEach [a] X.env = (false, eval a X.env) :: starEach [] X.env) (hs' : starEach [a] X.env = [(false, eval a X.env)]) : EvXI X T W ios mk s tg (.Call (.Name "range" p) [a] [] pos) (iterX ra range1R) := fun z P H σ R1 hz Z h => by
  refine wpI_of (pi_range1 hg g.bi.range (pa_cons pw pa_nil hs) hs') ?_
  refine evxI_bind ha hz Z h fun v s' w P1 H1 h1 e1 Z1 r1 q1 => ?_
  refine (show ∃ j, [w] = [V.int j] ∧ _ from ?_)
  cases v with
  | int j =>
    have q1 : PostXI X.K T W mk z P σ ((if big62 j = true then .ok (upI 0 j.toNat) else .bad : R (List D)).bind fun ds => .ok (ds, s')) R1 := q1
    split at q1
    · rename_i hb
      have r1 : Rep X.K T P1 (.int j) w := r1
      unfold Rep at r1
      subst r1
      unfold big62 at hb
      simp only [Bool.and_eq_true, decide_eq_true_eq] at hb
      exact ⟨j, rfl, hb.1, hb.2, q1 _ P1 H1 e1 Z1 itOk_r⟩
    · exact q1.elim
  | _ => exact q1.elim
def forX {S2 : Type} (it : R (List D × S)) (s0 : S → S2) (f : D → S2 → R (Fl S2 S2)) : R (Fl S2 S2) := it.bind fun p => forR p.1 (s0 p.2) f
theorem ss_forX {S2 : Type} {mk2 : S2 → List C} {it : R (List D × S)} {s0 : S → S2} {f : D → S2 → R (Fl S2 S2)} {kk : S2 → R (Fl S' B)} {px : Pos} (g : Gd X k) (hp : PassesOwn (model X.prog X.w) X.A X.env X.xe) (hi : Sl X ios i x)
    (hit : EvXI X T W ios mk s (.Name x px) iter it) (hw : ∀ s, Weak (mk s) (mk2 (s0 s))) (ho : ∀ s, ios.all (ownAt (mk2 (s0 s))) = true) (hb : ∀ d s, Ss X T W fr ios mk2 mk2 ((mk2 s).set i (.val d)) body (f d s)) (hr : ∀ s, Ss X T W fr ios mkN mkB (mk2 s) rest (kk s))
    (hfs : ∀ u, foldedSetIterable iter X.env u = pure u := by intro u; rfl) :
    Ss X T W fr ios mkN mkB (mk s) (.For (.Name x px) iter body [] pos :: rest) (aftR (forX it s0 f) kk) := fun z P H σ D1 hz Z h => by
  refine wpSs_of (pss_cons (ps_for hp g.calm iw (pg_name g.nd hi.nm hi.lo hi.fn) ssw hfs) ssw) ?_
  have h2 := post_aft hz hr h
  show wpI X _ iter σ H _
  refine hit z P H σ _ hz Z ?_
  cases it with
  | bad => exact h2
  | ex e => exact fun cls dd H' h1 h3 => h2 cls dd σ H' h1 h3
  | ok q =>
    obtain ⟨ds, s1⟩ := q
    intro J P1 H1 e1 Z1 hJ
    have Z1 := Z1.weak (hw s1) (by rw [hz]; exact ho s1)
    exact for_turns (D2 := ⟨wpSs X rest D1, D1.rt, wpSs X rest D1, D1.ct⟩) rfl hz hJ (fun z d v s P H σ D3 hz Z r q => hb d s z P H _ D3 hz (Z.set (io_ne hz hi.io) r) q) Z1 h2
end
end Fj

/-! ## Lay18 -/
namespace Fj
open PySem PySem.Spec PyProof.Rows L2
def ap0 {α : Type} (f : α) : List D → α := fun _ => f
def ap1 {α : Type} (f : D → R α) : List D → R α
  | [a] => f a
  | _ => .bad
def ap2 {α : Type} (f : D → D → R α) : List D → R α
  | [a, b] => f a b
  | _ => .bad
def ap3 {α : Type} (f : D → D → D → R α) : List D → R α
  | [a, b, c] => f a b c
  | _ => .bad
def ap4 {α : Type} (f : D → D → D → D → R α) : List D → R α
  | [a, b, c, d] => f a b c d
  | _ => .bad
def ap5 {α : Type} (f : D → D → D → D → D → R α) : List D → R α
  | [a, b, c, d, e] => f a b c d e
  | _ => .bad
def ap6 {α : Type} (f : D → D → D → D → D → D → R α) : List D → R α
  | [a, b, c, d, e, g] => f a b c d e g
  | _ => .bad
theorem ap1_eq {α : Type} (f : D → R α) (a : D) : ap1 f [a] = f a := id rfl
theorem ap2_eq {α : Type} (f : D → D → R α) (a b : D) : ap2 f [a, b] = f a b := id rfl
theorem ap3_eq {α : Type} (f : D → D → D → R α) (a b c : D) : ap3 f [a, b, c] = f a b c := id rfl
theorem ap4_eq {α : Type} (f : D → D → D → D → R α) (a b c d : D) : ap4 f [a, b, c, d] = f a b c d := id rfl
theorem ap5_eq {α : Type} (f : D → D → D → D → D → R α) (a b c d e : D) : ap5 f [a, b, c, d, e] = f a b c d e := id rfl
theorem ap6_eq {α : Type} (f : D → D → D → D → D → D → R α) (a b c d e g : D) : ap6 f [a, b, c, d, e, g] = f a b c d e g := id rfl
theorem len1 {ds : List D} (h : ds.length = 1) : ∃ a, ds = [a] := by
  match ds, h with
  | [a], _ => exact ⟨a, rfl⟩
theorem len2 {ds : List D} (h : ds.length = 2) : ∃ a b, ds = [a, b] := by
  match ds, h with
  | [a, b], _ => exact ⟨a, b, rfl⟩
theorem len3 {ds : List D} (h : ds.length = 3) : ∃ a b c, ds = [a, b, c] := by
  match ds, h with
  | [a, b, c], _ => exact ⟨a, b, c, rfl⟩
theorem len4 {ds : List D} (h : ds.length = 4) : ∃ a b c d, ds = [a, b, c, d] := by
  match ds, h with
  | [a, b, c, d], _ => exact ⟨a, b, c, d, rfl⟩
theorem len5 {ds : List D} (h : ds.length = 5) : ∃ a b c d e, ds = [a, b, c, d, e] := by
  match ds, h with
  | [a, b, c, d, e], _ => exact ⟨a, b, c, d, e, rfl⟩
theorem len6 {ds : List D} (h : ds.length = 6) : ∃ a b c d e f, ds = [a, b, c, d, e, f] := by
  match ds, h with
  | [a, b, c, d, e, f], _ => exact ⟨a, b, c, d, e, f, rfl⟩
def T0 : Tb := ⟨fun _ => none, fun _ => none, none⟩
/-- the law's own def, asked at the script -/
theorem law_end {K : PySem.W.Frag} {T : Tb} {fr : Bool} {m : List D → R D} {H : Hp} {a : Addr} {ns : List Int} (hS : SqL K H a (ns.map V.int)) (h : m [.scr ns] = .ok (.bl true)) :
    spI K T fr [] 1 (pureM m) [V.ref a] H (fun v _ => v = V.bl true) (fun _ _ _ => False) := by
  refine ⟨rfl, H, [.scr ns], ⟨Same.refl _, rfl, fun i c v h1 h2 => ?_, fun i j d e b h1 => absurd h1 (argC_nil_own 0 i _ d)⟩, ?_⟩
  · refine sim_args (Same.refl _) 0 (RepAll.cons ?_ RepAll.nil) i c v h1 h2
    unfold Rep
    exact ⟨a, rfl, hS⟩
  · unfold pureM
    rw [h]
    intro P1 H1 w rz
    have r := rz.rep
    cases fr <;> (unfold md RepM at r; first | exact (by simpa [Rep, contD] using r))
end Fj

/-! ## Lay19 -/
namespace Fj
open PySem PySem.Spec PyProof.Rows L2
mutual
/-- no list, no dict in it -/
def flatD : D → Bool
  | .non => true
  | .bl _ => true
  | .int _ => true
  | .str _ => true
  | .tup xs => flatDs xs
  | _ => false
def flatDs : List D → Bool
  | [] => true
  | x :: xs => flatD x && flatDs xs
end
def flatE (r : R D) : R D := r.bind fun d => if flatD d = true then .ok d else .bad
def ioF (mm : List D → R (D × List D)) (r : R D) (dl : R (List D)) : R D := r.bind fun o => if contD o = true then dl.bind fun vs => (mm (o :: vs)).bind fun p => match p.2 with
  | [_] => .ok p.1
  | _ => .bad
  else .bad
section
variable {K : PySem.W.Frag} {X : Cx} {T : Tb} {W : WX} {k j : Nat} {ρ : List C} {a b c e : Expr} {es : List Expr} {da db : R D} {ca cb : R Bool} {pos p p2 p3 : Pos} {m : Md} {x : Str} {fr : Bool} {i : Nat}
mutual
theorem rep_off {P P2 : Hp} (h : ∀ b vs, P b = some (.tup vs) → P2 b = some (.tup vs)) : ∀ (d : D) (v : V), flatD d = true → Rep K T P d v → Rep K T P2 d v
  | .non, _, _, q => by unfold Rep at q ⊢; exact q
  | .bl _, _, _, q => by unfold Rep at q ⊢; exact q
  | .int _, _, _, q => by unfold Rep at q ⊢; exact q
  | .str _, _, _, q => by unfold Rep at q ⊢; exact q
  | .tup ds, _, f, q => by
    unfold Rep at q ⊢
    obtain ⟨b, vs, h1, h2, h3⟩ := q
    exact ⟨b, vs, h1, h _ _ h2, rep_offs h ds vs f h3⟩
  | .lst _, _, f, _ => by cases f
  | .dct _ _, _, f, _ => by cases f
  | .fn _, _, f, _ => by cases f
  | .exc _ _, _, f, _ => by cases f
  | .scr _, _, f, _ => by cases f
theorem rep_offs {P P2 : Hp} (h : ∀ b vs, P b = some (.tup vs) → P2 b = some (.tup vs)) : ∀ (ds : List D) (vs : List V), flatDs ds = true → RepAll K T P ds vs → RepAll K T P2 ds vs
  | [], _, _, q => by unfold RepAll at q ⊢; exact q
  | d :: ds, _, f, q => by
    unfold RepAll at q ⊢
    obtain ⟨v, r, h1, h2, h3⟩ := q
    unfold flatDs at f
    obtain ⟨f1, f2⟩ := Bool.and_eq_true_iff.mp f
    exact ⟨v, r, h1, rep_off h d v f1 h2, rep_offs h ds r f2 h3⟩
end
theorem flat_cont {d : D} (h : flatD d = true) : cont d = false := by cases d <;> first | rfl | cases h
theorem own_tup {P : Hp} {d : D} {o : HO} (h : Own K T P d o) : ∀ vs, o ≠ .tup vs := fun vs e => by
  subst e
  cases d with
  | lst ds => obtain ⟨us, e, _⟩ := h; cases e
  | dct t kvs =>
    rcases h with ⟨_, l, e, _⟩ | ⟨_, l, e, _⟩ <;> cases e
  | _ => exact h.elim
theorem Sim.freeze {P H : Hp} {σ : L2.St} {d : D} {i : Nat} {a : Addr} {o : HO} (S : Sim K T P H σ ρ) (hi : ρ[i]? = some (.own d)) (hs : σ[i]? = some (some (.ref a))) (hP : P a = none) (hH : H a = some o) (ho : Own K T P d o) :
    Sim K T (upd P a o) H σ (ρ.set i (.val d)) :=
  (SimZ.freeze (z := ⟨P, fun _ => none, []⟩) ⟨S, (fun _ _ h => nomatch h), Same.refl _, (fun _ h => absurd rfl h), (fun _ _ _ _ _ => .inl rfl), (fun _ h => nomatch h)⟩ hi (fun _ h => nomatch h) hs hP hH ho).sim
/-- an own list or dict lent for reading while e is told; what e tells has no list and no dict in it -/
theorem ev_loan {d : D} (hi : ρ[i]? = some (.own d)) (h : Ev X T W .P (ρ.set i (.val d)) e da) : Ev X T W .F ρ e (flatE da) := fun P H σ Q S q => by
  obtain ⟨u, h5, a', o', rfl, h7, h8, h9⟩ := cell_at S hi
  refine h _ H σ Q (S.freeze hi h5 h7 h8 h9) ?_
  cases da with
  | ex x => exact q
  | bad => exact q
  | ok v =>
    intro w P1 H1 e1 r1
    have q : Post X.K T W .F P H σ (if flatD v = true then .ok v else .bad) Q := q
    split at q
    case isFalse => exact q.elim
    case isTrue hf =>
    have hat : P1 a' = some o' := e1.pp _ _ upd_same
    refine q w (fun b => if b = a' then none else P1 b) H1 ⟨fun b z hb => ?_, e1.hh, fun b z hb => ?_, fun b n1 n2 => ?_⟩ ?_
    · have : b ≠ a' := fun e => by subst e; rw [h7] at hb; cases hb
      show (if b = a' then none else P1 b) = _
      rw [if_neg this]
      exact e1.pp _ _ (by rw [upd_ne this]; exact hb)
    · have hb : (if b = a' then none else P1 b) = some z := hb
      split at hb
      · cases hb
      · exact e1.ph _ _ hb
    · show (if b = a' then none else P1 b) = none
      split
      · rfl
      · rename_i hb
        exact e1.nw b n1 (by rw [upd_ne hb]; exact n2)
    · show RepM X.K T .F _ _ _ _ _
      unfold RepM
      dsimp only
      rw [if_neg (by rw [flat_cont hf]; exact Bool.false_ne_true)]
      refine rep_off (fun b vs hb => ?_) v w hf r1
      show (if b = a' then none else P1 b) = _
      rw [if_neg fun e => ?_]
      · exact hb
      · subst e
        rw [hat] at hb
        exact own_tup h9 vs (Option.some.inj hb)
/-- .. in a test -/
theorem evT_loan {d : D} (hi : ρ[i]? = some (.own d)) (h : EvT X T W (ρ.set i (.val d)) e ca) : EvT X T W ρ e ca := fun P H σ Q S q => by
  obtain ⟨u, h5, a', o', rfl, h7, h8, h9⟩ := cell_at S hi
  refine h _ H σ Q (S.freeze hi h5 h7 h8 h9) ?_
  cases ca with
  | ex x => exact q
  | bad => exact q
  | ok v =>
    intro P1 H1 e1
    have q : ∀ P' H', Ext P H P' H' → Q v H' := q
    refine q (fun b => if b = a' then none else P1 b) H1 ⟨fun b z hb => ?_, e1.hh, fun b z hb => ?_, fun b n1 n2 => ?_⟩
    · have : b ≠ a' := fun e => by subst e; rw [h7] at hb; cases hb
      show (if b = a' then none else P1 b) = _
      rw [if_neg this]
      exact e1.pp _ _ (by rw [upd_ne this]; exact hb)
    · have hb : (if b = a' then none else P1 b) = some z := hb
      split at hb
      · cases hb
      · exact e1.ph _ _ hb
    · show (if b = a' then none else P1 b) = none
      split
      · rfl
      · rename_i hb
        exact e1.nw b n1 (by rw [upd_ne hb]; exact n2)
/-- {} -/
theorem ev_dnew0 : Ev X T W .F ρ (.Dict [] [] pos) (.ok (.dct 0 [])) := fun P H σ Q S q => by
  refine wpE_of pe_dnewK fun p hp => ?_
  refine q (.ref p) P _ (Ext.fresh S.sub hp) ?_
  show RepM X.K T .F _ _ _ _ _
  unfold RepM
  dsimp only
  rw [if_pos (show cont (.dct 0 []) = true from rfl)]
  exact ⟨p, _, rfl, hp, S.sub.free hp, upd_same, .inl ⟨rfl, [], rfl, rfl, by show RepVs _ _ _ [] []; unfold RepVs; rfl⟩⟩
theorem ev_dnew1 : Ev X T W .F ρ (.Dict [] [] pos) (.ok (.dct 1 [])) := fun P H σ Q S q => by
  refine wpE_of pe_dnewT fun p hp => ?_
  refine q (.ref p) P _ (Ext.fresh S.sub hp) ?_
  show RepM X.K T .F _ _ _ _ _
  unfold RepM
  dsimp only
  rw [if_pos (show cont (.dct 1 []) = true from rfl)]
  exact ⟨p, _, rfl, hp, S.sub.free hp, upd_same, .inr ⟨rfl, [], rfl, rfl, by show RepVs _ _ _ [] []; unfold RepVs; rfl⟩⟩
/-- a new thing lent to a call that changes it -/
theorem ev_ioF {f : Addr} {r : Nat} {mm : List D → R (D × List D)} {ds : List (R D)} (g : Gd X k) (F : FD X.prog X.w X.K X.mg X.base T j x f fr [0] (1 + r) mm) (hj : j ≤ k) (tk : Takes X W) (hg : Gl X x) (he : Ev X T W .F ρ a da) (ha : EvA X T W ρ es (allR ds)) (hn : ds.length = r)
    (hdb : (x == ("__debug__" : Str)) = false) (hst : starEach (a :: es) X.env = (false, eval a X.env) :: starEach es X.env) (hpl : (backTo pos (starEach es X.env)).any (·.1) = false) : Ev X T W (md fr) ρ (.Call (.Name x p) (a :: es) [] pos) (ioF mm da (allR ds)) := fun P H σ Q S q => by
  obtain ⟨fd, ps, F1, B1⟩ := F.ex
  refine wpE_of (pe_callSD F1 (g.room.mono hj) hg F.gl F.kp B1 .nil (fun σ => passAt tk σ) (pa_cons pw aw hst) hdb hst hpl) ?_
  refine he P H σ _ S ?_
  cases da with
  | ex z => exact fun cls dd H' s' r => q cls dd H' s' r
  | bad => exact q
  | ok o =>
  intro w P1 H1 e1 r1
  have S1 := S.ext e1
  have q : Post X.K T W (md fr) P H σ (if contD o = true then (allR ds).bind fun vs => (mm (o :: vs)).bind fun p => match p.2 with | [_] => .ok p.1 | _ => .bad else .bad) Q := q
  split at q
  case isFalse => exact q.elim
  case isTrue hc =>
  unfold RepM at r1
  dsimp only at r1
  rw [if_pos hc] at r1
  obtain ⟨b, ho, rfl, n0, n1, n2, n3⟩ := r1
  refine ha P1 H1 σ _ S1 ?_
  cases hv : allR ds with
  | ex z => rw [hv] at q; exact fun cls dd H' s' r => q cls dd H' (e1.hh.trans s') r
  | bad => rw [hv] at q; exact q
  | ok vs =>
  rw [hv] at q
  intro ws P2 H2 e2 rs
  have S2 := S1.ext e2
  have hl : vs.length = r := by rw [allR_len hv, hn]
  have n4 : P2 b = none := e2.nw b (by rw [n2]; simp) n1
  have n5 : H2 b = some ho := e2.hh _ _ n2
  have n6 : Own X.K T P2 o ho := Own.mono e2.pp n3
  show spI X.K T fr [0] (1 + r) mm ((V.ref b :: ws) ++ []) H2 Q (WE W σ)
  rw [List.append_nil]
  have hnil : ∀ (l : List D) (m : Nat), argC [0] (0 + 1 + m) l = argC [] (0 + 1 + m) l := by
    intro l
    induction l with
    | nil => intro m; rfl
    | cons d l ih =>
      intro m
      unfold argC
      have : [0].contains (0 + 1 + m) = false := by simp <;> omega
      rw [this, show 0 + 1 + m + 1 = 0 + 1 + (m + 1) by omega, ih]
      rfl
  refine ⟨by rw [List.length_cons, rs.length, hl]; omega, P2, o :: vs, ⟨S2.sub, by rw [argC_len, List.length_map, List.length_cons, List.length_cons, rs.length], fun n c v h1 h2 => ?_, fun n1 n2 d1 d2 b' h1 h2 _ _ => ?_⟩, ?_⟩
  · unfold argC at h1
    cases n with
    | zero =>
      simp at h1 h2
      subst h1 h2
      exact ⟨b, ho, rfl, n4, n5, n6⟩
    | succ n =>
      simp only [List.getElem?_cons_succ] at h1
      rw [show 0 + 1 = 0 + 1 + 0 by rfl, hnil] at h1
      exact sim_args S2.sub _ rs n c v h1 (by simpa using h2)
  · have z : ∀ (n : Nat) (d : D), (argC [0] 0 (o :: vs))[n]? = some (C.own d) → n = 0 := fun n d h => by
      cases n with
      | zero => rfl
      | succ n =>
        unfold argC at h
        simp only [List.getElem?_cons_succ] at h
        rw [show 0 + 1 = 0 + 1 + 0 by rfl, hnil] at h
        exact absurd h (argC_nil_own _ _ _ _)
    rw [z _ _ h1, z _ _ h2]
  have hio : ioAt [0] (V.ref b :: ws) = [(0, b)] := rfl
  rw [hio]
  have hne : ∀ c z, H c = some z → c ≠ b := fun c z h e => by subst e; rw [n0] at h; cases h
  have hfr : ∀ c z H', FrZ ⟨P2, H2, [(0, b)]⟩ H' → H c = some z → H' c = some z := fun c z H' h hc => h c z (e2.hh _ _ (e1.hh _ _ hc)) fun p hp => by
    rw [List.mem_singleton] at hp; subst hp; exact fun e => hne c z hc e.symm
  have q2 : Post X.K T W (md fr) P H σ ((mm (o :: vs)).bind fun p => match p.2 with | [_] => .ok p.1 | _ => .bad) Q := q
  cases hm : mm (o :: vs) with
  | bad => rw [hm] at q2; exact q2
  | ex z =>
    rw [hm] at q2
    exact fun cls dd H' h1 h2 => q2 cls dd H' (fun c z hc => hfr c z H' h1 hc) h2
  | ok dp =>
    rw [hm] at q2
    obtain ⟨d, os⟩ := dp
    intro P3 H3 w rz
    have hos := rz.outs
    cases os with
    | nil => exact nomatch hos
    | cons o2 os =>
    cases os with
    | cons _ _ => cases hos with | cons _ h => exact nomatch h
    | nil =>
    have q3 : ∀ w P' H', Ext P H P' H' → RepM X.K T (md fr) H P' H' d w → Q w H' := q2
    refine q3 w P3 H3 ⟨(e1.pp.trans e2.pp).trans rz.pp, fun c z hc => hfr c z H3 rz.frame hc, rz.sub, fun c h1 h2 => rz.nw c (ne_of_same (e1.hh.trans e2.hh) h1) (e2.nw c (ne_of_same e1.hh h1) (e1.nw c h1 h2))⟩ ?_
    have rr := rz.rep
    cases fr with
    | false => exact rr
    | true =>
      have rr : RepM X.K T .F H2 P3 H3 d w := rr
      show RepM X.K T .F _ _ _ _ _
      unfold RepM at rr ⊢
      dsimp only at rr ⊢
      split at rr
      · rename_i hc
        rw [if_pos hc]
        obtain ⟨c, o3, rfl, t1, t2, t3, t4⟩ := rr
        refine ⟨c, o3, rfl, ?_, t2, t3, t4⟩
        cases hh : H c with
        | none => rfl
        | some z => rw [e2.hh _ _ (e1.hh _ _ hh)] at t1; cases t1
      · rename_i hc
        rw [if_neg hc]
        exact rr
/-- x.pop(e), x a list -/
def popL {S : Type} (gt : S → D) (up : S → D → S) (s : S) (r : R (D × S)) : R (D × S) := if isList (gt s) = true then popX gt up r else .bad
theorem evx_popL {S : Type} {mk : S → List C} {s : S} {ios : List Nat} {ra : R (D × S)} {pa pp px : Pos} {gt : S → D} {up : S → D → S} (hat : At mk i gt up) (hN : X.N[i]? = some x) (hv : Vis X.env.scope x) (hd : (x == ("__debug__" : Str)) = false) (hcd : (x == ("__classdict__" : Str)) = false)
    (he : EvX X T W .P ios mk s e ra) (hbm : PE X (.Call (.Attribute (.Name x px) "pop" pa) [e] [] pp) (tBM X.K "list" rPopAt (tVar i) (tCons (wpE X e) tNil))) :
    EvX X T W .P ios mk s (.Call (.Attribute (.Name x px) "pop" pa) [e] [] pp) (popL gt up s ra) := by
  unfold popL
  split
  · rename_i h
    exact evx_pop hat hN hv hd hcd he (fun _ => h) hbm
  · exact fun z P H σ Q hz Z q => q.elim
end
end Fj

/-! ## Lay20 -/
namespace Fj
open PySem PySem.Spec PyProof.Rows L2
/-! ### exceptions of the text's own classes -/
def bmVE : List Value := [.type "ValueError", .type "Exception", .type "BaseException", .type "object"]
theorem pmk_own0 {X : Cx} {C : Addr} {bmB : List Value} {B newId initId : String} {x : Str} {p pos : Pos} (F : ExcBaseFacts B newId initId bmB) (q : PySem.W.excIn X.K C bmB newId = true) (gC : X.mg x = some (.ref C)) (kC : PySem.W.keepIn X.K (.ref C) = true) (r : Raises X (.ref C)) (hg : Gl X x)
    (hdb : (x == ("__debug__" : Str)) = false) : PMk X (.Call (.Name x p) [] [] pos) (fun _ H Q => Q (.ref C) none H) := by
  intro pins s σ H Q I h
  refine wpAny_Call_Name_kw (ld_glob I hg gC ?_ hdb)
  refine PySem.W.callWith_K0 I.kIn kC ?_
  show wpAny _ _ (call (.ref C) []) _ _ _
  obtain ⟨bm, N, nm, qn, bs, hdct, sn, sub, ab, col, dd, k0, k1, k2, k3, k5, mN, hC, hN, hni, T⟩ := exc_obj I.kIn q
  refine wpAny_call_exc_subT F T hC hN hni (fun h' e hm => ?_) (Nat.zero_le _)
  exact mk_of I hm r h (I.hok.gone hm.new)
structure ExCls (K : PySem.W.Frag) (mg : Str → Option Value) (T : Tb) (c : Nat) (x : Str) (C : Addr) : Prop where
  cl : T.cl c = some C
  gl : mg x = some (.ref C)
  xi : PySem.W.excIn K C bmVE "ValueError.__new__" = true
  kp : PySem.W.keepIn K (.ref C) = true
  bp : PySem.W.subIn K (.ref C) (.type "BaseException") = some true
  tp : PySem.W.typeIn K (.ref C) = some (.type "type")
section
variable {X : Cx} {T : Tb} {W : WX} {k j : Nat} {ρ : List C} {a b c e : Expr} {es : List Expr} {da db : R D} {pos p p2 p3 : Pos} {m : Md} {x n : Str} {fr : Bool} {i : Nat}
variable {S B : Type} {ios : List Nat} {mkN : S → List C} {mkB : B → List C} {rest body : List Stmt}
/-- raise X() -/
theorem ss_raise {cn : Nat} {Cl : Addr} {pos' : Pos} (g : Gd X k) (tk : Takes X W) (E : ExCls X.K X.mg T cn x Cl) (hg : Gl X x) (hdb : (x == ("__debug__" : Str)) = false) :
    Ss X T W fr ios mkN mkB ρ (.Raise (some (.Call (.Name x p) [] [] pos)) none pos' :: rest) (.ex (.exc cn [])) := fun z P H σ D1 hz Z h =>
  wpSs_of (pss_cons (ps_raise g.calm tk (pmk_own0 PySem.F.excBase_ValueError E.xi E.gl E.kp (raises_own E.bp E.tp) hg hdb)) (ssw (st := rest))) (h (.ref Cl) none σ H Z.frame ⟨Cl, E.cl, rfl, .inl ⟨rfl, rfl⟩⟩)
/-! ### methods of lists that look -/
def numD : D → Bool
  | .bl _ => true
  | .int _ => true
  | _ => false
def numV : D → V
  | .bl b => .bl b
  | .int i => .int i
  | _ => .non
theorem numV_of {K : PySem.W.Frag} {P : Hp} {d : D} {v : V} (h : numD d = true) (r : Rep K T P d v) : v = numV d := by
  cases d with
  | bl b => exact rep_bl.mp r
  | int i => exact rep_int.mp r
  | _ => cases h
theorem numV_B {K : PySem.W.Frag} {P H H0 : Hp} {d : D} {v : V} (h : numD d = true) (r : RepM K T .B H0 P H d v) : v = numV d := by
  rcases r with r | ⟨a, o, rfl, _, _, h3⟩
  · exact numV_of h r
  · cases d with
    | bl b => exact h3.elim
    | int b => exact h3.elim
    | _ => cases h
theorem numV_flat {d : D} (h : numD d = true) : flatV (numV d) = true := by cases d <;> first | rfl | cases h
theorem numV_eq {x y : D} (hx : numD x = true) (hy : numD y = true) : eqV (numV x) (numV y) = eqD x y := by
  cases x with
  | bl a => cases y with
    | bl b => simp [numV, eqV, eqD]
    | int j => simp [numV, eqV, eqD, b2]
    | _ => cases hy
  | int i => cases y with
    | bl b => simp [numV, eqV, eqD, b2]
    | int j => simp [numV, eqV, eqD]
    | _ => cases hy
  | _ => cases hx
theorem numVs_of {K : PySem.W.Frag} {P : Hp} : ∀ {ds : List D} {vs : List V}, ds.all numD = true → RepAll K T P ds vs → vs = ds.map numV
  | [], vs, _, r => by unfold RepAll at r; exact r
  | d :: ds, vs, h, r => by
    unfold RepAll at r
    obtain ⟨v, t, rfl, r1, r2⟩ := r
    rw [List.all_cons, Bool.and_eq_true] at h
    rw [numV_of h.1 r1, numVs_of h.2 r2]; rfl
theorem numVs_flat : ∀ {ds : List D}, ds.all numD = true → (ds.map numV).all flatV = true
  | [], _ => rfl
  | d :: ds, h => by
    rw [List.all_cons, Bool.and_eq_true] at h
    rw [List.map_cons, List.all_cons, numV_flat h.1, numVs_flat h.2]; rfl
def rCntF (K : PySem.W.Frag) : V → List V → Hp → VK → Prop := fun x xs H Q => ∃ (a : Addr) (ys : List V) (y : V), x = .ref a ∧ xs = [y] ∧ SqL K H a ys ∧ flatV y = true ∧ ys.all flatV = true ∧ Q (.int (ys.countP (fun z => eqV z y) : Nat)) H
theorem count_eqU {y : V} {uy : Value} (ry : RelV y uy) (fy : flatV y = true) : ∀ {xs : List V} {us : List Value}, Vals xs us → xs.all flatV = true → us.countP (eqU y) = xs.countP (fun z => eqV z y)
  | _, _, .nil, _ => rfl
  | x :: xs, u :: us, .cons r t, f => by
    rw [List.all_cons, Bool.and_eq_true] at f
    rw [List.countP_cons, List.countP_cons, count_eqU ry fy t f.2, eqU_of r f.1]
theorem mt_countF : MtR X "list.count" (rCntF X.K) := by
  intro pins s σ H x xs v us Q I rx rxs h
  obtain ⟨a, ys, y, rfl, rfl, hs, fy, fys, q⟩ := h
  cases rx
  obtain ⟨u, rfl, ru⟩ := rxs.one
  obtain ⟨its, rv, ⟨⟨cls, dd, data, sl⟩, n, ho, hc, hdn, hd⟩, hlen⟩ := I.list hs
  simp only at hc hd
  subst hc hd
  refine call_meets PySem.F.slot_list_count ⟨_, ho, rfl⟩ PySem.F.entry_list_count (PySem.F.args_list_count_2 _ _)
    (SeqAt.list_countAt a its.toArray n dd sl u (eqU y)) ⟨ho, fun u' hu' => mem_eqAt ru fy rv fys u' (by simpa using hu'), ?_⟩
  have ec : its.toArray.toList.countP (eqU y) = ys.countP (fun z => eqV z y) := count_eqU ru fy rv fys
  refine ⟨.int (ys.countP (fun z => eqV z y) : Nat), H, I.tok _, ⟨s.toks, ?_⟩, q⟩
  show Value.int ((its.toArray.toList.countP (eqU y) : Nat) : Int) s.toks = Value.int ((ys.countP (fun z => eqV z y) : Nat) : Int) s.toks
  rw [ec]
def countR (c x : D) : R D := match c with
  | .lst xs => if xs.all numD && numD x then .ok (.int (xs.countP (fun z => eqD z x) : Nat)) else .bad
  | _ => .bad
def indexN (c x : D) : R D := match c with
  | .lst xs => if xs.all numD && numD x then (ofO (indexL x xs)).bind fun j => .ok (.int (j : Nat)) else .bad
  | _ => .bad
def opL (f : D → D → R D) (a b : R D) : R D := a.bind fun x => if isList x = true then b.bind (f x) else .bad
theorem ev_lmeth {name : Str} {r : V → List V → Hp → VK → Prop} {f : D → D → R D} {o : Expr} {pa pp : Pos} (hm : PE X (.Call (.Attribute o name pa) [e] [] pp) (tBM X.K "list" r (wpE X o) (tCons (wpE X e) tNil)))
    (hf : ∀ P H H0 σ ds vs a y v Q, Same P H → H a = some (.lst vs) → RepAll X.K T P ds vs → RepM X.K T .B H0 P H y v → Post X.K T W .F P H σ (f (.lst ds) y) Q → r (.ref a) [v] H Q) (ho : Ev X T W .B ρ o da) (he : Ev X T W .B ρ e db) :
    Ev X T W .F ρ (.Call (.Attribute o name pa) [e] [] pp) (opL f da db) := fun P H σ Q S q => by
  refine wpE_of hm ?_
  refine ev_bind ho S q fun x v P1 H1 e1 S1 r1 q1 => ?_
  cases x with
  | lst ds =>
    obtain ⟨a, vs, rfl, h1, h2⟩ := B_lst S1.sub r1
    refine ⟨.inl ⟨rfl, _, .inl (.inl h1)⟩, ?_⟩
    refine ev_bind he S1 q1 fun y w P2 H2 e2 S2 r2 q2 => ?_
    exact hf P2 H2 _ σ ds vs a y w Q S2.sub (e2.hh _ _ h1) (RepAll.mono e2.pp _ _ h2) r2 q2
  | _ => exact q1.elim
theorem does_count : ∀ P H H0 σ ds vs a y v Q, Same P H → H a = some (.lst vs) → RepAll X.K T P ds vs → RepM X.K T .B H0 P H y v → Post X.K T W .F P H σ (countR (.lst ds) y) Q → rCntF X.K (.ref a) [v] H Q := fun P H H0 σ ds vs a y v Q hs h1 h2 h3 q => by
  unfold countR at q
  dsimp only at q
  split at q
  case isFalse => exact q.elim
  case isTrue hc =>
  obtain ⟨c1, c2⟩ := Bool.and_eq_true_iff.mp hc
  have e1 := numVs_of c1 h2
  have e2 := numV_B c2 h3
  subst e1 e2
  refine ⟨a, _, _, rfl, rfl, SqL.of h1, numV_flat c2, numVs_flat c1, ?_⟩
  have e : (ds.map numV).countP (fun z => eqV z (numV y)) = ds.countP (fun z => eqD z y) := by
    clear q h1 h2
    induction ds with
    | nil => rfl
    | cons d ds ih =>
      rw [List.all_cons, Bool.and_eq_true] at c1
      rw [List.map_cons, List.countP_cons, List.countP_cons, ih (by rw [c1.2, c2]; rfl) c1.2, numV_eq c1.1 c2]
  rw [e]
  exact postI hs q
theorem index_of {y : D} (hy : numD y = true) : ∀ {ds : List D} {j : Nat}, ds.all numD = true → indexL y ds = some j → ∃ z, (ds.map numV)[j]? = some z ∧ eqV z (numV y) = true ∧ ∀ (m : Nat) (z' : V), m < j → (ds.map numV)[m]? = some z' → eqV z' (numV y) = false
  | [], j, _, h => by cases h
  | d :: ds, j, c, h => by
    rw [List.all_cons, Bool.and_eq_true] at c
    unfold indexL at h
    by_cases e : eqD d y = true
    · rw [if_pos e] at h
      cases h
      exact ⟨numV d, rfl, by rw [numV_eq c.1 hy]; exact e, fun m z' hm => absurd hm (Nat.not_lt_zero _)⟩
    · rw [if_neg e] at h
      cases hq : indexL y ds with
      | none => rw [hq] at h; cases h
      | some i =>
        rw [hq] at h
        cases h
        obtain ⟨z, h1, h2, h3⟩ := index_of hy c.2 hq
        refine ⟨z, by simpa using h1, h2, fun m z' hm hz => ?_⟩
        cases m with
        | zero =>
          simp at hz
          subst hz
          rw [numV_eq c.1 hy]
          exact Bool.eq_false_iff.mpr e
        | succ m => exact h3 m z' (Nat.lt_of_succ_lt_succ hm) (by simpa using hz)
theorem does_index : ∀ P H H0 σ ds vs a y v Q, Same P H → H a = some (.lst vs) → RepAll X.K T P ds vs → RepM X.K T .B H0 P H y v → Post X.K T W .F P H σ (indexN (.lst ds) y) Q → rIndex X.K (.ref a) [v] H Q := fun P H H0 σ ds vs a y v Q hs h1 h2 h3 q => by
  unfold indexN at q
  dsimp only at q
  split at q
  case isFalse => exact q.elim
  case isTrue hc =>
  obtain ⟨c1, c2⟩ := Bool.and_eq_true_iff.mp hc
  have e1 := numVs_of c1 h2
  have e2 := numV_B c2 h3
  subst e1 e2
  cases hq : indexL y ds with
  | none => rw [hq] at q; exact q.elim
  | some j =>
    rw [hq] at q
    obtain ⟨z, g1, g2, g3⟩ := index_of c2 c1 hq
    exact ⟨a, _, _, j, z, rfl, rfl, SqL.of h1, numV_flat c2, numVs_flat c1, g1, g2, g3, postI hs q⟩
end
/-! ### the law's def that names an exception's kind -/
def kindS (c : Nat) : List Nat := if c = 0 then [116, 104, 105, 110, 103] else if c = 1 then [114, 111, 119] else if c = 2 then [110, 117, 109, 98, 101, 114] else [108, 105, 110, 101]
structure KindOf (P : Program) (w : World) (K : PySem.W.Frag) (mg : Str → Option Value) (base : Heap) (T : Tb) (k : Nat) (x : Str) (f : Addr) : Prop where
  ex : ∃ (fd : FuncData) (pnm : Str), Binds K fd [pnm] [] ∧ ∀ (A : Around) (outer : List Env) (s : Shared) (H : Hp) (args : Args) (us : List Value) (a : Addr) (oe : Obj) (c : Nat) (Dc : Addr) (Q : VK) (E : XK), L2H.RoomH k A → L2H.PinOk outer H s (a, oe) → Env0 P w K mg base A outer s H →
    BindsTo s fd args ([pnm].zip us) → Vals [.ref a] us → c < 4 → T.cl c = some Dc → Zc (.ref Dc) Option.none oe → (∃ vs, oe.data = .fields vs) → (∀ H', Same H H' → Q (strV (kindS c)) H') → codeAny (model P w) A (.call (.ref f) args) (CR (L2.CX P w) outer P w H s Q E) s
  gl : mg x = some (.ref f)
  kp : PySem.W.keepIn K (.ref f) = true
theorem KindOf.mono {P : Program} {w : World} {K : PySem.W.Frag} {mg : Str → Option Value} {base : Heap} {T : Tb} {j k : Nat} {x : Str} {f : Addr} (F : KindOf P w K mg base T j x f) (h : j ≤ k) : KindOf P w K mg base T k x f := by
  obtain ⟨⟨fd, pnm, b, r⟩, g, kp⟩ := F
  exact ⟨⟨fd, pnm, b, fun A outer s H args us a oe c Dc Q E hr => r A outer s H args us a oe c Dc Q E (hr.mono h)⟩, g, kp⟩
/-- its call within an except suite -/
theorem wp_kind {X : Cx} {T : Tb} {k i c : Nat} {x n : Str} {f a Dc : Addr} {oe : Obj} {p p2 pos : Pos} {σ : L2.St} {H : Hp} {Q : VK} (Kd : KindOf X.prog X.w X.K X.mg X.base T k x f) (hr : L2H.RoomH k X.A) (hp : (a, oe) ∈ X.pn) (hg : Gl X x) (hN : X.N[i]? = some n) (hv : Vis X.env.scope n) (hd : (n == ("__debug__" : Str)) = false) (hcd : (n == ("__classdict__" : Str)) = false)
    (hdb : (x == ("__debug__" : Str)) = false) (he : starEach [.Name n p2] X.env = (false, eval (.Name n p2) X.env) :: starEach [] X.env) (hpl : (backTo pos (starEach [] X.env)).any (·.1) = false) (hs : σ[i]? = some (some (.ref a))) (hc : c < 4) (hcl : T.cl c = some Dc) (hz : Zc (.ref Dc) Option.none oe) (hf : ∃ vs, oe.data = .fields vs)
    (h : ∀ H', Same H H' → Q (strV (kindS c)) H') : wpE X (.Call (.Name x p) [.Name n p2] [] pos) σ H Q := fun pins s I => by
  obtain ⟨⟨fd, pnm, hb, R⟩, g, kp⟩ := Kd
  refine wpAny_Call_Name_kw (ld_glob I hg g ?_ hdb)
  refine PySem.W.callWith_K (h₀ := X.base) I.ok.mod.kin kp (thn ((pa_cons (pe_var (i := i) hN hv hd hcd) pa_nil he).run pos pins s σ H (fun vs H1 => vs = [.ref a] ∧ H1 = H) I ⟨_, hs, rfl, rfl⟩) fun us s1 hh => ?_) he hpl
  obtain ⟨vs, H1, I1, r, rfl, rfl⟩ := hh
  refine ⟨I1.kIn, ?_⟩
  have b := hb s1 us I1.kIn (by rw [List.append_nil]; exact r.length.symm)
  rw [List.append_nil] at b
  have P1 := I1.pin (a, oe) (List.mem_append_left _ hp)
  have hpin : L2H.PinOk X.stack H1 s1 (a, oe) := ⟨P1.1, P1.2.1, fun hm => (List.mem_cons.mp (I1.stkSub a hm)).elim P1.2.2.1 P1.2.2.2.1, P1.2.2.2.2⟩
  refine wpAny_call (codeAny_mono (R X.A X.stack s1 H1 ⟨us, []⟩ us a oe c Dc Q (fun _ _ _ => False) hr hpin I1.env0 b r hc hcl hz hf h) fun r s' hq => ?_)
  cases r with
  | error e =>
    obtain ⟨_, _, _, _, _, _, _, _, _, _, _, _, h⟩ := hq
    exact h.elim
  | ok fl =>
    cases fl with
    | ret u => exact I1.after hq
    | next => exact False.elim hq
    | brk => exact False.elim hq
    | cont => exact False.elim hq
/-! ### try: return e, except X as n: return kind(n) -/
def tryK {S B : Type} (os : List D) (r : R D) : R (Fl S B) := match r with
  | .ok v => .ok (.rt v os)
  | .ex (.exc c []) => if c < 4 then .ok (.rt (.str (kindS c)) os) else .bad
  | _ => .bad
@[simp] theorem tryK_ok {S B : Type} (os : List D) (v : D) : (tryK os (.ok v) : R (Fl S B)) = .ok (.rt v os) := id rfl
section
variable {X : Cx} {T : Tb} {Wout : WX} {k j : Nat} {ρ : List C} {e : Expr} {da : R D} {pos p p2 p3 pos' np : Pos} {n x : Str} {fr : Bool} {i : Nat}
variable {S B : Type} {ios : List Nat} {mkN : S → List C} {mkB : B → List C} {rest : List Stmt}
theorem kindS_nc (c : Nat) : flatD (.str (kindS c)) = true := rfl
theorem ss_tryK {os : List D} {f J : Addr} {kx xn : Str} {pk pn2 pr pc : Pos} (g : Gd X k) (Kd : KindOf X.prog X.w X.K X.mg X.base T j kx f) (hj : j ≤ k) (tk : Takes X Wout) (hio : ios.contains i = false) (ho : outsOf ρ ios = some os)
    (hst : X.stack = X.env :: X.outer) (hfr : X.env.frame = some X.env.locals) (hN : X.N[i]? = some n) (hln : X.env.kindOf n = some .local) (hun : ρ[i]? = some .un) (hc : Names X xn (.ref J)) (hcl : ∀ c C, T.cl c = some C → c < 4 → PySem.W.exmOne X.K (.ref C) (.ref J) = some true)
    (hv : Vis X.env.scope n) (hd : (n == ("__debug__" : Str)) = false) (hcd : (n == ("__classdict__" : Str)) = false) (hdb : (kx == ("__debug__" : Str)) = false) (hg : Gl X kx)
    (hb : ∀ (W : WX) (pn : List (Addr × Obj)) (xe : Value → Shared → Prop), Gd (X.tr pn xe) k → Takes (X.tr pn xe) W → PassesOwn (model X.prog X.w) X.A X.env xe → Ev (X.tr pn xe) T W (md fr) ρ e da)
    (he : ∀ (X' : Cx), X'.env = X.env → starEach [.Name n pn2] X'.env = (false, eval (.Name n pn2) X'.env) :: starEach [] X'.env) (hpl : ∀ (X' : Cx), (backTo pc (starEach [] X'.env)).any (·.1) = false) :
    Ss X T Wout fr ios mkN mkB ρ (.Try [.Return (some e) pr] [.ExceptHandler (some (.Name xn np)) (some n) [.Return (some (.Call (.Name kx pk) [.Name n pn2] [] pc)) p3] pos'] [] [] pos :: rest) (tryK os da) := fun z P H σ D1 hz Z h => by
  let tb : WX → TS := fun W D σ H => ∃ P, Sim X.K T P H σ ρ ∧ Post X.K T W (md fr) P H σ da (fun w H1 => D.rt w H1)
  let ts : Addr → Value → Option Addr → TS := fun a cls d D σ H => σ[i]? = some (some (.ref a)) ∧ ∃ c Dc, c < 4 ∧ T.cl c = some Dc ∧ cls = .ref Dc ∧ d = Option.none ∧ ∀ H', Same H H' → D.rt (strV (kindS c)) H'
  refine wpSs_of (pss_cons (ps_try_as (i := i) (tb := tb) (ts := ts) hst hfr g.nd hN hln hc tk (fun W pn xe tk' po => ?_) (fun a oe cls d pn hz hf => ?_)) (ssw (st := rest))) ?_
  · exact ⟨fun pins s σ H D I ⟨P, S, q⟩ => (pss_cons (ps_ret pw) (ssw (st := []))).run pins s σ H D I (hb W pn xe ⟨g.calm, g.nd, g.room, g.bi⟩ tk' po P H σ _ S q)⟩
  · exact ⟨fun pins s σ H D I ⟨h1, c, Dc, h2, h3, h4, h5, h6⟩ => by
      subst h4 h5
      exact (pss_cons (ps_ret pw) (ssw (st := []))).run pins s σ H D I (wp_kind (X := X.suite a ((a, oe) :: pn)) (Kd.mono hj) ⟨g.room.dp, g.room.un⟩ List.mem_cons_self hg hN hv hd hcd hdb (he _ rfl) (hpl _) h1 h2 h3 hz hf h6)⟩
  · refine ⟨P, Z.sim, ?_⟩
    cases da with
    | bad => exact h
    | ok v =>
      intro w P1 H1 e1 r1
      have Z1 := Z.ext e1
      exact h P1 H1 w ⟨Z1.sim.sub, Z1.frame, Z1.pp, Z1.nw, fresh_back Z r1, outs_of Z1 (fun p hp => hp) (by rw [hz]; exact ho)⟩
    | ex x =>
      cases x with
      | exc c fs =>
        cases fs with
        | cons _ _ => exact h.elim
        | nil =>
          intro cls dd H' hs' hr
          obtain ⟨Dc, h1, rfl, h2 | ⟨h2, _⟩⟩ := hr
          · obtain ⟨_, rfl⟩ := h2
            have h : PostS X.K T Wout fr mkN mkB z (if c < 4 then (.ok (.rt (.str (kindS c)) os) : R (Fl S B)) else .bad) D1 := h
            split at h
            case isFalse => exact h.elim
            case isTrue hlt =>
            refine ⟨true, hcl c Dc h1 hlt, fun _ a ha => ⟨?_, c, Dc, hlt, h1, rfl, rfl, fun H2 hs2 => ?_⟩, fun hh => nomatch hh⟩
            · have hi : i < σ.length := by rw [← Z.sim.len]; exact (List.getElem?_eq_some_iff.mp hun).1
              exact List.getElem?_set_self hi
            · have hh := hs'.trans hs2
              have Z2 := Z.ext (⟨Same.refl _, hh, Z.sim.sub.trans hh, fun _ _ h => h⟩ : Ext P H P H2)
              refine h P H2 _ ⟨Z2.sim.sub, Z2.frame, Z2.pp, Z2.nw, ?_, outs_of Z2 (fun p hp => hp) (by rw [hz]; exact ho)⟩
              cases fr <;> (unfold md RepM; first | exact (by unfold Rep; rfl) | (dsimp only; rw [if_neg (show ¬ cont (.str (kindS c)) = true from Bool.false_ne_true)]; unfold Rep; rfl))
          · exact absurd rfl h2
      | _ => exact h.elim
end
/-! ### rules that hold within a suite's calls, too -/
structure GdH (X : Cx) (k : Nat) : Prop where
  nd : X.N.Nodup
  room : L2H.RoomH k X.A
  bi : Bi X.mg
section
variable {X : Cx} {T : Tb} {W : WX} {k j : Nat} {ρ : List C} {a b c e : Expr} {es : List Expr} {da db : R D} {pos p p2 p3 px : Pos} {m : Md} {x y n : Str} {fr : Bool} {i : Nat}
variable {S B : Type} {ios : List Nat} {mkN : S → List C} {mkB : B → List C} {rest body : List Stmt}
theorem op_neH (g : GdH X k) : OpR X (compareOp .NotEq) (rNeD X.K) := op_neD (by have := g.room.un; omega)
theorem ss_asgH {pos' : Pos} {F : D → R (Fl S B)} (g : GdH X k) (hi : X.N[i]? = some x) (hx : Loc X.env.scope x) (hf : X.fn x = true ∨ X.env.scope.names.lookup x = some .local) (hs : swapsWith e (some (.Name x pos')) pos.line X.env = pure false) (hio : ios.contains i = false)
    (he : Ev X T W .P ρ e da) (hr : ∀ v, Ss X T W fr ios mkN mkB (ρ.set i (.val v)) rest (F v)) : Ss X T W fr ios mkN mkB ρ (.Assign [.Name x pos'] e pos :: rest) (da.bind F) := fun z P H σ D1 hz Z h => by
  refine wpSs_of (pss_cons (ps_set g.nd hi hx pw hs hf) ssw) ?_
  refine ss_bind he Z h fun v w P1 H1 e1 Z1 r1 q1 => ?_
  exact hr v z P1 H1 _ D1 hz (Z1.set (io_ne hz hio) r1) q1
theorem ev_ixH (ha : Ev X T W .B ρ a da) (hb : Ev X T W .B ρ b db) (hs : PlainIx b) : Ev X T W .P ρ (.Subscript a b pos) (op2 idxR0 da db) := fun P H σ Q S q => by
  refine wpE_of (pe_ix (ix_seq (X := X)) pw pw hs) ?_
  refine ev_bind ha S q fun x v P1 H1 e1 S1 r1 q1 => ?_
  refine ev_bind hb S1 q1 fun y w P2 H2 e2 S2 r2 q2 => ?_
  exact idx0_of S2.sub (r1.to e2 (by simp)) r2 q2
/-- isinstance(e, X), e the exception that the def is handed -/
theorem call_isEp {a D : Addr} {oe : Obj} (hp : (a, oe) ∈ X.pn) (C : ExcC X.K D) (hz : Zc (.ref D) none oe) (hf : ∃ vs, oe.data = .fields vs) : CallR X (.builtin "isinstance") (rIsE X.K D a) := by
  intro pins s σ H xs us Q I r h
  obtain ⟨c, cv, b, rfl, hcv, e, q⟩ := h
  cases r with
  | cons rx rr =>
    cases rr with
    | cons rt rr =>
      cases rr
      cases rx
      have ec := hcv _ rt
      subst ec
      obtain ⟨hget, _⟩ := I.pin (a, oe) (List.mem_append_left _ hp)
      obtain ⟨vs, hv⟩ := hf
      have J : PySem.W.InstAt s.heap a oe D none := by
        obtain ⟨oc, od, oda, osl⟩ := oe
        obtain ⟨h1, h2⟩ := hz
        dsimp only at h1 h2 hv
        subst h1 h2 hv
        exact ⟨hget, rfl, rfl, trivial⟩
      exact PySem.W.kia_one (PySem.W.handS_kitx_exc C.hg C.hk C.hs C.hd C.ha C.hn C.ht C.hm) I.kIn J e (fun z => nomatch z) fun tk => ⟨.bl b, H, I.kept (t' := tk) fun _ _ z => z, rfl, q⟩
theorem ev_isE {ad Dc : Addr} {oe : Obj} {cn : Nat} {fs : List D} {u : V} {cv : Value} {bb : Bool} (hp : (ad, oe) ∈ X.pn) (Ce : ExcC X.K Dc) (hz : Zc (.ref Dc) none oe) (hf : ∃ vs, oe.data = .fields vs) (hT : T.xe = some (ad, cn)) (he : Ev X T W .P ρ a (.ok (.exc cn fs)))
    (hC : PE X b (tC u)) (hu : ∀ u', RelV u u' → u' = cv) (hk : PySem.W.kitOne X.K (.ref Dc) cv = some bb) (hg : Gl X "isinstance") (hm : X.mg "isinstance" = none)
    (hs : starEach [a, b] X.env = (false, eval a X.env) :: starEach [b] X.env) (hs2 : starEach [b] X.env = (false, eval b X.env) :: starEach [] X.env) (hpl : (backTo pos (starEach [b] X.env)).any (·.1) = false) : Ev X T W .F ρ (.Call (.Name "isinstance" p) [a, b] [] pos) (.ok (.bl bb)) := fun P H σ Q S q => by
  refine wpE_of (pe_callB (call_isEp hp Ce hz hf) hg hm boot_isinstance (pa_cons pw (pa_cons hC pa_nil hs2) hs) (by decide) (by decide) hs hpl) ?_
  refine he P H σ _ S ?_
  intro w P1 H1 e1 r1
  have r1 : Rep X.K T P1 (.exc cn fs) w := r1
  unfold Rep at r1
  obtain ⟨a2, h1, rfl⟩ := r1
  rw [hT] at h1
  cases h1
  exact ⟨u, cv, bb, rfl, hu, hk, q _ P1 H1 e1 (by show RepM X.K T .F _ _ _ _ _; unfold RepM; dsimp only; rw [if_neg (show ¬ cont (.bl bb) = true from Bool.false_ne_true)]; unfold Rep; rfl)⟩
end
def isM (c j : Nat) : R D := .ok (.bl (c == j))
def kindB (c : Nat) : R (Fl Unit Empty) := (lstE [isM c 0, isM c 1, isM c 2, isM c 3]).bind fun v1 => (op2 addR (.ok v1) (lstE [isM c 4, isM c 5, isM c 6])).bind fun v2 =>
  ifE (orT (notT (op1 truT (.ok (.bl true)))) (op2 neR (opL countR (.ok v2) (.ok (.bl true))) (.ok (.int 1)))) (endR ((R.ok (.str [111, 116, 104, 101, 114])).bind fun v => .ok (.rt v [])))
    ((op2 idxR0 (lstE [R.ok (.str [116, 104, 105, 110, 103]), R.ok (.str [114, 111, 119]), R.ok (.str [110, 117, 109, 98, 101, 114]), R.ok (.str [108, 105, 110, 101]), R.ok (.str [111, 114, 100, 101, 114]), R.ok (.str [116, 101, 120, 116]), R.ok (.str [103, 114, 101, 97, 116])]) (opL indexN (.ok v2) (.ok (.bl true)))).bind fun v => .ok (.rt v []))
theorem kindB_eq {c : Nat} (hc : c < 4) : kindB c = .ok (.rt (.str (kindS c)) []) := by
  have : c = 0 ∨ c = 1 ∨ c = 2 ∨ c = 3 := by omega
  rcases this with rfl | rfl | rfl | rfl <;> rfl
/-- what is told of the text's classes of exceptions -/
structure KnK (K : PySem.W.Frag) (mg : Str → Option Value) (cs : Nat → Addr) (J : Addr) : Prop where
  g0 : mg "NoThing" = some (.ref (cs 0))
  g1 : mg "NoRow" = some (.ref (cs 1))
  g2 : mg "NoNumber" = some (.ref (cs 2))
  g3 : mg "NoLine" = some (.ref (cs 3))
  g4 : mg "NoOrder" = some (.ref (cs 4))
  g5 : mg "NoText" = some (.ref (cs 5))
  g6 : mg "TooGreat" = some (.ref (cs 6))
  gJ : mg "JumpError" = some (.ref J)
  ve : mg "ValueError" = none
  kit : ∀ c j, c < 4 → j < 7 → PySem.W.kitOne K (.ref (cs c)) (.ref (cs j)) = some (c == j)
  kitV : ∀ c, c < 4 → PySem.W.kitOne K (.ref (cs c)) (.type "ValueError") = some true
  exm : ∀ c, c < 4 → PySem.W.exmOne K (.ref (cs c)) (.ref J) = some true
  ec : ∀ c, c < 4 → ExcC K (cs c)
def clT (cs : Nat → Addr) : Nat → Option Addr := fun c => if c < 7 then some (cs c) else none
/-- the def, by its body -/
theorem kind_fn {P : Program} {w : World} {K : PySem.W.Frag} {mg : Str → Option Value} {base : Heap} {k : Nat} {f : Addr} {fd : FuncData} {x qual pnm : Str} {st : Stmt} {N : List Str} {T : Tb} {cs : Nat → Addr} {mkN : Unit → List C} {mkB : Empty → List C} {r : Nat} (hF : L2.Fun K x qual st f fd) (Sc : FnScope N [pnm] (defScope st)) (hb : Binds K fd [pnm] []) (hg : mg x = some (.ref f)) (bi : Bi mg) (hT : T.cl = clT cs) (hN : N.length = 1 + r)
    (hbody : ∀ (cdv : Value) (A : Around) (outer : List Env) (s : Shared) (H : Hp) (E : XK) (a : Addr) (oe : Obj) (c : Nat) (T' : Tb), c < 4 → GdH (L2H.cxH (L2.CX P w) P w K mg base N qual (defScope st) f cdv A outer s H E (a, oe)) k → Zc (.ref (cs c)) none oe → (∃ vs, oe.data = .fields vs) → T'.xe = some (a, c) →
      Ss (L2H.cxH (L2.CX P w) P w K mg base N qual (defScope st) f cdv A outer s H E (a, oe)) T' (WE0 E) false [] mkN mkB (C.val (.exc c []) :: uns r) (defBody st) (kindB c)) : KindOf P w K mg base T (k + 1) x f := by
  refine ⟨⟨fd, pnm, hb, fun A outer s H args us a oe c Dc Q E hr hpin e0 hbd r0 hc hcl hz hf h => ?_⟩, hg, hF.kp⟩
  have hDc : Dc = cs c := by
    rw [hT] at hcl
    unfold clT at hcl
    rw [if_pos (by omega)] at hcl
    exact (Option.some.inj hcl).symm
  subst hDc
  obtain ⟨oc, od, kV, doc, pm, an, cdv, ct, osl, rfl, lk, hcd⟩ := hF.ex
  have KX : K.In s.heap := e0.mod.kin.keeps fun b o e => (e0.bs b o e).1
  have lim : s.heap.NoLimit := e0.mod.nolimit.keeps fun b o e => (e0.bs b o e).1
  have hkind : ∀ y ∈ [pnm].zip us, (defScope st).names.lookup y.1 = some .local ∨ ((defScope st).names.lookup y.1 = some .cell ∧ ((cellsFrom (s.heap.objs.size + 1) (defScope st).names []).lookup y.1).isSome = true) := fun ⟨n, v⟩ hy => by
    rcases Sc.par n (List.of_mem_zip hy).1 with q | q
    · exact .inl q
    · exact .inr ⟨q, PySem.W.cellsFrom_some _ _ _ (.inl q)⟩
  refine codeAny_call_function hr.depth (KX _ _ lk) rfl Sc.co Sc.gen rfl (PySem.W.codeRec_of KX hcd) (hbd _ _ _ _ ?_)
  refine wpAny_newFunctionEnv_cells Sc.kind hkind fun env he s1 x => ?_
  subst he
  refine ⟨lim.keeps x.toInCall.keep, codeAny_func ?_⟩
  have I : Inv (L2H.cxH (L2.CX P w) P w K mg base N qual (defScope st) f cdv A outer s H E (a, oe)) [] (L2.start N [.ref a]) H s1 := L2H.inv_startH Sc hpin e0 rfl r0 x
  have hst : L2.start N [.ref a] = some (V.ref a) :: List.replicate r none := by
    unfold L2.start
    rw [show N.length - [V.ref a].length = r by rw [hN]; simp]
    rfl
  have Z : SimZ K ⟨fun _ => none, fun _ => none, some (a, c)⟩ ⟨fun _ => none, H, []⟩ (fun _ => none) H (L2.start N [.ref a]) (C.val (.exc c []) :: uns r) := by
    rw [hst]
    refine ⟨⟨fun b o h => (nomatch h), by simp [uns], fun i cc v h1 h2 => ?_, fun i j d e b h1 => ?_⟩, fun b o h _ => h, Same.refl _, fun b _ h => h, fun i d b h1 _ => ?_, fun p hp => nomatch hp⟩
    · cases i with
      | zero =>
        simp at h1 h2
        subst h1 h2
        exact ⟨_, rfl, by unfold Rep; exact ⟨a, rfl, rfl⟩⟩
      | succ i =>
        rw [List.getElem?_cons_succ] at h1
        unfold uns at h1
        rw [List.getElem?_replicate] at h1
        split at h1
        · cases h1; trivial
        · cases h1
    · cases i with
      | zero => simp at h1
      | succ i =>
        rw [List.getElem?_cons_succ] at h1
        unfold uns at h1
        rw [List.getElem?_replicate] at h1
        split at h1 <;> cases h1
    · cases i with
      | zero => simp at h1
      | succ i =>
        rw [List.getElem?_cons_succ] at h1
        unfold uns at h1
        rw [List.getElem?_replicate] at h1
        split at h1 <;> cases h1
  have B := hbody cdv A outer s H E a oe c ⟨fun _ => none, fun _ => none, some (a, c)⟩ hc ⟨Sc.nd, hr.deeper _, bi⟩ hz hf rfl _ _ H _ { nx := fun _ H' => Q .non H', rt := Q } rfl Z (by
    rw [kindB_eq hc]
    intro P1 H1 w1 rz
    have rr := rz.rep
    have e : w1 = strV (kindS c) := by
      have rr : Rep K ⟨fun _ => none, fun _ => none, some (a, c)⟩ P1 (.str (kindS c)) w1 := rr
      unfold Rep at rr; exact rr
    subst e
    exact h H1 fun b o hb => rz.frame b o hb fun p hp => nomatch hp)
  refine wpAny_mono (B [] s1 I) (fun fl s' hs => ?_) fun e s' hs => hs
  have fin : ∀ {σ' : L2.St} {H' : Hp} {v : V} {u : Value}, Inv (L2H.cxH (L2.CX P w) P w K mg base N qual (defScope st) f cdv A outer s H E (a, oe)) [] σ' H' s' → RelV v u → Q v H' → CE outer P w H s Q u s' :=
    fun {σ' H' v u} J rv q => ⟨v, H', J.os, J.bare, J.base, J.hok, rv, q⟩
  cases fl with
  | ret u =>
    obtain ⟨v, σ', H', J, rv, q⟩ := hs
    exact fin J rv q
  | next =>
    obtain ⟨σ', H', J, q⟩ := hs
    exact fin (v := V.non) (u := Value.none) J rfl q
  | brk =>
    obtain ⟨_, _, _, q⟩ := hs
    exact False.elim q
  | cont =>
    obtain ⟨_, _, _, q⟩ := hs
    exact False.elim q
/-! ### facts of the classes -/
theorem kit_of {K : PySem.W.Frag} {a b : Addr} {v : Bool} (h1 : PySem.W.isClsIn K b = true) (h2 : PySem.W.typeIn K (.ref b) = some (.type "type")) (h3 : PySem.W.subIn K (.ref a) (.ref b) = some v) (h4 : PySem.W.subIn K (.ref a) (.ref a) = some true) : PySem.W.kitOne K (.ref a) (.ref b) = some v := by
  have h1 : (PySem.W.clsIn K b).isSome = true := h1
  unfold PySem.W.kitOne
  split
  · rename_i e
    have : a = b := Value.ref.inj (beq_iff_eq.mp e)
    subst this
    rw [h3] at h4
    exact h4.symm
  · show (if ((PySem.W.clsIn K b).isSome && PySem.W.typeIn K (.ref b) == some (.type "type")) = true then PySem.W.subIn K (.ref a) (.ref b) else none) = some v
    rw [h1, h2, if_pos (show (true && some (Value.type "type") == some (.type "type")) = true by decide +kernel)]
    exact h3
theorem kit_ve {K : PySem.W.Frag} {a : Addr} (h : PySem.W.subIn K (.ref a) (.type "ValueError") = some true) : PySem.W.kitOne K (.ref a) (.type "ValueError") = some true := by
  unfold PySem.W.kitOne
  rw [if_neg (fun e => nomatch (beq_iff_eq.mp e : Value.ref a = Value.type "ValueError"))]
  show (if PySem.W.kitMeta "ValueError" = true then PySem.W.subIn K (.ref a) (.type "ValueError") else none) = some true
  rw [if_pos (by decide +kernel)]
  exact h
theorem exm_of4 {K : PySem.W.Frag} {a J : Addr} (h1 : PySem.W.isClsIn K J = true) (h2 : PySem.W.typeIn K (.ref J) = some (.type "type")) (h3 : PySem.W.subIn K (.ref J) (.type "BaseException") = some true) (h4 : PySem.W.subIn K (.ref a) (.ref J) = some true) : PySem.W.exmOne K (.ref a) (.ref J) = some true := by
  have h1 : (PySem.W.clsIn K J).isSome = true := h1
  unfold PySem.W.exmOne
  rw [h3, if_pos (by decide +kernel)]
  show (if ((PySem.W.clsIn K J).isSome && PySem.W.typeIn K (.ref J) == some (.type "type")) = true then PySem.W.subIn K (.ref a) (.ref J) else none) = some true
  rw [h1, h2, if_pos (show (true && some (Value.type "type") == some (.type "type")) = true by decide +kernel)]
  exact h4
end Fj

/-! ## Lay21 -/
namespace Fj
open PySem PySem.Spec PyProof.Rows L2
/-- the law's promise, whatever table is at hand -/
def spE (K : PySem.W.Frag) (fr : Bool) (m : List D → R D) : Sp := fun vs H Q E => ∀ T : Tb, spI K T fr [] 1 (pureM m) vs H Q E
theorem law_endE {K : PySem.W.Frag} {fr : Bool} {m : List D → R D} {H : Hp} {a : Addr} {ns : List Int} (hS : SqL K H a (ns.map V.int)) (h : m [.scr ns] = .ok (.bl true)) :
    spE K fr m [V.ref a] H (fun v _ => v = V.bl true) (fun _ _ _ => False) := fun T => law_end hS h
theorem hcl_of {K : PySem.W.Frag} {mg : Str → Option Value} {T : Tb} {cs : Nat → Addr} {J : Addr} (hT : T.cl = clT cs) (Kn : KnK K mg cs J) : ∀ c C, T.cl c = some C → c < 4 → PySem.W.exmOne K (.ref C) (.ref J) = some true := fun c C h hc => by
  rw [hT] at h
  unfold clT at h
  rw [if_pos (by omega)] at h
  rw [← Option.some.inj h]
  exact Kn.exm c hc
/-! ### defs as values -/
def selE (sel : Nat → Option (List D → R D)) (dF : R D) (dl : R (List D)) : R D := dF.bind fun d => match d with
  | .fn k => (match sel k with
    | some m => dl.bind m
    | none => .bad)
  | _ => .bad
section
variable {X : Cx} {T : Tb} {W : WX} {k j : Nat} {ρ : List C} {a b c e F : Expr} {es : List Expr} {da db dF : R D} {pos p p2 p3 : Pos} {m : Md} {x : Str} {fr : Bool} {i : Nat}
structure SelOk (P : Program) (w : World) (K : PySem.W.Frag) (mg : Str → Option Value) (base : Heap) (T : Tb) (k n : Nat) (f : Addr) (mm : List D → R D) : Prop where
  ex : ∃ fr fd ps, FnOk P w K mg base (L2.CX P w) k f fd ps (spI K T fr [] n (pureM mm)) ∧ Binds K fd ps []
  kp : PySem.W.keepIn K (.ref f) = true
theorem FD.sel {P : Program} {w : World} {K : PySem.W.Frag} {mg : Str → Option Value} {base : Heap} {j k n : Nat} {x : Str} {f : Addr} {mm : List D → R D} (F : FD P w K mg base T j x f fr [] n (pureM mm)) (h : j ≤ k) : SelOk P w K mg base T k n f mm := by
  obtain ⟨fd, ps, F1, B1⟩ := F.ex
  exact ⟨⟨fr, fd, ps, F1.mono h, B1⟩, F.kp⟩
theorem ev_callV {n : Nat} {sel : Nat → Option (List D → R D)} {ds : List (R D)} (g : Gd X k) (tk : Takes X W) (hF : Ev X T W .P ρ F dF) (hs : ∀ kk f mm, T.fn kk = some f → sel kk = some mm → SelOk X.prog X.w X.K X.mg X.base T k n f mm) (ha : EvA X T W ρ (a :: es) (allR ds)) (hn : ds.length = n)
    (heq : eval (.Call F (a :: es) [] pos) X.env = (do callWith pos (← eval F X.env) [] (backTo pos (starEach (a :: es) X.env)) (backToKw pos (keywordEach [] X.env))))
    (he : starEach (a :: es) X.env = (false, eval a X.env) :: starEach es X.env) (hpl : (backTo pos (starEach es X.env)).any (·.1) = false) : Ev X T W .P ρ (.Call F (a :: es) [] pos) (selE sel dF (allR ds)) := fun P H σ Q S q pins s I => by
  rw [heq]
  refine wpAny_bind ?_
  refine thn (hF P H σ (fun v H1 => ∃ f fr fd ps mm, v = .ref f ∧ FnOk X.prog X.w X.K X.mg X.base (L2.CX X.prog X.w) k f fd ps (spI X.K T fr [] n (pureM mm)) ∧ Binds X.K fd ps [] ∧ PySem.W.keepIn X.K (.ref f) = true ∧ wpA X (a :: es) σ H1 (fun ws H2 => spI X.K T fr [] n (pureM mm) ws H2 Q (WE W σ))) S ?_ pins s I) fun u s1 hh => ?_
  · cases dF with
    | ex z => exact fun cls dd H' s' r => q cls dd H' s' r
    | bad => exact q
    | ok d =>
    intro v P1 H1 e1 r1
    cases d with
    | fn kk =>
      have r1 : Rep X.K T P1 (.fn kk) v := r1
      unfold Rep at r1
      obtain ⟨f, h1, rfl⟩ := r1
      have q : Post X.K T W .P P H σ (match sel kk with | some m => (allR ds).bind m | none => .bad) Q := q
      cases hsel : sel kk with
      | none => rw [hsel] at q; exact q.elim
      | some mm =>
        rw [hsel] at q
        obtain ⟨⟨fr, fd, ps, F1, B1⟩, kp⟩ := hs kk f mm h1 hsel
        refine ⟨f, fr, fd, ps, mm, rfl, F1, B1, kp, ?_⟩
        have S1 := S.ext e1
        refine ha P1 H1 σ _ S1 ?_
        have q : Post X.K T W .P P H σ ((allR ds).bind mm) Q := q
        cases hv : allR ds with
        | ex z => rw [hv] at q; exact fun cls dd H' s' r => q cls dd H' (e1.hh.trans s') r
        | bad => rw [hv] at q; exact q
        | ok vs =>
        rw [hv] at q
        intro ws P2 H2 e2 rs
        have S2 := S1.ext e2
        have hl : ws.length = n := by rw [rs.length, allR_len hv, hn]
        refine ⟨hl, P2, vs, ⟨S2.sub, by rw [argC_len, List.length_map, rs.length], fun i c v h1 h2 => sim_args S2.sub 0 rs i c v h1 h2, fun i _ d _ _ h1 => absurd h1 (argC_nil_own 0 i vs d)⟩, ?_⟩
        have q : Post X.K T W .P P H σ (mm vs) Q := q
        unfold pureM
        cases hm : mm vs with
        | bad => rw [hm] at q; exact q
        | ex z =>
          rw [hm] at q
          exact fun cls dd H2 h1 h2 => q cls dd H2 (fun b o e => h1 b o ((e1.hh.trans e2.hh) b o e) fun p hp => nomatch hp) h2
        | ok d =>
          rw [hm] at q
          intro P3 H3 w rz
          have e3 : Ext P2 H2 P3 H3 := ⟨rz.pp, fun b o e => rz.frame b o e (fun p hp => nomatch hp), rz.sub, rz.nw⟩
          have eAll : Ext P H P3 H3 := (e1.trans e2).trans e3
          have rr := rz.rep
          cases fr with
          | false => exact q w P3 H3 eAll rr
          | true =>
            have rr : RepM X.K T .F H2 P3 H3 d w := rr
            unfold RepM at rr
            dsimp only at rr
            split at rr
            · rename_i hc
              obtain ⟨bb, o, rfl, t1, t2, t3, t4⟩ := rr
              have hpp : Same P3 (upd P3 bb o) := same_upd' t2
              refine q _ (upd P3 bb o) H3 ⟨eAll.pp.trans hpp, eAll.hh, fun x z hz => ?_, fun x n1 n2 => ?_⟩ ((rep_own hc).mpr ⟨bb, o, rfl, upd_same, Own.mono hpp t4⟩)
              · by_cases hx : x = bb
                · subst hx; rw [upd_same] at hz; cases hz; exact t3
                · rw [upd_ne hx] at hz; exact eAll.ph _ _ hz
              · have hx : x ≠ bb := fun e => by
                  subst e
                  exact ne_of_same (e1.hh.trans e2.hh) n1 t1
                rw [upd_ne hx]
                exact eAll.nw x n1 n2
            · exact q w P3 H3 eAll rr
    | _ => exact q.elim
  · obtain ⟨v, H1, I1, rv, f, fr, fd, ps, mm, rfl, F1, B1, kp, hA⟩ := hh
    cases rv
    exact PySem.W.callWith_K (h₀ := X.base) I1.ok.mod.kin kp (thn (hA pos pins s1 I1) fun us s2 ⟨vs, H2, I2, r, q2⟩ => ⟨I2.kIn, run_fnS F1 g.room B1 (passAt tk σ) I2 r q2⟩) he hpl
def selL : List (Nat × (List D → R D)) → Nat → Option (List D → R D)
  | [], _ => none
  | (j, m) :: r, k => if k = j then some m else selL r k
def SelAll (P : Program) (w : World) (K : PySem.W.Frag) (mg : Str → Option Value) (base : Heap) (T : Tb) (k n : Nat) (l : List (Nat × (List D → R D))) : Prop := ∀ kk f mm, T.fn kk = some f → selL l kk = some mm → SelOk P w K mg base T k n f mm
theorem sel_nil {P : Program} {w : World} {K : PySem.W.Frag} {mg : Str → Option Value} {base : Heap} {k n : Nat} : SelAll P w K mg base T k n [] := fun _ _ _ _ h => nomatch h
theorem sel_cons {P : Program} {w : World} {K : PySem.W.Frag} {mg : Str → Option Value} {base : Heap} {k n j : Nat} {f : Addr} {mm : List D → R D} {l : List (Nat × (List D → R D))} (hV : T.fn j = some f) (h : SelOk P w K mg base T k n f mm) (hr : SelAll P w K mg base T k n l) : SelAll P w K mg base T k n ((j, mm) :: l) := fun kk f' mm' h1 h2 => by
  unfold selL at h2
  split at h2
  · rename_i e
    subst e
    rw [hV] at h1
    cases h1
    cases h2
    exact h
  · exact hr kk f' mm' h1 h2
/-! ### comprehensions over triples -/
theorem rep3 {K : PySem.W.Frag} {P : Hp} {d d2 d3 : D} {v : V} (r : Rep K T P (.tup [d, d2, d3]) v) : ∃ t u w y, v = .ref t ∧ P t = some (.tup [u, w, y]) ∧ Rep K T P d u ∧ Rep K T P d2 w ∧ Rep K T P d3 y := by
  unfold Rep at r
  obtain ⟨t, vs, rfl, h1, h2⟩ := r
  unfold RepAll at h2
  obtain ⟨u, l, rfl, h3, h4⟩ := h2
  unfold RepAll at h4
  obtain ⟨w, l2, rfl, h5, h6⟩ := h4
  unfold RepAll at h6
  obtain ⟨y, l3, rfl, h7, h8⟩ := h6
  unfold RepAll at h8
  subst h8
  exact ⟨t, u, w, y, rfl, h1, h3, h5, h7⟩
def is3 : D → Bool
  | .tup [_, _, _] => true
  | _ => false
def rho3 (ρ : List C) (i j l : Nat) : D → List C
  | .tup [a, b, c] => ((((((ρ.set l .un).set j .un).set i .un).set i (.val a)).set j (.val b)).set l (.val c))
  | _ => ρ
theorem un3_not {α : Type} {f : D → D → D → R α} {d : D} (h : is3 d = false) : un3 f d = .bad := by
  unfold un3
  split
  · cases h
  · rfl
variable {elt iter : Expr} {y z : Str} {l : Nat}
theorem tgt_nm3 {scope : Scope} {px py pz pt : Pos} {kt : Nat} (gd : Gd X k) (hi : Bn X scope i x) (hj : Bn X scope j y) (hl : Bn X scope l z) (hij : i ≠ j) (hil : i ≠ l) (hjl : j ≠ l) :
    Tgt X scope T (.Tuple [.Name x px, .Name y py, .Name z pz] kt pt) (gTup X.K 3 (gCons (gName i) (gCons (gName j) (gCons (gName l) gNil)))) [i, j, l] ρ is3 (rho3 ρ i j l) := by
  refine ⟨fun s H C cl fp => pg_tup gd.calm (pgs_cons (pg_name gd.nd hi.nm hi.lo hi.fn) (pgs_cons (pg_name gd.nd hj.nm hj.lo hj.fn) (pgs_cons (pg_name gd.nd hl.nm hl.lo hl.fn) pgs_nil rfl) rfl) rfl) rfl rfl, fun d v P H σ Q h S r q => ?_⟩
  unfold is3 at h
  split at h
  · rename_i a b c
    obtain ⟨t, u, w, y, rfl, h3, h4, h5, h6⟩ := rep3 r
    refine ⟨t, _, rfl, .inl (.inl (S.sub _ _ h3)), rfl, _, _, rfl, _, _, rfl, _, _, rfl, rfl, q _ ((((S.wipe [i, j, l]).set i h4).set j h5).set l h6) ?_⟩
    show (((((((σ.set l none).set j none).set i none).set i (some u)).set j (some w)).set l (some y)).set l none |>.set j none).set i none = ((σ.set l none).set j none).set i none
    apply List.ext_getElem?
    intro n
    simp only [List.getElem?_set]
    by_cases h1 : i = n <;> by_cases h2 : j = n <;> by_cases h3 : l = n <;> simp [h1, h2, h3]
  · cases h
theorem evb3 {scope : Scope} {f : D → D → D → R D} (he : ∀ d d2 d3, EvB X scope T ((((((ρ.set l .un).set j .un).set i .un).set i (.val d)).set j (.val d2)).set l (.val d3)) elt (f d d2 d3)) (d : D) : EvB X scope T (rho3 ρ i j l d) elt (un3 f d) := by
  cases h : is3 d with
  | false => intro s H C cl fp P H' σ Q S q; rw [un3_not h] at q; exact q.elim
  | true =>
    unfold is3 at h
    split at h
    · exact he _ _ _
    · cases h
theorem evtb3 {scope : Scope} {f : D → D → D → R Bool} (he : ∀ d d2 d3, EvTB X scope T ((((((ρ.set l .un).set j .un).set i .un).set i (.val d)).set j (.val d2)).set l (.val d3)) elt (f d d2 d3)) (d : D) : EvTB X scope T (rho3 ρ i j l d) elt (un3 f d) := by
  cases h : is3 d with
  | false => intro s H C cl fp P H' σ Q S q; rw [un3_not h] at q; exact q.elim
  | true =>
    unfold is3 at h
    split at h
    · exact he _ _ _
    · cases h
theorem cm_comp3 {it : R (List D)} {f : D → D → D → R D} {scope : Scope} {px py pz pt : Pos} {kt : Nat} (gd : Gd X k) (hij : i ≠ j) (hil : i ≠ l) (hjl : j ≠ l) (hi : Bn X scope i x) (hj : Bn X scope j y) (hl : Bn X scope l z)
    (hB : BlkOk X.N X.env.scope scope [(x, i), (y, j), (z, l)]) (hit : EvIW X T W ρ (.Tuple [.Name x px, .Name y py, .Name z pz] kt pt) iter it) (he : ∀ d d2 d3, EvB X scope T ((((((ρ.set l .un).set j .un).set i .un).set i (.val d)).set j (.val d2)).set l (.val d3)) elt (f d d2 d3)) (hfs : ∀ u, foldedSetIterable iter X.env u = pure u := by intro u; rfl) :
    Cm X T W .F ρ (.ListComp elt [{ target := .Tuple [.Name x px, .Name y py, .Name z pz] kt pt, iter := iter, ifs := [], is_async := 0 }] scope pos) (compE it yesT (un3 f)) :=
  cm_compG gd hit hB (tgt_nm3 gd hi hj hl hij hil hjl) flt_no (evb3 he) (fun d h => .inl ⟨rfl, un3_not h⟩) hfs
theorem cm_comp3F {it : R (List D)} {f : D → D → D → R D} {t : D → D → D → R Bool} {scope : Scope} {px py pz pt : Pos} {kt : Nat} (gd : Gd X k) (hij : i ≠ j) (hil : i ≠ l) (hjl : j ≠ l) (hi : Bn X scope i x) (hj : Bn X scope j y) (hl : Bn X scope l z)
    (hB : BlkOk X.N X.env.scope scope [(x, i), (y, j), (z, l)]) (hit : EvIW X T W ρ (.Tuple [.Name x px, .Name y py, .Name z pz] kt pt) iter it) (ht : ∀ d d2 d3, EvTB X scope T ((((((ρ.set l .un).set j .un).set i .un).set i (.val d)).set j (.val d2)).set l (.val d3)) c (t d d2 d3)) (he : ∀ d d2 d3, EvB X scope T ((((((ρ.set l .un).set j .un).set i .un).set i (.val d)).set j (.val d2)).set l (.val d3)) elt (f d d2 d3)) (hfs : ∀ u, foldedSetIterable iter X.env u = pure u := by intro u; rfl) :
    Cm X T W .F ρ (.ListComp elt [{ target := .Tuple [.Name x px, .Name y py, .Name z pz] kt pt, iter := iter, ifs := [c], is_async := 0 }] scope pos) (compE it (un3 t) (un3 f)) :=
  cm_compG gd hit hB (tgt_nm3 gd hi hj hl hij hil hjl) (flt_one (evtb3 ht)) (evb3 he) (fun d h => .inr (un3_not h)) hfs
end
end Fj

/-! ## Lay22 -/
namespace Fj
open PySem PySem.Spec PyProof.Rows L2
/-! ### try: e, except X as n: return kind(n) == text -/
def tryE {S B : Type} (os : List D) (t : List Nat) (r : R D) (k : R (Fl S B)) : R (Fl S B) := match r with
  | .ok _ => k
  | .ex (.exc c []) => if c < 4 then .ok (.rt (.bl (kindS c == t)) os) else .bad
  | _ => .bad
@[simp] theorem tryE_ok {S B : Type} (os : List D) (t : List Nat) (d : D) (k : R (Fl S B)) : tryE os t (.ok d) k = k := id rfl
section
variable {X : Cx} {T : Tb} {Wout : WX} {k j : Nat} {ρ : List C} {e : Expr} {da : R D} {pos p p2 p3 pos' np : Pos} {n x : Str} {fr : Bool} {i : Nat} {m : Md}
variable {S B : Type} {ios : List Nat} {mkN : S → List C} {mkB : B → List C} {rest : List Stmt}
theorem kind_plain {c : Nat} : fitD (.str (kindS c)) = true := by
  unfold kindS
  split
  · decide
  · split
    · decide
    · split <;> decide
theorem eqR_str {s t : List Nat} (hs : fitD (.str s) = true) (ht : fitD (.str t) = true) : eqR (.str s) (.str t) = .ok (s == t) := by
  show (if (fitD (.str s) && fitD (.str t)) = true then R.ok (eqD (.str s) (.str t)) else .bad) = _
  rw [hs, ht]
  simp [eqD]
theorem wp_eqK {a : Expr} {c jk : Nat} {t : List Nat} {xs : Str} {σ : L2.St} {H : Hp} {Q : VK} (hu : X.A.units + 65 < cLine) (hx : xs = ⟨t.toArray⟩) (ht : fitD (.str t) = true) (ha : ∀ Q1 : VK, (∀ H', Same H H' → Q1 (strV (kindS c)) H') → wpE X a σ H Q1)
    (hm : behindInMarks .Eq (.Constant (.str xs) jk p2) = false) (h : ∀ H', Same H H' → Q (.bl (kindS c == t)) H') : wpE X (.Compare a [.Eq] [.Constant (.str xs) jk p2] pos) σ H Q := by
  subst hx
  refine wpE_of (pe_cmpR (op_eqD (by omega)) pw pe_str hm) ?_
  refine ha _ fun H1 h1 => ?_
  have r1 : ∀ s : List Nat, RepM X.K ⟨fun _ => none, fun _ => none, none⟩ .B H1 (fun _ => none) H1 (.str s) (strV s) := fun s => .inl (by unfold Rep; rfl)
  exact does_eq (X := X) (T := ⟨fun _ => none, fun _ => none, none⟩) (fun _ => none) H1 (.str (kindS c)) (.str t) _ _ Q (fun _ _ h => nomatch h) (r1 _) (r1 _) (fun b hb P' H' e => by
    rw [eqR_str kind_plain ht] at hb
    cases hb
    exact h H' (h1.trans e.hh)) ⟨_, eqR_str kind_plain ht⟩
theorem ss_tryE {os : List D} {f J : Addr} {kx xn : Str} {pk pn2 pr pc pq pt : Pos} {t : List Nat} {xs : Str} {jk : Nat} {rr : R (Fl S B)} (g : Gd X k) (Kd : KindOf X.prog X.w X.K X.mg X.base T j kx f) (hj : j ≤ k) (tk : Takes X Wout) (ho : outsOf ρ ios = some os)
    (hst : X.stack = X.env :: X.outer) (hfr : X.env.frame = some X.env.locals) (hN : X.N[i]? = some n) (hln : X.env.kindOf n = some .local) (hun : ρ[i]? = some .un) (hc : Names X xn (.ref J)) (hcl : ∀ c C, T.cl c = some C → c < 4 → PySem.W.exmOne X.K (.ref C) (.ref J) = some true)
    (hv : Vis X.env.scope n) (hd : (n == ("__debug__" : Str)) = false) (hcd : (n == ("__classdict__" : Str)) = false) (hdb : (kx == ("__debug__" : Str)) = false) (hg : Gl X kx) (hx : xs = ⟨t.toArray⟩) (ht : fitD (.str t) = true) (hm : behindInMarks .Eq (.Constant (.str xs) jk pq) = false)
    (hsw : swapsWith e none pr.line X.env = pure false)
    (hb : ∀ (W : WX) (pn : List (Addr × Obj)) (xe : Value → Shared → Prop), Gd (X.tr pn xe) k → Takes (X.tr pn xe) W → PassesOwn (model X.prog X.w) X.A X.env xe → Ev (X.tr pn xe) T W m ρ e da)
    (he : ∀ (X' : Cx), X'.env = X.env → starEach [.Name n pn2] X'.env = (false, eval (.Name n pn2) X'.env) :: starEach [] X'.env) (hpl : ∀ (X' : Cx), (backTo pc (starEach [] X'.env)).any (·.1) = false)
    (hr : Ss X T Wout fr ios mkN mkB ρ rest rr) :
    Ss X T Wout fr ios mkN mkB ρ (.Try [.Expr e pr] [.ExceptHandler (some (.Name xn np)) (some n) [.Return (some (.Compare (.Call (.Name kx pk) [.Name n pn2] [] pc) [.Eq] [.Constant (.str xs) jk pq] pt)) p3] pos'] [] [] pos :: rest) (tryE os t da rr) := fun z P H σ D1 hz Z h => by
  let tb : WX → TS := fun W D σ H => ∃ P, Sim X.K T P H σ ρ ∧ Post X.K T W m P H σ da (fun w H1 => D.nx σ H1)
  let ts : Addr → Value → Option Addr → TS := fun a cls d D σ H => σ[i]? = some (some (.ref a)) ∧ ∃ c Dc, c < 4 ∧ T.cl c = some Dc ∧ cls = .ref Dc ∧ d = Option.none ∧ ∀ H', Same H H' → D.rt (.bl (kindS c == t)) H'
  refine wpSs_of (pss_cons (ps_try_as (i := i) (tb := tb) (ts := ts) hst hfr g.nd hN hln hc tk (fun W pn xe tk' po => ?_) (fun a oe cls d pn hz hf => ?_)) (ssw (st := rest))) ?_
  · exact ⟨fun pins s σ H D I ⟨P, S, q⟩ => (pss_cons (X := X.tr pn xe) (ps_expr (X := X.tr pn xe) pw hsw) pss_nil).run pins s σ H D I (hb W pn xe ⟨g.calm, g.nd, g.room, g.bi⟩ tk' po P H σ _ S q)⟩
  · exact ⟨fun pins s σ H D I ⟨h1, c, Dc, h2, h3, h4, h5, h6⟩ => by
      subst h4 h5
      refine (pss_cons (ps_ret pw) (ssw (st := []))).run pins s σ H D I (wp_eqK (X := X.suite a ((a, oe) :: pn)) (by have := g.room.un; show X.A.units + 65 < cLine; omega) hx ht (fun Q1 hq => ?_) hm h6)
      exact wp_kind (X := X.suite a ((a, oe) :: pn)) (Kd.mono hj) ⟨g.room.dp, g.room.un⟩ List.mem_cons_self hg hN hv hd hcd hdb (he _ rfl) (hpl _) h1 h2 h3 hz hf hq⟩
  · refine ⟨P, Z.sim, ?_⟩
    cases da with
    | bad => exact h
    | ok v =>
      intro w P1 H1 e1 r1
      exact hr z P1 H1 σ D1 hz (Z.ext e1) h
    | ex x =>
      cases x with
      | exc c fs =>
        cases fs with
        | cons _ _ => exact h.elim
        | nil =>
          intro cls dd H' hs' hr'
          obtain ⟨Dc, h1, rfl, h2 | ⟨h2, _⟩⟩ := hr'
          · obtain ⟨_, rfl⟩ := h2
            have h : PostS X.K T Wout fr mkN mkB z (if c < 4 then (.ok (.rt (.bl (kindS c == t)) os) : R (Fl S B)) else .bad) D1 := h
            split at h
            case isFalse => exact h.elim
            case isTrue hlt =>
            refine ⟨true, hcl c Dc h1 hlt, fun _ a ha => ⟨?_, c, Dc, hlt, h1, rfl, rfl, fun H2 hs2 => ?_⟩, fun hh => nomatch hh⟩
            · have hi : i < σ.length := by rw [← Z.sim.len]; exact (List.getElem?_eq_some_iff.mp hun).1
              exact List.getElem?_set_self hi
            · have hh := hs'.trans hs2
              have Z2 := Z.ext (⟨Same.refl _, hh, Z.sim.sub.trans hh, fun _ _ h => h⟩ : Ext P H P H2)
              refine h P H2 _ ⟨Z2.sim.sub, Z2.frame, Z2.pp, Z2.nw, ?_, outs_of Z2 (fun p hp => hp) (by rw [hz]; exact ho)⟩
              cases fr <;> (unfold md RepM; first | exact (by unfold Rep; rfl) | (dsimp only; rw [if_neg (show ¬ cont (.bl (kindS c == t)) = true from Bool.false_ne_true)]; unfold Rep; rfl))
          · exact absurd rfl h2
      | _ => exact h.elim
end
end Fj

/-! ## Lay23 -/
namespace PySem.W
open PySem PySem.Calls PyProof.Rows PySem.Spec
end PySem.W
namespace L2
open PySem PySem.Spec PyProof.Rows
namespace HTR
open HT
theorem fm_congr {α β : Type} {f g : α → Option β} : ∀ {l : List α}, (∀ x ∈ l, f x = g x) → l.filterMap f = l.filterMap g
  | [], _ => rfl
  | x :: l, h => by
    rw [List.filterMap_cons, List.filterMap_cons, h x List.mem_cons_self, fm_congr fun y hy => h y (List.mem_cons_of_mem _ hy)]
section
variable {prog : Program} {w : World} {A : Around} {E : Value → Shared → Prop} {s : Shared}
theorem adjust_rev (n : Nat) : Builtin.Slice.sliceAdjust none none (-1) (n : Int) = ((n : Int) - 1, -1) := by
  unfold Builtin.Slice.sliceAdjust
  simp
theorem places_rev (n : Nat) : Builtin.Slice.slicePlaces ((n : Int) - 1) (-1) (-1) = n := by
  unfold Builtin.Slice.slicePlaces
  have h1 : ¬ ((-1 : Int) > 0) := by decide
  have h2 : (- -1 : Int) = 1 := by decide
  simp only [h1, if_false, h2, Int.ediv_one]
  split <;> omega
theorem sliceApplied_rev {sl : Addr} {vl vu vs : Value} {n : Nat} {Q : Int × Int × Nat → Shared → Prop} (hs : s.heap.IsSliceOf sl vl vu vs) (pl : IsPart vl none) (pu : IsPart vu none) (ps : IsPart vs (some (-1)))
    (h : Q ((n : Int) - 1, -1, n) s) : wpAny (model prog w) A (Builtin.Slice.sliceApplied (.ref sl) (pure (n : Int))) Q E s := by
  obtain ⟨os, hos, hcs, hds⟩ := id hs
  unfold Builtin.Slice.sliceApplied Builtin.Slice.sliceFields
  refine wpAny_bind (wpAny_bind (wpAny_field hos hds (x := vl) rfl (wpAny_bind (wpAny_field hos hds (x := vu) rfl (wpAny_bind (wpAny_field hos hds (x := vs) rfl (wpAny_pure ?_)))))))
  refine wpAny_bind (slicePart_ ps ?_)
  show wpAny _ _ (if ((-1 : Int) == 0) = true then _ else _) _ _ s
  rw [if_neg (by decide)]
  refine wpAny_bind (slicePart_ pl (wpAny_bind (slicePart_ pu (wpAny_bind (wpAny_pure ?_)))))
  show wpAny _ _ (match Builtin.Slice.sliceAdjust none none (-1) (n : Int) with | (lo, hi) => pure (lo, (-1 : Int), Builtin.Slice.slicePlaces lo hi (-1))) _ _ s
  rw [adjust_rev]
  show wpAny _ _ (pure ((n : Int) - 1, (-1 : Int), Builtin.Slice.slicePlaces ((n : Int) - 1) (-1) (-1))) _ _ s
  rw [places_rev]
  exact wpAny_pure h
theorem pick_rev (xs : Array Value) : ((List.range xs.size).filterMap fun (m : Nat) => xs[((xs.size : Int) - 1 + (m : Int) * (-1)).toNat]?).toArray = xs.toList.reverse.toArray := by
  have e : (List.range xs.size).filterMap (fun (m : Nat) => xs[((xs.size : Int) - 1 + (m : Int) * (-1)).toNat]?) = ((List.range xs.size).map fun k => xs.size - 1 - k).filterMap (xs[·]?) := by
    rw [List.filterMap_map]
    refine fm_congr fun m hm => ?_
    have := List.mem_range.mp hm
    show xs[((xs.size : Int) - 1 + (m : Int) * (-1)).toNat]? = xs[xs.size - 1 - m]?
    rw [show ((xs.size : Int) - 1 + (m : Int) * (-1)).toNat = xs.size - 1 - m by omega]
  rw [e, PySem.W.krv_range, List.filterMap_reverse, PySem.W.krv_all]
theorem getItem_tuple_rev {t sl : Addr} {items : Array Value} {vl vu vs : Value} {Q : Value → Shared → Prop} (ht : IsTup s.heap t items) (hs : s.heap.IsSliceOf sl vl vu vs) (pl : IsPart vl none) (pu : IsPart vu none) (ps : IsPart vs (some (-1)))
    (h : Q (.ref s.heap.objs.size) { s with heap := s.heap.push { cls := .type "tuple", data := .seq items.toList.reverse.toArray } })
    (hsz : items.size ≤ sizeLine) : wpAny (model prog w) A (getItem (.ref t) (.ref sl)) Q E s := by
  have htake : sizeOk (.seq items.toList.reverse.toArray) := by
    show items.toList.reverse.toArray.size ≤ sizeLine
    rw [List.size_toArray, List.length_reverse, Array.length_toList]
    exact hsz
  obtain ⟨os, hos, hcs, hds⟩ := id hs
  have hTs : s.TypeIs (.ref sl) "slice" := ⟨os, hos, hcs⟩
  unfold getItem
  try with_reducible refine wpAny_holding ?_
  first | refine wpAny_bind (wpAny_pure ?_) | skip
  refine wpAny_bind (wpAny_sequenceKey ht.typeIs (by decide) ?_)
  refine wpAny_bind (wpAny_callSpecial?_slot (name := Str.ofString "__getitem__") ht.typeIs PyProof.Rows.slot_tuple_getitem
    (wpAny_call_entry PyProof.Rows.slot_tuple_getitem ht.typeIs entry_tuple_getitem ?_ (args_tuple_getitem _ _)))
  show wpAny _ _ (Builtin.Tuple.tupleItemsOf (.ref t) >>= _) _ _ s
  refine wpAny_bind (tupleItemsOf_ ht ?_)
  refine wpAny_bind (wpAny_typeOf hTs ?_)
  rw [if_pos (by decide)]
  refine wpAny_bind (sliceApplied_rev hs pl pu ps ?_)
  have hno : ¬ ((((items.size : Int) - 1) == 0 && (-1 : Int) == 1 && items.size == items.size) = true) := by
    intro q
    rw [Bool.and_eq_true, Bool.and_eq_true] at q
    have q1 : (-1 : Int) = 1 := eq_of_beq q.1.2
    omega
  show wpAny _ _ (if (((items.size : Int) - 1) == 0 && (-1 : Int) == 1 && items.size == items.size) = true then _ else _) _ _ s
  rw [if_neg hno, pick_rev]
  first
    | exact wpAny_bind (m := Builtin.Tuple.tupleExact _) (wpAny_newObj_type (wpAny_pure ⟨_, rfl, wpAny_pure h⟩) htake)
    | exact wpAny_bind (m := Builtin.Tuple.tupleExact _) (wpAny_newObj_type (wpAny_bind (wpAny_pure (wpAny_pure ⟨_, rfl, wpAny_pure h⟩))) htake)
    | exact wpAny_bind (wpAny_bind (m := Builtin.Tuple.tupleExact _) (wpAny_newObj_type (wpAny_pure (wpAny_pure ⟨_, rfl, wpAny_pure h⟩)) htake))
    | exact wpAny_bind (wpAny_bind (m := Builtin.Tuple.tupleExact _) (wpAny_newObj_type (wpAny_pure ⟨_, rfl, wpAny_pure h⟩) htake))
end
end HTR
section
variable {X : Cx}
def tRevQ (K : PySem.W.Frag) (te : TE) : TE := fun σ H Q => te σ H fun x H1 => (∃ a xs, x = .ref a ∧ SqL K H1 a xs ∧ ∀ p, H1 p = none → Q (.ref p) (upd H1 p (.lst xs.reverse))) ∨ (∃ a xs, x = .ref a ∧ SqT K H1 a xs ∧ ∀ p, H1 p = none → Q (.ref p) (upd H1 p (.tup xs.reverse)))
theorem pe_revQ {e : Expr} {te : TE} {k : Nat} {p1 p2 p3 pos : Pos} (he : PE X e te) : PE X (.Subscript e (.Slice none none (some (.UnaryOp .USub (.Constant (.int 1) k p1) p2)) p3) pos) (tRevQ X.K te) := by
  refine ⟨fun pins s σ H Q I h => ?_⟩
  refine Subscript_ (thn (he.run pins s σ H _ I h) fun v s1 ⟨x, H1, I1, r1, q1⟩ => ?_)
  have hst : PO X (some (.UnaryOp .USub (.Constant (.int 1) k p1) p2)) (tPart (tUn (rU fun i => .int (-i)) (tC (.int 1)))) := po_some (pe_un un_neg pe_int)
  refine wpAny_Slice (thn (po_none.run pins s1 σ H1 (fun o H2 => o = none ∧ H2 = H1) I1 ⟨rfl, rfl⟩) fun vl s2 ⟨l, H2, I2, pl, el, e2⟩ => ?_)
  subst el e2
  refine thn (po_none.run pins s2 σ H2 (fun o H3 => o = none ∧ H3 = H2) I2 ⟨rfl, rfl⟩) fun vu s3 ⟨u, H3, I3, pu, eu, e3⟩ => ?_
  subst eu e3
  refine thn (hst.run pins s3 σ H3 (fun o H4 => o = some (-1) ∧ H4 = H3) I3 ⟨1, rfl, -1, rfl, rfl, rfl⟩) fun vs s4 ⟨o, H4, I4, ps, eo, e4⟩ => ?_
  subst eo e4
  have I5 : Inv X pins σ H4 { s4 with heap := s4.heap.push { cls := .type "slice", data := .fields #[vl, vu, vs] } } := I4.kept (t' := s4.toks) fun b ob q => Heap.get?_push_of_some _ q
  rcases q1 with ⟨a, xs, ex, hx, q⟩ | ⟨a, xs, ex, hx, q⟩
  · subst ex
    cases r1
    obtain ⟨its, r, ht, hz⟩ := I5.list hx
    have hlen := r.length
    show wpAny (model X.prog X.w) X.A (subscriptTail e (.Slice none none (some (.UnaryOp .USub (.Constant (.int 1) k p1) p2)) p3) (.ref a) (.ref s4.heap.objs.size)) (EP X pins σ Q) X.xe { s4 with heap := s4.heap.push { cls := .type "slice", data := .fields #[vl, vu, vs] } }
    refine tail_any (ops := [.ref a, .ref s4.heap.objs.size]) ht.isList.typeIs (PySem.slot_list_getitem.lookup) ?_ (by with_unfolding_all rfl)
    refine wpAny_getItem_list_slice ht.isList (Heap.IsSliceOf.new _ vl vu vs) pl pu ps (by decide) ?_ (by rw [List.size_toArray]; omega)
    rw [PySem.W.krv_pick]
    refine ⟨.ref _, _, I5.laid (t' := s4.toks) (o := .lst xs.reverse) (fun b ob q => Heap.get?_push_of_some _ q) (Nat.le_refl _) ?_, rfl, q _ (I5.hok.fresh (Nat.le_refl _))⟩
    exact ⟨by rw [List.length_reverse]; exact hz, _, 0, r.reverse, Heap.get?_push_size _ rfl⟩
  · subst ex
    cases r1
    obtain ⟨its, r, ht, hz⟩ := I5.tuple hx
    have hlen : its.toArray.size = xs.length := by rw [List.size_toArray]; exact r.length.symm
    show wpAny (model X.prog X.w) X.A (subscriptTail e (.Slice none none (some (.UnaryOp .USub (.Constant (.int 1) k p1) p2)) p3) (.ref a) (.ref s4.heap.objs.size)) (EP X pins σ Q) X.xe { s4 with heap := s4.heap.push { cls := .type "slice", data := .fields #[vl, vu, vs] } }
    refine tail_any (ops := [.ref a, .ref s4.heap.objs.size]) ht.typeIs (PyProof.Rows.slot_tuple_getitem.lookup) ?_ (by with_unfolding_all rfl)
    refine HTR.getItem_tuple_rev ht (Heap.IsSliceOf.new _ vl vu vs) pl pu ps ?_ (by rw [hlen]; exact hz)
    refine ⟨.ref _, _, I5.laid (t' := s4.toks) (o := .tup xs.reverse) (fun b ob q => Heap.get?_push_of_some _ q) (Nat.le_refl _) ?_, rfl, q _ (I5.hok.fresh (Nat.le_refl _))⟩
    exact ⟨by rw [List.length_reverse]; exact hz, _, r.reverse, IsTup.new _ _⟩
end
end L2
namespace Fj
open PySem PySem.Spec PyProof.Rows L2
section
variable {X : Cx} {T : Tb} {W : WX} {k j : Nat} {ρ : List C} {a b c e : Expr} {es : List Expr} {da db : R D} {pos p p2 p3 : Pos} {m : Md} {x n : Str} {fr : Bool} {i : Nat}
theorem rep_rev {K : PySem.W.Frag} {P : Hp} : ∀ {ds : List D} {vs : List V}, RepAll K T P ds vs → RepAll K T P ds.reverse vs.reverse
  | [], vs, h => by unfold RepAll at h; subst h; exact RepAll.nil
  | d :: ds, vs, h => by
    unfold RepAll at h
    obtain ⟨v, r, rfl, h1, h2⟩ := h
    rw [List.reverse_cons, List.reverse_cons]
    exact (rep_rev h2).append (RepAll.cons h1 RepAll.nil)
/-- e[::-1] -/
theorem ev_rev {kk : Nat} {p1 : Pos} (ha : Ev X T W .B ρ a da) : Ev X T W .F ρ (.Subscript a (.Slice none none (some (.UnaryOp .USub (.Constant (.int 1) kk p1) p2)) p3) pos) (da.bind revR) := fun P H σ Q S q => by
  refine wpE_of (pe_revQ pw) ?_
  refine ev_bind ha S q fun v w P1 H1 e1 S1 r1 q1 => ?_
  cases v with
  | lst ds =>
    obtain ⟨a, vs, rfl, h1, h2⟩ := B_lst S1.sub r1
    refine .inl ⟨a, vs, rfl, SqL.of h1, fun p hp => ?_⟩
    refine q1 (.ref p) P1 _ (Ext.fresh S1.sub hp) ?_
    show RepM X.K T .F _ _ _ _ _
    unfold RepM
    dsimp only
    rw [if_pos (show cont (.lst ds.reverse) = true from rfl)]
    exact ⟨p, _, rfl, hp, S1.sub.free hp, upd_same, vs.reverse, rfl, rep_rev h2⟩
  | tup ds =>
    obtain ⟨a, vs, rfl, h1, h1', h2⟩ := B_tup S1.sub r1
    refine .inr ⟨a, vs, rfl, SqT.of h1', fun p hp => ?_⟩
    have e := Ext.new (o := .tup vs.reverse) S1.sub hp
    refine q1 (.ref p) _ _ e ?_
    show RepM X.K T .F _ _ _ _ _
    unfold RepM
    dsimp only
    rw [if_neg (show ¬ cont (.tup ds.reverse) = true from Bool.false_ne_true)]
    unfold Rep
    exact ⟨p, vs.reverse, rfl, upd_same, RepAll.mono e.pp _ _ (rep_rev h2)⟩
  | _ => exact q1.elim
end
/-! ### try: return e, except X as n: return (kind(n), None) -/
def tryT {S B : Type} (os : List D) (r : R D) : R (Fl S B) := match r with
  | .ok v => .ok (.rt v os)
  | .ex (.exc c []) => if c < 4 then .ok (.rt (.tup [.str (kindS c), .non]) os) else .bad
  | _ => .bad
@[simp] theorem tryT_ok {S B : Type} (os : List D) (v : D) : (tryT os (.ok v) : R (Fl S B)) = .ok (.rt v os) := id rfl
section
variable {X : Cx} {T : Tb} {Wout : WX} {k j : Nat} {ρ : List C} {e : Expr} {da : R D} {pos p p2 p3 pos' np : Pos} {n x : Str} {fr : Bool} {i : Nat}
variable {S B : Type} {ios : List Nat} {mkN : S → List C} {mkB : B → List C} {rest : List Stmt}
theorem ss_tryT {os : List D} {f J : Addr} {kx xn : Str} {pk pn2 pr pc pq pt : Pos} {jk} {kt} (g : Gd X k) (Kd : KindOf X.prog X.w X.K X.mg X.base T j kx f) (hj : j ≤ k) (tk : Takes X Wout) (hio : ios.contains i = false) (ho : outsOf ρ ios = some os)
    (hst : X.stack = X.env :: X.outer) (hfr : X.env.frame = some X.env.locals) (hN : X.N[i]? = some n) (hln : X.env.kindOf n = some .local) (hun : ρ[i]? = some .un) (hc : Names X xn (.ref J)) (hcl : ∀ c C, T.cl c = some C → c < 4 → PySem.W.exmOne X.K (.ref C) (.ref J) = some true)
    (hv : Vis X.env.scope n) (hd : (n == ("__debug__" : Str)) = false) (hcd : (n == ("__classdict__" : Str)) = false) (hdb : (kx == ("__debug__" : Str)) = false) (hg : Gl X kx)
    (hb : ∀ (W : WX) (pn : List (Addr × Obj)) (xe : Value → Shared → Prop), Gd (X.tr pn xe) k → Takes (X.tr pn xe) W → PassesOwn (model X.prog X.w) X.A X.env xe → Ev (X.tr pn xe) T W (md fr) ρ e da)
    (he : ∀ (X' : Cx), X'.env = X.env → starEach [.Name n pn2] X'.env = (false, eval (.Name n pn2) X'.env) :: starEach [] X'.env) (hpl : ∀ (X' : Cx), (backTo pc (starEach [] X'.env)).any (·.1) = false)
    (hst2 : ∀ (X' : Cx), X'.env = X.env → starEach [.Call (.Name kx pk) [.Name n pn2] [] pc, .Constant .none jk pq] X'.env = (false, eval (.Call (.Name kx pk) [.Name n pn2] [] pc) X'.env) :: starEach [.Constant .none jk pq] X'.env) (hst3 : ∀ (X' : Cx), X'.env = X.env → starEach [.Constant .none jk pq] X'.env = (false, eval (.Constant .none jk pq) X'.env) :: starEach [] X'.env) :
    Ss X T Wout fr ios mkN mkB ρ (.Try [.Return (some e) pr] [.ExceptHandler (some (.Name xn np)) (some n) [.Return (some (.Tuple [.Call (.Name kx pk) [.Name n pn2] [] pc, .Constant .none jk pq] kt pt)) p3] pos'] [] [] pos :: rest) (tryT os da) := fun z P H σ D1 hz Z h => by
  let tb : WX → TS := fun W D σ H => ∃ P, Sim X.K T P H σ ρ ∧ Post X.K T W (md fr) P H σ da (fun w H1 => D.rt w H1)
  let ts : Addr → Value → Option Addr → TS := fun a cls d D σ H => σ[i]? = some (some (.ref a)) ∧ ∃ c Dc, c < 4 ∧ T.cl c = some Dc ∧ cls = .ref Dc ∧ d = Option.none ∧ ∀ H1 p, Same H H1 → H1 p = Option.none → D.rt (.ref p) (upd H1 p (.tup [strV (kindS c), .non]))
  refine wpSs_of (pss_cons (ps_try_as (i := i) (tb := tb) (ts := ts) hst hfr g.nd hN hln hc tk (fun W pn xe tk' po => ?_) (fun a oe cls d pn hz hf => ?_)) (ssw (st := rest))) ?_
  · exact ⟨fun pins s σ H D I ⟨P, S, q⟩ => (pss_cons (ps_ret pw) (ssw (st := []))).run pins s σ H D I (hb W pn xe ⟨g.calm, g.nd, g.room, g.bi⟩ tk' po P H σ _ S q)⟩
  · exact ⟨fun pins s σ H D I ⟨h1, c, Dc, h2, h3, h4, h5, h6⟩ => by
      subst h4 h5
      refine (pss_cons (ps_ret (X := X.suite a ((a, oe) :: pn)) (pe_tup (pa_cons pw (pa_cons pe_non pa_nil (hst3 _ rfl)) (hst2 _ rfl)))) (ssw (st := []))).run pins s σ H D I ?_
      exact wp_kind (X := X.suite a ((a, oe) :: pn)) (Kd.mono hj) ⟨g.room.dp, g.room.un⟩ List.mem_cons_self hg hN hv hd hcd hdb (he _ rfl) (hpl _) h1 h2 h3 hz hf fun H1 hs => ⟨by show 2 ≤ sizeLine; rw [sizeLine_eq]; omega, fun p hp => h6 H1 p hs hp⟩⟩
  · refine ⟨P, Z.sim, ?_⟩
    cases da with
    | bad => exact h
    | ok v =>
      intro w P1 H1 e1 r1
      have Z1 := Z.ext e1
      exact h P1 H1 w ⟨Z1.sim.sub, Z1.frame, Z1.pp, Z1.nw, fresh_back Z r1, outs_of Z1 (fun p hp => hp) (by rw [hz]; exact ho)⟩
    | ex x =>
      cases x with
      | exc c fs =>
        cases fs with
        | cons _ _ => exact h.elim
        | nil =>
          intro cls dd H' hs' hr
          obtain ⟨Dc, h1, rfl, h2 | ⟨h2, _⟩⟩ := hr
          · obtain ⟨_, rfl⟩ := h2
            have h : PostS X.K T Wout fr mkN mkB z (if c < 4 then (.ok (.rt (.tup [.str (kindS c), .non]) os) : R (Fl S B)) else .bad) D1 := h
            split at h
            case isFalse => exact h.elim
            case isTrue hlt =>
            refine ⟨true, hcl c Dc h1 hlt, fun _ a ha => ⟨?_, c, Dc, hlt, h1, rfl, rfl, fun H2 p hs2 hp2 => ?_⟩, fun hh => nomatch hh⟩
            · have hi : i < σ.length := by rw [← Z.sim.len]; exact (List.getElem?_eq_some_iff.mp hun).1
              exact List.getElem?_set_self hi
            · have hh := hs'.trans hs2
              have e1 : Ext P H P H2 := ⟨Same.refl _, hh, Z.sim.sub.trans hh, fun _ _ h => h⟩
              have e2 := Ext.new (o := .tup [strV (kindS c), .non]) e1.ph hp2
              have e3 := e1.trans e2
              have Z2 := Z.ext e3
              refine h _ _ _ ⟨Z2.sim.sub, Z2.frame, Z2.pp, Z2.nw, ?_, outs_of Z2 (fun p hp => hp) (by rw [hz]; exact ho)⟩
              have rr : Rep X.K T (upd P p (.tup [strV (kindS c), .non])) (.tup [.str (kindS c), .non]) (.ref p) := by
                unfold Rep
                exact ⟨p, _, rfl, upd_same, RepAll.cons (by unfold Rep; rfl) (RepAll.cons (by unfold Rep; rfl) RepAll.nil)⟩
              cases fr with
              | false => exact rr
              | true =>
                show RepM X.K T .F _ _ _ _ _
                unfold RepM
                dsimp only
                rw [if_neg (show ¬ cont (.tup [.str (kindS c), .non]) = true from Bool.false_ne_true)]
                exact rr
          · exact absurd rfl h2
      | _ => exact h.elim
end
end Fj

/-! ## Lay24 -/
namespace Fj
open PySem PySem.Spec PyProof.Rows L2
/-! ### data by value, as the library reads them -/
mutual
def pyd : D → PyData
  | .int i => .int i
  | .tup xs => .tuple (pyds xs)
  | _ => .none
def pyds : List D → List PyData
  | [] => []
  | x :: xs => pyd x :: pyds xs
end
mutual
/-- whole numbers, tuples of these, to any depth -/
def datD : D → Bool
  | .int _ => true
  | .tup xs => datDs xs
  | _ => false
def datDs : List D → Bool
  | [] => true
  | x :: xs => datD x && datDs xs
end
mutual
def dpD : D → Nat
  | .tup xs => dpDs xs + 1
  | _ => 0
def dpDs : List D → Nat
  | [] => 0
  | x :: xs => max (dpD x) (dpDs xs)
end
mutual
def likeD : D → D → Bool
  | .int _, .int _ => true
  | .tup xs, .tup ys => likeDs xs ys
  | _, _ => false
def likeDs : List D → List D → Bool
  | x :: xs, y :: ys => likeD x y && likeDs xs ys
  | [], _ => true
  | _ :: _, [] => true
end
mutual
/-- a < b -/
def ltD : D → D → Bool
  | .int a, .int b => decide (a < b)
  | .tup xs, .tup ys => ltDs xs ys
  | _, _ => false
def ltDs : List D → List D → Bool
  | [], [] => false
  | [], _ :: _ => true
  | _ :: _, [] => false
  | x :: xs, y :: ys => if eqD x y then ltDs xs ys else ltD x y
end
def filled : D → Bool
  | .tup (_ :: _) => true
  | _ => false
def isInt0 : D → Bool
  | .int _ => true
  | _ => false

def srtOk (xs : List D) : Bool := decide (xs.length ≤ most) && xs.all (fun x => datD x && decide (dpD x ≤ 10)) && (xs.all fun x => xs.all fun y => likeD x y) && (xs.all filled || xs.all isInt0)
/-- sorted(..) -/
def sortR (d : D) : R D := (seqsR d).bind fun xs => if srtOk xs then .ok (.lst (xs.mergeSort (W.dataLe false pyd))) else .bad
theorem pyds_map : ∀ xs : List D, pyds xs = xs.map pyd
  | [] => rfl
  | x :: xs => by unfold pyds; rw [pyds_map xs]; rfl
mutual
theorem like_ok : ∀ {a b : D}, likeD a b = true → W.alike (pyd a) (pyd b) = true
  | .int _, .int _, _ => by simp [pyd, W.alike]
  | .tup xs, .tup ys, h => by
    have h : likeDs xs ys = true := by unfold likeD at h; exact h
    simp only [pyd, W.alike]
    exact likes_ok h
  | .int _, .tup _, h => by unfold likeD at h; cases h
  | .tup _, .int _, h => by unfold likeD at h; cases h
  | .non, _, h | .bl _, _, h | .str _, _, h | .lst _, _, h | .dct _ _, _, h | .fn _, _, h | .exc _ _, _, h | .scr _, _, h => by unfold likeD at h; cases h
  | .int _, .non, h | .int _, .bl _, h | .int _, .str _, h | .int _, .lst _, h | .int _, .dct _ _, h | .int _, .fn _, h | .int _, .exc _ _, h | .int _, .scr _, h => by unfold likeD at h; cases h
  | .tup _, .non, h | .tup _, .bl _, h | .tup _, .str _, h | .tup _, .lst _, h | .tup _, .dct _ _, h | .tup _, .fn _, h | .tup _, .exc _ _, h | .tup _, .scr _, h => by unfold likeD at h; cases h
theorem likes_ok : ∀ {xs ys : List D}, likeDs xs ys = true → W.alikeAll (pyds xs) (pyds ys) = true
  | [], _, _ => by simp [pyds, W.alikeAll]
  | _ :: _, [], _ => by simp [pyds, W.alikeAll]
  | x :: xs, y :: ys, h => by
    unfold likeDs at h
    obtain ⟨h1, h2⟩ := Bool.and_eq_true_iff.mp h
    simp only [pyds, W.alikeAll, like_ok h1, likes_ok h2, Bool.and_self]
end
mutual
theorem dp_ok : ∀ d : D, (pyd d).depth ≤ dpD d
  | .tup xs => by
    have := dps_ok xs
    simp only [pyd, PyData.depth, dpD]; omega
  | .int _ => by simp [pyd, PyData.depth]
  | .non | .bl _ | .str _ | .lst _ | .dct _ _ | .fn _ | .exc _ _ | .scr _ => by simp [pyd, PyData.depth]
theorem dps_ok : ∀ xs : List D, PyData.depthAll (pyds xs) ≤ dpDs xs
  | [] => by simp [pyds, PyData.depthAll]
  | x :: xs => by
    have := dp_ok x
    have := dps_ok xs
    simp only [pyds, PyData.depthAll, dpDs]; omega
end
mutual
theorem eqv_ok : ∀ {a b : D}, datD a = true → datD b = true → likeD a b = true → PyData.eqv (pyd a) (pyd b) = eqD a b
  | .int a, .int b, _, _, _ => by simp [pyd, PyData.eqv, eqD]
  | .tup xs, .tup ys, h1, h2, h3 => by
    unfold datD at h1 h2; unfold likeD at h3
    simp only [pyd, PyData.eqv, eqD]
    exact eqvs_ok h1 h2 h3
  | .int _, .tup _, _, _, h => by unfold likeD at h; cases h
  | .tup _, .int _, _, _, h => by unfold likeD at h; cases h
  | .non, _, h, _, _ | .bl _, _, h, _, _ | .str _, _, h, _, _ | .lst _, _, h, _, _ | .dct _ _, _, h, _, _ | .fn _, _, h, _, _ | .exc _ _, _, h, _, _ | .scr _, _, h, _, _ => by unfold datD at h; cases h
  | .int _, .non, _, h, _ | .int _, .bl _, _, h, _ | .int _, .str _, _, h, _ | .int _, .lst _, _, h, _ | .int _, .dct _ _, _, h, _ | .int _, .fn _, _, h, _ | .int _, .exc _ _, _, h, _ | .int _, .scr _, _, h, _ => by unfold datD at h; cases h
  | .tup _, .non, _, h, _ | .tup _, .bl _, _, h, _ | .tup _, .str _, _, h, _ | .tup _, .lst _, _, h, _ | .tup _, .dct _ _, _, h, _ | .tup _, .fn _, _, h, _ | .tup _, .exc _ _, _, h, _ | .tup _, .scr _, _, h, _ => by unfold datD at h; cases h
theorem eqvs_ok : ∀ {xs ys : List D}, datDs xs = true → datDs ys = true → likeDs xs ys = true → PyData.eqvAll (pyds xs) (pyds ys) = eqDs xs ys
  | [], [], _, _, _ => by simp [pyds, PyData.eqvAll, eqDs]
  | [], _ :: _, _, _, _ => by simp [pyds, PyData.eqvAll, eqDs]
  | _ :: _, [], _, _, _ => by simp [pyds, PyData.eqvAll, eqDs]
  | x :: xs, y :: ys, h1, h2, h3 => by
    unfold datDs at h1 h2; unfold likeDs at h3
    obtain ⟨a1, a2⟩ := Bool.and_eq_true_iff.mp h1
    obtain ⟨b1, b2⟩ := Bool.and_eq_true_iff.mp h2
    obtain ⟨c1, c2⟩ := Bool.and_eq_true_iff.mp h3
    simp only [pyds, PyData.eqvAll, eqDs, eqv_ok a1 b1 c1, eqvs_ok a2 b2 c2]
end
mutual
theorem lt_ok : ∀ {a b : D}, datD a = true → datD b = true → likeD a b = true → W.dataLt (pyd a) (pyd b) = ltD a b
  | .int a, .int b, _, _, _ => by simp only [pyd, ltD]; rw [W.dataLt_int]
  | .tup xs, .tup ys, h1, h2, h3 => by
    unfold datD at h1 h2; unfold likeD at h3
    simp only [pyd, ltD]
    rw [W.dataLt_tuple]
    exact lts_ok h1 h2 h3
  | .int _, .tup _, _, _, h => by unfold likeD at h; cases h
  | .tup _, .int _, _, _, h => by unfold likeD at h; cases h
  | .non, _, h, _, _ | .bl _, _, h, _, _ | .str _, _, h, _, _ | .lst _, _, h, _, _ | .dct _ _, _, h, _, _ | .fn _, _, h, _, _ | .exc _ _, _, h, _, _ | .scr _, _, h, _, _ => by unfold datD at h; cases h
  | .int _, .non, _, h, _ | .int _, .bl _, _, h, _ | .int _, .str _, _, h, _ | .int _, .lst _, _, h, _ | .int _, .dct _ _, _, h, _ | .int _, .fn _, _, h, _ | .int _, .exc _ _, _, h, _ | .int _, .scr _, _, h, _ => by unfold datD at h; cases h
  | .tup _, .non, _, h, _ | .tup _, .bl _, _, h, _ | .tup _, .str _, _, h, _ | .tup _, .lst _, _, h, _ | .tup _, .dct _ _, _, h, _ | .tup _, .fn _, _, h, _ | .tup _, .exc _ _, _, h, _ | .tup _, .scr _, _, h, _ => by unfold datD at h; cases h
theorem lts_ok : ∀ {xs ys : List D}, datDs xs = true → datDs ys = true → likeDs xs ys = true → PyProof.Rows.lexLt itemOrd (W.keyToksAll (pyds xs)) (W.keyToksAll (pyds ys)) = ltDs xs ys
  | [], [], _, _, _ => by simp only [pyds, ltDs]; exact lex_irrefl _
  | [], y :: ys, _, _, _ => by
    simp only [pyds, ltDs]
    unfold W.keyToksAll
    rw [W.lex_atom (by intro e; injection e with e; exact absurd e (by decide))]
    rfl
  | x :: xs, [], _, _, _ => by
    simp only [pyds, ltDs]
    unfold W.keyToksAll
    rw [W.lex_atom (by intro e; injection e with e; exact absurd e (by decide))]
    rfl
  | x :: xs, y :: ys, h1, h2, h3 => by
    unfold datDs at h1 h2; unfold likeDs at h3
    obtain ⟨a1, a2⟩ := Bool.and_eq_true_iff.mp h1
    obtain ⟨b1, b2⟩ := Bool.and_eq_true_iff.mp h2
    obtain ⟨c1, c2⟩ := Bool.and_eq_true_iff.mp h3
    simp only [pyds, ltDs]
    rw [W.dataLt_cons (like_ok c1), eqv_ok a1 b1 c1, lt_ok a1 b1 c1, lts_ok a2 b2 c2]
end
/-! ### sorted(..) of a list, of a tuple -/
section
variable {prog : Program} {w : World} {A : Around} {E : Value → Shared → Prop} {s : Shared}
theorem collect_tup {l : Addr} {vs : List Value} {Q : List Value → Shared → Prop} (hl : IsTup s.heap l vs.toArray)
    (h : Q vs { s with heap := (s.heap.push (seqObj "list" #[] 0)).update s.heap.objs.size (Obj.mapSeq (· ++ vs.toArray)) }) (hsz : vs.length ≤ sizeLine) :
    wpAny (model prog w) A (collect (.ref l)) Q E s := by
  obtain ⟨o, ho, hc, n, hd⟩ := id hl
  unfold collect
  refine wpAny_bind (wpAny_runValue (codeAny_builtin entry_proto_collect' ?_))
  show wpAny _ _ (do again (.builtin "list.__iadd__" ⟨[← newList [], .ref l], []⟩)) _ _ s
  refine wpAny_bind (wpAny_newList (wpAny_pure ⟨Code.quiet_builtin _ (by decide +kernel), codeAny_builtin entry_list_iadd' ?_⟩))
  show wpAny _ _ (Builtin.List.listExtendWith (.ref s.heap.objs.size) (.ref l) (.ref s.heap.objs.size)) _ _ { s with heap := s.heap.push (seqObj "list" #[] 0) }
  unfold Builtin.List.listExtendWith
  have ho' : (s.heap.push (seqObj "list" #[] 0)).get? l = some o := Heap.get?_push_of_some _ ho
  refine wpAny_bind (wpAny_typeOf (T := "tuple") ⟨o, ho', hc⟩ ?_)
  have ht : (Value.type "tuple" == Value.type "tuple") = true := by rfl
  rw [if_pos (by rw [ht]; simp)]
  refine wpAny_bind (listItems_at ho' hd ?_)
  refine wpAny_bind (listItems_at (xs := #[]) (n := 0) (Heap.get?_push_size _ rfl) rfl ?_)
  rw [if_neg (by simp)]
  refine wpAny_bind (listUpdate_at (xs := #[]) (n := 0) (Heap.get?_push_size _ rfl) rfl ?_ (Nat.zero_le _) (by show (#[] ++ vs.toArray).size ≤ sizeLine + 1; simp only [Array.size_append, List.size_toArray, List.length_nil]; omega))
  refine wpAny_pure ?_
  show wpAny (model prog w) A (do
      let o ← load s.heap.objs.size
      match o.data with
      | .seq xs _ => pure xs.toList
      | _ => unsupported "internal:collect") Q E { s with heap := (s.heap.push (seqObj "list" #[] 0)).update s.heap.objs.size (Obj.mapSeq (· ++ vs.toArray)) }
  refine wpAny_bind (wpAny_load (get?_update_seq (Heap.get?_push_size _ rfl) _) ?_)
  show wpAny _ _ (pure ((#[] : Array Value) ++ vs.toArray).toList) Q E _
  rw [show ((#[] : Array Value) ++ vs.toArray).toList = vs by simp]
  exact wpAny_pure h
theorem sorted_of_sort' {l : Addr} {vs : List Value} {Q : Value → Shared → Prop} (hl : s.heap.IsList l vs.toArray ∨ IsTup s.heap l vs.toArray) (hL : vs.length ≤ sizeLine) (ha1 : argsOk "sorted" ⟨[.ref l], []⟩) (ha2 : ∀ x, argsOk "list.sort" ⟨[.ref x], []⟩)
    (body : ∀ E' : Value → Shared → Prop, wpAny (model prog w) A.in1.in1 (Builtin.«list.sort» ⟨[.ref (s.heap.objs.size + 1)], []⟩) (fun f s' => f = .done (.ret .none) ∧ Q (.ref (s.heap.objs.size + 1)) s') E' { s with heap := W.copyHeap s.heap vs }) :
    wpAny (model prog w) A (call (.builtin "sorted") [.ref l] []) Q E s := by
  refine call_function_entry_kw kind_sorted plain_sorted entry_sorted ha1 ?_
  unfold Builtin.«sorted»
  refine wpAny_bind (m := checkCount "sorted" 1 1 _) (wpAny_pure ?_)
  have step : ∀ {Q' : List Value → Shared → Prop} {E' : Value → Shared → Prop} {A' : Around}, Q' vs { s with heap := (s.heap.push (seqObj "list" #[] 0)).update s.heap.objs.size (Obj.mapSeq (· ++ vs.toArray)) } → wpAny (model prog w) A' (collect (.ref l)) Q' E' s := fun h => by
    rcases hl with hl | hl
    · exact collect_list hl h hL
    · exact collect_tup hl h hL
  refine wpAny_bind (step ?_)
  refine wpAny_bind (wpAny_newList ?_ hL)
  have hsz : ((s.heap.push (seqObj "list" #[] 0)).update s.heap.objs.size (Obj.mapSeq (· ++ vs.toArray))).objs.size = s.heap.objs.size + 1 := by
    rw [Heap.size_update, size_push']
  show wpAny _ _ _ _ _ { s with heap := W.copyHeap s.heap vs }
  rw [hsz]
  refine wpAny_bind (wpAny_holding (wpAny_call_entry_kw slot_list_sort ⟨_, W.copyHeap_at s.heap vs, rfl⟩ entry_list_sort ?body (ha2 _)))
  case body =>
    show wpAny (model prog w) A.in1.in1 (Builtin.«list.sort» ⟨[.ref (s.heap.objs.size + 1)], []⟩) _ _ _
    refine wpAny_mono (body _) (fun f s' hf => ?_) fun _ _ e => e
    obtain ⟨rfl, hq⟩ := hf
    exact ⟨_, rfl, wpAny_pure ⟨_, rfl, hq⟩⟩
theorem sorted_data' {β : Type} {vs : List Value} {bs : List β} {enc : β → PyData} {R : Value → β → Prop} {l : Addr} {Q : Value → Shared → Prop} (hl : s.heap.IsList l vs.toArray ∨ IsTup s.heap l vs.toArray) (e : W.EachIs R vs bs) (er : W.EachIs (fun v b => ∃ as, Reads s.heap v (enc b) as) vs bs) (hal : W.AllAlike (bs.map enc)) (hk : W.Sortable (bs.map enc)) (hL : bs.length ≤ sizeLine)
    (hu : ∀ b, b ∈ bs → A.units + 2 + (enc b).depth < cLine) (h : ∀ out, out.length = bs.length → W.EachIs R out (bs.mergeSort (W.dataLe false enc)) → Q (.ref (s.heap.objs.size + 1)) { s with heap := sortedAll s.heap vs (List.toArray out) }) :
    wpAny (model prog w) A (call (.builtin "sorted") [.ref l]) Q E s := by
  have er' : W.EachIs (fun v b => ∃ as, Reads (W.sortingHeap (W.copyHeap s.heap vs) (s.heap.objs.size + 1) vs) v (enc b) as) vs bs := er.mono fun _ _ ⟨as, r⟩ => ⟨as, PyProof.Rows.Reads.keeps (fun _ _ => W.sorting_copy_old) r⟩
  have hL' : vs.length ≤ sizeLine := by rw [e.length]; exact hL
  refine sorted_of_sort' hl hL' (args_sorted1 _) (fun _ => args_list_sort _) fun _ => W.list_sort_vals (s := { s with heap := W.copyHeap s.heap vs }) (κ := W.dataKind (W.sortingHeap (W.copyHeap s.heap vs) (s.heap.objs.size + 1) vs) (bs.map enc)) (W.copyHeap_at s.heap vs)
    (W.SortsAt.data (s := { s with heap := W.sortingHeap (W.copyHeap s.heap vs) (s.heap.objs.size + 1) vs }) (W.each_map (R := fun v d => ∃ as, Reads (W.sortingHeap (W.copyHeap s.heap vs) (s.heap.objs.size + 1) vs) v d as) enc er') hal hk (W.bound_map hu)) hL' ⟨rfl, ?_⟩
  exact h _ (by rw [W.sortVals_length false rfl]; exact e.length) (W.sortVals_data false e er' hal)
end
section
variable {K : PySem.W.Frag} {X : Cx} {T : Tb} {W : WX} {k : Nat} {ρ : List C} {a b c e ei tg iter elt : Expr} {es : List Expr} {da db di : R D} {ca cb : R Bool} {pos p p2 p3 px q q2 : Pos} {m : Md} {x y : Str} {fr : Bool} {i j : Nat}
mutual
theorem reads_of {X : Cx} {P H : Hp} {h : Heap} (hok : HOk X.prog X.w H h) (hp : ∀ b z, P b = some z → H b = some z) : ∀ {d : D} {v : V} {u : Value}, datD d = true → Rep K T P d v → RelV v u → Reads h u (pyd d) []
  | .int i, v, u, _, r, ru => by
    unfold Rep at r
    subst r
    obtain ⟨t, rfl⟩ := ru
    exact .int _ _
  | .tup xs, v, u, h1, r, ru => by
    unfold datD at h1
    obtain ⟨b, us, rfl, g1, g2⟩ := rep_tup.mp r
    obtain rfl : u = Value.ref b := ru
    obtain ⟨_, its, r1, o, ho, hc, n, hd⟩ := hok b _ (hp _ _ g1)
    unfold pyd
    exact .tuple ho hc hd (readss_of hok hp h1 g2 r1)
  | .non, _, _, h, _, _ | .bl _, _, _, h, _, _ | .str _, _, _, h, _, _ | .lst _, _, _, h, _, _ | .dct _ _, _, _, h, _, _ | .fn _, _, _, h, _, _ | .exc _ _, _, _, h, _, _ | .scr _, _, _, h, _, _ => by unfold datD at h; cases h
theorem readss_of {X : Cx} {P H : Hp} {h : Heap} (hok : HOk X.prog X.w H h) (hp : ∀ b z, P b = some z → H b = some z) : ∀ {ds : List D} {vs : List V} {us : List Value}, datDs ds = true → RepAll K T P ds vs → Vals vs us → ReadsAll h us (pyds ds) []
  | [], vs, us, _, r, ru => by
    unfold RepAll at r
    subst r
    cases ru
    exact .nil
  | d :: ds, vs, us, h1, r, ru => by
    unfold RepAll at r
    obtain ⟨v, t, rfl, r1, r2⟩ := r
    unfold datDs at h1
    obtain ⟨a1, a2⟩ := Bool.and_eq_true_iff.mp h1
    cases ru with
    | cons q1 q2 => exact .cons (as := []) (bs := []) (reads_of hok hp a1 r1 q1) (readss_of hok hp a2 r2 q2)
end
theorem each_rep {P : Hp} : ∀ {ds : List D} {vs : List V} {us : List Value}, RepAll K T P ds vs → Vals vs us → PySem.W.EachIs (fun u d => ∃ v, RelV v u ∧ Rep K T P d v) us ds
  | [], vs, us, r, ru => by
    unfold RepAll at r
    subst r
    cases ru
    exact .nil
  | d :: ds, vs, us, r, ru => by
    unfold RepAll at r
    obtain ⟨v, t, rfl, r1, r2⟩ := r
    cases ru with
    | cons q1 q2 => exact .cons ⟨v, q1, r1⟩ (each_rep r2 q2)
theorem rep_each {P : Hp} : ∀ {ds : List D} {us : List Value}, PySem.W.EachIs (fun u d => ∃ v, RelV v u ∧ Rep K T P d v) us ds → ∃ vs : List V, Vals vs us ∧ RepAll K T P ds vs
  | _, _, .nil => ⟨[], .nil, RepAll.nil⟩
  | _, _, .cons ⟨v, h1, h2⟩ t => by
    obtain ⟨vs, g1, g2⟩ := rep_each t
    exact ⟨v :: vs, .cons h1 g1, RepAll.cons h2 g2⟩
theorem each_reads {X : Cx} {P H : Hp} {h : Heap} (hok : HOk X.prog X.w H h) (hp : ∀ b z, P b = some z → H b = some z) : ∀ {ds : List D} {vs : List V} {us : List Value}, (∀ d ∈ ds, datD d = true) → RepAll K T P ds vs → Vals vs us → PySem.W.EachIs (fun u d => ∃ as, Reads h u (pyd d) as) us ds
  | [], vs, us, _, r, ru => by
    unfold RepAll at r
    subst r
    cases ru
    exact .nil
  | d :: ds, vs, us, hd, r, ru => by
    unfold RepAll at r
    obtain ⟨v, t, rfl, r1, r2⟩ := r
    cases ru with
    | cons q1 q2 => exact .cons ⟨_, reads_of hok hp (hd d List.mem_cons_self) r1 q1⟩ (each_reads hok hp (fun x hx => hd x (List.mem_cons_of_mem _ hx)) r2 q2)
/-- sorted(xs), a list or a tuple of whole numbers, or of tuples of data: a new list -/
def rSortedD (K : PySem.W.Frag) (T : Tb) : List V → Hp → VK → Prop := fun vs H Q => ∃ (a : Addr) (zs : List V) (P : Hp) (ds : List D), vs = [V.ref a] ∧ (H a = some (.lst zs) ∨ H a = some (.tup zs)) ∧ (∀ b z, P b = some z → H b = some z) ∧ RepAll K T P ds zs ∧ srtOk ds = true ∧
  ∀ (ws : List V) (t : Addr), RepAll K T P (ds.mergeSort (PySem.W.dataLe false pyd)) ws → H t = none → Q (.ref t) (upd H t (.lst ws))
theorem srt_like {xs : List D} (h : srtOk xs = true) : PySem.W.AllAlike (xs.map pyd) := by
  unfold srtOk at h
  simp only [Bool.and_eq_true, List.all_eq_true] at h
  intro d hd d' hd'
  obtain ⟨b, hb, rfl⟩ := List.mem_map.mp hd
  obtain ⟨b', hb', rfl⟩ := List.mem_map.mp hd'
  exact like_ok (h.1.2 b hb b' hb')
theorem srt_able {xs : List D} (h : srtOk xs = true) : PySem.W.Sortable (xs.map pyd) := by
  unfold srtOk at h
  simp only [Bool.and_eq_true, Bool.or_eq_true, List.all_eq_true] at h
  rcases h.2 with h | h
  · refine .inl fun d hd => ?_
    obtain ⟨b, hb, rfl⟩ := List.mem_map.mp hd
    have := h b hb
    unfold filled at this
    split at this
    · exact ⟨_, _, rfl⟩
    · cases this
  · refine .inr fun d hd => ?_
    obtain ⟨b, hb, rfl⟩ := List.mem_map.mp hd
    have := h b hb
    unfold isInt0 at this
    split at this
    · exact ⟨by simp [pyd], fun _ e => by simp [pyd] at e⟩
    · cases this
theorem cr_sortedD {X : Cx} (hu : X.A.units + 64 < cLine) : CallR X (.builtin "sorted") (rSortedD X.K T) := by
  intro pins s σ H vs us Q I r h
  obtain ⟨a, zs, P, ds, rfl, hs, hp, rep, hok, q⟩ := h
  rw [Vals.ref1 r]
  obtain ⟨its, rv, hl, hz⟩ : ∃ its : List Value, Vals zs its ∧ (s.heap.IsList a its.toArray ∨ IsTup s.heap a its.toArray) ∧ zs.length ≤ sizeLine := by
    rcases hs with hs | hs
    · obtain ⟨its, rv, hl, hz⟩ := I.list (SqL.of hs)
      exact ⟨its, rv, .inl hl.isList, hz⟩
    · obtain ⟨its, rv, hl, hz⟩ := I.tuple (SqT.of hs)
      exact ⟨its, rv, .inr hl, hz⟩
  have hd : ∀ d ∈ ds, datD d = true ∧ dpD d ≤ 10 := fun d h => by
    unfold srtOk at hok
    simp only [Bool.and_eq_true, List.all_eq_true, decide_eq_true_eq] at hok
    exact hok.1.1.2 d h
  have hdl : ds.length = zs.length := by
    clear hok hd q hs hz rv
    induction ds generalizing zs with
    | nil => unfold RepAll at rep; subst rep; rfl
    | cons d ds ih =>
      unfold RepAll at rep
      obtain ⟨v, t, rfl, r1, r2⟩ := rep
      rw [List.length_cons, List.length_cons, ih t r2]
  refine sorted_data' hl (each_rep rep rv) (each_reads I.hok hp (fun d h => (hd d h).1) rep rv) (srt_like hok) (srt_able hok) (by omega) (fun b hb => ?_) fun out ho eo => ?_
  · have := dp_ok b
    have := (hd b hb).2
    show X.A.units + 2 + _ < cLine
    omega
  · obtain ⟨ws, g1, g2⟩ := rep_each eo
    obtain ⟨ep, he'⟩ := PyProof.Rows.sortedAll_at s.heap its out.toArray
    have hlen : ws.length ≤ sizeLine := by
      rw [g1.length, ho]; omega
    exact ⟨.ref _, upd H (s.heap.objs.size + 1) (.lst ws), I.laid (t' := s.toks) (fun _ _ => PyProof.Rows.sortedAll_old) (Nat.le_succ _) ⟨hlen, out, ep, g1, he'⟩, rfl, q _ _ g2 (I.hok.fresh (Nat.le_succ _))⟩
theorem ev_sort (g : Gd X k) (hg : Gl X "sorted") (ha : Ev X T W .B ρ a da) (hs : starEach [a] X.env = (false, eval a X.env) :: starEach [] X.env) :
    Ev X T W .F ρ (.Call (.Name "sorted" p) [a] [] pos) (da.bind sortR) := fun P H σ Q S qq => by
  have hu : X.A.units + 64 < cLine := by have := g.room.un; omega
  refine wpE_of (pe_callB (cr_sortedD (T := T) hu) hg g.bi.sorted (by decide +kernel) (pa_cons pw pa_nil hs) (by decide +kernel) (by decide +kernel) hs rfl) ?_
  refine ev_bind ha S qq fun v w P1 H1 e1 S1 r1 q1 => ?_
  have key : ∀ (xs : List D) (b : Addr) (zs : List V), w = .ref b → (H1 b = some (.lst zs) ∨ H1 b = some (.tup zs)) → RepAll X.K T P1 xs zs → Post X.K T W .F P1 H1 σ (if srtOk xs then R.ok (.lst (xs.mergeSort (PySem.W.dataLe false pyd))) else .bad) Q → rSortedD X.K T [w] H1 Q := by
    intro xs b zs hw hb rep q1
    split at q1
    · rename_i hok
      refine ⟨b, zs, P1, xs, by rw [hw], hb, fun c z h => e1.ph _ _ h, rep, hok, fun ws t g1 ht0 => ?_⟩
      have hP1t : P1 t = none := by
        cases hh : P1 t with
        | none => rfl
        | some z => rw [e1.ph _ _ hh] at ht0; cases ht0
      refine q1 _ P1 _ ⟨Same.refl _, fun b z h => ?_, fun b z h => ?_, fun _ _ h => h⟩ ?_
      · rw [upd_ne (fun e => by rw [e, ht0] at h; cases h)]; exact h
      · rw [upd_ne (fun e => by rw [e, hP1t] at h; cases h)]; exact e1.ph _ _ h
      · show RepM X.K T .F H1 P1 _ (.lst _) (.ref t)
        unfold RepM
        dsimp only
        rw [if_pos (show cont (D.lst _) = true from rfl)]
        exact ⟨t, _, rfl, ht0, hP1t, upd_same, _, rfl, g1⟩
    · exact q1.elim
  have r1 : Rep X.K T P1 v w ∨ ∃ a o, w = .ref a ∧ P1 a = none ∧ H1 a = some o ∧ Own X.K T P1 v o := r1
  cases v with
  | lst xs =>
    rcases r1 with r1 | ⟨b, o, hw, h0, h1, h2⟩
    · unfold Rep at r1
      obtain ⟨b, zs, hw, h1, h2⟩ := r1
      exact key xs b zs hw (.inl (e1.ph _ _ h1)) h2 q1
    · unfold Own at h2
      obtain ⟨zs, rfl, h3⟩ := h2
      exact key xs b zs hw (.inl h1) h3 q1
  | tup xs =>
    rcases r1 with r1 | ⟨b, o, hw, h0, h1, h2⟩
    · obtain ⟨b, zs, hw, h1, h2⟩ := rep_tup.mp r1
      exact key xs b zs hw (.inr (e1.ph _ _ h1)) h2 q1
    · unfold Own at h2
      exact h2.elim
  | _ => exact q1.elim
end
end Fj

/-! ## Lay25 -/
namespace Fj
open PySem PySem.Spec PyProof.Rows L2
/-! ### i in range(n) -/
def inRgR : D → D → R Bool
  | .int i, .int n => .ok (decide (0 ≤ i ∧ i < n))
  | _, _ => .bad
def notInRgR (x y : D) : R Bool := notT (inRgR x y)
section
variable {K : PySem.W.Frag} {X : Cx} {T : Tb} {W : WX} {k : Nat} {ρ : List C} {a b c e ei tg iter elt : Expr} {es : List Expr} {da db di : R D} {ca cb : R Bool} {pos p p2 p3 px q q2 : Pos} {m : Md} {x y : Str} {fr : Bool} {i j : Nat}
theorem cr_range1 : CallR X (.type "range") (fun vs H Q => ∃ i, vs = [V.int i] ∧ ∀ p, H p = none → Q (.ref p) (upd H p (.rng 0 i))) := by
  intro pins s σ H vs us Q I r h
  obtain ⟨i, rfl, q⟩ := h
  obtain ⟨u1, rfl, ri⟩ := vals1 r
  obtain ⟨t, rfl⟩ := ri
  refine call_range_1 ⟨.ref s.heap.objs.size, upd H s.heap.objs.size (.rng 0 i), I.laid (t' := s.toks + 2) (fun b o e => Heap.get?_push_of_some _ e) (Nat.le_refl _) ?_, rfl, q _ (I.hok.fresh (Nat.le_refl _))⟩
  exact ⟨_, _, _, Heap.get?_push_size _ rfl⟩
theorem op_notin_rng : OpR X (compareOp .NotIn) (fun x y H Q => ∃ i a lo hi, x = V.int i ∧ y = V.ref a ∧ H a = some (.rng lo hi) ∧ Q (.bl (!decide (lo ≤ i ∧ i < hi))) H) := by
  intro pins s σ H x y v u Q I rx ry h
  obtain ⟨i, a, lo, hi, rfl, rfl, ha, q⟩ := h
  obtain ⟨k, rfl⟩ := rx
  obtain rfl : u = Value.ref a := ry
  obtain ⟨t1, t2, t3, ho⟩ := I.hok a _ ha
  show wpAny _ _ (do return Value.bool (!(← contains (Value.ref a) (Value.int i k)))) _ _ s
  refine wpAny_bind (wpAny_contains_slot (T := "range") ⟨_, ho, rfl⟩ F.slot_range_contains (call_meets F.slot_range_contains ⟨_, ho, rfl⟩ F.entry_range_contains (F.args_range_contains_2 _ _) (q_contains a lo hi i t1 t2 t3 k)
    ⟨ho, wpAny_truthy_bool (wpAny_pure ⟨.bl _, H, I, rfl, ?_⟩)⟩))
  rw [place1]
  exact q
theorem rg_step {P H : Hp} {σ : L2.St} {Q : Bool → Hp → Prop} (hg : Gl X "range") (g : Gd X k) (S : Sim X.K T P H σ ρ) (hb : Ev X T W .B ρ b db) (hs : starEach [b] X.env = (false, eval b X.env) :: starEach [] X.env) {f : D → R Bool}
    (hf : ∀ y, (∀ n, y ≠ .int n) → f y = .bad) (q : PostT T W P H σ (db.bind f) Q) {Q1 : VK} (h : ∀ n P1 H1 t, Ext P H P1 H1 → PostT T W P1 H1 σ (f (.int n)) Q → H1 t = none → Q1 (.ref t) (upd H1 t (.rng 0 n))) : wpE X (.Call (.Name "range" p) [b] [] pos) σ H Q1 := by
  refine wpE_of (pe_callTy cr_range1 hg g.bi.range (by decide +kernel) (pa_cons pw pa_nil hs) (by decide +kernel) (by decide +kernel) hs rfl) ?_
  refine ev_bindT hb S q fun y w P2 H2 e2 S2 r2 q2 => ?_
  cases y with
  | int n =>
    have r2 : w = .int n := B_int r2
    exact ⟨n, by rw [r2], fun t ht => h n P2 H2 t e2 q2 ht⟩
  | _ => rw [hf _ (by intro n e; cases e)] at q2; exact q2.elim
theorem inRg_bad {x y : D} (h : ∀ n, y ≠ .int n) : inRgR x y = .bad := by
  unfold inRgR
  cases x <;> cases y <;> first | rfl | exact absurd rfl (h _)
theorem notInRg_bad {x y : D} (h : ∀ n, y ≠ .int n) : notInRgR x y = .bad := by
  unfold notInRgR; rw [inRg_bad h]; rfl
theorem evT_inRg (g : Gd X k) (hg : Gl X "range") (hm : behindInMarks .In (.Call (.Name "range" p) [b] [] p2) = false) (ha : Ev X T W .B ρ a da) (hb : Ev X T W .B ρ b db) (hs : starEach [b] X.env = (false, eval b X.env) :: starEach [] X.env) :
    EvT X T W ρ (.Compare a [.In] [.Call (.Name "range" p) [b] [] p2] pos) (op2 inRgR da db) := fun P H σ Q S q => by
  refine wpT_of (pt_cmpR op_in_rng pw pw hm) ?_
  refine ev_bindT ha S q fun x v P1 H1 e1 S1 r1 q1 => ?_
  refine rg_step hg g S1 hb hs (fun y h => inRg_bad h) q1 fun n P2 H2 t e2 q2 ht => ?_
  cases x with
  | int i =>
    have r1 : v = .int i := B_int r1
    have q2 : ∀ P' H', Ext P2 H2 P' H' → Q (decide (0 ≤ i ∧ i < n)) H' := q2
    exact ⟨i, t, 0, n, r1, rfl, upd_same, _, rfl, q2 _ _ (Ext.fresh (by first | exact (S1.ext e2).sub | exact S1.sub.ext e2) ht)⟩
  | _ => exact q2.elim
theorem evT_notInRg (g : Gd X k) (hg : Gl X "range") (hm : behindInMarks .NotIn (.Call (.Name "range" p) [b] [] p2) = false) (ha : Ev X T W .B ρ a da) (hb : Ev X T W .B ρ b db) (hs : starEach [b] X.env = (false, eval b X.env) :: starEach [] X.env) :
    EvT X T W ρ (.Compare a [.NotIn] [.Call (.Name "range" p) [b] [] p2] pos) (op2 notInRgR da db) := fun P H σ Q S q => by
  refine wpT_of (pt_cmpR op_notin_rng pw pw hm) ?_
  refine ev_bindT ha S q fun x v P1 H1 e1 S1 r1 q1 => ?_
  refine rg_step hg g S1 hb hs (fun y h => notInRg_bad h) q1 fun n P2 H2 t e2 q2 ht => ?_
  cases x with
  | int i =>
    have r1 : v = .int i := B_int r1
    have q2 : ∀ P' H', Ext P2 H2 P' H' → Q (!decide (0 ≤ i ∧ i < n)) H' := q2
    exact ⟨i, t, 0, n, r1, rfl, upd_same, _, rfl, q2 _ _ (Ext.fresh (by first | exact (S1.ext e2).sub | exact S1.sub.ext e2) ht)⟩
  | _ => exact q2.elim
theorem postT_of_blE {P H : Hp} {σ : L2.St} {r : R Bool} {Q : VK} (h : Post X.K T W .F P H σ (blE r) Q) : PostT T W P H σ r (fun b H => Q (.bl b) H) := by
  cases r with
  | ok b => exact fun P' H' e => h _ P' H' e (plainF rfl (rep_bl.mpr rfl))
  | ex e => exact h
  | bad => exact h
theorem ev_inRg (g : Gd X k) (hg : Gl X "range") (hm : behindInMarks .In (.Call (.Name "range" p) [b] [] p2) = false) (ha : Ev X T W .B ρ a da) (hb : Ev X T W .B ρ b db) (hs : starEach [b] X.env = (false, eval b X.env) :: starEach [] X.env) :
    Ev X T W .F ρ (.Compare a [.In] [.Call (.Name "range" p) [b] [] p2] pos) (blE (op2 inRgR da db)) := fun P H σ Q S q => by
  refine wpE_of (pe_cmpR op_in_rng pw pw hm) ?_
  refine ev_bindT ha S (postT_of_blE q) fun x v P1 H1 e1 S1 r1 q1 => ?_
  refine rg_step hg g S1 hb hs (fun y h => inRg_bad h) q1 fun n P2 H2 t e2 q2 ht => ?_
  cases x with
  | int i =>
    have r1 : v = .int i := B_int r1
    have q2 : ∀ P' H', Ext P2 H2 P' H' → Q (.bl (decide (0 ≤ i ∧ i < n))) H' := q2
    exact ⟨i, t, 0, n, r1, rfl, upd_same, q2 _ _ (Ext.fresh (by first | exact (S1.ext e2).sub | exact S1.sub.ext e2) ht)⟩
  | _ => exact q2.elim
/-! ### a constant of the text -/
theorem ev_cI {n : Int} {t : Tok} (hg : Gl X x) (hm : X.mg x = some (.int n t)) (hd : (x == ("__debug__" : Str)) = false) : Ev X T W .F ρ (.Name x pos) (.ok (.int n)) := fun P H σ Q S q =>
  wpE_of (pe_glob (v := .int n) hg hm ⟨t, rfl⟩ hd) (q _ P H (Ext.refl S.sub) (plainF rfl (by unfold Rep; rfl)))
end
/-! ### a cut whose end changes things -/
def cutToR (x y : D) : R D := (boundR (some y)).bind fun h => cutI x none h
def cutFromR (x y : D) : R D := (boundR (some y)).bind fun l => cutI x l none
section
variable {S : Type} {K : PySem.W.Frag} {X : Cx} {T : Tb} {W : WX} {k : Nat} {ios : List Nat} {mk : S → List C} {s : S} {a hi : Expr} {ra : R (D × S)} {rb : S → R (D × S)} {pos sp : Pos}
theorem evx_cutTo (ha : EvX X T W .P ios mk s a ra) (hb : ∀ s, EvX X T W .P ios mk s hi (rb s)) : EvX X T W .F ios mk s (.Subscript a (.Slice none (some hi) none sp) pos) (opX cutToR ra rb) := fun z P H σ Q hz Z q => by
  refine wpE_of (pe_slice op_cut pw po_none (po_some pw)) ?_
  refine evx_bind ha (Same.refl _) hz Z q fun x s1 v P1 H1 e1 g1 Z1 r1 q1 => ?_
  refine evx_bind (hb s1) g1 hz Z1 q1 fun y s2 w P2 H2 e2 g2 Z2 r2 q2 => ?_
  have q3 : Post X.K T W .F P2 H2 σ (cutToR x y) Q := post_px g2 Z2 q2 (by simp)
  have r2' : RepM X.K T .B H2 P2 H2 y w := .inl r2
  have r1' : RepM X.K T .B H2 P2 H2 x v := .inl (Rep.mono e2 _ _ r1)
  obtain ⟨i, e, q4⟩ := bound_int (f := fun h => cutI x none h) r2' q3
  exact ⟨i, e, cut_of Z2.sim.sub r1' q4⟩
theorem evx_cutFrom (ha : EvX X T W .P ios mk s a ra) (hb : ∀ s, EvX X T W .P ios mk s hi (rb s)) : EvX X T W .F ios mk s (.Subscript a (.Slice (some hi) none none sp) pos) (opX cutFromR ra rb) := fun z P H σ Q hz Z q => by
  refine wpE_of (pe_slice op_cut pw (po_some pw) po_none) ?_
  refine evx_bind ha (Same.refl _) hz Z q fun x s1 v P1 H1 e1 g1 Z1 r1 q1 => ?_
  refine evx_bind (hb s1) g1 hz Z1 q1 fun y s2 w P2 H2 e2 g2 Z2 r2 q2 => ?_
  have q3 : Post X.K T W .F P2 H2 σ (cutFromR x y) Q := post_px g2 Z2 q2 (by simp)
  have r2' : RepM X.K T .B H2 P2 H2 y w := .inl r2
  have r1' : RepM X.K T .B H2 P2 H2 x v := .inl (Rep.mono e2 _ _ r1)
  obtain ⟨i, e, q4⟩ := bound_int (f := fun l => cutI x l none) r2' q3
  exact ⟨i, e, cut_of Z2.sim.sub r1' q4⟩
end
end Fj

/-! ## Lay26 -/
namespace Fj
open PySem PySem.Spec PyProof.Rows L2
/-! ### x[i], x[j] = e, x an own list -/
def setL (d i v : D) : R D := match d, i with
  | .lst xs, .int k => (ofO (ixN xs.length k)).bind fun j => .ok (.lst (xs.set j v))
  | _, _ => .bad
def set2E (d : D) (da di : R D) (dj : D → R D) : R D := if isList d = false then .bad else da.bind (un2 fun v w => di.bind fun i => (setL d i v).bind fun d1 => (dj d1).bind fun j => setL d1 j w)
section
variable {K : PySem.W.Frag} {X : Cx} {T : Tb} {W : WX} {k : Nat} {ρ : List C} {a b c e ei ej tg iter elt : Expr} {da db di : R D} {ca cb : R Bool} {pos p p2 p3 px : Pos} {m : Md} {x y : Str} {fr : Bool} {i j : Nat}
variable {S B : Type} {ios : List Nat} {mkN : S → List C} {mkB : B → List C} {rest body : List Stmt} {r : R (Fl S B)} {st : List Stmt} {d : D}
theorem un2_bind {β γ : Type} (F : D → D → R β) (G : β → R γ) (d : D) : (un2 F d).bind G = un2 (fun v w => (F v w).bind G) d := by
  unfold un2
  split <;> first | rfl | (split <;> rfl)
theorem ss_set2 {s1 s2 pt p4 : Pos} {kt : Nat} {dj : D → R D} {F : D → R (Fl S B)} (g : Gd X k) (hi : ρ[i]? = some (.own d)) (hN : X.N[i]? = some x) (hv : Vis X.env.scope x) (hd : (x == ("__debug__" : Str)) = false) (hcd : (x == ("__classdict__" : Str)) = false)
    (he : Ev X T W .P ρ e da) (hj : Ev X T W .P ρ ei di) (hj2 : ∀ v, Ev X T W .P (ρ.set i (.own v)) ej (dj v))
    (hpg : SubSt X (.Name x px) ei s1) (hpg2 : SubSt X (.Name x p4) ej s2) (hs1 : swapsWithSole [.Tuple [.Subscript (.Name x px) ei s1, .Subscript (.Name x p4) ej s2] kt pt] e pos.line X.env = pure false) (hs2 : swappedStores [.Tuple [.Subscript (.Name x px) ei s1, .Subscript (.Name x p4) ej s2] kt pt] e X.env = pure none)
    (hr : ∀ v, Ss X T W fr ios mkN mkB (ρ.set i (.own v)) rest (F v)) : Ss X T W fr ios mkN mkB ρ (.Assign [.Tuple [.Subscript (.Name x px) ei s1, .Subscript (.Name x p4) ej s2] kt pt] e pos :: rest) ((set2E d da di dj).bind F) := fun z P H σ D1 hz Z h => by
  obtain ⟨u, h5, a', o', rfl, h7, h8, h9⟩ := cell_at Z.sim hi
  cases d with
  | lst xs =>
    have h2 : PostS X.K T W fr mkN mkB z (da.bind fun q => un2 (fun v w => di.bind fun i => (setL (.lst xs) i v).bind fun d1 => ((dj d1).bind fun j => setL d1 j w).bind F) q) D1 := by
      unfold set2E at h
      rw [if_neg (by simp [isList])] at h
      cases da with
      | bad => exact h
      | ex e => exact h
      | ok q =>
        have h : PostS X.K T W fr mkN mkB z ((un2 (fun v w => di.bind fun i => (setL (.lst xs) i v).bind fun d1 => (dj d1).bind fun j => setL d1 j w) q).bind F) D1 := h
        rw [un2_bind] at h
        show PostS X.K T W fr mkN mkB z (un2 _ q) D1
        have e : (fun v w => (di.bind fun i => (setL (.lst xs) i v).bind fun d1 => (dj d1).bind fun j => setL d1 j w).bind F) = fun v w => di.bind fun i => (setL (.lst xs) i v).bind fun d1 => ((dj d1).bind fun j => setL d1 j w).bind F := by
          funext v w
          cases di with
          | bad => rfl
          | ex e => rfl
          | ok i =>
            show ((setL (.lst xs) i v).bind _).bind F = (setL (.lst xs) i v).bind _
            cases setL (.lst xs) i v <;> rfl
        rw [e] at h
        exact h
    refine wpSs_of (pss_cons (ps_asg pw (pg_tup (n := 2) g.calm (pgs_cons (pg_sub (pe_var hN hv hd hcd) pw set_list hpg) (pgs_cons (pg_sub (pe_var hN hv hd hcd) pw set_list hpg2) pgs_nil))) hs1 hs2) ssw) ?_
    refine ss_bind he Z h2 fun vw w P1 H1 e1 Z1 r1 q1 => ?_
    have r1 : Rep X.K T P1 vw w := r1
    unfold un2 at q1
    split at q1
    all_goals first | exact q1.elim | skip
    · rename_i v v2 _
      obtain ⟨b, us, rfl, g1, g2⟩ := rep_tup.mp r1
      unfold RepAll at g2
      obtain ⟨w1, t, rfl, ra, g2⟩ := g2
      unfold RepAll at g2
      obtain ⟨w2, t, rfl, rb, g2⟩ := g2
      unfold RepAll at g2
      subst g2
      refine ⟨b, [w1, w2], rfl, SqT.of (Z1.sim.sub _ _ g1), rfl, w1, [w2], rfl, _, h5, ?_⟩
      refine ss_bind hj Z1 q1 fun vi wi P2 H2 e2 Z2 r2 q2 => ?_
      cases vi with
      | int j =>
        have q2 : PostS X.K T W fr mkN mkB z (((ofO (ixN xs.length j)).bind fun n => .ok (.lst (xs.set n v))).bind fun d1 => ((dj d1).bind fun j => setL d1 j v2).bind F) D1 := q2
        cases hn : Fj.ixN xs.length j with
        | none => rw [hn] at q2; exact q2.elim
        | some n =>
          rw [hn] at q2
          have q2 : PostS X.K T W fr mkN mkB z (((dj (.lst (xs.set n v))).bind fun j => setL (.lst (xs.set n v)) j v2).bind F) D1 := q2
          obtain ⟨vs, rfl, h10⟩ := h9
          have r2 : wi = .int j := by unfold RepM Rep at r2; exact r2
          have h8' := e2.hh _ _ (e1.hh _ _ h8)
          have h10' := RepAll.mono (e1.pp.trans e2.pp) _ _ h10
          refine ⟨a', vs, j, n, rfl, r2, h8', by rw [h10.length]; exact hn, ?_⟩
          have hl : i < ρ.length := (List.getElem?_eq_some_iff.mp hi).1
          have Z3 := Z2.change (d' := .lst (xs.set n v)) hi h5 (o' := .lst (vs.set n w1)) ⟨vs.set n w1, rfl, set_rep h10' (Rep.mono e2.pp _ _ ra)⟩
          refine ⟨w2, [], rfl, _, h5, ?_⟩
          have q3 : PostS X.K T W fr mkN mkB z ((dj (.lst (xs.set n v))).bind fun j => (setL (.lst (xs.set n v)) j v2).bind F) D1 := by
            cases hdj : dj (.lst (xs.set n v)) <;> (rw [hdj] at q2; exact q2)
          refine ss_bind (hj2 _) Z3 q3 fun vj wj P4 H4 e4 Z4 r4 q4 => ?_
          cases vj with
          | int j2 =>
            have q4 : PostS X.K T W fr mkN mkB z (((ofO (ixN (xs.set n v).length j2)).bind fun n2 => .ok (.lst ((xs.set n v).set n2 v2))).bind F) D1 := q4
            cases hn2 : Fj.ixN (xs.set n v).length j2 with
            | none => rw [hn2] at q4; exact q4.elim
            | some n2 =>
              rw [hn2] at q4
              have r4 : wj = .int j2 := by unfold RepM Rep at r4; exact r4
              have hi3 : (ρ.set i (.own (.lst (xs.set n v))))[i]? = some (.own (.lst (xs.set n v))) := List.getElem?_set_self hl
              have h11 := RepAll.mono e4.pp _ _ (set_rep (n := n) h10' (Rep.mono e2.pp _ _ ra))
              refine ⟨a', vs.set n w1, j2, n2, rfl, r4, e4.hh _ _ upd_same, by rw [List.length_set, h10.length]; rw [List.length_set] at hn2; exact hn2, ?_⟩
              have Z5 := Z4.change (d' := .lst ((xs.set n v).set n2 v2)) hi3 h5 (o' := .lst ((vs.set n w1).set n2 w2)) ⟨_, rfl, set_rep h11 (Rep.mono (e2.pp.trans e4.pp) _ _ rb)⟩
              rw [List.set_set] at Z5
              refine ⟨rfl, hr _ z P4 _ _ D1 hz Z5 q4⟩
          | _ => exact q4.elim
      | _ => exact q2.elim
  | _ => unfold set2E at h; exact h.elim
end
end Fj

/-! ## Lay27 -/
/-! set(xs) of tuples of whole numbers, as in the kit's rule, but the bound is one on how many differ -/
namespace Fj
open PySem PySem.Spec PyProof.Rows L2
section
variable {P : Program} {w : World} {A : Around} {E : Value → Shared → Prop} {s : Shared}
/-- set.update's loop -/
theorem setBig_loop {I : Addr} {fp wr : List Addr} {G : Array GenState → Array GenState → Prop} {n : Nat} {Pv : Nat → Value → Prop} {St : Nat → Shared → Prop} {R : Result → Shared → Prop}
    (W : WalksS P w A.in1 I fp wr G n Pv St) (S : Addr) (hSf : S ∉ fp) (ks : List (Addr × List Int)) (hn : n = ks.length) (hfew : ∀ L : List (Addr × List Int), (∀ p ∈ L, p ∈ ks) → (L.map (·.2)).Nodup → L.length ≤ 62) (hval : ∀ i v, Pv i v → ∃ p, ks[i]? = some p ∧ v = .ref p.1)
    (h0 : Heap) (hk : ∀ p ∈ ks, IsT P w h0 p.2 p.1) (hS0 : h0.get? S = none) (hw0 : ∀ b ∈ wr, h0.get? b = none) (hu : A.in1.units < cLine) :
    ∀ (k i : Nat) (s : Shared), n - i = k → i ≤ n → St i s → (∀ b o, h0.get? b = some o → s.heap.get? b = some o) → (∃ L es ep t, SetTR P w s.heap S L es ep t ∧ Got ks i L) →
      (∀ s' L es ep t, Moved (S :: wr) G s s' → SetTR P w s'.heap S L es ep t → Got ks n L → (∀ b o, h0.get? b = some o → s'.heap.get? b = some o) → R (.ok (.ret .none)) s') →
      codeAny (model P w) A (.builtin "set.update.loop" ⟨[.ref S, .ref I], []⟩) R s := by
  have hSw : S ∉ wr := fun h => hSf (W.sub _ h)
  have hsub : ∀ b ∈ wr, b ∈ S :: wr := fun b hb => List.mem_cons_of_mem _ hb
  have keepM : ∀ {s s' : Shared}, Moved wr G s s' → (∀ b o, h0.get? b = some o → s.heap.get? b = some o) → ∀ b o, h0.get? b = some o → s'.heap.get? b = some o := fun hm hkp b o e =>
    hm.heap b o (fun hb => by rw [hw0 b hb] at e; cases e) (hkp b o e)
  intro k
  induction k with
  | zero =>
    intro i s hk' hi hst hkp ⟨L, es, ep, t, hS, g⟩ hR
    have hin : i = n := by omega
    subst hin
    refine codeAny_builtin F.entry_set_update_loop ?_
    rw [Around.under_plainId F.plain_set_update_loop _]
    show wpAny _ A.in1 (pyNext (.ref I) >>= _) _ _ s
    refine wpAny_bind (W.done s _ _ hst fun s' hm => ?_)
    show wpAny _ A.in1 (ret Value.none) _ _ s'
    have hkp' := keepM hm hkp
    have sub : ∀ p ∈ L, p ∈ ks := fun p hp => List.mem_of_mem_take (g.sub p hp)
    exact wpAny_pure (hR s' L es ep t (hm.mono hsub) (hS.keep (fun o e => hm.heap S o hSw e) fun p hp => isT_keep (hk p (sub p hp)) hkp') g hkp')
  | succ k ih =>
    intro i s hk' hi hst hkp ⟨L, es, ep, t, hS, g⟩ hR
    have hlt : i < n := by omega
    refine codeAny_builtin F.entry_set_update_loop ?_
    rw [Around.under_plainId F.plain_set_update_loop _]
    show wpAny _ A.in1 (pyNext (.ref I) >>= _) _ _ s
    refine wpAny_bind (W.item i s _ _ hlt hst fun v s' hP hst' hm => ?_)
    obtain ⟨p, hp, rfl⟩ := hval i v hP
    have hkp' := keepM hm hkp
    have sub : ∀ p ∈ L, p ∈ ks := fun p hp => List.mem_of_mem_take (g.sub p hp)
    have hS' : SetTR P w s'.heap S L es ep t := hS.keep (fun o e => hm.heap S o hSw e) fun q hq => isT_keep (hk q (sub q hq)) hkp'
    have hx : IsT P w s'.heap p.2 p.1 := isT_keep (hk p (List.mem_of_getElem? hp)) hkp'
    show wpAny _ A.in1 (holding [Value.ref p.1] (setAdd S (.ref p.1)) >>= _) _ _ s'
    refine wpAny_bind (wpAny_holding ?_)
    unfold setAdd
    refine wpAny_holding ?_
    refine wpAny_bind (wpAny_pyHash_tuple hu hx ?_)
    refine add_at (s := { s' with toks := s'.toks + (p.2.length + 1) }) hS' hx hu (by have := hfew L sub hS'.nd; omega) fun b h' L' es' ep' t' hsb hS2 c1 c2 => ?_
    have g' : Got ks (i + 1) L' := by
      rcases Classical.em (p.2 ∈ L.map (·.2)) with c | c
      · rw [c1 c]; exact g.same hp c
      · exact g.more hp (c2 c)
    have hkp2 : ∀ b o, h0.get? b = some o → h'.get? b = some o := fun b o e => (hsb.2 b (fun z => by rw [z, hS0] at e; cases e)).trans (hkp' b o e)
    refine wpAny_pure ⟨plainId_quiet F.plain_set_update_loop _, ih (i + 1) _ (by omega) hlt (W.frame _ s' _ _ hst' (Nat.le_add_right _ _) fun b hb o e => ?_) hkp2 ⟨L', es', ep', t', hS2, g'⟩ fun s'' L2 es2 ep2 t2 hm'' hS'' g'' hkp'' => ?_⟩
    · rw [hsb.2 b (fun h : b = S => hSf (by rw [← h]; exact hb))]; exact e
    · refine hR s'' L2 es2 ep2 t2 (Moved.trans W.gtrans ((hm.mono hsub).then_heap (Nat.le_add_right _ _) fun b o hb e => ?_) hm'') hS'' g'' hkp''
      rw [hsb.2 b (fun h : b = S => hb (by rw [h]; exact List.mem_cons_self))]; exact e

set_option maxHeartbeats 3200000 in
/-- set(xs) -/
theorem call_setBig {l : Addr} {items : Array Value} (ks : List (Addr × List Int)) {Q : Value → Shared → Prop} (hh : A.handled = none) (hl : s.heap.IsList l items) (hit : items.toList = ks.map fun p => Value.ref p.1)
    (hk : ∀ p ∈ ks, IsT P w s.heap p.2 p.1) (hfew : ∀ L : List (Addr × List Int), (∀ p ∈ L, p ∈ ks) → (L.map (·.2)).Nodup → L.length ≤ 62) (hu : A.units + 3 < cLine)
    (h : ∀ (h' : Heap) (tk : Nat) L es ep t, SetTR P w h' s.heap.objs.size L es ep t → Got ks ks.length L → (∀ b o, s.heap.get? b = some o → h'.get? b = some o) → Q (.ref s.heap.objs.size) { s with heap := h', toks := tk }) :
    wpAny (model P w) A (call (.type "set") [.ref l]) Q E s := by
  have hisz : items.size = ks.length := by
    have q := congrArg List.length hit
    rw [Array.length_toList, List.length_map] at q
    exact q
  obtain ⟨c, tl, hmro⟩ := F.called_set.mro
  have hmade := F.called_set.made
  have hsub := F.called_set.sub
  refine wpAny_call (codeAny_of_tree ?_)
  show wpAny _ _ (callAny (.type "set") _) _ _ _
  refine wpAny_pure ⟨Code.quiet_builtin _ (by decide +kernel), codeAny_builtin F.entry_type_call ?_⟩
  rw [Around.under_plain (weight_type_call_type "set" [.ref l] []) rfl]
  have h1 := F.called_set.notType
  have h2 := F.called_set.canCreate
  have hct := F.typeCall_set_1 (.ref l)
  repeat (any_goals (first | assumption | wp_step))

  refine codeAny_mono (code_set_led1 (.ref l) (E := E) (Q₁ := fun obj s₁ => obj = .ref s.heap.objs.size ∧ s₁ = { s with heap := s.heap.push { cls := .type "set", dict := none, data := .set #[] 0 (.fresh 0 0 (!w.params.followText "set-order")) } }) ⟨rfl, rfl⟩) fun r s₁ hr => ?_
  cases r with
  | error e => exact hr
  | ok fl =>
    cases fl with
    | ret obj =>
      obtain ⟨rfl, rfl⟩ := hr
      have hS : (s.heap.push { cls := .type "set", dict := none, data := .set #[] 0 (.fresh 0 0 (!w.params.followText "set-order")) }).get? s.heap.objs.size = some { cls := .type "set", dict := none, data := .set #[] 0 (.fresh 0 0 (!w.params.followText "set-order")) } := Heap.get?_push_size _ rfl
      have hT : Shared.TypeIs { s with heap := s.heap.push { cls := .type "set", dict := none, data := .set #[] 0 (.fresh 0 0 (!w.params.followText "set-order")) } } (.ref s.heap.objs.size) "set" := ⟨_, hS, rfl⟩
      have hli := F.called_set.init.lookup
      have hbi := F.called_set.init.bind (.ref s.heap.objs.size)
      repeat (any_goals (first | assumption | wp_step))

      refine codeAny_mono (codeAny_call_builtin (R := wants (fun r s₂ => r = .none ∧ ∃ h' tk L es ep t, s₂ = { s with heap := h', toks := tk } ∧ SetTR P w h' s.heap.objs.size L es ep t ∧ Got ks ks.length L ∧
          (∀ b o, s.heap.get? b = some o → h'.get? b = some o)) E) F.called_set.init.plain F.entry_set_init (check_set_init_1 hT ?_)) fun r₂ s₂ hr₂ => ?_
      · obtain ⟨ol, hol, hcl, nl, hdl⟩ := hl
        obtain ⟨ocls, odict, odata, oslots⟩ := ol
        simp only at hcl hdl
        subst hcl; subst hdl
        have hol' : (s.heap.push { cls := .type "set", dict := none, data := .set #[] 0 (.fresh 0 0 (!w.params.followText "set-order")) }).get? l = some { cls := .type "list", dict := odict, data := .seq items nl, slots := oslots } := Heap.get?_push_of_some _ hol
        have hsls := F.sub_list_set
        have hslf := F.sub_list_frozenset
        have hne : (Value.type "list" == Value.type "dict") = false := by decide
        have hl1 : (s.heap.push { cls := .type "set", dict := none, data := .set #[] 0 (.fresh 0 0 (!w.params.followText "set-order")) }).IsList l items := ⟨_, hol', rfl, nl, rfl⟩
        unfold Builtin.«set.__init__» noKeywords Builtin.Frozenset.updateFrom
        generalize hPI : pyIter = PI
        wp_walk
        subst hPI

        refine wpAny_pyIter_list hl1 ?_
        refine wpAny_bind (wpAny_runValue ?_)
        have hlS : l < s.heap.objs.size := Heap.lt_size hol
        have hh3 : A.in1.in1.in1.handled = none := by simp [hh]
        have hz1 : (s.heap.push { cls := .type "set", dict := none, data := .set #[] 0 (.fresh 0 0 (!w.params.followText "set-order")) }).objs.size = s.heap.objs.size + 1 := Heap.size_push ..
        have hneI : l ≠ (s.heap.push { cls := .type "set", dict := none, data := .set #[] 0 (.fresh 0 0 (!w.params.followText "set-order")) }).objs.size := by
          rw [Heap.size_push]; exact Nat.ne_of_lt (Nat.lt_succ_of_lt hlS)
        have hSf : s.heap.objs.size ∉ [(s.heap.push { cls := .type "set", dict := none, data := .set #[] 0 (.fresh 0 0 (!w.params.followText "set-order")) }).objs.size, l] := by
          rw [Heap.size_push]; simp only [List.mem_cons, List.mem_singleton, List.not_mem_nil, or_false, not_or]
          exact ⟨Nat.ne_of_lt (Nat.lt_succ_self _), Nat.ne_of_gt hlS⟩
        have hval : ∀ (i : Nat) (v : Value), items[i]? = some v → ∃ p, ks[i]? = some p ∧ v = .ref p.1 := fun i v hv => by
          have q : items.toList[i]? = some v := by rw [Array.getElem?_toList]; exact hv
          rw [hit, List.getElem?_map] at q
          cases hq : ks[i]? with
          | none => rw [hq] at q; cases q
          | some p =>
            rw [hq] at q
            exact ⟨p, rfl, (Option.some.inj q).symm⟩
        have none_of : ∀ b, s.heap.objs.size ≤ b → s.heap.get? b = none := fun b hb => by
          cases q : s.heap.get? b with
          | none => rfl
          | some o => exact absurd (Nat.lt_of_lt_of_le (Heap.lt_size q) hb) (Nat.lt_irrefl _)
        refine setBig_loop ((Walks.list hh3 _ l hneI items).toS) s.heap.objs.size
          hSf ks hisz hfew hval s.heap hk (none_of _ (Nat.le_refl _)) (fun b hb => none_of b (by
            rw [List.mem_singleton.mp hb, Heap.size_push]
            exact Nat.le_succ _)) hu (items.size - 0) 0 _ (by omega) (Nat.zero_le _)
          ⟨⟨_, Heap.get?_push_size _ rfl, rfl, rfl⟩, (hl1.push _)⟩ (fun b o e => Heap.get?_push_of_some _ (Heap.get?_push_of_some _ e)) ?hS0 ?hR
        case hS0 =>
          have hget : ((s.heap.push { cls := .type "set", dict := none, data := .set #[] 0 (.fresh 0 0 (!w.params.followText "set-order")) }).push { cls := .type "list_iterator", data := .fields #[.ref l, .int 0 0] }).get? s.heap.objs.size
              = some { cls := .type "set", dict := none, data := .set #[] 0 (.fresh 0 0 (!w.params.followText "set-order")) } := Heap.get?_push_of_some _ hS
          exact ⟨[], #[], 0, _, setTR_fresh hget, Got.zero ks⟩
        case hR =>
          intro s' L es ep t hm hS' g' hkp
          obtain ⟨h', g2, d', tk', os'⟩ := s'
          have eg : g2 = s.gens := hm.gens
          have ed : d' = s.drawn := hm.drawn
          have eo : os' = s.os := hm.os
          subst eg; subst ed; subst eo
          show wpAny _ _ _ _ _ _
          refine wpAny_pure ?_
          show wpAny _ _ (ret Value.none) _ _ _
          rw [hisz] at g'
          exact wpAny_pure ⟨rfl, h', tk', L, es, ep, t, rfl, hS', g', hkp⟩

      · cases r₂ with
        | error e => exact hr₂
        | ok fl₂ =>
          cases fl₂ with
          | ret r =>
            obtain ⟨rfl, h', tk, L, es, ep, t, rfl, hS', g', hk'⟩ := hr₂
            repeat (any_goals (first | assumption | wp_step))
            exact h _ _ _ _ _ _ hS' g' hk'
          | _ => exact hr₂.elim
    | _ => exact hr.elim

end
section
variable {X : Cx}
def rSetBig (K : PySem.W.Frag) (P : Program) (w : World) : List V → Hp → VK → Prop := fun xs H Q => ∃ (l : Addr) (ks : List (Addr × List Int)), xs = [V.ref l] ∧ SqL K H l (ks.map fun p => V.ref p.1) ∧ (∀ p ∈ ks, SqT K H p.1 (p.2.map V.int)) ∧ (∀ L : List (Addr × List Int), (∀ p ∈ L, p ∈ ks) → (L.map (·.2)).Nodup → L.length ≤ 62) ∧
  ∀ a L, H a = none → (∀ p ∈ L, p ∈ ks) → (∀ p ∈ ks, p.2 ∈ L.map (·.2)) → Q (.ref a) (upd H a (SetTO P w a L))
theorem cr_setBig (hc : X.calm = true) (hu : X.A.units + 64 < cLine) : CallR X (.type "set") (rSetBig X.K X.prog X.w) := by
  intro pins s σ H xs us Q I r h
  obtain ⟨l, ks, rfl, hl, hk, hf, q⟩ := h
  rw [Vals.ref1 r]
  obtain ⟨its, rv, pl, hz⟩ := I.list hl
  have hn : H s.heap.objs.size = none := I.hok.fresh (Nat.le_refl _)
  refine call_setBig (P := X.prog) (w := X.w) ks (I.ok.hd hc) pl.isList (by simpa using refs_of_vals rv) (fun p hp => I.isT (hk p hp)) hf (by omega) fun h' tk L es ep t R g k => ?_
  refine ⟨.ref s.heap.objs.size, upd H s.heap.objs.size (SetTO X.prog X.w s.heap.objs.size L), I.laid (t' := tk) k (Nat.le_refl _) (setTO_new R.t0), rfl, q _ L hn (fun p hp => ?_) fun p hp => ?_⟩
  · exact List.mem_of_mem_take (g.sub p hp)
  · exact g.all p (by rw [List.take_length]; exact hp)
end
end Fj

/-! ## Lay28 -/
namespace Fj
open PySem PySem.Spec PyProof.Rows L2

/-! ### sorted(set(..)) again: few differ -/
def sortSetB : D → R D
  | .lst xs => (ofO (tupsI xs)).bind fun ks => if decide ((setLex ks).length ≤ 62) && ks.all (fun k => decide (k.length = (ks.headD [0]).length) && k.all fun i => decide (0 ≤ i)) && decide (1 ≤ (ks.headD [0]).length) then .ok (.lst ((setLex ks).map fun k => .tup (k.map .int))) else .bad
  | _ => .bad
theorem len_subL {α : Type} [DecidableEq α] : ∀ {F U : List α}, F.Nodup → (∀ x ∈ F, x ∈ U) → F.length ≤ U.length
  | [], _, _, _ => Nat.zero_le _
  | x :: F, U, hn, hs => by
    have hn' := List.nodup_cons.mp hn
    have hx := hs x List.mem_cons_self
    have := len_subL (U := U.erase x) hn'.2 fun y hy => (List.mem_erase_of_ne (fun e => hn'.1 (by rw [← e]; exact hy))).mpr (hs y (List.mem_cons_of_mem _ hy))
    rw [List.length_erase_of_mem hx] at this
    have hp : 0 < U.length := List.length_pos_of_mem hx
    rw [List.length_cons]; omega
section
variable {K : PySem.W.Frag} {X : Cx} {T : Tb} {W : WX} {k : Nat} {ρ : List C} {a b c e ei tg iter elt : Expr} {es : List Expr} {da db di : R D} {ca cb : R Bool} {pos p p2 p3 px q q2 : Pos} {m : Md} {x y : Str} {fr : Bool} {i j : Nat}
theorem ev_sortSetB (g : Gd X k) (hg : Gl X "sorted") (hg2 : Gl X "set") (ha : Ev X T W .P ρ a da) (hs : starEach [a] X.env = (false, eval a X.env) :: starEach [] X.env)
    (hs2 : starEach [.Call (.Name "set" p2) [a] [] q2] X.env = (false, eval (.Call (.Name "set" p2) [a] [] q2) X.env) :: starEach [] X.env) :
    Ev X T W .F ρ (.Call (.Name "sorted" p) [.Call (.Name "set" p2) [a] [] q2] [] pos) (da.bind sortSetB) := fun P H σ Q S qq => by
  have hu : X.A.units + 64 < cLine := by have := g.room.un; omega
  refine wpE_of (pe_callB (cr_sortedT g.calm) hg g.bi.sorted (by decide +kernel) (pa_cons (pe_callTy (cr_setBig g.calm hu) hg2 g.bi.set (by decide +kernel) (pa_cons pw pa_nil hs) (by decide +kernel) (by decide +kernel) hs rfl) pa_nil hs2) (by decide +kernel) (by decide +kernel) hs2 rfl) ?_
  refine ev_bind ha S qq fun v w P1 H1 e1 S1 r1 q1 => ?_
  cases v with
  | lst xs =>
    have r1 : Rep X.K T P1 (.lst xs) w := r1
    unfold Rep at r1
    obtain ⟨l, vs, rfl, h1, h2⟩ := r1
    unfold sortSetB at q1
    dsimp only at q1
    cases hk : tupsI xs with
    | none => rw [hk] at q1; exact q1.elim
    | some ks =>
      rw [hk] at q1
      simp only [ofO_some, R.ok_bind] at q1
      split at q1
      case isFalse => exact q1.elim
      case isTrue hok =>
      simp only [Bool.and_eq_true, decide_eq_true_eq, List.all_eq_true] at hok
      obtain ⟨⟨hlen, hall⟩, hd⟩ := hok
      obtain ⟨ps, rfl, e2, e3⟩ := tupsI_rep hk h2
      obtain ⟨B, hB⟩ := big_bound ks fun a ha i hi => (hall a ha).2 i hi
      have hmem : ∀ p ∈ ps, p.2 ∈ ks := fun p hp => by rw [← e2]; exact List.mem_map_of_mem hp
      refine ⟨l, ps, rfl, SqL.of (e1.ph _ _ h1), fun p hp => .inl (.inl (e1.ph _ _ (e3 p hp))), fun L hL hn => Nat.le_trans (len_subL hn fun a ha => mem_setLex.mpr (by
        obtain ⟨p, hp, rfl⟩ := List.mem_map.mp ha
        exact hmem p (hL p hp))) hlen |> fun h => (by rw [List.length_map] at h; exact h), fun s L hs0 hL1 hL2 => ?_⟩
      refine ⟨s, L, (ks.headD [0]).length, B, rfl, upd_same, fun p hp => ?_, hd, fun p hp => ?_, fun L' t hperm hnd h64 hpw ht => ?_⟩
      · have := e3 p (hL1 p hp)
        refine .inl (.inl ?_)
        rw [upd_ne (fun e => by rw [e] at this; rw [e1.ph _ _ this] at hs0; cases hs0)]
        exact e1.ph _ _ this
      · have h4 := hmem p (hL1 p hp)
        exact ⟨(hall p.2 h4).1, hB p.2 h4⟩
      · have hmL : ∀ p, p ∈ L' ↔ p ∈ L := fun p => hperm.mem_iff
        have hsnd : ∀ a, a ∈ L'.map (·.2) ↔ a ∈ ks := fun a => by
          constructor
          · intro h
            obtain ⟨p, hp, rfl⟩ := List.mem_map.mp h
            exact hmem p (hL1 p ((hmL p).mp hp))
          · intro h
            rw [← e2] at h
            obtain ⟨p, hp, rfl⟩ := List.mem_map.mp h
            obtain ⟨p', hp', e⟩ := List.mem_map.mp (hL2 p hp)
            rw [← e]
            exact List.mem_map_of_mem ((hmL p').mpr hp')
        have hss : SS (L'.map (·.2)) := by
          have hq : (L'.map (·.2)).Pairwise fun q r => TS.code B q ≤ TS.code B r := List.pairwise_map.mpr hpw
          refine List.Pairwise.imp_of_mem (fun {q r} hq hr h => ?_) (List.Pairwise.and hq hnd)
          have hq' := (hsnd q).mp hq
          have hr' := (hsnd r).mp hr
          rcases lexLt_total q r with h' | h' | h'
          · exact h'
          · exact absurd h' h.2
          · have := (code_lex (by rw [(hall q hq').1, (hall r hr').1]) (hB r hr') (hB q hq')).mp h'
            omega
        have heq : L'.map (·.2) = setLex ks := ss_eq hss setLex_ss fun a => by rw [hsnd, mem_setLex]
        have q1 : ∀ w P' H', Ext P1 H1 P' H' → RepM X.K T .F H1 P' H' (.lst ((setLex ks).map fun k => .tup (k.map .int))) w → Q w H' := q1
        rw [← heq, List.map_map] at q1
        have hP1s : P1 s = none := by
          cases hh : P1 s with
          | none => rfl
          | some z => rw [e1.ph _ _ hh] at hs0; cases hs0
        have ht0 : H1 t = none := by
          by_cases e : t = s
          · subst e; exact hs0
          · rw [upd_ne e] at ht; exact ht
        have hP1t : P1 t = none := by
          cases hh : P1 t with
          | none => rfl
          | some z => rw [e1.ph _ _ hh] at ht0; cases ht0
        refine q1 _ P1 _ ⟨Same.refl _, fun b z h => ?_, fun b z h => ?_, fun _ _ h => h⟩ ?_
        · rw [upd_ne (fun e => by rw [e, ht0] at h; cases h), upd_ne (fun e => by rw [e, hs0] at h; cases h)]; exact h
        · rw [upd_ne (fun e => by rw [e, hP1t] at h; cases h), upd_ne (fun e => by rw [e, hP1s] at h; cases h)]; exact e1.ph _ _ h
        · show RepM X.K T .F H1 P1 _ (.lst _) (.ref t)
          unfold RepM
          dsimp only
          rw [if_pos (show cont (D.lst (List.map ((fun k => D.tup (List.map D.int k)) ∘ fun x => x.snd) L')) = true from rfl)]
          refine ⟨t, _, rfl, ht0, hP1t, upd_same, _, rfl, ?_⟩
          clear q1 heq hss hsnd hpw hnd h64
          have hin : ∀ p ∈ L', P1 p.1 = some (.tup (p.2.map V.int)) := fun p hp => e3 p (hL1 p ((hmL p).mp hp))
          clear hmL hperm
          induction L' with
          | nil => exact RepAll.nil
          | cons p L' ih =>
            exact RepAll.cons (rep_tup.mpr ⟨p.1, p.2.map V.int, rfl, hin p List.mem_cons_self, rep_ints p.2⟩) (ih fun p hp => hin p (List.mem_cons_of_mem _ hp))
  | _ => exact q1.elim
end
end Fj

/-! ## Lay29 -/
namespace Fj
open PySem PySem.Spec PyProof.Rows L2
section
variable {K : PySem.W.Frag} {X : Cx} {T : Tb} {W : WX} {k : Nat} {ρ : List C} {a b c e ei ej tg iter elt : Expr} {da db di : R D} {ca cb : R Bool} {pos p p2 p3 px : Pos} {m : Md} {x y : Str} {fr : Bool} {i j : Nat}
variable {S B : Type} {ios : List Nat} {mkN : S → List C} {mkB : B → List C} {rest body thn : List Stmt} {r : R (Fl S B)} {st : List Stmt} {d : D}
def ownLst {α : Type} (d : D) (F : List D → R α) : R α := match d with
  | .lst xs => F xs
  | _ => .bad
@[simp] theorem ownLst_lst {α : Type} (xs : List D) (F : List D → R α) : ownLst (.lst xs) F = F xs := id rfl
/-- for x, y in xs: if c: return .. -- xs an own list that stands still -/
theorem ss_forOwn2T {i0 : Nat} {x0 : Str} {p0 py pt pi : Pos} {kt : Nat} {mk : List C} {mkE : Empty → List C} {tst : D → D → R Bool} {rv : D → D → R (Fl Empty Unit)} {kk : Unit → R (Fl S B)} (g : Gd X k) (hp : PassesOwn (model X.prog X.w) X.A X.env X.xe)
    (hi0 : ρ[i0]? = some (.own d)) (hN : X.N[i0]? = some x0) (hv : Vis X.env.scope x0) (hd : (x0 == ("__debug__" : Str)) = false) (hcd : (x0 == ("__classdict__" : Str)) = false) (hi : Sl X ios i x) (hj : Sl X ios j y) (h1 : i0 ≠ i) (h2 : i0 ≠ j)
    (hw : Weak ρ mk) (ho : ios.all (ownAt mk) = true) (hm : mk[i0]? = some (.own d)) (hwb : ∀ a b, Weak ((mk.set i (.val a)).set j (.val b)) mk)
    (hc : ∀ a b, EvT X T W ((mk.set i (.val a)).set j (.val b)) c (tst a b)) (hb : ∀ a b, Ss X T W fr ios mkE (fun _ : Unit => mk) ((mk.set i (.val a)).set j (.val b)) thn (rv a b)) (hr : Ss X T W fr ios mkN mkB mk rest (kk ()))
    (hfs : ∀ u, foldedSetIterable (.Name x0 p0) X.env u = pure u := by intro u; rfl) :
    Ss X T W fr ios mkN mkB ρ (.For (.Tuple [.Name x px, .Name y py] kt pt) (.Name x0 p0) [.If c thn [] pi] [] pos :: rest) (ownLst d fun ds => aftR (S := Unit) (forR ds () fun d _ => un2 (fun a b => ifE (tst a b) (endR (rv a b)) (.ok (.nx ()))) d) kk) := fun z P H σ D1 hz Z h => by
  obtain ⟨ds, rfl⟩ : ∃ ds, d = .lst ds := by
    cases d <;> first | exact ⟨_, rfl⟩ | exact h.elim
  have h : PostS X.K T W fr mkN mkB z (aftR (S := Unit) (forR ds () fun d _ => un2 (fun a b => ifE (tst a b) (endR (rv a b)) (.ok (.nx ()))) d) kk) D1 := h
  refine wpSs_of (pss_cons (ps_for hp g.calm iw (pg_tup g.calm (pgs_cons (pg_name g.nd hi.nm hi.lo hi.fn) (pgs_cons (pg_name g.nd hj.nm hj.lo hj.fn) pgs_nil rfl) rfl) (n := 2) rfl rfl) ssw hfs) ssw) ?_
  have h3 := post_aft (mk := fun _ : Unit => mk) hz (fun _ => hr) h
  show wpI X _ (.Name x0 p0) σ H _
  refine wpI_of (pi_list (pe_var hN hv hd hcd)) ?_
  obtain ⟨u, h5, a', o', rfl, h7, h8, h9⟩ := cell_at Z.sim hi0
  obtain ⟨vs, rfl, h10⟩ := h9
  refine ⟨_, h5, a', rfl, ⟨vs, SqL.of h8⟩, ?_⟩
  refine ⟨fun n m σ1 H1 => n + m = ds.length ∧ ∃ P1, SimZ X.K T z P1 H1 σ1 mk ∧ σ1[i0]? = some (some (.ref a')) ∧ PostS X.K T W fr (fun _ : Unit => mk) (fun _ : Unit => mk) z (forR (ds.drop n) () fun d _ => un2 (fun a b => ifE (tst a b) (endR (rv a b)) (.ok (.nx ()))) d) ⟨wpSs X rest D1, D1.rt, wpSs X rest D1, D1.ct⟩,
    ⟨ds.length, by omega, P, Z.weak hw (by rw [hz]; exact ho), h5, h3⟩, ?_⟩
  rintro n m σ1 H1 ⟨hnm, P1, Z1, hs1, q⟩
  obtain ⟨u, g5, a2, o2, rfl, g7, g8, g9⟩ := cell_at Z1.sim hm
  rw [hs1] at g5
  cases g5
  obtain ⟨us, rfl, g10⟩ := g9
  have hS : SqL X.K H1 a' us := SqL.of g8
  by_cases hlt : n < ds.length
  · obtain ⟨v0, hv0⟩ := at_of_lt (xs := us) (by rw [g10.length]; exact hlt)
    refine .inr ⟨⟨us, v0, hS, hv0⟩, fun σ2 H2 => ∃ m', m' < m ∧ (n + 1 + m' = ds.length ∧ ∃ P1, SimZ X.K T z P1 H2 σ2 mk ∧ σ2[i0]? = some (some (.ref a')) ∧ PostS X.K T W fr (fun _ : Unit => mk) (fun _ : Unit => mk) z (forR (ds.drop (n + 1)) () fun d _ => un2 (fun a b => ifE (tst a b) (endR (rv a b)) (.ok (.nx ()))) d) ⟨wpSs X rest D1, D1.rt, wpSs X rest D1, D1.ct⟩), fun _ _ h => h, fun xv H2 hy => ?_⟩
    obtain ⟨rfl, hy⟩ := hy
    have hxv := hy us hS
    obtain ⟨d0, hd0, hr0⟩ := rep_at g10 hxv
    have hdr : ds.drop n = d0 :: ds.drop (n + 1) := by
      rw [List.drop_eq_getElem_cons hlt]
      congr 1
      rw [List.getElem?_eq_getElem hlt] at hd0
      exact Option.some.inj hd0
    rw [hdr] at q
    unfold forR at q
    rw [un2_bind] at q
    obtain ⟨av, bv, rfl, q1⟩ := post_un2 q
    obtain ⟨t, u1, u2, rfl, k3, k4, k5⟩ := rep2 hr0
    have Zb := (Z1.set (io_ne hz hi.io) k4).set (io_ne hz hj.io) k5
    refine ⟨t, _, rfl, .inl (.inl (Z1.sim.sub _ _ k3)), rfl, _, _, rfl, _, _, rfl, rfl, ?_⟩
    have hs2 : (((σ1.set i (some u1)).set j (some u2)))[i0]? = some (some (.ref a')) := by
      rw [List.getElem?_set_ne (fun e => h2 e.symm), List.getElem?_set_ne (fun e => h1 e.symm)]; exact hs1
    refine wpSs_of (pss_cons (ps_if tw ssw pss_nil) ssw) ?_
    have q2 : PostS X.K T W fr (fun _ : Unit => mk) (fun _ : Unit => mk) z ((tst av bv).bind fun k => if k = true then endR (rv av bv) else forR (ds.drop (n + 1)) () fun d _ => un2 (fun a b => ifE (tst a b) (endR (rv a b)) (.ok (.nx ()))) d) ⟨wpSs X rest D1, D1.rt, wpSs X rest D1, D1.ct⟩ := by
      cases ht : tst av bv with
      | bad => rw [ht] at q1; exact q1
      | ex e => rw [ht] at q1; exact q1
      | ok bb =>
        rw [ht] at q1
        cases bb with
        | false => exact q1
        | true =>
          show PostS X.K T W fr (fun _ : Unit => mk) (fun _ : Unit => mk) z (endR (rv av bv)) ⟨wpSs X rest D1, D1.rt, wpSs X rest D1, D1.ct⟩
          cases hrv : rv av bv with
          | bad => rw [hrv] at q1; exact q1
          | ex e => rw [hrv] at q1; exact q1
          | ok fl =>
            rw [hrv] at q1
            cases fl with
            | nx s => exact nomatch s
            | bk s => exact q1
            | rt d os => exact q1
    refine ss_bindT (hc av bv) Zb q2 fun bb P3 H3 e3 Z3 q3 => ?_
    cases bb with
    | true =>
      have q3 : PostS X.K T W fr (fun _ : Unit => mk) (fun _ : Unit => mk) z (endR (rv av bv)) ⟨wpSs X rest D1, D1.rt, wpSs X rest D1, D1.ct⟩ := q3
      exact hb av bv z P3 H3 _ _ hz Z3 (by
        cases hrv : rv av bv with
        | bad => rw [hrv] at q3; exact q3
        | ex e => rw [hrv] at q3; exact q3
        | ok fl =>
          rw [hrv] at q3
          cases fl with
          | nx s => exact nomatch s
          | bk s => exact q3
          | rt d os => exact q3)
    | false =>
      exact wpSs_of pss_nil ⟨m - 1, by omega, by omega, P3, Z3.weak (hwb av bv) (by rw [hz]; exact ho), hs2, q3⟩
  · refine .inl ⟨⟨us, hS, by rw [g10.length]; omega⟩, ?_⟩
    rw [List.drop_eq_nil_of_le (by omega)] at q
    exact q P1 H1 σ1 Z1
end
end Fj

/-! ## Lay30 -/
namespace Fj
open PySem PySem.Spec PyProof.Rows L2
section
variable {X : Cx} {T : Tb} {W : WX} {ρ : List C} {fr : Bool} {S B : Type} {ios : List Nat} {mkN : S → List C} {mkB : B → List C} {st : List Stmt}
/-- what is never come to: the mirror says so -/
theorem ss_bad : Ss X T W fr ios mkN mkB ρ st .bad := fun _ _ _ _ _ _ _ h => h.elim
end
end Fj

/-! ## Mlib -/
namespace Fj
open PySem
/-! ### mathematics of the mirrors: tools -/
@[simp] theorem pX_ok {S : Type} (d : D) (s : S) : pX (.ok d) s = .ok (d, s) := id rfl
@[simp] theorem pXT_ok {S : Type} (d : Bool) (s : S) : pXT (.ok d) s = .ok (d, s) := id rfl
@[simp] theorem consX_ok {S : Type} (d : D) (s : S) (t : S → R (List D × S)) : consX (.ok (d, s)) t = (t s).bind fun q => .ok (d :: q.1, q.2) := id rfl
@[simp] theorem opX_ok {S : Type} (f : D → D → R D) (d : D) (s : S) (b : S → R (D × S)) : opX f (.ok (d, s)) b = (b s).bind fun q => pX (f d q.1) q.2 := id rfl
@[simp] theorem opXT_ok {S : Type} (f : D → D → R Bool) (d : D) (s : S) (b : S → R (D × S)) : opXT f (.ok (d, s)) b = (b s).bind fun q => pXT (f d q.1) q.2 := id rfl
@[simp] theorem bindX_ok {S β : Type} (d : D) (s : S) (F : D → S → R β) : bindX (.ok (d, s)) F = F d s := id rfl
@[simp] theorem stX_ok {S β : Type} (d : D) (s : S) (F : S → R β) : stX (.ok (d, s)) F = F s := id rfl
@[simp] theorem lstX_ok {S : Type} (d : List D) (s : S) : lstX (.ok (d, s)) = .ok (.lst d, s) := id rfl
@[simp] theorem tupX_ok {S : Type} (d : List D) (s : S) : tupX (.ok (d, s)) = .ok (.tup d, s) := id rfl
@[simp] theorem callX_ok {S : Type} (f : List D → R D) (d : List D) (s : S) : callX f (.ok (d, s)) = pX (f d) s := id rfl
@[simp] theorem op1X_ok {S : Type} (f : D → R D) (d : D) (s : S) : op1X f (.ok (d, s)) = pX (f d) s := id rfl
@[simp] theorem notX_ok {S : Type} (b : Bool) (s : S) : notX (.ok (b, s)) = .ok (!b, s) := id rfl
@[simp] theorem andX_ok {S : Type} (b : Bool) (s : S) (f : S → R (Bool × S)) : andX (.ok (b, s)) f = if b = true then f s else .ok (false, s) := id rfl
@[simp] theorem orX_ok {S : Type} (b : Bool) (s : S) (f : S → R (Bool × S)) : orX (.ok (b, s)) f = if b = true then .ok (true, s) else f s := id rfl
@[simp] theorem ifX_ok {S α : Type} (b : Bool) (s : S) (f g : S → R α) : ifX (.ok (b, s)) f g = if b = true then f s else g s := id rfl
@[simp] theorem truX_ok {S : Type} (d : D) (s : S) : truX (.ok (d, s)) = pXT (truT d) s := id rfl
@[simp] theorem ownX_lst {S S' B : Type} (d : List D) (s : S) (F : D → S → R (Fl S' B)) : ownX (.ok (.lst d, s)) F = F (.lst d) s := id rfl
theorem ioX_ok {S : Type} {mm : List D → R (D × List D)} {q : Nat} {gt : S → D} {up : S → D → S} {ds : List D} {s : S} {d o : D} (h : mm (fillR (gt s) q ds) = .ok (d, [o])) : ioX mm q gt up (.ok (ds, s)) = .ok (d, up s o) := by
  unfold ioX
  show (mm (fillR (gt s) q ds)).bind _ = _
  rw [h]; rfl
/-- a for that goes through -/
theorem forR_ok {α S : Type} (enc : α → D) (J : Nat → S → Prop) {f : D → S → R (Fl S S)} : ∀ {xs : List α} {k : Nat} {s : S}, J k s → (∀ (i : Nat) (x : α) (s : S), xs[i]? = some x → J (k + i) s → ∃ s', f (enc x) s = .ok (.nx s') ∧ J (k + i + 1) s') →
    ∃ s', forR (xs.map enc) s f = .ok (.nx s') ∧ J (k + xs.length) s'
  | [], k, s, h, _ => ⟨s, rfl, h⟩
  | x :: xs, k, s, h, hs => by
    obtain ⟨s1, e1, h1⟩ := hs 0 x s rfl h
    obtain ⟨s2, e2, h2⟩ := forR_ok enc J (xs := xs) (k := k + 1) h1 fun i y s hy hj => by
      have := hs (i + 1) y s (by simpa using hy) (by rw [show k + (i + 1) = k + 1 + i by omega]; exact hj)
      rwa [show k + (i + 1) + 1 = k + 1 + i + 1 by omega] at this
    refine ⟨s2, ?_, by rw [List.length_cons, show k + (xs.length + 1) = k + 1 + xs.length by omega]; exact h2⟩
    rw [List.map_cons]
    unfold forR
    rw [e1]
    exact e2
theorem for_go {α S S' B : Type} (enc : α → D) (J : Nat → S → Prop) {xs : List α} {s : S} {f : D → S → R (Fl S S)} {kk : S → R (Fl S' B)} {X : R (Fl S' B)} (h0 : J 0 s)
    (hs : ∀ (i : Nat) (x : α) (s : S), xs[i]? = some x → J i s → ∃ s', f (enc x) s = .ok (.nx s') ∧ J (i + 1) s') (hk : ∀ s', J xs.length s' → kk s' = X) : aftR (forR (xs.map enc) s f) kk = X := by
  obtain ⟨s', e, hJ⟩ := forR_ok enc J (k := 0) (f := f) h0 fun i x s hx hj => by
    rw [Nat.zero_add] at hj ⊢
    exact hs i x s hx hj
  rw [Nat.zero_add] at hJ
  rw [e]
  exact hk s' hJ
theorem for_gen {α S S' B : Type} (P : R (Fl S' B) → Prop) (enc : α → D) (J : Nat → S → Prop) {xs : List α} {s : S} {f : D → S → R (Fl S S)} {kk : S → R (Fl S' B)} (h0 : J 0 s)
    (hs : ∀ (i : Nat) (x : α) (s : S), xs[i]? = some x → J i s → ∃ s', f (enc x) s = .ok (.nx s') ∧ J (i + 1) s') (hk : ∀ s', J xs.length s' → P (kk s')) : P (aftR (forR (xs.map enc) s f) kk) := by
  obtain ⟨s', e, hJ⟩ := forR_ok enc J (k := 0) (f := f) h0 fun i x s hx hj => by
    rw [Nat.zero_add] at hj ⊢
    exact hs i x s hx hj
  rw [Nat.zero_add] at hJ
  rw [e]
  exact hk s' hJ
theorem big62_of {i : Int} (h0 : -1000000 ≤ i) (h1 : i ≤ 1000000) : big62 i = true := by
  unfold big62
  rw [Bool.and_eq_true]
  exact ⟨decide_eq_true (Int.le_trans (by decide) h0), decide_eq_true (Int.lt_of_le_of_lt h1 (by decide))⟩
theorem insertR_ok {xs : List D} {r : Int} {v : D} (h0 : 0 ≤ r) (h1 : r ≤ 1000000) (hl : xs.length ≤ 99999) : insertR (.lst xs) (.int r) v = .ok (.lst (xs.take r.toNat ++ [v] ++ xs.drop r.toNat)) := by
  show (if 0 ≤ r ∧ big62 r = true ∧ xs.length < most then _ else _) = _
  rw [if_pos ⟨h0, big62_of (by omega) h1, Nat.lt_succ_of_le hl⟩]
def ups (n : Nat) : List Int := (List.range n).map fun k : Nat => (k : Int)
theorem ups_succ (n : Nat) : ups (n + 1) = ups n ++ [(n : Int)] := by unfold ups; rw [List.range_succ, List.map_append]; rfl
theorem ups_len (n : Nat) : (ups n).length = n := by simp [ups]
theorem ups_nodup (n : Nat) : (ups n).Nodup := List.pairwise_map.mpr (List.Pairwise.imp (fun {a b} h e => h (by omega)) List.nodup_range)
theorem mem_ups {n : Nat} {x : Int} : x ∈ ups n ↔ 0 ≤ x ∧ x < n := by
  unfold ups
  rw [List.mem_map]
  constructor
  · rintro ⟨k, hk, rfl⟩
    rw [List.mem_range] at hk
    omega
  · intro h
    exact ⟨x.toNat, by rw [List.mem_range]; omega, by omega⟩
theorem mid_perm {α : Type} (xs : List α) (n : Nat) (v : α) : (xs.take n ++ [v] ++ xs.drop n).Perm (xs ++ [v]) := by
  have h : (xs.take n ++ [v] ++ xs.drop n).Perm (v :: (xs.take n ++ xs.drop n)) := by
    rw [List.append_assoc]
    exact List.perm_middle
  rw [List.take_append_drop] at h
  exact h.trans (List.perm_append_singleton v xs).symm
theorem seq_gen {S' S B : Type} (P : R (Fl S B) → Prop) (J : S' → Prop) {r : R (Fl S' B)} {kk : S' → R (Fl S B)} (h : ∃ s, r = .ok (.nx s) ∧ J s) (hk : ∀ s, J s → P (kk s)) : P (seqR r kk) := by
  obtain ⟨s, e, hJ⟩ := h
  rw [e]
  exact hk s hJ
@[simp] theorem lstE_nil : lstE [] = .ok (.lst []) := id rfl
@[simp] theorem tupE_nil : tupE [] = .ok (.tup []) := id rfl
@[simp] theorem lstE_1 (a : D) : lstE [.ok a] = .ok (.lst [a]) := id rfl
@[simp] theorem tupE_1 (a : D) : tupE [.ok a] = .ok (.tup [a]) := id rfl
@[simp] theorem tupE_2 (a b : D) : tupE [.ok a, .ok b] = .ok (.tup [a, b]) := id rfl
@[simp] theorem tupE_3 (a b c : D) : tupE [.ok a, .ok b, .ok c] = .ok (.tup [a, b, c]) := id rfl
theorem add_lst {a b : List D} (h : a.length + b.length ≤ 100000) : addR (.lst a) (.lst b) = .ok (.lst (a ++ b)) := by
  show (if a.length + b.length ≤ most then _ else _) = _
  rw [if_pos (show _ ≤ most from h)]
theorem add_tup {a b : List D} (h : a.length + b.length ≤ 100000) : addR (.tup a) (.tup b) = .ok (.tup (a ++ b)) := by
  show (if a.length + b.length ≤ most then _ else _) = _
  rw [if_pos (show _ ≤ most from h)]
theorem fm_take {α β : Type} (g : α → List β) (F : List α) (i : Nat) : ((F.take i).flatMap g).length ≤ (F.flatMap g).length := by
  have : (F.flatMap g) = (F.take i).flatMap g ++ (F.drop i).flatMap g := by rw [← List.flatMap_append, List.take_append_drop]
  rw [this, List.length_append]; omega
theorem take_succ_of {α : Type} {xs : List α} {i : Nat} {x : α} (h : xs[i]? = some x) : xs.take (i + 1) = xs.take i ++ [x] := by
  rw [List.take_add_one, h]; rfl
theorem compL_map {α : Type} (enc : α → D) (tb : α → Bool) (g : α → D) {t : D → R Bool} {f : D → R D} : ∀ {xs : List α}, (∀ x ∈ xs, t (enc x) = .ok (tb x)) → (∀ x ∈ xs, tb x = true → f (enc x) = .ok (g x)) → compL t f (xs.map enc) = .ok ((xs.filter tb).map g)
  | [], _, _ => rfl
  | x :: xs, ht, hf => by
    rw [List.map_cons]
    unfold compL
    rw [ht x List.mem_cons_self]
    have ih := compL_map enc tb g (t := t) (f := f) (xs := xs) (fun y hy => ht y (List.mem_cons_of_mem _ hy)) (fun y hy => hf y (List.mem_cons_of_mem _ hy))
    cases h : tb x with
    | false => simp [ih, h]
    | true => simp [ih, h, hf x List.mem_cons_self h]
theorem compE_map {α : Type} (enc : α → D) (tb : α → Bool) (g : α → D) {t : D → R Bool} {f : D → R D} {xs : List α} (hl : xs.length ≤ most) (ht : ∀ x ∈ xs, t (enc x) = .ok (tb x)) (hf : ∀ x ∈ xs, tb x = true → f (enc x) = .ok (g x)) :
    compE (.ok (xs.map enc)) t f = .ok (.lst ((xs.filter tb).map g)) := by
  unfold compE
  rw [R.ok_bind, if_pos (by simpa using hl), compL_map enc tb g ht hf]
  rfl
theorem compE_all {α : Type} (enc : α → D) (g : α → D) {f : D → R D} {xs : List α} (hl : xs.length ≤ most) (hf : ∀ x ∈ xs, f (enc x) = .ok (g x)) :
    compE (.ok (xs.map enc)) yesT f = .ok (.lst (xs.map g)) := by
  rw [compE_map enc (fun _ => true) g hl (fun _ _ => rfl) (fun x hx _ => hf x hx), List.filter_eq_self.mpr (fun _ _ => rfl)]
@[simp] theorem seqsR_lst (xs : List D) : seqsR (.lst xs) = .ok xs := id rfl
@[simp] theorem seqsR_tup (xs : List D) : seqsR (.tup xs) = .ok xs := id rfl
theorem upI_eq (n : Nat) : upI 0 n = (List.range n).map fun k => D.int (k : Nat) := by unfold upI; simp
theorem range1_ok {n : Nat} (h : n ≤ most) : range1R (.int n) = .ok ((List.range n).map fun k => D.int (k : Nat)) := by
  show (if big62 (n : Int) = true then R.ok (upI 0 (n : Int).toNat) else R.bad) = _
  rw [if_pos, Int.toNat_natCast, upI_eq]
  unfold big62
  have : most = 100000 := rfl
  simp; omega
theorem range1_up {n : Nat} (h : n ≤ 100000) : range1R (.int n) = .ok ((List.range n).map fun k : Nat => D.int k) := range1_ok h
end Fj

/-! ## Mset -/
namespace Fj
open PySem
/-! ### sets of pairs of whole numbers -/
def encP (p : Int × Int) : D := .tup [.int p.1, .int p.2]
def prL (p : Int × Int) : List Int := [p.1, p.2]
def unL (k : List Int) : Int × Int := (k.headD 0, (k.drop 1).headD 0)
theorem un_pr (p : Int × Int) : unL (prL p) = p := rfl
def sortP (ps : List (Int × Int)) : List (Int × Int) := (setLex (ps.map prL)).map unL
theorem mem_sortP {q : Int × Int} {ps : List (Int × Int)} : q ∈ sortP ps ↔ q ∈ ps := by
  unfold sortP
  rw [List.mem_map]
  constructor
  · rintro ⟨k, hk, rfl⟩
    rw [mem_setLex, List.mem_map] at hk
    obtain ⟨p, hp, rfl⟩ := hk
    exact hp
  · intro h
    exact ⟨prL q, mem_setLex.mpr (List.mem_map_of_mem h), rfl⟩
theorem sortP_prL (ps : List (Int × Int)) : (sortP ps).map prL = setLex (ps.map prL) := by
  unfold sortP
  rw [List.map_map]
  refine Eq.trans (List.map_congr_left (g := id) fun k hk => ?_) (List.map_id _)
  rw [mem_setLex, List.mem_map] at hk
  obtain ⟨p, _, rfl⟩ := hk
  rfl
theorem nodup_sortP (ps : List (Int × Int)) : (sortP ps).Nodup := by
  have h := (setLex_ss (l := ps.map prL)).nodup
  rw [← sortP_prL] at h
  exact List.Pairwise.imp (fun {a b} h e => h (by rw [e])) (List.pairwise_map.mp h)
theorem sortP_congr {ps qs : List (Int × Int)} (h : ∀ p, p ∈ ps ↔ p ∈ qs) : sortP ps = sortP qs := by
  unfold sortP
  rw [setLex_congr (l' := qs.map prL)]
  intro a
  rw [List.mem_map, List.mem_map]
  constructor <;> rintro ⟨p, hp, rfl⟩
  · exact ⟨p, (h p).mp hp, rfl⟩
  · exact ⟨p, (h p).mpr hp, rfl⟩
theorem tupsI_enc : ∀ ps : List (Int × Int), tupsI (ps.map encP) = some (ps.map prL)
  | [] => rfl
  | p :: ps => by
    show (tupI (encP p)).bind _ = _
    rw [show tupI (encP p) = some (prL p) from rfl]
    show (tupsI (ps.map encP)).map _ = _
    rw [tupsI_enc ps]; rfl
theorem sortSet_enc {ps : List (Int × Int)} (hl : ps.length < 64) (h0 : ∀ p ∈ ps, 0 ≤ p.1 ∧ 0 ≤ p.2) : sortSetR (.lst (ps.map encP)) = .ok (.lst ((sortP ps).map encP)) := by
  unfold sortSetR
  dsimp only
  rw [tupsI_enc, ofO_some, R.ok_bind, if_pos]
  · rw [← sortP_prL, List.map_map]; rfl
  · have hd : (List.headD (ps.map prL) [0]).length = 2 ∨ ps = [] := by cases ps <;> simp [prL]
    rcases hd with hd | rfl
    · rw [hd]
      simp only [Bool.and_eq_true, decide_eq_true_eq, List.length_map, List.all_eq_true]
      refine ⟨⟨hl, fun k hk => ?_⟩, by omega⟩
      obtain ⟨p, hp, rfl⟩ := List.mem_map.mp hk
      have := h0 p hp
      refine ⟨rfl, fun i hi => ?_⟩
      simp [prL] at hi
      rcases hi with rfl | rfl
      · exact this.1
      · exact this.2
    · decide
/-! ### counting -/
theorem sum_sub {α : Type} [DecidableEq α] (h : α → Nat) : ∀ {F U : List α}, F.Nodup → (∀ x ∈ F, x ∈ U) → (F.map h).sum ≤ (U.map h).sum
  | [], _, _, _ => by simp
  | x :: F, U, hn, hs => by
    have hx := hs x List.mem_cons_self
    have hn' := List.nodup_cons.mp hn
    have ih := sum_sub h (F := F) (U := U.erase x) hn'.2 fun y hy => (List.mem_erase_of_ne (fun e => hn'.1 (by rw [← e]; exact hy))).mpr (hs y (List.mem_cons_of_mem _ hy))
    have hp : (U.map h).Perm ((x :: U.erase x).map h) := (List.perm_cons_erase hx).map h
    rw [hp.sum_nat]
    simp only [List.map_cons, List.sum_cons]
    omega
theorem len_sub {α : Type} [DecidableEq α] {F U : List α} (hn : F.Nodup) (hs : ∀ x ∈ F, x ∈ U) : F.length ≤ U.length := by
  have h1 : ∀ G : List α, (G.map fun _ => 1).sum = G.length := fun G => by induction G with | nil => rfl | cons a G ih => simp [ih]; omega
  have := sum_sub (fun _ => 1) hn hs
  rwa [h1, h1] at this
theorem eq_of_len {α : Type} [DecidableEq α] {F U : List α} (hn : F.Nodup) (hu : U.Nodup) (hs : ∀ x ∈ F, x ∈ U) (hl : U.length ≤ F.length) : ∀ x ∈ U, x ∈ F := fun x hx => Classical.byContradiction fun hxF => by
  have := len_sub (F := x :: F) (U := U) (List.nodup_cons.mpr ⟨hxF, hn⟩) fun y hy => by
    rcases List.mem_cons.mp hy with rfl | hy
    · exact hx
    · exact hs y hy
  simp at this; omega
/-- two steps in one -/
def moreP (F : List (Int × Int)) : List (Int × Int) := F.flatMap fun p => (F.filter fun q => decide (q.1 = p.2)).map fun q => (p.1, q.2)
theorem more_len (F : List (Int × Int)) : (moreP F).length = (F.map fun p => (F.filter fun q => decide (q.1 = p.2)).length).sum := by
  unfold moreP
  rw [List.length_flatMap]
  simp
theorem mem_more {F : List (Int × Int)} {r : Int × Int} : r ∈ moreP F ↔ ∃ b, (r.1, b) ∈ F ∧ (b, r.2) ∈ F := by
  unfold moreP
  simp only [List.mem_flatMap, List.mem_map, List.mem_filter, decide_eq_true_eq]
  constructor
  · rintro ⟨p, hp, q, ⟨hq, e⟩, rfl⟩
    exact ⟨p.2, hp, by rw [← e]; exact hq⟩
  · rintro ⟨b, h1, h2⟩
    exact ⟨(r.1, b), h1, (b, r.2), ⟨h2, rfl⟩, rfl⟩
theorem more_le {F U : List (Int × Int)} (hn : F.Nodup) (hs : ∀ x ∈ F, x ∈ U) : (moreP F).length ≤ (moreP U).length := by
  rw [more_len, more_len]
  refine Nat.le_trans ?_ (sum_sub _ hn hs)
  have : ∀ G : List (Int × Int), (G.map fun p => (F.filter fun q => decide (q.1 = p.2)).length).sum ≤ (G.map fun p => (U.filter fun q => decide (q.1 = p.2)).length).sum := by
    intro G
    induction G with
    | nil => simp
    | cons p G ih =>
      simp only [List.map_cons, List.sum_cons]
      have : (F.filter fun q => decide (q.1 = p.2)).length ≤ (U.filter fun q => decide (q.1 = p.2)).length := len_sub (hn.filter _) fun x hx => by
        rw [List.mem_filter] at hx ⊢
        exact ⟨hs x hx.1, hx.2⟩
      omega
  exact this F
/-- the pairs of a row, the earlier ahead -/
def upP : List Int → List (Int × Int)
  | [] => []
  | x :: xs => xs.map (fun y => (x, y)) ++ upP xs
theorem upP_map {f : Int → Int} : ∀ xs : List Int, upP (xs.map f) = (upP xs).map fun p => (f p.1, f p.2)
  | [] => rfl
  | x :: xs => by simp [upP, upP_map xs, List.map_map, Function.comp_def]
theorem mem_upP_mem : ∀ {xs : List Int} {p : Int × Int}, p ∈ upP xs → p.1 ∈ xs ∧ p.2 ∈ xs
  | [], p, h => by simp [upP] at h
  | x :: xs, p, h => by
    rw [upP, List.mem_append, List.mem_map] at h
    rcases h with ⟨y, hy, rfl⟩ | h
    · exact ⟨List.mem_cons_self, List.mem_cons_of_mem _ hy⟩
    · obtain ⟨h1, h2⟩ := mem_upP_mem h
      exact ⟨List.mem_cons_of_mem _ h1, List.mem_cons_of_mem _ h2⟩
theorem upP_trans : ∀ {xs : List Int} {a b c : Int}, xs.Nodup → (a, b) ∈ upP xs → (b, c) ∈ upP xs → (a, c) ∈ upP xs
  | [], a, b, c, _, h, _ => by simp [upP] at h
  | x :: xs, a, b, c, hn, h1, h2 => by
    have hn' := List.nodup_cons.mp hn
    rw [upP, List.mem_append, List.mem_map] at h1 h2 ⊢
    rcases h2 with ⟨y, hy, e⟩ | h2
    · have e1 : x = b := congrArg Prod.fst e
      subst e1
      rcases h1 with ⟨z, hz, e'⟩ | h1
      · have : z = x := congrArg Prod.snd e'
        subst this
        exact absurd hz hn'.1
      · exact absurd (mem_upP_mem h1).2 hn'.1
    · rcases h1 with ⟨z, hz, e'⟩ | h1
      · have e1 : x = a := congrArg Prod.fst e'
        subst e1
        exact .inl ⟨c, (mem_upP_mem h2).2, rfl⟩
      · exact .inr (upP_trans hn'.2 h1 h2)
theorem upP_irrefl : ∀ {xs : List Int} {a : Int}, xs.Nodup → (a, a) ∉ upP xs
  | [], a, _, h => by simp [upP] at h
  | x :: xs, a, hn, h => by
    have hn' := List.nodup_cons.mp hn
    rw [upP, List.mem_append, List.mem_map] at h
    rcases h with ⟨y, hy, e⟩ | h
    · have e1 : x = a := congrArg Prod.fst e
      have e2 : y = a := congrArg Prod.snd e
      rw [e2, ← e1] at hy
      exact hn'.1 hy
    · exact upP_irrefl hn'.2 h
theorem upP_len : ∀ xs : List Int, 2 * (upP xs).length = xs.length * (xs.length - 1)
  | [] => rfl
  | x :: xs => by
    have ih := upP_len xs
    simp only [upP, List.length_append, List.length_map, List.length_cons, Nat.add_sub_cancel]
    rw [Nat.mul_add, ih]
    cases h : xs.length with
    | zero => simp
    | succ n => simp [Nat.add_mul, Nat.mul_add]; omega
theorem sum_ind {a : Int} : ∀ {xs : List Int}, xs.Nodup → (xs.map fun y => if a = y then 1 else 0).sum ≤ 1
  | [], _ => by simp
  | x :: xs, hn => by
    have hn' := List.nodup_cons.mp hn
    simp only [List.map_cons, List.sum_cons]
    by_cases e : a = x
    · subst e
      have : (xs.map fun y => if a = y then 1 else 0) = xs.map fun _ => 0 := List.map_congr_left fun y hy => if_neg fun e => hn'.1 (by rw [e]; exact hy)
      rw [this]
      have : ∀ G : List Int, (G.map fun _ => 0).sum = 0 := fun G => by induction G with | nil => rfl | cons a G ih => simp [ih]
      simp [this]
    · rw [if_neg e, Nat.zero_add]; exact sum_ind hn'.2
theorem sum_cnt {xs : List Int} (hn : xs.Nodup) : ∀ L : List (Int × Int), (xs.map fun y => (L.filter fun q => decide (q.1 = y)).length).sum ≤ L.length
  | [] => by
    have : ∀ G : List Int, (G.map fun _ => 0).sum = 0 := fun G => by induction G with | nil => rfl | cons a G ih => simp [ih]
    simp [this]
  | q :: L => by
    have ih := sum_cnt hn L
    have h2 := sum_ind (a := q.1) hn
    have key : ∀ y, ((q :: L).filter fun q => decide (q.1 = y)).length = (L.filter fun q => decide (q.1 = y)).length + if q.1 = y then 1 else 0 := fun y => by
      rw [List.filter_cons]
      by_cases e : q.1 = y
      · rw [if_pos (decide_eq_true e), if_pos e]; rfl
      · rw [if_neg (by simpa using e), if_neg e]; rfl
    have : ∀ G : List Int, (G.map fun y => ((q :: L).filter fun q => decide (q.1 = y)).length).sum = (G.map fun y => (L.filter fun q => decide (q.1 = y)).length).sum + (G.map fun y => if q.1 = y then 1 else 0).sum := fun G => by
      induction G with
      | nil => rfl
      | cons y G ih =>
        rw [List.map_cons, List.sum_cons, ih, key, List.map_cons, List.sum_cons, List.map_cons, List.sum_cons]
        omega
    rw [this]
    simp only [List.length_cons]
    omega
def c3 : Nat → Nat
  | 0 => 0
  | n + 1 => c3 n + n * (n - 1) / 2
theorem more_upP : ∀ {xs : List Int}, xs.Nodup → (moreP (upP xs)).length ≤ c3 xs.length
  | [], _ => by simp [upP, moreP]
  | x :: xs, hn => by
    have hn' := List.nodup_cons.mp hn
    have ih := more_upP hn'.2
    rw [more_len] at ih ⊢
    have hf : ∀ p : Int × Int, p.2 ∈ xs → ((upP (x :: xs)).filter fun q => decide (q.1 = p.2)) = (upP xs).filter fun q => decide (q.1 = p.2) := fun p hp => by
      rw [upP, List.filter_append]
      have : (List.filter (fun q => decide (q.1 = p.2)) (xs.map fun z => (x, z))) = [] := List.filter_eq_nil_iff.mpr fun q hq => by
        obtain ⟨z, _, rfl⟩ := List.mem_map.mp hq
        simp only [decide_eq_true_eq]
        exact fun e => hn'.1 (by rw [e]; exact hp)
      rw [this, List.nil_append]
    have h1 : ((upP (x :: xs)).map fun p => ((upP (x :: xs)).filter fun q => decide (q.1 = p.2)).length) = (upP (x :: xs)).map fun p => ((upP xs).filter fun q => decide (q.1 = p.2)).length :=
      List.map_congr_left fun p hp => by
        have : p.2 ∈ xs := by
          rw [upP, List.mem_append, List.mem_map] at hp
          rcases hp with ⟨y, hy, rfl⟩ | hp
          · exact hy
          · exact (mem_upP_mem hp).2
        rw [hf p this]
    rw [h1, upP, List.map_append, List.sum_append_nat, List.map_map]
    have h2 := sum_cnt hn'.2 (upP xs)
    have h3 := upP_len xs
    have h4 : (upP xs).length ≤ xs.length * (xs.length - 1) / 2 := by omega
    have h5 : (xs.map ((fun p : Int × Int => ((upP xs).filter fun q => decide (q.1 = p.2)).length) ∘ fun y => (x, y))).sum = (xs.map fun y => ((upP xs).filter fun q => decide (q.1 = y)).length).sum := rfl
    rw [h5]
    show _ ≤ c3 xs.length + xs.length * (xs.length - 1) / 2
    omega
theorem nodup_upP : ∀ {xs : List Int}, xs.Nodup → (upP xs).Nodup
  | [], _ => by simp [upP]
  | x :: xs, hn => by
    have hn' := List.nodup_cons.mp hn
    rw [upP]
    refine List.nodup_append.mpr ⟨?_, nodup_upP hn'.2, fun a ha b hb e => ?_⟩
    · refine List.pairwise_map.mpr (List.Pairwise.imp (fun {a b} h e => h (congrArg Prod.snd e)) hn'.2)
    · subst e
      obtain ⟨y, _, rfl⟩ := List.mem_map.mp ha
      exact hn'.1 (mem_upP_mem hb).1
end Fj

/-! ## Mclo -/
namespace Fj
open PySem
def stepP (F : List (Int × Int)) : List (Int × Int) := sortP (F ++ moreP F)
theorem step_nodup (F : List (Int × Int)) : (stepP F).Nodup := nodup_sortP _
theorem mem_step {F : List (Int × Int)} {r : Int × Int} : r ∈ stepP F ↔ r ∈ F ∨ ∃ b, (r.1, b) ∈ F ∧ (b, r.2) ∈ F := by
  unfold stepP
  rw [mem_sortP, List.mem_append, mem_more]
theorem sortP_sortP (F : List (Int × Int)) : sortP (sortP F) = sortP F := sortP_congr fun p => mem_sortP
theorem step_sorted (F : List (Int × Int)) : sortP (stepP F) = stepP F := sortP_sortP _
/-- closed under two steps -/
def Clo (F : List (Int × Int)) : Prop := ∀ a b c, (a, b) ∈ F → (b, c) ∈ F → (a, c) ∈ F
theorem closure_while {U : List (Int × Int)} {c : D × D → R Bool} {f : D × D → R (Fl (D × D) (D × D))} (hU : ∀ a b c, (a, b) ∈ U → (b, c) ∈ U → (a, c) ∈ U)
    (hc : ∀ (F : List (Int × Int)) (z : Int), c (.lst (F.map encP), .int z) = .ok (!decide (z = F.length)))
    (hf : ∀ (F : List (Int × Int)) (z : Int), F.Nodup → (∀ p ∈ F, p ∈ U) → f (.lst (F.map encP), .int z) = .ok (.nx (.lst ((stepP F).map encP), .int F.length))) :
    ∀ (n : Nat) (F : List (Int × Int)) (z : Int), F.Nodup → (∀ p ∈ F, p ∈ U) → sortP F = F → (z = -1 ∨ ∃ F', F'.Nodup ∧ z = (F'.length : Int) ∧ F = stepP F') → (U.length + 2 ≤ n + F.length ∨ (z = F.length ∧ 1 ≤ n)) →
      ∃ (G : List (Int × Int)) (y : D), whileR n (.lst (F.map encP), .int z) c f = .ok (.nx (.lst (G.map encP), y)) ∧ G.Nodup ∧ (∀ p ∈ G, p ∈ U) ∧ sortP G = G ∧ (∀ p ∈ F, p ∈ G) ∧ Clo G ∧ (∀ (T : List (Int × Int)), Clo T → (∀ p ∈ F, p ∈ T) → ∀ p ∈ G, p ∈ T)
  | 0, F, z, hn, hs, _, _, hm => by
    have := len_sub hn hs
    omega
  | n + 1, F, z, hn, hs, hF, hz, hm => by
    unfold whileR
    rw [hc]
    by_cases e : z = F.length
    · simp only [e, decide_true, Bool.not_true, R.ok_bind, Bool.false_eq_true, if_false]
      refine ⟨F, _, rfl, hn, hs, hF, fun p h => h, fun a b c h1 h2 => ?_, fun T _ h => h⟩
      rcases hz with hz | ⟨F', g1, g2, g3⟩
      · omega
      · have hsub : ∀ p ∈ F', p ∈ F := fun p hp => by rw [g3]; exact mem_step.mpr (.inl hp)
        have hb := eq_of_len g1 hn hsub (by omega)
        rw [g3]
        exact mem_step.mpr (.inr ⟨b, hb _ h1, hb _ h2⟩)
    · simp only [e, decide_false, Bool.not_false, R.ok_bind, if_true]
      rw [hf F z hn hs]
      simp only [R.ok_bind]
      have hs1 : ∀ p ∈ stepP F, p ∈ U := fun p hp => by
        rcases mem_step.mp hp with h | ⟨b, h1, h2⟩
        · exact hs p h
        · exact hU _ _ _ (hs _ h1) (hs _ h2)
      have hle : F.length ≤ (stepP F).length := len_sub hn fun p hp => mem_step.mpr (.inl hp)
      have hl := len_sub hn hs
      obtain ⟨G, y, k1, k2, k3, k4, k5, k6, k7⟩ := closure_while hU hc hf n (stepP F) F.length (step_nodup F) hs1 (step_sorted F) (.inr ⟨F, hn, rfl, rfl⟩) (by
        rcases hm with hm | hm
        · by_cases q : F.length = (stepP F).length
          · exact .inr ⟨by rw [q], by omega⟩
          · exact .inl (by omega)
        · exact absurd hm.1 e)
      refine ⟨G, y, k1, k2, k3, k4, fun p hp => k5 p (mem_step.mpr (.inl hp)), k6, fun T hT h => k7 T hT fun p hp => ?_⟩
      rcases mem_step.mp hp with h' | ⟨b, h1, h2⟩
      · exact h p h'
      · exact hT _ _ _ (h _ h1) (h _ h2)
theorem len_more_bound {row : List Int} (hn : row.Nodup) {F : List (Int × Int)} (hF : F.Nodup) (hs : ∀ p ∈ F, p ∈ upP row) (hl : row.length ≤ 7) : F.length + (moreP F).length < 64 := by
  have h1 := len_sub hF hs
  have h2 := more_le hF hs
  have h3 := more_upP hn
  have h4 := upP_len row
  have h5 : c3 row.length ≤ 35 := by
    have : ∀ n ≤ 7, c3 n ≤ 35 := by decide
    exact this _ hl
  have h6 : row.length * (row.length - 1) ≤ 7 * 6 := Nat.mul_le_mul hl (by omega)
  omega
/-- a def that closes: from the sorted set on -/
theorem closure_fin {row : List Int} {ps : List (Int × Int)} {n : Nat} {c : D × D → R Bool} {f : D × D → R (Fl (D × D) (D × D))} {S' B : Type} {kk : D × D → R (Fl S' B)} {out : R (Fl S' B) → R D} {ex : List (Int × Int) → D} (hn : row.Nodup) (h0 : ∀ x ∈ row, 0 ≤ x) (hl : row.length ≤ 7) (hs : ∀ p ∈ ps, p ∈ upP row) (hfu : 23 ≤ n)
    (hc : ∀ (F : List (Int × Int)) (z : Int), c (.lst (F.map encP), .int z) = .ok (!decide (z = F.length)))
    (hf : ∀ (F : List (Int × Int)) (z : Int), F.length + (moreP F).length < 64 → (∀ p ∈ F, 0 ≤ p.1 ∧ 0 ≤ p.2) → f (.lst (F.map encP), .int z) = .ok (.nx (.lst ((stepP F).map encP), .int F.length)))
    (hk : ∀ G y, out (kk (.lst (G.map encP), y)) = .ok (ex G)) :
    ∃ G : List (Int × Int), out (aftR (whileR n (.lst ((sortP ps).map encP), .int (-1)) c f) kk) = .ok (ex G) ∧ G.Nodup ∧ (∀ p ∈ G, p ∈ upP row) ∧ sortP G = G ∧ (∀ p ∈ ps, p ∈ G) ∧ Clo G ∧ (∀ (T : List (Int × Int)), Clo T → (∀ p ∈ ps, p ∈ T) → ∀ p ∈ G, p ∈ T) := by
  have h7 := upP_len row
  have hU : (upP row).length ≤ 21 := by
    have : row.length * (row.length - 1) ≤ 7 * 6 := Nat.mul_le_mul hl (by omega)
    omega
  have hs1 : ∀ p ∈ sortP ps, p ∈ upP row := fun p hp => hs p (mem_sortP.mp hp)
  obtain ⟨G, y, k1, k2, k3, k4, k5, k6, k7⟩ := closure_while (U := upP row) (c := c) (f := f) (fun a b c => upP_trans hn) hc (fun F z hF hFs => hf F z (len_more_bound hn hF hFs hl) fun p hp => ⟨h0 _ (mem_upP_mem (hFs p hp)).1, h0 _ (mem_upP_mem (hFs p hp)).2⟩) n (sortP ps) (-1) (nodup_sortP _) hs1 (sortP_sortP _) (.inl rfl) (.inl (by omega))
  refine ⟨G, ?_, k2, k3, k4, fun p hp => k5 p (mem_sortP.mpr hp), k6, fun T hT h => k7 T hT fun p hp => h p (mem_sortP.mp hp)⟩
  rw [k1]
  exact hk G y
theorem encP_fit (p : Int × Int) : fitD (encP p) = true := rfl
@[simp] theorem eqR_int (i j : Int) : eqR (.int i) (.int j) = .ok (i == j) := id rfl
@[simp] theorem neR_int (i j : Int) : neR (.int i) (.int j) = .ok (!(i == j)) := id rfl
@[simp] theorem lenR_lst (xs : List D) : lenR (.lst xs) = .ok (.int xs.length) := id rfl
@[simp] theorem lenR_tup (xs : List D) : lenR (.tup xs) = .ok (.int xs.length) := id rfl
end Fj

/-! ## Mord -/
namespace Fj
open PySem
theorem cutL_from {α : Type} (xs : List α) (k : Nat) : cutL xs (some (k : Int)) none = xs.drop k := by
  unfold cutL
  have h1 : sIx xs.length 0 (some (k : Int)) = min k xs.length := by
    unfold sIx
    dsimp only
    rw [if_neg (by omega), Int.toNat_natCast]
  have h2 : sIx xs.length xs.length none = xs.length := rfl
  rw [h1, h2]
  by_cases h : k ≤ xs.length
  · rw [Nat.min_eq_left h, List.take_of_length_le (by rw [List.length_drop]; omega)]
  · rw [Nat.min_eq_right (by omega), Nat.sub_self, List.take_zero, List.drop_eq_nil_of_le (by omega)]
theorem cutE_from_tup {xs : List D} {k : Nat} : cutE (.ok (.tup xs)) (some (.ok (.int k))) none = .ok (.tup (xs.drop k)) := by
  rw [← cutL_from]; exact id rfl
theorem cutE_from_lst {xs : List D} {k : Nat} : cutE (.ok (.lst xs)) (some (.ok (.int k))) none = .ok (.lst (xs.drop k)) := by
  rw [← cutL_from]; exact id rfl
theorem atI_nat {α : Type} {xs : List α} {i : Nat} {x : α} (h : xs[i]? = some x) : atI xs (i : Int) = some x := by
  have hl := (List.getElem?_eq_some_iff.mp h).1
  unfold atI ixN
  rw [if_pos (by omega), if_pos (by omega)]
  simpa using h
theorem idx_tup {xs : List D} {i : Nat} {x : D} (h : xs[i]? = some x) : idxR (.tup xs) (.int i) = .ok x := by
  show ofO (atI xs (i : Int)) = _
  rw [atI_nat h]; rfl
theorem idx_lst {xs : List D} {i : Nat} {x : D} (h : xs[i]? = some x) : idxR (.lst xs) (.int i) = .ok x := by
  show ofO (atI xs (i : Int)) = _
  rw [atI_nat h]; rfl
theorem upP_at : ∀ {row : List Int} {i : Nat} {x y : Int}, row[i]? = some x → y ∈ row.drop (i + 1) → (x, y) ∈ upP row
  | [], i, x, y, h, _ => by simp at h
  | a :: row, 0, x, y, h, hy => by
    simp at h hy
    subst h
    rw [upP, List.mem_append, List.mem_map]
    exact .inl ⟨y, hy, rfl⟩
  | a :: row, i + 1, x, y, h, hy => by
    rw [upP, List.mem_append]
    exact .inr (upP_at (by simpa using h) (by simpa using hy))
theorem appendE_ok {xs : List D} {v : D} (h : xs.length < 100000) : appendE (.lst xs) (.ok v) = .ok (.lst (xs ++ [v])) := by
  show (if xs.length < most then _ else _) = _
  rw [if_pos (show _ < most from h)]
/-- an order as it is drawn -/
structure Ord (n : Nat) (G : List (Int × Int)) : Prop where
  row : ∃ row : List Int, row.Perm (ups n) ∧ ∀ p ∈ G, p ∈ upP row
  srt : sortP G = G
  clo : Clo G
theorem Ord.mem {n : Nat} {G : List (Int × Int)} (h : Ord n G) {p : Int × Int} (hp : p ∈ G) : (0 ≤ p.1 ∧ p.1 < n) ∧ (0 ≤ p.2 ∧ p.2 < n) := by
  obtain ⟨row, hr, hs⟩ := h.row
  have := mem_upP_mem (hs p hp)
  exact ⟨mem_ups.mp (hr.mem_iff.mp this.1), mem_ups.mp (hr.mem_iff.mp this.2)⟩
end Fj

/-! ## Mgrp -/
namespace Fj
/-! ### classes of a map, in the order of their first members -/
section
variable {κ : Type} [DecidableEq κ] (f : Nat → κ)
def fstB (t : Nat) : Bool := (List.range t).all fun u => decide (f u ≠ f t)
def repsL (i : Nat) : List Nat := (List.range i).filter (fstB f)
def clsL (i t : Nat) : List Nat := (List.range i).filter fun o => decide (f o = f t)
variable {f}
theorem fst_iff {t : Nat} : fstB f t = true ↔ ∀ u < t, f u ≠ f t := by
  unfold fstB
  simp
theorem mem_reps {i t : Nat} : t ∈ repsL f i ↔ t < i ∧ ∀ u < t, f u ≠ f t := by
  unfold repsL
  rw [List.mem_filter, List.mem_range, fst_iff]
theorem reps_succ (i : Nat) : repsL f (i + 1) = if fstB f i = true then repsL f i ++ [i] else repsL f i := by
  unfold repsL
  rw [List.range_succ, List.filter_append]
  by_cases h : fstB f i = true
  · rw [if_pos h, List.filter_cons_of_pos h]; rfl
  · rw [if_neg h, List.filter_cons_of_neg h]; simp
theorem cls_succ (i t : Nat) : clsL f (i + 1) t = if f i = f t then clsL f i t ++ [i] else clsL f i t := by
  unfold clsL
  rw [List.range_succ, List.filter_append]
  by_cases h : f i = f t
  · rw [if_pos h, List.filter_cons_of_pos (by simpa using h)]; rfl
  · rw [if_neg h, List.filter_cons_of_neg (by simpa using h)]; simp
theorem reps_inj {i a b : Nat} (ha : a ∈ repsL f i) (hb : b ∈ repsL f i) (h : f a = f b) : a = b := by
  have h1 := (mem_reps.mp ha).2
  have h2 := (mem_reps.mp hb).2
  by_cases c : a < b
  · exact absurd h (h2 a c)
  · by_cases c2 : b < a
    · exact absurd h.symm (h1 b c2)
    · omega
theorem range_split {t i : Nat} (h : t < i) : List.range i = List.range t ++ t :: (List.range i).drop (t + 1) := by
  conv => lhs; rw [← List.take_append_drop t (List.range i)]
  rw [List.take_range, Nat.min_eq_left (by omega)]
  congr 1
  rw [List.drop_eq_getElem_cons (by simpa using h)]
  simp
theorem cls_head {i t : Nat} (h : t ∈ repsL f i) : (clsL f i t)[0]? = some t := by
  obtain ⟨h1, h2⟩ := mem_reps.mp h
  unfold clsL
  rw [range_split h1, List.filter_append]
  have : (List.range t).filter (fun o => decide (f o = f t)) = [] := List.filter_eq_nil_iff.mpr fun u hu => by
    have := h2 u (List.mem_range.mp hu)
    simpa using this
  rw [this, List.nil_append, List.filter_cons_of_pos (by simp)]
  rfl
theorem cls_head_eq {i t : Nat} (h : t < i) : fstB f t = true ↔ (clsL f i t)[0]? = some t := by
  constructor
  · intro hf
    exact cls_head (mem_reps.mpr ⟨h, fst_iff.mp hf⟩)
  · intro hc
    refine fst_iff.mpr fun u hu e => ?_
    unfold clsL at hc
    rw [range_split h, List.filter_append] at hc
    have hm : u ∈ (List.range t).filter (fun o => decide (f o = f t)) := List.mem_filter.mpr ⟨List.mem_range.mpr hu, by simpa using e⟩
    cases hl : (List.range t).filter (fun o => decide (f o = f t)) with
    | nil => rw [hl] at hm; cases hm
    | cons x l =>
      rw [hl] at hc
      have hx : x = t := by simpa using hc
      have : x ∈ (List.range t).filter (fun o => decide (f o = f t)) := by rw [hl]; exact List.mem_cons_self
      have := List.mem_range.mp (List.mem_filter.mp this).1
      omega
theorem filter_one {p : Nat → Bool} {m j : Nat} (hj : j < m) (hp : p j = true) (hu : ∀ k < m, p k = true → k = j) : (List.range m).filter p = [j] := by
  rw [range_split hj, List.filter_append]
  have h1 : (List.range j).filter p = [] := List.filter_eq_nil_iff.mpr fun u hu' h => by
    have h3 := List.mem_range.mp hu'
    have := hu u (by omega) h
    omega
  have h2 : ((List.range m).drop (j + 1)).filter p = [] := List.filter_eq_nil_iff.mpr fun u hu' h => by
    rw [List.mem_iff_getElem?] at hu'
    obtain ⟨n, hn⟩ := hu'
    rw [List.getElem?_drop] at hn
    have hl := (List.getElem?_eq_some_iff.mp hn).1
    rw [List.length_range] at hl
    rw [List.getElem?_range hl] at hn
    have e := Option.some.inj hn
    have := hu u (by omega) h
    omega
  rw [h1, List.filter_cons_of_pos hp, h2]
  rfl
theorem at_inj {α : Type} : ∀ {l : List α} {i j : Nat} {x : α}, l.Nodup → l[i]? = some x → l[j]? = some x → i = j
  | [], i, j, x, _, h, _ => by simp at h
  | a :: l, 0, 0, x, _, _, _ => rfl
  | a :: l, 0, j + 1, x, hn, h1, h2 => by
    simp at h1 h2; subst h1
    exact absurd (List.mem_of_getElem? h2) (List.nodup_cons.mp hn).1
  | a :: l, i + 1, 0, x, hn, h1, h2 => by
    simp at h1 h2; subst h2
    exact absurd (List.mem_of_getElem? h1) (List.nodup_cons.mp hn).1
  | a :: l, i + 1, j + 1, x, hn, h1, h2 => by
    have h1 : l[i]? = some x := by simpa using h1
    have h2 : l[j]? = some x := by simpa using h2
    have := at_inj (List.nodup_cons.mp hn).2 h1 h2
    omega
/-- a thing that is like an earlier one -/
theorem not_first {i : Nat} (h : ¬ fstB f i = true) : ∃ (j t : Nat), (repsL f i)[j]? = some t ∧ f i = f t := by
  have : ∃ u, u < i ∧ f u = f i := by
    apply Classical.byContradiction
    intro hn
    exact h (fst_iff.mpr fun u hu e => hn ⟨u, hu, e⟩)
  obtain ⟨u, hu, e⟩ := this
  have key : ∀ n u, u ≤ n → u < i → f u = f i → ∃ t ∈ repsL f i, f t = f i := by
    intro n
    induction n with
    | zero =>
      intro u h0 h1 h2
      have : u = 0 := by omega
      subst this
      exact ⟨0, mem_reps.mpr ⟨h1, fun v hv => by omega⟩, h2⟩
    | succ n ih =>
      intro u h0 h1 h2
      by_cases hf : ∃ v, v < u ∧ f v = f u
      · obtain ⟨v, hv, e⟩ := hf
        exact ih v (by omega) (by omega) (e.trans h2)
      · exact ⟨u, mem_reps.mpr ⟨h1, fun v hv e => hf ⟨v, hv, e⟩⟩, h2⟩
  obtain ⟨t, ht, e2⟩ := key u u (Nat.le_refl _) hu e
  obtain ⟨j, hj⟩ := List.mem_iff_getElem?.mp ht
  exact ⟨j, t, hj, e2.symm⟩
theorem map_cls_first {i : Nat} (h : fstB f i = true) : (repsL f (i + 1)).map (clsL f (i + 1)) = (repsL f i).map (clsL f i) ++ [[i]] := by
  rw [reps_succ, if_pos h, List.map_append]
  congr 1
  · refine List.map_congr_left fun t ht => ?_
    rw [cls_succ, if_neg (fun e => (fst_iff.mp h) t (mem_reps.mp ht).1 e.symm)]
  · rw [List.map_cons, List.map_nil, cls_succ, if_pos rfl]
    have : clsL f i i = [] := List.filter_eq_nil_iff.mpr fun u hu => by
      have := fst_iff.mp h u (List.mem_range.mp hu)
      simpa using this
    rw [this]; rfl
theorem map_cls_later {i j t : Nat} (h : ¬ fstB f i = true) (hj : (repsL f i)[j]? = some t) (e : f i = f t) : (repsL f (i + 1)).map (clsL f (i + 1)) = ((repsL f i).map (clsL f i)).set j (clsL f i t ++ [i]) := by
  rw [reps_succ, if_neg h]
  apply List.ext_getElem?
  intro k
  rw [List.getElem?_set]
  by_cases hk : j = k
  · subst hk
    rw [if_pos rfl, if_pos (by rw [List.length_map]; exact (List.getElem?_eq_some_iff.mp hj).1), List.getElem?_map, hj]
    show some (clsL f (i + 1) t) = _
    rw [cls_succ, if_pos e]
  · rw [if_neg hk, List.getElem?_map, List.getElem?_map]
    cases hq : (repsL f i)[k]? with
    | none => rfl
    | some u =>
      show some _ = some _
      rw [cls_succ, if_neg]
      intro e2
      have hu := List.mem_of_getElem? hq
      have ht := List.mem_of_getElem? hj
      have := reps_inj hu ht (e2.symm.trans e)
      subst this
      have hnd : (repsL f i).Nodup := List.Pairwise.filter _ List.nodup_range
      exact hk (at_inj hnd hj hq)
end
end Fj

/-! ## Mdp -/
namespace Fj
/-! ### rows gone on with, the fewest of them -/
def IsMin (x : Int) (xs : List Int) : Prop := x ∈ xs ∧ ∀ y ∈ xs, x ≤ y
theorem IsMin.eq {x y : Int} {xs : List Int} (h : IsMin x xs) (h' : IsMin y xs) : x = y := by
  have := h.2 y h'.1
  have := h'.2 x h.1
  omega
theorem minI_min : ∀ {xs : List Int}, xs ≠ [] → IsMin (minI xs) xs
  | [], h => absurd rfl h
  | [x], _ => ⟨by simp [minI], fun y hy => by simp at hy; subst hy; simp [minI]⟩
  | x :: y :: xs, _ => by
    have ih := minI_min (xs := y :: xs) (by simp)
    have e : minI (x :: y :: xs) = min x (minI (y :: xs)) := rfl
    refine ⟨?_, fun z hz => ?_⟩
    · rw [e]
      by_cases h : x ≤ minI (y :: xs)
      · rw [Int.min_eq_left h]; exact List.mem_cons_self
      · rw [Int.min_eq_right (by omega)]; exact List.mem_cons_of_mem _ ih.1
    · rw [e]
      rcases List.mem_cons.mp hz with rfl | hz
      · exact Int.min_le_left ..
      · exact Int.le_trans (Int.min_le_right ..) (ih.2 z hz)
section
variable (fr : Nat → List Nat) (cs : Int → Nat → Int)
def rowsF : Nat → Nat → List (List Nat)
  | 0, _ => [[]]
  | k + 1, m => (fr m).flatMap fun t => (rowsF k (m ||| 1 <<< t)).map (t :: ·)
def jmp : Int → List Nat → Int
  | _, [] => 0
  | l, t :: r => cs l t + jmp t r
def bst (k m : Nat) (l : Int) : Int := minI ((rowsF fr k m).map (jmp cs l))
def cnt (k m : Nat) (l : Int) : Int := (((rowsF fr k m).filter fun r => decide (jmp cs l r = bst fr cs k m l)).length : Nat)
variable {fr cs}
theorem mem_rows_succ {k m : Nat} {r : List Nat} : r ∈ rowsF fr (k + 1) m ↔ ∃ t ∈ fr m, ∃ q ∈ rowsF fr k (m ||| 1 <<< t), r = t :: q := by
  show r ∈ (fr m).flatMap _ ↔ _
  rw [List.mem_flatMap]
  constructor
  · rintro ⟨t, h1, h2⟩
    obtain ⟨q, h3, rfl⟩ := List.mem_map.mp h2
    exact ⟨t, h1, q, h3, rfl⟩
  · rintro ⟨t, h1, q, h3, rfl⟩
    exact ⟨t, h1, List.mem_map_of_mem h3⟩
theorem bst_min {k m : Nat} {l : Int} (h : rowsF fr k m ≠ []) : IsMin (bst fr cs k m l) ((rowsF fr k m).map (jmp cs l)) := minI_min (by simpa using h)
theorem bst_succ {k m : Nat} {l : Int} (hne : fr m ≠ []) (h : ∀ t ∈ fr m, rowsF fr k (m ||| 1 <<< t) ≠ []) :
    bst fr cs (k + 1) m l = minI ((fr m).map fun t => bst fr cs k (m ||| 1 <<< t) t + cs l t) := by
  have h1 : IsMin (minI ((fr m).map fun t => bst fr cs k (m ||| 1 <<< t) t + cs l t)) ((fr m).map fun t => bst fr cs k (m ||| 1 <<< t) t + cs l t) := minI_min (by simpa using hne)
  have h2 : rowsF fr (k + 1) m ≠ [] := fun e => by
    obtain ⟨t, ht⟩ := List.exists_mem_of_ne_nil _ hne
    obtain ⟨q, hq⟩ := List.exists_mem_of_ne_nil _ (h t ht)
    have := mem_rows_succ.mpr ⟨t, ht, q, hq, rfl⟩
    rw [e] at this; cases this
  refine (bst_min h2).eq ⟨?_, fun y hy => ?_⟩
  · obtain ⟨t, ht, e⟩ := List.mem_map.mp h1.1
    obtain ⟨q, hq, e2⟩ := List.mem_map.mp (bst_min (cs := cs) (l := (t : Int)) (h t ht)).1
    refine List.mem_map.mpr ⟨t :: q, mem_rows_succ.mpr ⟨t, ht, q, hq, rfl⟩, ?_⟩
    rw [← e]
    show cs l t + jmp cs t q = _
    rw [e2]; omega
  · obtain ⟨r, hr, rfl⟩ := List.mem_map.mp hy
    obtain ⟨t, ht, q, hq, rfl⟩ := mem_rows_succ.mp hr
    have a := h1.2 _ (List.mem_map_of_mem ht)
    have b := (bst_min (cs := cs) (l := (t : Int)) (h t ht)).2 _ (List.mem_map_of_mem hq)
    show _ ≤ cs l t + jmp cs t q
    omega
theorem bst_le {k m : Nat} {l : Int} (hne : fr m ≠ []) (h : ∀ t ∈ fr m, rowsF fr k (m ||| 1 <<< t) ≠ []) {t : Nat} (ht : t ∈ fr m) : bst fr cs (k + 1) m l ≤ bst fr cs k (m ||| 1 <<< t) t + cs l t := by
  rw [bst_succ hne h]
  exact (minI_min (by simpa using hne)).2 _ (List.mem_map_of_mem (f := fun t => bst fr cs k (m ||| 1 <<< t) t + cs l t) ht)
theorem cnt_part {k m : Nat} {l B : Int} : ∀ {L : List Nat}, (∀ t ∈ L, rowsF fr k (m ||| 1 <<< t) ≠ [] ∧ B ≤ bst fr cs k (m ||| 1 <<< t) t + cs l t) →
    ((((L.flatMap fun t => (rowsF fr k (m ||| 1 <<< t)).map (t :: ·)).filter fun r => decide (jmp cs l r = B)).length : Nat) : Int) = ((L.filter fun t => decide (bst fr cs k (m ||| 1 <<< t) t + cs l t = B)).map fun t => cnt fr cs k (m ||| 1 <<< t) t).sum
  | [], _ => rfl
  | t :: L, h => by
    have ih := cnt_part (L := L) fun u hu => h u (List.mem_cons_of_mem _ hu)
    obtain ⟨h1, h2⟩ := h t List.mem_cons_self
    rw [List.flatMap_cons, List.filter_append, List.length_append, Int.natCast_add, ih, List.filter_map, List.length_map]
    have hm := bst_min (cs := cs) (l := (t : Int)) h1
    by_cases e : bst fr cs k (m ||| 1 <<< t) t + cs l t = B
    · rw [List.filter_cons_of_pos (by simpa using e), List.map_cons, List.sum_cons]
      congr 1
      unfold cnt
      congr 2
      refine List.filter_congr fun r _ => ?_
      show decide (cs l t + jmp cs t r = B) = _
      exact decide_eq_decide.mpr (by omega)
    · rw [List.filter_cons_of_neg (by simpa using e)]
      have z : (rowsF fr k (m ||| 1 <<< t)).filter ((fun r => decide (jmp cs l r = B)) ∘ fun x => t :: x) = [] := by
        refine List.filter_eq_nil_iff.mpr fun r hr => ?_
        have := hm.2 _ (List.mem_map_of_mem hr)
        show ¬ decide (cs l t + jmp cs t r = B) = true
        simp only [decide_eq_true_eq]
        omega
      rw [z]; simp
theorem cnt_succ {k m : Nat} {l : Int} (hne : fr m ≠ []) (h : ∀ t ∈ fr m, rowsF fr k (m ||| 1 <<< t) ≠ []) :
    cnt fr cs (k + 1) m l = (((fr m).filter fun t => decide (bst fr cs k (m ||| 1 <<< t) t + cs l t = bst fr cs (k + 1) m l)).map fun t => cnt fr cs k (m ||| 1 <<< t) t).sum := by
  unfold cnt
  exact cnt_part fun t ht => ⟨h t ht, bst_le hne h ht⟩
end

/-! ### masks -/
theorem bit_shl (a i : Nat) : (1 <<< a).testBit i = decide (a = i) := by
  rw [Nat.one_shiftLeft, Nat.testBit_two_pow]
theorem bit_put (m t i : Nat) : (m ||| 1 <<< t).testBit i = (m.testBit i || decide (t = i)) := by rw [Nat.testBit_or, bit_shl]
/-- what a thing waits for -/
def wn (F : List (Int × Int)) (b : Nat) : Nat := F.foldl (fun acc p => if p.2 = (b : Int) then acc ||| 1 <<< p.1.toNat else acc) 0
theorem wn_snoc (F : List (Int × Int)) (p : Int × Int) (b : Nat) : wn (F ++ [p]) b = if p.2 = (b : Int) then wn F b ||| 1 <<< p.1.toNat else wn F b := by
  unfold wn; rw [List.foldl_append]; rfl
theorem wn_bits (a b : Nat) : ∀ (F : List (Int × Int)) (acc : Nat), (∀ p ∈ F, 0 ≤ p.1) → (F.foldl (fun acc p => if p.2 = (b : Int) then acc ||| 1 <<< p.1.toNat else acc) acc).testBit a = (acc.testBit a || decide (((a : Int), (b : Int)) ∈ F))
  | [], acc, _ => by simp
  | p :: F, acc, h => by
    rw [List.foldl_cons, wn_bits a b F _ fun q hq => h q (List.mem_cons_of_mem _ hq)]
    have h0 := h p List.mem_cons_self
    by_cases e : p.2 = (b : Int)
    · rw [if_pos e, bit_put]
      by_cases g : p.1 = (a : Int)
      · have : p = ((a : Int), (b : Int)) := Prod.ext g e
        subst this
        simp
      · have n1 : ¬ p.1.toNat = a := by omega
        have n2 : ((a : Int), (b : Int)) ≠ p := fun z => g (by rw [← z])
        simp [n1, n2]
    · rw [if_neg e]
      have n2 : ((a : Int), (b : Int)) ≠ p := fun z => e (by rw [← z])
      simp [n2]
theorem wn_bit {F : List (Int × Int)} (h : ∀ p ∈ F, 0 ≤ p.1) (a b : Nat) : (wn F b).testBit a = decide (((a : Int), (b : Int)) ∈ F) := by
  unfold wn; rw [wn_bits a b F 0 h]; simp
theorem and_eq_iff (x m : Nat) : x &&& m = x ↔ ∀ i, x.testBit i = true → m.testBit i = true := by
  constructor
  · intro e i h
    rw [← e, Nat.testBit_and] at h
    exact (Bool.and_eq_true_iff.mp h).2
  · intro h
    refine Nat.eq_of_testBit_eq fun i => ?_
    rw [Nat.testBit_and]
    cases e : x.testBit i with
    | false => rfl
    | true => rw [h i e]; rfl
section
variable (n : Nat) (G : List (Int × Int))
def okB (m t : Nat) : Bool := wn G t &&& m == wn G t
def freeL (m : Nat) : List Nat := (List.range n).filter fun t => !m.testBit t && okB G m t
def thL (m : Nat) : List Nat := (List.range n).filter fun t => m.testBit t
def lowB (m : Nat) : Bool := (thL n m).all fun t => okB G m t
def remN (m : Nat) : Nat := ((List.range n).filter fun t => !m.testBit t).length
variable {n G}
theorem okB_iff (h0 : ∀ p ∈ G, 0 ≤ p.1) {m t : Nat} : okB G m t = true ↔ ∀ a : Nat, ((a : Int), (t : Int)) ∈ G → m.testBit a = true := by
  unfold okB
  rw [beq_iff_eq, and_eq_iff]
  constructor
  · exact fun h a ha => h a (by rw [wn_bit h0]; exact decide_eq_true ha)
  · exact fun h a ha => h a (by rw [wn_bit h0] at ha; exact of_decide_eq_true ha)
theorem mem_free {m t : Nat} : t ∈ freeL n G m ↔ t < n ∧ m.testBit t = false ∧ okB G m t = true := by
  unfold freeL; rw [List.mem_filter, List.mem_range]; simp
theorem mem_th {m t : Nat} : t ∈ thL n m ↔ t < n ∧ m.testBit t = true := by
  unfold thL; rw [List.mem_filter, List.mem_range]
theorem low_iff {m : Nat} : lowB n G m = true ↔ ∀ t < n, m.testBit t = true → okB G m t = true := by
  unfold lowB
  rw [List.all_eq_true]
  exact ⟨fun h t h1 h2 => h t (mem_th.mpr ⟨h1, h2⟩), fun h t ht => h t (mem_th.mp ht).1 (mem_th.mp ht).2⟩
theorem okB_mono (h0 : ∀ p ∈ G, 0 ≤ p.1) {m m' t : Nat} (h : ∀ i, m.testBit i = true → m'.testBit i = true) (ho : okB G m t = true) : okB G m' t = true :=
  (okB_iff h0).mpr fun a ha => h a ((okB_iff h0).mp ho a ha)
theorem low_put (h0 : ∀ p ∈ G, 0 ≤ p.1) {m t : Nat} (hl : lowB n G m = true) (ht : t ∈ freeL n G m) : lowB n G (m ||| 1 <<< t) = true := by
  obtain ⟨h1, h2, h3⟩ := mem_free.mp ht
  have hm : ∀ i, m.testBit i = true → (m ||| 1 <<< t).testBit i = true := fun i hi => by rw [bit_put, hi]; rfl
  refine low_iff.mpr fun u hu hb => okB_mono h0 hm ?_
  rw [bit_put] at hb
  rcases Bool.or_eq_true_iff.mp hb with hb | hb
  · exact low_iff.mp hl u hu hb
  · have := of_decide_eq_true hb; subst this; exact h3
theorem put_off {m t : Nat} (h : m.testBit t = false) : (m ||| 1 <<< t) ^^^ (1 <<< t) = m := by
  refine Nat.eq_of_testBit_eq fun i => ?_
  rw [Nat.testBit_xor, bit_put, bit_shl]
  by_cases e : t = i
  · subst e; simp [h]
  · simp [e]
theorem put_lt {m t : Nat} (h : m < 2 ^ n) (ht : t < n) : m ||| 1 <<< t < 2 ^ n := Nat.or_lt_two_pow h (by rw [Nat.one_shiftLeft]; exact Nat.pow_lt_pow_right (by omega) ht)
theorem lt_put {m t : Nat} (h : m.testBit t = false) : m < m ||| 1 <<< t := by
  have h1 : m ≤ m ||| 1 <<< t := Nat.left_le_or
  have h2 : m ≠ m ||| 1 <<< t := fun e => by
    have := bit_put m t t
    rw [← e, h] at this
    simp at this
  omega
theorem filter_drop_one {p : Nat → Bool} : ∀ {L : List Nat} {t : Nat}, L.Nodup → t ∈ L → p t = true → (L.filter p).length = (L.filter fun u => p u && !decide (t = u)).length + 1
  | [], _, _, h, _ => by cases h
  | u :: L, t, hn, h, hp => by
    obtain ⟨h1, h2⟩ := List.nodup_cons.mp hn
    by_cases e : t = u
    · subst e
      rw [List.filter_cons_of_pos hp, List.filter_cons_of_neg (by simp), List.length_cons]
      congr 2
      refine List.filter_congr fun x hx => ?_
      have : t ≠ x := fun e => h1 (e ▸ hx)
      simp [this]
    · have ht : t ∈ L := by rcases List.mem_cons.mp h with h | h; exact absurd h e; exact h
      have ih := filter_drop_one (p := p) h2 ht hp
      by_cases hu : p u = true
      · rw [List.filter_cons_of_pos hu, List.filter_cons_of_pos (by simp [hu, e]), List.length_cons, List.length_cons, ih]
      · rw [List.filter_cons_of_neg hu, List.filter_cons_of_neg (by simp [hu]), ih]
theorem rem_put {m t : Nat} (ht : t < n) (h : m.testBit t = false) : remN n m = remN n (m ||| 1 <<< t) + 1 := by
  unfold remN
  rw [filter_drop_one (p := fun t => !m.testBit t) List.nodup_range (List.mem_range.mpr ht) (by simp [h])]
  congr 2
  refine List.filter_congr fun u _ => ?_
  rw [bit_put]
  simp
theorem rem_zero : remN n 0 = n := by
  unfold remN
  rw [List.filter_eq_self.mpr (fun a _ => by simp), List.length_range]
theorem rem_none {m : Nat} (h : remN n m = 0) : freeL n G m = [] := by
  unfold remN at h
  have h := List.eq_nil_of_length_eq_zero h
  refine List.filter_eq_nil_iff.mpr fun t ht => ?_
  have := List.filter_eq_nil_iff.mp h t ht
  intro q
  exact this (Bool.and_eq_true_iff.mp q).1
/-- every lower set but the whole has a thing to go on with -/
def Goes (n : Nat) (G : List (Int × Int)) : Prop := ∀ m, lowB n G m = true → remN n m ≠ 0 → freeL n G m ≠ []
theorem rows_ne (h0 : ∀ p ∈ G, 0 ≤ p.1) (hg : Goes n G) : ∀ {k m : Nat}, lowB n G m = true → remN n m = k → rowsF (freeL n G) k m ≠ []
  | 0, m, _, _ => by simp [rowsF]
  | k + 1, m, hl, hr => fun e => by
    obtain ⟨t, ht⟩ := List.exists_mem_of_ne_nil _ (hg m hl (by omega))
    obtain ⟨h1, h2, _⟩ := mem_free.mp ht
    have := rem_put (n := n) h1 h2
    obtain ⟨q, hq⟩ := List.exists_mem_of_ne_nil _ (rows_ne h0 hg (k := k) (low_put h0 hl ht) (by omega))
    have := mem_rows_succ.mpr ⟨t, ht, q, hq, rfl⟩
    rw [e] at this; cases this
end

/-! ### standings -/
section
variable (n : Nat) (G : List (Int × Int))
def down (k : Nat) : List Nat := (List.range k).map fun i => k - i
def standsAt (m : Nat) : List (Nat × Int) := if lowB n G m = true then ((thL n m).filter fun l => lowB n G (m ^^^ 1 <<< l)).map fun l : Nat => (m, (l : Int)) else []
def standsL : List (Nat × Int) := (down (2 ^ n - 1)).flatMap (standsAt n G) ++ [(0, -1)]
variable {n G}
theorem mem_down {k m : Nat} : m ∈ down k ↔ 1 ≤ m ∧ m ≤ k := by
  unfold down
  rw [List.mem_map]
  constructor
  · rintro ⟨i, hi, rfl⟩; rw [List.mem_range] at hi; omega
  · intro h; exact ⟨k - m, by rw [List.mem_range]; omega, by omega⟩
theorem down_desc (k : Nat) : (down k).Pairwise fun a b => b < a := by
  unfold down
  rw [List.pairwise_map]
  refine List.Pairwise.imp_of_mem (fun {a b} ha hb h => ?_) (List.pairwise_lt_range)
  rw [List.mem_range] at ha hb
  omega
theorem mem_standsAt {m : Nat} {s : Nat × Int} : s ∈ standsAt n G m ↔ lowB n G m = true ∧ ∃ l : Nat, l < n ∧ m.testBit l = true ∧ lowB n G (m ^^^ 1 <<< l) = true ∧ s = (m, (l : Int)) := by
  unfold standsAt
  split
  · rename_i h
    rw [List.mem_map]
    constructor
    · rintro ⟨l, hl, rfl⟩
      obtain ⟨h1, h2⟩ := List.mem_filter.mp hl
      exact ⟨h, l, (mem_th.mp h1).1, (mem_th.mp h1).2, h2, rfl⟩
    · rintro ⟨_, l, h1, h2, h3, rfl⟩
      exact ⟨l, List.mem_filter.mpr ⟨mem_th.mpr ⟨h1, h2⟩, h3⟩, rfl⟩
  · rename_i h
    constructor
    · intro q; cases q
    · rintro ⟨q, _⟩; exact absurd q h
theorem stands_low {s : Nat × Int} (h : s ∈ standsL n G) : lowB n G s.1 = true := by
  unfold standsL at h
  rcases List.mem_append.mp h with h | h
  · obtain ⟨m, _, h2⟩ := List.mem_flatMap.mp h
    obtain ⟨h3, l, _, _, _, rfl⟩ := mem_standsAt.mp h2
    exact h3
  · rw [List.mem_singleton] at h
    subst h
    exact low_iff.mpr fun t _ h => by simp at h
theorem stands_lt {s : Nat × Int} (h : s ∈ standsL n G) : s.1 < 2 ^ n ∧ -1 ≤ s.2 ∧ s.2 < n := by
  have hp : 0 < 2 ^ n := Nat.two_pow_pos n
  unfold standsL at h
  rcases List.mem_append.mp h with h | h
  · obtain ⟨m, h1, h2⟩ := List.mem_flatMap.mp h
    obtain ⟨h3, l, h4, _, _, rfl⟩ := mem_standsAt.mp h2
    have := mem_down.mp h1
    exact ⟨by show m < _; omega, by show -1 ≤ (l : Int); omega, by show (l : Int) < n; omega⟩
  · rw [List.mem_singleton] at h
    subst h
    exact ⟨hp, by show (-1 : Int) ≤ -1; omega, by show (-1 : Int) < n; omega⟩
theorem stands_put (h0 : ∀ p ∈ G, 0 ≤ p.1) {m t : Nat} (hl : lowB n G m = true) (hm : m < 2 ^ n) (ht : t ∈ freeL n G m) : (m ||| 1 <<< t, (t : Int)) ∈ standsL n G := by
  obtain ⟨h1, h2, h3⟩ := mem_free.mp ht
  have := put_lt hm h1
  have := lt_put h2
  refine List.mem_append.mpr (.inl (List.mem_flatMap.mpr ⟨m ||| 1 <<< t, mem_down.mpr (by omega), ?_⟩))
  exact mem_standsAt.mpr ⟨low_put h0 hl ht, t, h1, by rw [bit_put]; simp, by rw [put_off h2]; exact hl, rfl⟩
theorem stands_desc : (standsL n G).Pairwise fun a b => b.1 ≤ a.1 := by
  unfold standsL
  rw [List.pairwise_append]
  refine ⟨List.pairwise_flatMap.mpr ⟨fun m _ => ?_, ?_⟩, List.pairwise_singleton _ _, fun a _ b hb => ?_⟩
  · refine List.Pairwise.imp_of_mem (R := fun _ _ => True) (fun {a b} ha hb _ => ?_) (List.pairwise_of_forall (fun _ _ => trivial))
    obtain ⟨_, l, _, _, _, rfl⟩ := mem_standsAt.mp ha
    obtain ⟨_, l', _, _, _, rfl⟩ := mem_standsAt.mp hb
    exact Nat.le_refl _
  · refine List.Pairwise.imp (fun {a b} h x hx y hy => ?_) (down_desc _)
    obtain ⟨_, l, _, _, _, rfl⟩ := mem_standsAt.mp hx
    obtain ⟨_, l', _, _, _, rfl⟩ := mem_standsAt.mp hy
    exact Nat.le_of_lt h
  · rw [List.mem_singleton] at hb; subst hb; exact Nat.zero_le _
theorem stands_nodup : (standsL n G).Nodup := by
  unfold standsL
  refine List.pairwise_append.mpr ⟨List.pairwise_flatMap.mpr ⟨fun m _ => ?_, ?_⟩, List.pairwise_singleton _ _, fun a ha b hb => ?_⟩
  · unfold standsAt
    split
    · refine List.pairwise_map.mpr (List.Pairwise.imp (fun {a b} h e => h ?_) ((List.nodup_range (n := n)).filter _ |>.filter _))
      have := (Prod.mk.inj e).2
      omega
    · exact List.Pairwise.nil
  · refine List.Pairwise.imp (fun {a b} h x hx y hy e => ?_) (down_desc _)
    obtain ⟨_, l, _, _, _, rfl⟩ := mem_standsAt.mp hx
    obtain ⟨_, l', _, _, _, rfl⟩ := mem_standsAt.mp hy
    have := (Prod.mk.inj e).1
    omega
  · obtain ⟨m, h1, h2⟩ := List.mem_flatMap.mp ha
    obtain ⟨_, l, _, _, _, rfl⟩ := mem_standsAt.mp h2
    rw [List.mem_singleton] at hb
    subst hb
    have := mem_down.mp h1
    intro e
    have := (Prod.mk.inj e).1
    omega
theorem ahead_in {α : Type} {L : List α} {R : α → α → Prop} (hp : L.Pairwise R) {i : Nat} {s e : α} (hs : L[i]? = some s) (he : e ∈ L) (hne : e ≠ s) (hR : ¬ R s e) : e ∈ L.take i := by
  obtain ⟨j, hj⟩ := List.mem_iff_getElem?.mp he
  by_cases h : j < i
  · exact List.mem_iff_getElem?.mpr ⟨j, by rw [List.getElem?_take_of_lt h]; exact hj⟩
  · by_cases e2 : j = i
    · subst e2; rw [hs] at hj; exact absurd (Option.some.inj hj).symm hne
    · refine absurd ?_ hR
      obtain ⟨hi', e3⟩ := List.getElem?_eq_some_iff.mp hs
      obtain ⟨hj', e4⟩ := List.getElem?_eq_some_iff.mp hj
      have := List.pairwise_iff_getElem.mp hp i j hi' hj' (by omega)
      rw [e3, e4] at this
      exact this
end
/-! ### the first of the fewest -/
section
variable {fr : Nat → List Nat} {cs : Int → Nat → Int}
def nxtT (fr : Nat → List Nat) (cs : Int → Nat → Int) (k m : Nat) (l : Int) : List Nat := (fr m).filter fun t => decide (bst fr cs k (m ||| 1 <<< t) t + cs l t = bst fr cs (k + 1) m l)
def ffL (fr : Nat → List Nat) (cs : Int → Nat → Int) : Nat → Nat → Int → List Nat
  | 0, _, _ => []
  | k + 1, m, l => (nxtT fr cs k m l).headD 0 :: ffL fr cs k (m ||| 1 <<< (nxtT fr cs k m l).headD 0) ((nxtT fr cs k m l).headD 0 : Nat)
def fewL (fr : Nat → List Nat) (cs : Int → Nat → Int) (k m : Nat) (l : Int) : List (List Nat) := (rowsF fr k m).filter fun r => decide (jmp cs l r = bst fr cs k m l)
theorem nxt_ne {k m : Nat} {l : Int} (hne : fr m ≠ []) (h : ∀ t ∈ fr m, rowsF fr k (m ||| 1 <<< t) ≠ []) : nxtT fr cs k m l ≠ [] := fun e => by
  have h1 : IsMin (minI ((fr m).map fun t => bst fr cs k (m ||| 1 <<< t) t + cs l t)) ((fr m).map fun t => bst fr cs k (m ||| 1 <<< t) t + cs l t) := minI_min (by simpa using hne)
  rw [← bst_succ hne h] at h1
  obtain ⟨t, ht, e2⟩ := List.mem_map.mp h1.1
  have : t ∈ nxtT fr cs k m l := List.mem_filter.mpr ⟨ht, decide_eq_true e2⟩
  rw [e] at this; cases this
theorem head_part {k m : Nat} {l B : Int} {ff : Nat → List Nat} : ∀ {L : List Nat}, (∀ t ∈ L, rowsF fr k (m ||| 1 <<< t) ≠ [] ∧ B ≤ bst fr cs k (m ||| 1 <<< t) t + cs l t ∧ (fewL fr cs k (m ||| 1 <<< t) t).head? = some (ff t)) →
    ∀ t0, (L.filter fun t => decide (bst fr cs k (m ||| 1 <<< t) t + cs l t = B)).head? = some t0 → ((L.flatMap fun t => (rowsF fr k (m ||| 1 <<< t)).map (t :: ·)).filter fun r => decide (jmp cs l r = B)).head? = some (t0 :: ff t0)
  | [], _, t0, h => by cases h
  | t :: L, h, t0, h0 => by
    obtain ⟨h1, h2, h3⟩ := h t List.mem_cons_self
    rw [List.flatMap_cons, List.filter_append, List.filter_map]
    have hm := bst_min (cs := cs) (l := (t : Int)) h1
    by_cases e : bst fr cs k (m ||| 1 <<< t) t + cs l t = B
    · rw [List.filter_cons_of_pos (by simpa using e)] at h0
      have e0 : t = t0 := by simpa using h0
      subst e0
      have z : (rowsF fr k (m ||| 1 <<< t)).filter ((fun r => decide (jmp cs l r = B)) ∘ fun x => t :: x) = fewL fr cs k (m ||| 1 <<< t) t := by
        unfold fewL
        refine List.filter_congr fun r _ => ?_
        show decide (cs l t + jmp cs t r = B) = _
        exact decide_eq_decide.mpr (by omega)
      rw [z, List.head?_append, List.head?_map, h3]
      rfl
    · rw [List.filter_cons_of_neg (by simpa using e)] at h0
      have z : (rowsF fr k (m ||| 1 <<< t)).filter ((fun r => decide (jmp cs l r = B)) ∘ fun x => t :: x) = [] := by
        refine List.filter_eq_nil_iff.mpr fun r hr => ?_
        have := hm.2 _ (List.mem_map_of_mem hr)
        show ¬ decide (cs l t + jmp cs t r = B) = true
        simp only [decide_eq_true_eq]
        omega
      rw [z, List.map_nil, List.nil_append]
      exact head_part (fun u hu => h u (List.mem_cons_of_mem _ hu)) t0 h0
end
theorem head_of_ne {α : Type} {L : List α} {d : α} (h : L ≠ []) : L.head? = some (L.headD d) := by
  cases L with
  | nil => exact absurd rfl h
  | cons a L => rfl
theorem few_head {n : Nat} {G : List (Int × Int)} {cs : Int → Nat → Int} (h0 : ∀ p ∈ G, 0 ≤ p.1) (hg : Goes n G) : ∀ {k m : Nat} {l : Int}, lowB n G m = true → remN n m = k → (fewL (freeL n G) cs k m l).head? = some (ffL (freeL n G) cs k m l)
  | 0, m, l, _, _ => by
    show ([[]].filter fun r => decide (jmp cs l r = bst (freeL n G) cs 0 m l)).head? = _
    rw [List.filter_cons_of_pos (by show decide ((0 : Int) = 0) = true; rfl)]
    rfl
  | k + 1, m, l, hl, hr => by
    have hne := hg m hl (by omega)
    have hrem : ∀ t ∈ freeL n G m, remN n (m ||| 1 <<< t) = k := fun t ht => by
      have := rem_put (n := n) (mem_free.mp ht).1 (mem_free.mp ht).2.1
      omega
    have hrow : ∀ t ∈ freeL n G m, rowsF (freeL n G) k (m ||| 1 <<< t) ≠ [] := fun t ht => rows_ne h0 hg (low_put h0 hl ht) (hrem t ht)
    exact head_part (ff := fun t => ffL (freeL n G) cs k (m ||| 1 <<< t) t) (fun t ht => ⟨hrow t ht, bst_le hne hrow ht, few_head h0 hg (low_put h0 hl ht) (hrem t ht)⟩) _ (head_of_ne (d := 0) (nxt_ne hne hrow))
/-! ### nothing ahead of anything -/
theorem free_nil (n m : Nat) : (freeL n [] m).length = remN n m := by
  unfold freeL remN
  congr 1
  refine List.filter_congr fun t _ => ?_
  have : okB [] m t = true := (okB_iff (G := []) (fun p h => by cases h)).mpr fun a h => by cases h
  rw [this, Bool.and_true]
def fac : Nat → Nat
  | 0 => 1
  | n + 1 => (n + 1) * fac n
theorem sum_const {α : Type} {f : α → Nat} {c : Nat} : ∀ {L : List α}, (∀ x ∈ L, f x = c) → (L.map f).sum = L.length * c
  | [], _ => by simp
  | x :: L, h => by
    rw [List.map_cons, List.sum_cons, sum_const (L := L) fun y hy => h y (List.mem_cons_of_mem _ hy), h x List.mem_cons_self, List.length_cons, Nat.add_mul]
    omega
theorem rows_nil (n : Nat) : ∀ {k m : Nat}, remN n m = k → (rowsF (freeL n []) k m).length = fac k
  | 0, m, _ => rfl
  | k + 1, m, h => by
    show ((freeL n [] m).flatMap _).length = _
    rw [List.length_flatMap, sum_const (c := fac k) fun t ht => ?_, free_nil, h]
    · rfl
    · rw [List.length_map]
      refine rows_nil n ?_
      have := rem_put (n := n) (mem_free.mp ht).1 (mem_free.mp ht).2.1
      omega
theorem goes_nil (n : Nat) : Goes n [] := fun m _ h e => h (by rw [← free_nil, e]; rfl)
end Fj

/-! ## Mcom -/
namespace Fj
open PySem
def ordD (n : Nat) (G : List (Int × Int)) : D := .tup [.int n, .tup (G.map encP)]
theorem idx_ord0 (n : Nat) (G : List (Int × Int)) : idxR (ordD n G) (.int 0) = .ok (.int n) := rfl
theorem idx_ord1 (n : Nat) (G : List (Int × Int)) : idxR (ordD n G) (.int 1) = .ok (.tup (G.map encP)) := rfl
theorem plain_ints : ∀ l : List Int, plainDs (l.map D.int) = true
  | [] => rfl
  | x :: l => by rw [List.map_cons]; unfold plainDs; rw [plain_ints l]; rfl
theorem dep_ints : ∀ l : List Int, depDs (l.map D.int) = 0
  | [] => rfl
  | x :: l => by rw [List.map_cons]; unfold depDs; rw [dep_ints l]; rfl
theorem eq_ints : ∀ a b : List Int, eqDs (a.map D.int) (b.map D.int) = decide (a = b)
  | [], [] => by simp [eqDs]
  | [], _ :: _ => by simp [eqDs]
  | _ :: _, [] => by simp [eqDs]
  | x :: a, y :: b => by
    rw [List.map_cons, List.map_cons]
    unfold eqDs
    rw [eq_ints a b]
    simp [eqD]
    by_cases h1 : x = y <;> by_cases h2 : a = b <;> simp [h1, h2]
theorem range2_up {a b : Int} (h0 : -1000000 ≤ a) (h1 : a ≤ 1000000) (h2 : -1000000 ≤ b) (h3 : b ≤ 1000000) : range2R (.int a) (.int b) = .ok ((List.range (b - a).toNat).map fun k : Nat => D.int (a + k)) := by
  show (if (big62 a && big62 b) = true then _ else _) = _
  rw [big62_of h0 h1, big62_of h2 h3, if_pos (show (true && true) = true from rfl)]; rfl
theorem encs_plain : ∀ G : List (Int × Int), plainDs (G.map encP) = true
  | [] => rfl
  | p :: G => by rw [List.map_cons]; unfold plainDs; rw [encs_plain G]; rfl
theorem encs_dep : ∀ G : List (Int × Int), depDs (G.map encP) ≤ 1
  | [] => by simp [depDs]
  | p :: G => by
    rw [List.map_cons]
    unfold depDs
    have := encs_dep G
    have h2 : depD (encP p) = 1 := rfl
    omega
theorem encs_fit (G : List (Int × Int)) : fitD (.tup (G.map encP)) = true := by
  unfold fitD plainD depD
  rw [encs_plain]
  have := encs_dep G
  simp; omega
theorem idx_enc0 (p : Int × Int) : idxR (encP p) (.int 0) = .ok (.int p.1) := rfl
theorem idx_enc1 (p : Int × Int) : idxR (encP p) (.int 1) = .ok (.int p.2) := rfl
mutual
theorem eqD_refl : ∀ d : D, plainD d = true → eqD d d = true
  | .non, _ => by simp [eqD]
  | .bl b, _ => by simp [eqD]
  | .int i, _ => by simp [eqD]
  | .str s, _ => by simp [eqD]
  | .tup xs, h => by unfold eqD; exact eqDs_refl xs (by simpa [plainD] using h)
  | .lst xs, h => by unfold eqD; exact eqDs_refl xs (by simpa [plainD] using h)
  | .dct _ _, h => by simp [plainD] at h
  | .fn _, h => by simp [plainD] at h
  | .exc _ _, h => by simp [plainD] at h
  | .scr _, h => by simp [plainD] at h
theorem eqDs_refl : ∀ xs : List D, plainDs xs = true → eqDs xs xs = true
  | [], _ => by simp [eqDs]
  | x :: xs, h => by
    unfold plainDs at h
    rw [Bool.and_eq_true] at h
    unfold eqDs
    rw [eqD_refl x h.1, eqDs_refl xs h.2]; rfl
end
theorem ne_self {d : D} (h : fitD d = true) : neR d d = .ok false := by
  unfold neR
  rw [h, eqD_refl d (fit_plain h)]; rfl
theorem eq_self {d : D} (h : fitD d = true) : eqR d d = .ok true := by
  unfold eqR
  rw [h, eqD_refl d (fit_plain h)]; rfl
theorem all_true (n : Nat) : allQ (.lst (List.replicate n (.bl true))) = .ok (.bl true) := by
  have : blsD (List.replicate n (.bl true)) = some (List.replicate n true) := by
    induction n with
    | zero => rfl
    | succ n ih => rw [List.replicate_succ]; unfold blsD; rw [ih]; rfl
  show (ofO (blsD (List.replicate n (.bl true)))).bind (fun bs => R.ok (D.bl (bs.all id))) = _
  rw [this]
  simp
theorem ord_small {n : Nat} {G : List (Int × Int)} (h : Ord n G) (hn : n ≤ 7) : G.length ≤ 21 := by
  obtain ⟨row, hr, hs⟩ := h.row
  have hnd : G.Nodup := by rw [← h.srt]; exact nodup_sortP G
  have h1 := len_sub hnd hs
  have h2 := upP_len row
  have hl : row.length ≤ 7 := by rw [hr.length_eq, ups_len]; exact hn
  have : row.length * (row.length - 1) ≤ 7 * 6 := Nat.mul_le_mul hl (by omega)
  omega

/-! ### in, == -/
theorem ints_fit_t (l : List Int) : fitD (.tup (l.map D.int)) = true := by
  unfold fitD plainD depD
  rw [plain_ints, dep_ints]; rfl
theorem ints_fit_l (l : List Int) : fitD (.lst (l.map D.int)) = true := by
  unfold fitD plainD depD
  rw [plain_ints, dep_ints]; rfl
theorem nats_fit_t (l : List Nat) : fitD (.tup (l.map fun t : Nat => D.int t)) = true := by
  have := ints_fit_t (l.map fun t : Nat => (t : Int))
  rw [List.map_map] at this; exact this
theorem nats_fit_l (l : List Nat) : fitD (.lst (l.map fun t : Nat => D.int t)) = true := by
  have := ints_fit_l (l.map fun t : Nat => (t : Int))
  rw [List.map_map] at this; exact this
theorem eqD_enc (p q : Int × Int) : eqD (encP p) (encP q) = decide (p = q) := by
  obtain ⟨a, b⟩ := p
  obtain ⟨c, d⟩ := q
  have e : eqD (encP (a, b)) (encP (c, d)) = ((a == c) && ((b == d) && true)) := by simp [encP, eqD, eqDs]
  rw [e, Bool.and_true, Bool.eq_iff_iff]
  simp
theorem any_enc (p : Int × Int) : ∀ G : List (Int × Int), (G.map encP).any (fun y => eqD y (encP p)) = decide (p ∈ G)
  | [] => by simp
  | q :: G => by
    rw [List.map_cons, List.any_cons, any_enc p G, eqD_enc, Bool.eq_iff_iff]
    simp only [Bool.or_eq_true, decide_eq_true_eq, List.mem_cons]
    exact ⟨fun h => h.imp_left Eq.symm, fun h => h.imp_left Eq.symm⟩
theorem in_pairs (a b : Int) (G : List (Int × Int)) : inR (.tup [.int a, .int b]) (.tup (G.map encP)) = .ok (decide ((a, b) ∈ G)) := by
  show (if (fitD (.tup [.int a, .int b]) && fitD (.tup (G.map encP))) = true then R.ok ((G.map encP).any fun y => eqD y (encP (a, b))) else _) = _
  rw [encs_fit, show fitD (.tup [.int a, .int b]) = true from rfl, if_pos (show (true && true) = true from rfl), any_enc]
theorem any_nat (x : Nat) : ∀ l : List Nat, (l.map fun t : Nat => D.int t).any (fun y => eqD y (.int x)) = decide (x ∈ l)
  | [] => by simp
  | q :: l => by
    have e : eqD (D.int q) (.int x) = decide (q = x) := by
      rw [show eqD (D.int q) (.int x) = ((q : Int) == (x : Int)) by simp [eqD], Bool.eq_iff_iff]
      simp only [beq_iff_eq, decide_eq_true_eq]; omega
    rw [List.map_cons, List.any_cons, any_nat x l, e, Bool.eq_iff_iff]
    simp only [Bool.or_eq_true, decide_eq_true_eq, List.mem_cons]
    exact ⟨fun h => h.imp_left Eq.symm, fun h => h.imp_left Eq.symm⟩
theorem in_nats_t (x : Nat) (l : List Nat) : inR (.int x) (.tup (l.map fun t : Nat => D.int t)) = .ok (decide (x ∈ l)) := by
  show (if (fitD (.int x) && fitD (.tup (l.map fun t : Nat => D.int t))) = true then R.ok ((l.map fun t : Nat => D.int t).any fun y => eqD y (.int x)) else _) = _
  rw [nats_fit_t, show fitD (.int x) = true from rfl, if_pos (show (true && true) = true from rfl), any_nat]
theorem in_nats_l (x : Nat) (l : List Nat) : inR (.int x) (.lst (l.map fun t : Nat => D.int t)) = .ok (decide (x ∈ l)) := by
  show (if (fitD (.int x) && fitD (.lst (l.map fun t : Nat => D.int t))) = true then R.ok ((l.map fun t : Nat => D.int t).any fun y => eqD y (.int x)) else _) = _
  rw [nats_fit_l, show fitD (.int x) = true from rfl, if_pos (show (true && true) = true from rfl), any_nat]
theorem bls_map {α : Type} (f : α → Bool) : ∀ xs : List α, blsD (xs.map fun x => .bl (f x)) = some (xs.map f)
  | [] => rfl
  | x :: xs => by rw [List.map_cons]; unfold blsD; rw [bls_map f xs]; rfl
theorem all_map {α : Type} (f : α → Bool) (xs : List α) : allQ (.lst (xs.map fun x => .bl (f x))) = .ok (.bl (xs.all f)) := by
  show (ofO (blsD (xs.map fun x => .bl (f x)))).bind (fun bs => R.ok (D.bl (bs.all id))) = _
  rw [bls_map]
  simp [Function.comp_def]
theorem ints_map {α : Type} (f : α → Int) : ∀ xs : List α, intsD (xs.map fun x => .int (f x)) = some (xs.map f)
  | [] => rfl
  | x :: xs => by rw [List.map_cons]; unfold intsD; rw [ints_map f xs]; rfl
theorem min_map {α : Type} (f : α → Int) {xs : List α} (h : xs ≠ []) : minR (.lst (xs.map fun x => .int (f x))) = .ok (.int (minI (xs.map f))) := by
  show (ofO (intsD (xs.map fun x => .int (f x)))).bind (fun ns => if ns.isEmpty then R.bad else R.ok (D.int (minI ns))) = _
  rw [ints_map]
  simp [h]
theorem sum_map {α : Type} (f : α → Int) (xs : List α) : sumR (.lst (xs.map fun x => .int (f x))) = .ok (.int (xs.map f).sum) := by
  show (ofO (intsD (xs.map fun x => .int (f x)))).bind (fun ns => R.ok (D.int ns.sum)) = _
  rw [ints_map]
  rfl
/-! ### bits -/
@[simp] theorem shl_one (t : Nat) (h : t ≤ 1000) : shlR (.int 1) (.int t) = .ok (.int (1 <<< t : Nat)) := by
  show (if (small 1 && decide (0 ≤ (t : Int)) && decide ((t : Int) ≤ 1000)) = true then R.ok (D.int (1 * 2 ^ (t : Int).toNat)) else .bad) = _
  have h2 : (t : Int) ≤ 1000 := by omega
  have h3 : (0 : Int) ≤ t := by omega
  rw [if_pos (by simp [h2, h3]; rfl), Int.toNat_natCast, Nat.one_shiftLeft, Int.one_mul, Int.natCast_pow]
  rfl
theorem bor_nat (a b : Nat) : borR (.int a) (.int b) = .ok (.int (a ||| b : Nat)) := by
  show (if (decide (0 ≤ (a : Int)) && decide (0 ≤ (b : Int))) = true then R.ok (D.int ((a : Int).toNat ||| (b : Int).toNat : Nat)) else .bad) = _
  rw [if_pos (by simp)]; rfl
theorem band_nat (a b : Nat) : bandR (.int a) (.int b) = .ok (.int (a &&& b : Nat)) := by
  show (if (decide (0 ≤ (a : Int)) && decide (0 ≤ (b : Int))) = true then R.ok (D.int ((a : Int).toNat &&& (b : Int).toNat : Nat)) else .bad) = _
  rw [if_pos (by simp)]; rfl
theorem bxor_nat (a b : Nat) : bxorR (.int a) (.int b) = .ok (.int (a ^^^ b : Nat)) := by
  show (if (decide (0 ≤ (a : Int)) && decide (0 ≤ (b : Int))) = true then R.ok (D.int ((a : Int).toNat ^^^ (b : Int).toNat : Nat)) else .bad) = _
  rw [if_pos (by simp)]; rfl
theorem shr_nat (a t : Nat) : shrR (.int a) (.int t) = .ok (.int (a / 2 ^ t : Nat)) := by
  show (if 0 ≤ (t : Int) then R.ok (D.int ((a : Int) / 2 ^ (t : Int).toNat)) else .bad) = _
  rw [if_pos (by omega), Int.toNat_natCast]
  rfl
theorem bit_of (a t : Nat) : a / 2 ^ t &&& 1 = if a.testBit t then 1 else 0 := by
  rw [Nat.and_one_is_mod, Nat.testBit_eq_decide_div_mod_eq]
  have : a / 2 ^ t % 2 < 2 := Nat.mod_lt _ (by decide)
  by_cases h : a / 2 ^ t % 2 = 1
  · simp [h]
  · have h2 : a / 2 ^ t % 2 = 0 := by omega
    simp [h2]
@[simp] theorem bandR_bit (a t : Nat) : (op2 bandR (op2 shrR (R.ok (.int a)) (R.ok (.int t))) (R.ok (.int 1))) = .ok (.int (if a.testBit t then 1 else 0)) := by
  rw [op2_ok, shr_nat, op2_ok, show (1 : Int) = ((1 : Nat) : Int) from rfl, band_nat, bit_of]
  split <;> rfl
@[simp] theorem eqR_nat (i j : Nat) : eqR (.int i) (.int j) = .ok (i == j) := by
  rw [eqR_int]
  congr 1
  rw [Bool.eq_iff_iff]; simp
  omega
/-! ### lists -/
theorem mul_rep {xs : List D} {n : Nat} (hn : n ≤ 1000) (hx : xs.length ≤ 100) : mulR (.lst xs) (.int n) = .ok (.lst (List.replicate n xs).flatten) := by
  have h1 : small (n : Int) = true := by unfold small; simp; omega
  have h2 : ((n : Int)) < 2 ^ 60 := by omega
  have h3 : -(2 ^ 60) < (n : Int) := by omega
  have h5 : xs.length * n ≤ 100 * 1000 := Nat.mul_le_mul hx hn
  have h4 : (xs.length * (n : Int).toNat ≤ most) := by rw [Int.toNat_natCast]; exact h5
  have hc : (small (n : Int) && decide (xs.length * (n : Int).toNat ≤ most) && decide ((n : Int) < 2 ^ 60) && decide (-(2 ^ 60) < (n : Int))) = true := by
    rw [h1, decide_eq_true h2, decide_eq_true h3, decide_eq_true h4]; rfl
  unfold mulR
  dsimp only
  rw [if_pos hc, Int.toNat_natCast]
theorem mul_zeros {n : Nat} (hn : n ≤ 1000) : mulR (.lst [.int 0]) (.int n) = .ok (.lst ((List.range n).map fun b => D.int (wn [] b : Nat))) := by
  rw [mul_rep hn (by simp), List.flatten_replicate_singleton]
  congr 2
  rw [show (fun b : Nat => D.int (wn [] b : Nat)) = fun _ => D.int 0 from rfl, List.map_const', List.length_range]
theorem ixN_nat {n i : Nat} (h : i < n) : ixN n (i : Int) = some i := by
  unfold ixN
  rw [if_pos (by omega), if_pos (by omega), Int.toNat_natCast]
theorem set_lst {xs : List D} {i : Nat} {v : D} (h : i < xs.length) : setR (.lst xs) (.int i) v = .ok (.lst (xs.set i v)) := by
  show (ofO (ixN xs.length (i : Int))).bind (fun j => R.ok (D.lst (xs.set j v))) = _
  rw [ixN_nat h]; rfl
theorem set_range {α : Type} {n b : Nat} (hb : b < n) {f : Nat → α} {v : α} : ((List.range n).map f).set b v = (List.range n).map fun x => if x = b then v else f x := by
  refine List.ext_getElem (by simp) fun i h1 h2 => ?_
  rw [List.getElem_set, List.getElem_map, List.getElem_map, List.getElem_range]
  by_cases e : b = i
  · rw [if_pos e, if_pos e.symm]
  · rw [if_neg e, if_neg (fun q => e q.symm)]
theorem rangeD_down {k : Nat} (hk : k ≤ 100000) : rangeDR (.int k) (.int 0) = .ok ((down k).map fun m : Nat => D.int m) := by
  show (if (big62 (k : Int) && big62 0) = true then R.ok (downI (k : Int) ((k : Int) - 0).toNat) else .bad) = _
  rw [big62_of (by omega) (by omega)]
  show R.ok (downI (k : Int) ((k : Int) - 0).toNat) = _
  rw [Int.sub_zero, Int.toNat_natCast]
  unfold downI down
  rw [List.map_map]
  congr 1
  refine List.map_congr_left fun i hi => ?_
  rw [List.mem_range] at hi
  show D.int ((k : Int) - (i : Int)) = D.int ((k - i : Nat) : Int)
  congr 1
  omega
theorem fm_bound {α β : Type} {f : α → List β} {c : Nat} : ∀ {L : List α}, (∀ x ∈ L, (f x).length ≤ c) → (L.flatMap f).length ≤ L.length * c
  | [], _ => Nat.zero_le _
  | x :: L, h => by
    have := fm_bound (L := L) fun y hy => h y (List.mem_cons_of_mem _ hy)
    have := h x List.mem_cons_self
    rw [List.flatMap_cons, List.length_append, List.length_cons, Nat.add_mul]
    omega
theorem extendE_ok {xs ys : List D} (h : xs.length + ys.length ≤ 100000) : extendE (.lst xs) (.ok (.lst ys)) = .ok (.lst (xs ++ ys)) := by
  show (if xs.length + ys.length ≤ most then _ else _) = _
  rw [if_pos (show _ ≤ most from h)]
theorem eq_nil {l : List Nat} : eqR (.lst (l.map fun t : Nat => D.int t)) (.lst []) = .ok (decide (l = [])) := by
  show (if (fitD (.lst (l.map fun t : Nat => D.int t)) && fitD (.lst [])) = true then R.ok (eqD (.lst (l.map fun t : Nat => D.int t)) (.lst [])) else _) = _
  rw [nats_fit_l]
  show R.ok (eqD (.lst (l.map fun t : Nat => D.int t)) (.lst [])) = _
  cases l with
  | nil => simp [eqD, eqDs]
  | cons a l => simp [eqD, eqDs]
theorem ne_nil {l : List Nat} (h : l ≠ []) : neR (.lst (l.map fun t : Nat => D.int t)) (.lst []) = .ok true := by
  show (if (fitD (.lst (l.map fun t : Nat => D.int t)) && fitD (.lst [])) = true then R.ok (!eqD (.lst (l.map fun t : Nat => D.int t)) (.lst [])) else _) = _
  rw [nats_fit_l]
  show R.ok (!eqD (.lst (l.map fun t : Nat => D.int t)) (.lst [])) = _
  cases l with
  | nil => exact absurd rfl h
  | cons a l => simp [eqD, eqDs]
/-! ### comprehensions with a state -/
theorem compS_gen {α S : Type} (enc : α → D) (J : Nat → List D → S → Prop) {f : D → S → R (Option D × S)} : ∀ {xs : List α} {k : Nat} {acc : List D} {s : S}, J k acc s →
    (∀ (i : Nat) (x : α) (acc : List D) (s : S), xs[i]? = some x → J (k + i) acc s → ∃ o s', f (enc x) s = .ok (o, s') ∧ J (k + i + 1) (acc ++ o.toList) s') →
    ∃ ys s', compS f (xs.map enc) s = .ok (ys, s') ∧ J (k + xs.length) (acc ++ ys) s'
  | [], k, acc, s, h, _ => ⟨[], s, rfl, by rw [List.append_nil]; exact h⟩
  | x :: xs, k, acc, s, h, hs => by
    obtain ⟨o, s1, e1, h1⟩ := hs 0 x acc s rfl h
    obtain ⟨ys, s2, e2, h2⟩ := compS_gen enc J (f := f) (xs := xs) (k := k + 1) h1 fun i y acc s hy hj => by
      have := hs (i + 1) y acc s (by simpa using hy) (by rw [show k + (i + 1) = k + 1 + i by omega]; exact hj)
      rwa [show k + (i + 1) + 1 = k + 1 + i + 1 by omega] at this
    refine ⟨o.toList ++ ys, s2, ?_, by rw [List.length_cons, show k + (xs.length + 1) = k + 1 + xs.length by omega, ← List.append_assoc]; exact h2⟩
    rw [List.map_cons]
    unfold compS
    rw [e1]
    simp only [R.nox_ok, R.ok_bind]
    rw [e2]
    cases o <;> rfl
theorem compX_gen {α S : Type} (enc : α → D) (J : Nat → List D → S → Prop) {f : D → S → R (Option D × S)} {xs : List α} {s : S} (hl : xs.length ≤ 100000) (h0 : J 0 [] s)
    (hs : ∀ (i : Nat) (x : α) (acc : List D) (s : S), xs[i]? = some x → J i acc s → ∃ o s', f (enc x) s = .ok (o, s') ∧ J (i + 1) (acc ++ o.toList) s') :
    ∃ ys s', compX (.ok (xs.map enc)) f s = .ok (.lst ys, s') ∧ J xs.length ys s' := by
  obtain ⟨ys, s', e, h⟩ := compS_gen enc J (f := f) (k := 0) (acc := []) h0 fun i x acc s hx hj => by
    rw [Nat.zero_add] at hj ⊢
    exact hs i x acc s hx hj
  rw [Nat.zero_add, List.nil_append] at h
  refine ⟨ys, s', ?_, h⟩
  unfold compX
  rw [R.ok_bind, if_pos (by rw [List.length_map]; exact hl), e]
  rfl
theorem popL_ok {S : Type} {gt : S → D} {up : S → D → S} {s s1 : S} {r : R (D × S)} {k : Nat} {xs xs0 : List D} {y : D} (h0 : gt s = .lst xs0) (hr : r = .ok (.int k, s1)) (h1 : gt s1 = .lst xs) (hk : k ≤ 1000000) (hy : xs[k]? = some y) :
    popL gt up s r = .ok (y, up s1 (.lst (xs.eraseIdx k))) := by
  unfold popL
  rw [h0]
  show popX gt up r = _
  unfold popX
  rw [hr, R.ok_bind]
  dsimp only
  rw [h1]
  have hl : k < xs.length := (List.getElem?_eq_some_iff.mp hy).1
  show ((if big62 (k : Int) = true then (ofO (ixN xs.length (k : Int))).bind fun j => (ofO xs[j]?).bind fun y => R.ok (y, D.lst (xs.eraseIdx j)) else .bad)).bind _ = _
  rw [big62_of (by omega) (by omega), if_pos rfl, ixN_nat hl, ofO_some, R.ok_bind, hy]
  rfl
theorem erase_perm {α : Type} : ∀ {xs : List α} {k : Nat} {y : α}, xs[k]? = some y → (y :: xs.eraseIdx k).Perm xs
  | [], k, y, h => by simp at h
  | x :: xs, 0, y, h => by simp at h; subst h; exact List.Perm.refl _
  | x :: xs, k + 1, y, h => by
    have ih := erase_perm (xs := xs) (k := k) (y := y) (by simpa using h)
    rw [List.eraseIdx_cons_succ]
    exact (List.Perm.swap x y _).trans (List.Perm.cons x ih)
theorem compX_go {α S : Type} (P : R (D × S) → Prop) (enc : α → D) (J : Nat → List D → S → Prop) {f : D → S → R (Option D × S)} {xs : List α} {s : S} (hl : xs.length ≤ 100000) (h0 : J 0 [] s)
    (hs : ∀ (i : Nat) (x : α) (acc : List D) (s : S), xs[i]? = some x → J i acc s → ∃ o s', f (enc x) s = .ok (o, s') ∧ J (i + 1) (acc ++ o.toList) s') (hk : ∀ ys s', J xs.length ys s' → P (.ok (.lst ys, s'))) : P (compX (.ok (xs.map enc)) f s) := by
  obtain ⟨ys, s', e, h⟩ := compX_gen enc J (f := f) hl h0 hs
  rw [e]
  exact hk ys s' h
theorem erase_map {α β : Type} (f : α → β) : ∀ (xs : List α) (k : Nat), (xs.map f).eraseIdx k = (xs.eraseIdx k).map f
  | [], _ => rfl
  | x :: xs, 0 => rfl
  | x :: xs, k + 1 => by rw [List.map_cons, List.eraseIdx_cons_succ, List.eraseIdx_cons_succ, List.map_cons, erase_map f xs k]
/-! ### an order's lower sets go on -/
theorem upP_before : ∀ {pre post : List Int} {x a : Int}, (pre ++ x :: post).Nodup → (a, x) ∈ upP (pre ++ x :: post) → a ∈ pre
  | [], post, x, a, hn, h => by
    have h : (a, x) ∈ post.map (fun y => (x, y)) ++ upP post := h
    obtain ⟨h1, _⟩ := List.nodup_cons.mp hn
    rcases List.mem_append.mp h with h | h
    · obtain ⟨y, hy, e⟩ := List.mem_map.mp h
      have e2 := (Prod.mk.inj e).2
      subst e2; exact absurd hy h1
    · exact absurd (mem_upP_mem h).2 h1
  | b :: pre, post, x, a, hn, h => by
    have h : (a, x) ∈ (pre ++ x :: post).map (fun y => (b, y)) ++ upP (pre ++ x :: post) := h
    rcases List.mem_append.mp h with h | h
    · obtain ⟨y, hy, e⟩ := List.mem_map.mp h
      rw [← (Prod.mk.inj e).1]; exact List.mem_cons_self
    · exact List.mem_cons_of_mem _ (upP_before (List.nodup_cons.mp hn).2 h)
theorem first_not {α : Type} (p : α → Bool) : ∀ {xs : List α}, (∃ x ∈ xs, p x = false) → ∃ pre x post, xs = pre ++ x :: post ∧ p x = false ∧ ∀ y ∈ pre, p y = true
  | [], h => by obtain ⟨x, h, _⟩ := h; cases h
  | x :: xs, h => by
    cases e : p x with
    | false => exact ⟨[], x, xs, rfl, e, fun y h => nomatch h⟩
    | true =>
      obtain ⟨y, hy, h2⟩ := h
      have hy : y ∈ xs := by
        rcases List.mem_cons.mp hy with rfl | hy
        · rw [e] at h2; cases h2
        · exact hy
      obtain ⟨pre, z, post, rfl, h3, h4⟩ := first_not p ⟨y, hy, h2⟩
      refine ⟨x :: pre, z, post, rfl, h3, fun w hw => ?_⟩
      rcases List.mem_cons.mp hw with rfl | hw
      · exact e
      · exact h4 w hw
theorem goes_ok {n : Nat} {G : List (Int × Int)} (h : Ord n G) : Goes n G := fun m hl hr => by
  have h0 : ∀ p ∈ G, 0 ≤ p.1 := fun p hp => (h.mem hp).1.1
  obtain ⟨row, hp, hs⟩ := h.row
  have hnd : row.Nodup := hp.nodup_iff.mpr (ups_nodup n)
  obtain ⟨t, ht⟩ : ∃ t, t ∈ (List.range n).filter fun t => !m.testBit t := List.exists_mem_of_length_pos (by unfold remN at hr; omega)
  obtain ⟨ht1, ht2⟩ := List.mem_filter.mp ht
  rw [List.mem_range] at ht1
  obtain ⟨pre, x, post, rfl, g1, g2⟩ := first_not (fun x : Int => m.testBit x.toNat) (xs := row) ⟨(t : Int), hp.mem_iff.mpr (mem_ups.mpr ⟨by omega, by omega⟩), by simpa using ht2⟩
  have hx := mem_ups.mp (hp.mem_iff.mp (List.mem_append_right pre List.mem_cons_self))
  have : x.toNat ∈ freeL n G m := mem_free.mpr ⟨by omega, g1, (okB_iff h0).mpr fun a ha => by
    rw [Int.toNat_of_nonneg hx.1] at ha
    have := g2 _ (upP_before hnd (hs _ ha))
    simpa using this⟩
  intro e
  rw [e] at this; cases this
theorem ord_mem {n : Nat} {G : List (Int × Int)} (h : Ord n G) : ∀ p ∈ G, (0 ≤ p.1 ∧ p.1 < n) ∧ (0 ≤ p.2 ∧ p.2 < n) := fun p hp => h.mem hp
theorem low_zero (n : Nat) (G : List (Int × Int)) : lowB n G 0 = true := low_iff.mpr fun t _ h => by simp at h
@[simp] theorem iterX_ok {S : Type} (d : D) (s : S) (f : D → R (List D)) : iterX (.ok (d, s)) f = (f d).bind fun ds => .ok (ds, s) := id rfl
@[simp] theorem forX_ok {S S2 : Type} (ds : List D) (s : S) (s0 : S → S2) (f : D → S2 → R (Fl S2 S2)) : forX (.ok (ds, s)) s0 f = forR ds (s0 s) f := id rfl
theorem bls_fit (b : Bool) : fitD (.bl b) = true := rfl
theorem while_go {S : Type} (J : Nat → S → Prop) {c : S → R Bool} {f : S → R (Fl S S)} (hs : ∀ k s, J (k + 1) s → c s = .ok true ∧ ∃ s', f s = .ok (.nx s') ∧ J k s') (h0 : ∀ s, J 0 s → c s = .ok false) : ∀ (k fuel : Nat) (s : S), k < fuel → J k s → ∃ s', whileR fuel s c f = .ok (.nx s') ∧ J 0 s'
  | 0, fuel + 1, s, _, h => by
    unfold whileR
    rw [h0 s h]
    exact ⟨s, rfl, h⟩
  | k + 1, fuel + 1, s, hf, h => by
    unfold whileR
    obtain ⟨e1, s1, e2, h1⟩ := hs k s h
    rw [e1]
    simp only [R.ok_bind, if_true]
    rw [e2]
    exact while_go J hs h0 k fuel s1 (by omega) h1
  | _, 0, _, hf, _ => absurd hf (by omega)
theorem while_gen {S S' B : Type} (P : R (Fl S' B) → Prop) (J : Nat → S → Prop) (k : Nat) {fuel : Nat} {s : S} {c : S → R Bool} {f : S → R (Fl S S)} {kk : S → R (Fl S' B)} (hf : k < fuel) (hJ : J k s) (hs : ∀ k s, J (k + 1) s → c s = .ok true ∧ ∃ s', f s = .ok (.nx s') ∧ J k s') (h0 : ∀ s, J 0 s → c s = .ok false)
    (hk : ∀ s, J 0 s → P (kk s)) : P (aftR (whileR fuel s c f) kk) := by
  obtain ⟨s', e, h⟩ := while_go J hs h0 k fuel s hf hJ
  rw [e]
  exact hk s' h
def down0 (k : Nat) : List Nat := (List.range (k + 1)).map fun i => k - i
theorem rangeD_down0 {k : Nat} (hk : k ≤ 100000) : rangeDR (.int k) (.int (-1)) = .ok ((down0 k).map fun m : Nat => D.int m) := by
  show (if (big62 (k : Int) && big62 (-1)) = true then R.ok (downI (k : Int) ((k : Int) - (-1)).toNat) else .bad) = _
  rw [big62_of (by omega) (by omega)]
  show R.ok (downI (k : Int) ((k : Int) - (-1)).toNat) = _
  rw [show ((k : Int) - (-1)).toNat = k + 1 by omega]
  unfold downI down0
  rw [List.map_map]
  congr 1
  refine List.map_congr_left fun i hi => ?_
  rw [List.mem_range] at hi
  show D.int ((k : Int) - (i : Int)) = D.int ((k - i : Nat) : Int)
  congr 1
  omega
theorem mem_down0 {k m : Nat} : m ∈ down0 k ↔ m ≤ k := by
  unfold down0
  rw [List.mem_map]
  constructor
  · rintro ⟨i, hi, rfl⟩; rw [List.mem_range] at hi; omega
  · intro h; exact ⟨k - m, by rw [List.mem_range]; omega, by omega⟩
theorem down0_desc (k : Nat) : (down0 k).Pairwise fun a b => b < a := by
  unfold down0
  rw [List.pairwise_map]
  refine List.Pairwise.imp_of_mem (fun {a b} ha hb h => ?_) (List.pairwise_lt_range)
  rw [List.mem_range] at ha hb
  omega
/-! ### rows of an order with one pair more -/
theorem upP_app {ys : List Int} {p : Int × Int} : ∀ {xs : List Int}, p ∈ upP (xs ++ ys) ↔ p ∈ upP xs ∨ (p.1 ∈ xs ∧ p.2 ∈ ys) ∨ p ∈ upP ys
  | [] => by simp [upP]
  | x :: xs => by
    have e : upP (x :: xs ++ ys) = (xs ++ ys).map (fun y => (x, y)) ++ upP (xs ++ ys) := rfl
    have e2 : upP (x :: xs) = xs.map (fun y => (x, y)) ++ upP xs := rfl
    rw [e, e2, List.mem_append, List.mem_append, upP_app (xs := xs), List.map_append, List.mem_append]
    have k : ∀ zs : List Int, p ∈ zs.map (fun y => (x, y)) ↔ p.1 = x ∧ p.2 ∈ zs := fun zs => by
      rw [List.mem_map]
      constructor
      · rintro ⟨y, hy, rfl⟩; exact ⟨rfl, hy⟩
      · rintro ⟨h1, h2⟩; exact ⟨p.2, h2, by rw [← h1]⟩
    rw [k, k, List.mem_cons]
    constructor
    · rintro ((h | h) | h | h | h)
      · exact .inl (.inl h)
      · exact .inr (.inl ⟨.inl h.1, h.2⟩)
      · exact .inl (.inr h)
      · exact .inr (.inl ⟨.inr h.1, h.2⟩)
      · exact .inr (.inr h)
    · rintro ((h | h) | ⟨h1 | h1, h2⟩ | h)
      · exact .inl (.inl h)
      · exact .inr (.inl h)
      · exact .inl (.inr ⟨h1, h2⟩)
      · exact .inr (.inr (.inl ⟨h1, h2⟩))
      · exact .inr (.inr (.inr h))
theorem upP_filter (P : Int → Bool) {p : Int × Int} (h1 : P p.1 = true) (h2 : P p.2 = true) : ∀ {xs : List Int}, p ∈ upP xs → p ∈ upP (xs.filter P)
  | [], h => h
  | x :: xs, h => by
    have h : p ∈ xs.map (fun y => (x, y)) ++ upP xs := h
    rcases List.mem_append.mp h with h | h
    · obtain ⟨y, hy, rfl⟩ := List.mem_map.mp h
      rw [List.filter_cons_of_pos (show P x = true from h1)]
      exact List.mem_append.mpr (.inl (List.mem_map_of_mem (List.mem_filter.mpr ⟨hy, h2⟩)))
    · have ih := upP_filter P h1 h2 h
      by_cases hx : P x = true
      · rw [List.filter_cons_of_pos hx]
        exact List.mem_append.mpr (.inr ih)
      · rw [List.filter_cons_of_neg hx]; exact ih
theorem ext_row {n : Nat} {G : List (Int × Int)} (h : Ord n G) {a b : Int} (ha : a ∈ ups n) (hb : b ∈ ups n) (hne : a ≠ b) (hba : (b, a) ∉ G) : ∃ row : List Int, row.Perm (ups n) ∧ (∀ p ∈ G, p ∈ upP row) ∧ (a, b) ∈ upP row := by
  obtain ⟨row, hp, hs⟩ := h.row
  let P : Int → Bool := fun x => decide (x = b ∨ (b, x) ∈ G)
  have hP : ∀ x, P x = true ↔ (x = b ∨ (b, x) ∈ G) := fun x => decide_eq_true_iff
  have hN : ∀ x, (!P x) = true ↔ ¬ (x = b ∨ (b, x) ∈ G) := fun x => by rw [Bool.not_eq_true', ← Bool.not_eq_true, hP]
  refine ⟨row.filter (fun x => !P x) ++ row.filter P, ?_, fun p hpG => ?_, ?_⟩
  · exact (List.perm_append_comm.trans (List.filter_append_perm P row)).trans hp
  · have hin := hs p hpG
    have hm := mem_upP_mem hin
    rw [upP_app]
    by_cases h1 : P p.1 = true
    · have h2 : P p.2 = true := (hP _).mpr (.inr (by
        rcases (hP _).mp h1 with e | e
        · rw [← e]; exact hpG
        · exact h.clo _ _ _ e hpG))
      exact .inr (.inr (upP_filter P h1 h2 hin))
    · have h1' : (!P p.1) = true := by rw [Bool.not_eq_true', ← Bool.not_eq_true]; exact h1
      by_cases h2 : P p.2 = true
      · exact .inr (.inl ⟨List.mem_filter.mpr ⟨hm.1, h1'⟩, List.mem_filter.mpr ⟨hm.2, h2⟩⟩)
      · have h2' : (!P p.2) = true := by rw [Bool.not_eq_true', ← Bool.not_eq_true]; exact h2
        exact .inl (upP_filter (fun x => !P x) h1' h2' hin)
  · rw [upP_app]
    refine .inr (.inl ⟨List.mem_filter.mpr ⟨hp.mem_iff.mpr ha, (hN _).mpr fun e => ?_⟩, List.mem_filter.mpr ⟨hp.mem_iff.mpr hb, (hP _).mpr (.inl rfl)⟩⟩)
    rcases e with e | e
    · exact hne e
    · exact hba e
theorem clo_one {ps G1 G2 : List (Int × Int)} (s1 : sortP G1 = G1) (s2 : sortP G2 = G2) (p1 : ∀ p ∈ ps, p ∈ G1) (p2 : ∀ p ∈ ps, p ∈ G2) (c1 : Clo G1) (c2 : Clo G2) (m1 : ∀ T : List (Int × Int), Clo T → (∀ p ∈ ps, p ∈ T) → ∀ p ∈ G1, p ∈ T) (m2 : ∀ T : List (Int × Int), Clo T → (∀ p ∈ ps, p ∈ T) → ∀ p ∈ G2, p ∈ T) : G1 = G2 := by
  rw [← s1, ← s2]
  exact sortP_congr fun p => ⟨m1 G2 c2 p2 p, m2 G1 c1 p1 p⟩
/-! ### the program's closing -/
theorem closed_while {U : List (Int × Int)} {c : D × D → R Bool} {f : D × D → R (Fl (D × D) (D × D))} (hU : ∀ a b c, (a, b) ∈ U → (b, c) ∈ U → (a, c) ∈ U) (hc : ∀ (F : List (Int × Int)) (m : Bool), c (.lst (F.map encP), .bl m) = .ok m)
    (hf : ∀ F : List (Int × Int), F.Nodup → (∀ p ∈ F, p ∈ U) → f (.lst (F.map encP), .bl true) = .ok (.nx (.lst ((stepP F).map encP), .bl (decide (F.length < (stepP F).length))))) :
    ∀ (n : Nat) (F : List (Int × Int)), F.Nodup → (∀ p ∈ F, p ∈ U) → sortP F = F → U.length + 2 ≤ n + F.length →
      ∃ G : List (Int × Int), whileR n (.lst (F.map encP), .bl true) c f = .ok (.nx (.lst (G.map encP), .bl false)) ∧ G.Nodup ∧ (∀ p ∈ G, p ∈ U) ∧ sortP G = G ∧ (∀ p ∈ F, p ∈ G) ∧ Clo G ∧ (∀ (T : List (Int × Int)), Clo T → (∀ p ∈ F, p ∈ T) → ∀ p ∈ G, p ∈ T)
  | 0, F, hn, hs, _, hm => by
    have := len_sub hn hs
    omega
  | n + 1, F, hn, hs, hF, hm => by
    unfold whileR
    rw [hc]
    simp only [R.ok_bind, if_true]
    rw [hf F hn hs]
    simp only [R.ok_bind]
    have hs1 : ∀ p ∈ stepP F, p ∈ U := fun p hp => by
      rcases mem_step.mp hp with h | ⟨b, h1, h2⟩
      · exact hs p h
      · exact hU _ _ _ (hs _ h1) (hs _ h2)
    have hsub : ∀ p ∈ F, p ∈ stepP F := fun p hp => mem_step.mpr (.inl hp)
    have hl := len_sub hn hs
    have hmin : ∀ (T : List (Int × Int)), Clo T → (∀ p ∈ F, p ∈ T) → ∀ p ∈ stepP F, p ∈ T := fun T hT h p hp => by
      rcases mem_step.mp hp with h' | ⟨b, h1, h2⟩
      · exact h p h'
      · exact hT _ _ _ (h _ h1) (h _ h2)
    by_cases e : F.length < (stepP F).length
    · rw [decide_eq_true e]
      obtain ⟨G, k1, k2, k3, k4, k5, k6, k7⟩ := closed_while hU hc hf n (stepP F) (step_nodup F) hs1 (step_sorted F) (by omega)
      exact ⟨G, k1, k2, k3, k4, fun p hp => k5 p (hsub p hp), k6, fun T hT h => k7 T hT (hmin T hT h)⟩
    · rw [decide_eq_false e]
      obtain ⟨n', rfl⟩ : ∃ n', n = n' + 1 := ⟨n - 1, by omega⟩
      unfold whileR
      rw [hc]
      refine ⟨stepP F, rfl, step_nodup F, hs1, step_sorted F, hsub, fun a b c h1 h2 => ?_, hmin⟩
      have hb := eq_of_len hn (step_nodup F) hsub (by omega)
      exact mem_step.mpr (.inr ⟨b, hb _ h1, hb _ h2⟩)
theorem closed_fin {row : List Int} {ps : List (Int × Int)} {n : Nat} {c : D × D → R Bool} {f : D × D → R (Fl (D × D) (D × D))} {S' B : Type} {kk : D × D → R (Fl S' B)} {out : R (Fl S' B) → R D} {ex : List (Int × Int) → D} (hn : row.Nodup) (h0 : ∀ x ∈ row, 0 ≤ x) (hl : row.length ≤ 7) (hs : ∀ p ∈ ps, p ∈ upP row) (hfu : 23 ≤ n)
    (hc : ∀ (F : List (Int × Int)) (m : Bool), c (.lst (F.map encP), .bl m) = .ok m)
    (hf : ∀ F : List (Int × Int), F.length + (moreP F).length < 64 → (∀ p ∈ F, 0 ≤ p.1 ∧ 0 ≤ p.2) → f (.lst (F.map encP), .bl true) = .ok (.nx (.lst ((stepP F).map encP), .bl (decide (F.length < (stepP F).length)))))
    (hk : ∀ G y, out (kk (.lst (G.map encP), y)) = .ok (ex G)) :
    ∃ G : List (Int × Int), out (aftR (whileR n (.lst ((sortP ps).map encP), .bl true) c f) kk) = .ok (ex G) ∧ G.Nodup ∧ (∀ p ∈ G, p ∈ upP row) ∧ sortP G = G ∧ (∀ p ∈ ps, p ∈ G) ∧ Clo G ∧ (∀ (T : List (Int × Int)), Clo T → (∀ p ∈ ps, p ∈ T) → ∀ p ∈ G, p ∈ T) := by
  have h7 := upP_len row
  have hU : (upP row).length ≤ 21 := by
    have : row.length * (row.length - 1) ≤ 7 * 6 := Nat.mul_le_mul hl (by omega)
    omega
  have hs1 : ∀ p ∈ sortP ps, p ∈ upP row := fun p hp => hs p (mem_sortP.mp hp)
  obtain ⟨G, k1, k2, k3, k4, k5, k6, k7⟩ := closed_while (U := upP row) (c := c) (f := f) (fun a b c => upP_trans hn) hc (fun F hF hFs => hf F (len_more_bound hn hF hFs hl) fun p hp => ⟨h0 _ (mem_upP_mem (hFs p hp)).1, h0 _ (mem_upP_mem (hFs p hp)).2⟩) n (sortP ps) (nodup_sortP _) hs1 (sortP_sortP _) (by omega)
  refine ⟨G, ?_, k2, k3, k4, fun p hp => k5 p (mem_sortP.mpr hp), k6, fun T hT h => k7 T hT fun p hp => h p (mem_sortP.mp hp)⟩
  rw [k1]
  exact hk G _
theorem encs_fit_l (G : List (Int × Int)) : fitD (.lst (G.map encP)) = true := by
  unfold fitD plainD depD
  rw [encs_plain]
  have := encs_dep G
  simp; omega
theorem in_pairs_l (a b : Int) (G : List (Int × Int)) : inR (.tup [.int a, .int b]) (.lst (G.map encP)) = .ok (decide ((a, b) ∈ G)) := by
  show (if (fitD (.tup [.int a, .int b]) && fitD (.lst (G.map encP))) = true then R.ok ((G.map encP).any fun y => eqD y (encP (a, b))) else _) = _
  rw [encs_fit_l, show fitD (.tup [.int a, .int b]) = true from rfl, if_pos (show (true && true) = true from rfl), any_enc]
theorem ord_fit (n : Nat) (G : List (Int × Int)) : fitD (ordD n G) = true := by
  have h1 := encs_fit G
  unfold fitD at h1 ⊢
  have h2 := encs_dep G
  unfold ordD
  simp only [plainD, plainDs, depD, depDs, encs_plain]
  simp; omega
def encT (t : Int × Int × Int) : D := .tup [.int t.1, .int t.2.1, .int t.2.2]
def ledL (F : List (Int × Int)) : List (Int × Int × Int) := F.flatMap fun p => (F.filter fun q => decide (q.1 = p.2)).map fun q => (p.1, p.2, q.2)
theorem led_more (F : List (Int × Int)) : (ledL F).map (fun t => (t.1, t.2.2)) = moreP F := by
  unfold ledL moreP
  rw [List.map_flatMap]
  congr 1
  funext p
  rw [List.map_map]; rfl
theorem led_len (F : List (Int × Int)) : (ledL F).length = (moreP F).length := by rw [← led_more, List.length_map]
theorem ne_encP (p q : Int × Int) : neR (encP p) (encP q) = .ok (!decide (p = q)) := by
  show (if (fitD (encP p) && fitD (encP q)) = true then R.ok (!eqD (encP p) (encP q)) else .bad) = _
  rw [eqD_enc]; rfl
/-! ### loops that hand back -/
theorem for_first {α B : Type} (enc : α → D) (h : α → Option D) {f : D → Unit → R (Fl Unit Unit)} : ∀ {xs : List α}, (∀ x ∈ xs, f (enc x) () = match h x with | some d => .ok (.rt d []) | none => .ok (.nx ())) →
    forR (xs.map enc) () f = match xs.findSome? h with | some d => .ok (.rt d []) | none => .ok (.nx ())
  | [], _ => rfl
  | x :: xs, hf => by
    rw [List.map_cons]
    unfold forR
    rw [hf x List.mem_cons_self, List.findSome?_cons]
    cases h x with
    | some d => rfl
    | none => exact for_first (B := B) enc h fun y hy => hf y (List.mem_cons_of_mem _ hy)
theorem findSome_filter {α β : Type} (p : α → Bool) (g : α → Option β) : ∀ xs : List α, (xs.filter p).findSome? g = xs.findSome? fun x => if p x = true then g x else none
  | [] => rfl
  | x :: xs => by
    by_cases h : p x = true
    · rw [List.filter_cons_of_pos h, List.findSome?_cons, List.findSome?_cons, if_pos h, findSome_filter p g xs]
    · rw [List.filter_cons_of_neg h, List.findSome?_cons, if_neg h, findSome_filter p g xs]
theorem findSome_range {β : Type} {g : Nat → Option β} : ∀ {n : Nat} {b : β}, (List.range n).findSome? g = some b → ∃ k < n, g k = some b ∧ ∀ j < k, g j = none
  | 0, b, h => by cases h
  | n + 1, b, h => by
    rw [List.range_succ, List.findSome?_append] at h
    cases e : (List.range n).findSome? g with
    | some c =>
      rw [e] at h
      cases h
      obtain ⟨k, h1, h2, h3⟩ := findSome_range e
      exact ⟨k, by omega, h2, h3⟩
    | none =>
      rw [e] at h
      have h : [n].findSome? g = some b := h
      rw [List.findSome?_cons] at h
      cases e2 : g n with
      | none => rw [e2] at h; cases h
      | some c =>
        rw [e2] at h
        cases h
        exact ⟨n, by omega, e2, fun j hj => (List.findSome?_eq_none_iff.mp e) j (List.mem_range.mpr hj)⟩
theorem cutL_to {α : Type} (xs : List α) (k : Nat) : cutL xs none (some (k : Int)) = xs.take k := by
  unfold cutL sIx
  have : ¬ ((k : Int) < 0) := by omega
  simp only [this, if_false, Int.toNat_natCast, List.drop_zero, Nat.sub_zero]
  by_cases h : k ≤ xs.length
  · rw [Nat.min_eq_left h]
  · rw [Nat.min_eq_right (by omega), List.take_of_length_le (Nat.le_refl _), List.take_of_length_le (by omega)]
theorem cutE_to_tup {xs : List D} {k : Nat} : cutE (.ok (.tup xs)) none (some (.ok (.int k))) = .ok (.tup (xs.take k)) := by
  show R.ok (D.tup (cutL xs none (some (k : Int)))) = _
  rw [cutL_to]
theorem take_map {α β : Type} (f : α → β) (xs : List α) (k : Nat) : (xs.map f).take k = (xs.take k).map f := (List.map_take).symm
theorem drop_map {α β : Type} (f : α → β) (xs : List α) (k : Nat) : (xs.map f).drop k = (xs.drop k).map f := (List.map_drop).symm
theorem ne_nats_t {l : List Nat} : neR (.tup (l.map fun t : Nat => D.int t)) (.tup []) = .ok (!decide (l = [])) := by
  show (if (fitD (.tup (l.map fun t : Nat => D.int t)) && fitD (.tup [])) = true then R.ok (!eqD (.tup (l.map fun t : Nat => D.int t)) (.tup [])) else _) = _
  rw [nats_fit_t]
  show R.ok (!eqD (.tup (l.map fun t : Nat => D.int t)) (.tup [])) = _
  cases l with
  | nil => simp [eqD, eqDs]
  | cons a l => simp [eqD, eqDs]
theorem ne_nats_l {l : List Nat} : neR (.lst (l.map fun t : Nat => D.int t)) (.lst []) = .ok (!decide (l = [])) := by
  by_cases h : l = []
  · subst h; rfl
  · rw [ne_nil h, decide_eq_false h]; rfl
end Fj

/-! ## Mbig -/
namespace Fj
open PySem
/-! ### up to nine things: sorted(set(..)) where few differ -/
theorem up9 {row : List Int} (hl : row.length ≤ 9) : (upP row).length ≤ 36 := by
  have h4 := upP_len row
  have h6 : row.length * (row.length - 1) ≤ 9 * 8 := Nat.mul_le_mul hl (by omega)
  omega
theorem more9 {row : List Int} (hn : row.Nodup) (hl : row.length ≤ 9) {F : List (Int × Int)} (hF : F.Nodup) (hs : ∀ p ∈ F, p ∈ upP row) : F.length + (moreP F).length ≤ 200 := by
  have h1 := len_sub hF hs
  have h2 := more_le hF hs
  have h3 := more_upP hn
  have h4 := up9 hl
  have h5 : c3 row.length ≤ 84 := by
    have : ∀ n ≤ 9, c3 n ≤ 84 := by decide
    exact this _ hl
  omega
theorem sortSetB_enc {ps U : List (Int × Int)} (hs : ∀ p ∈ ps, p ∈ U) (hU : U.length ≤ 62) (h0 : ∀ p ∈ ps, 0 ≤ p.1 ∧ 0 ≤ p.2) : sortSetB (.lst (ps.map encP)) = .ok (.lst ((sortP ps).map encP)) := by
  have hl : (sortP ps).length ≤ 62 := Nat.le_trans (len_sub (nodup_sortP ps) fun x hx => hs x (mem_sortP.mp hx)) hU
  unfold sortSetB
  dsimp only
  rw [tupsI_enc, ofO_some, R.ok_bind, if_pos]
  · rw [← sortP_prL, List.map_map]; rfl
  · have hd : (List.headD (ps.map prL) [0]).length = 2 ∨ ps = [] := by cases ps <;> simp [prL]
    rcases hd with hd | rfl
    · rw [hd]
      simp only [Bool.and_eq_true, decide_eq_true_eq, List.all_eq_true]
      refine ⟨⟨by rw [← sortP_prL, List.length_map]; exact hl, fun k hk => ?_⟩, by omega⟩
      obtain ⟨p, hp, rfl⟩ := List.mem_map.mp hk
      have := h0 p hp
      refine ⟨rfl, fun i hi => ?_⟩
      simp [prL] at hi
      rcases hi with rfl | rfl
      · exact this.1
      · exact this.2
    · decide
theorem more_up {row : List Int} (hn : row.Nodup) {F : List (Int × Int)} (hs : ∀ p ∈ F, p ∈ upP row) : ∀ p ∈ moreP F, p ∈ upP row := fun p hp => by
  obtain ⟨b, h1, h2⟩ := mem_more.mp hp
  exact upP_trans hn (hs _ h1) (hs _ h2)
theorem closure_fin9 {row : List Int} {ps : List (Int × Int)} {n : Nat} {c : D × D → R Bool} {f : D × D → R (Fl (D × D) (D × D))} {S' B : Type} {kk : D × D → R (Fl S' B)} {out : R (Fl S' B) → R D} {ex : List (Int × Int) → D} (hn : row.Nodup) (h0 : ∀ x ∈ row, 0 ≤ x) (hl : row.length ≤ 9) (hs : ∀ p ∈ ps, p ∈ upP row) (hfu : 38 ≤ n)
    (hc : ∀ (F : List (Int × Int)) (z : Int), c (.lst (F.map encP), .int z) = .ok (!decide (z = F.length)))
    (hf : ∀ (F : List (Int × Int)) (z : Int), F.length + (moreP F).length ≤ 200 → (∀ p ∈ F ++ moreP F, p ∈ upP row) → (∀ p ∈ F ++ moreP F, 0 ≤ p.1 ∧ 0 ≤ p.2) → f (.lst (F.map encP), .int z) = .ok (.nx (.lst ((stepP F).map encP), .int F.length)))
    (hk : ∀ G y, out (kk (.lst (G.map encP), y)) = .ok (ex G)) :
    ∃ G : List (Int × Int), out (aftR (whileR n (.lst ((sortP ps).map encP), .int (-1)) c f) kk) = .ok (ex G) ∧ G.Nodup ∧ (∀ p ∈ G, p ∈ upP row) ∧ sortP G = G ∧ (∀ p ∈ ps, p ∈ G) ∧ Clo G ∧ (∀ (T : List (Int × Int)), Clo T → (∀ p ∈ ps, p ∈ T) → ∀ p ∈ G, p ∈ T) := by
  have hU := up9 hl
  have hs1 : ∀ p ∈ sortP ps, p ∈ upP row := fun p hp => hs p (mem_sortP.mp hp)
  obtain ⟨G, y, k1, k2, k3, k4, k5, k6, k7⟩ := closure_while (U := upP row) (c := c) (f := f) (fun a b c => upP_trans hn) hc (fun F z hF hFs => by
    have hall : ∀ p ∈ F ++ moreP F, p ∈ upP row := fun p hp => by
      rcases List.mem_append.mp hp with h | h
      · exact hFs p h
      · exact more_up hn hFs p h
    exact hf F z (more9 hn hl hF hFs) hall fun p hp => ⟨h0 _ (mem_upP_mem (hall p hp)).1, h0 _ (mem_upP_mem (hall p hp)).2⟩) n (sortP ps) (-1) (nodup_sortP _) hs1 (sortP_sortP _) (.inl rfl) (.inl (by omega))
  refine ⟨G, ?_, k2, k3, k4, fun p hp => k5 p (mem_sortP.mpr hp), k6, fun T hT h => k7 T hT fun p hp => h p (mem_sortP.mp hp)⟩
  rw [k1]
  exact hk G y
theorem ord_small9 {n : Nat} {G : List (Int × Int)} (h : Ord n G) (hn : n ≤ 9) : G.length ≤ 36 := by
  obtain ⟨row, hr, hs⟩ := h.row
  have hnd : G.Nodup := by rw [← h.srt]; exact nodup_sortP G
  exact Nat.le_trans (len_sub hnd hs) (up9 (by rw [hr.length_eq, ups_len]; exact hn))
theorem ord_more9 {n : Nat} {G : List (Int × Int)} (h : Ord n G) (hn : n ≤ 9) : (moreP G).length ≤ 200 := by
  obtain ⟨row, hr, hs⟩ := h.row
  have hnd : row.Nodup := hr.nodup_iff.mpr (ups_nodup n)
  have hG : G.Nodup := by rw [← h.srt]; exact nodup_sortP G
  have := more9 hnd (by rw [hr.length_eq, ups_len]; exact hn) hG hs
  omega
end Fj

/-! ## Msrt -/
namespace Fj
open PySem
/-! ### sorted(..) of data -/
mutual
theorem eqD_eq : ∀ {a b : D}, datD a = true → datD b = true → eqD a b = true → a = b
  | .int a, .int b, _, _, h => by simp [eqD] at h; rw [h]
  | .tup xs, .tup ys, h1, h2, h3 => by
    unfold datD at h1 h2
    unfold eqD at h3
    rw [eqDs_eq h1 h2 h3]
  | .int _, .tup _, _, _, h => by simp [eqD] at h
  | .tup _, .int _, _, _, h => by simp [eqD] at h
  | .non, _, h, _, _ | .bl _, _, h, _, _ | .str _, _, h, _, _ | .lst _, _, h, _, _ | .dct _ _, _, h, _, _ | .fn _, _, h, _, _ | .exc _ _, _, h, _, _ | .scr _, _, h, _, _ => by unfold datD at h; cases h
  | .int _, .non, _, h, _ | .int _, .bl _, _, h, _ | .int _, .str _, _, h, _ | .int _, .lst _, _, h, _ | .int _, .dct _ _, _, h, _ | .int _, .fn _, _, h, _ | .int _, .exc _ _, _, h, _ | .int _, .scr _, _, h, _ => by unfold datD at h; cases h
  | .tup _, .non, _, h, _ | .tup _, .bl _, _, h, _ | .tup _, .str _, _, h, _ | .tup _, .lst _, _, h, _ | .tup _, .dct _ _, _, h, _ | .tup _, .fn _, _, h, _ | .tup _, .exc _ _, _, h, _ | .tup _, .scr _, _, h, _ => by unfold datD at h; cases h
theorem eqDs_eq : ∀ {xs ys : List D}, datDs xs = true → datDs ys = true → eqDs xs ys = true → xs = ys
  | [], [], _, _, _ => rfl
  | [], _ :: _, _, _, h => by simp [eqDs] at h
  | _ :: _, [], _, _, h => by simp [eqDs] at h
  | x :: xs, y :: ys, h1, h2, h3 => by
    unfold datDs at h1 h2
    unfold eqDs at h3
    obtain ⟨a1, a2⟩ := Bool.and_eq_true_iff.mp h1
    obtain ⟨b1, b2⟩ := Bool.and_eq_true_iff.mp h2
    obtain ⟨c1, c2⟩ := Bool.and_eq_true_iff.mp h3
    rw [eqD_eq a1 b1 c1, eqDs_eq a2 b2 c2]
end
mutual
theorem ltD_tri : ∀ {a b : D}, datD a = true → datD b = true → likeD a b = true → ltD a b = false → ltD b a = false → a = b
  | .int a, .int b, _, _, _, h1, h2 => by
    simp only [ltD, decide_eq_false_iff_not] at h1 h2
    rw [show a = b by omega]
  | .tup xs, .tup ys, h1, h2, h3, h4, h5 => by
    unfold datD at h1 h2
    unfold likeD at h3
    unfold ltD at h4 h5
    rw [ltDs_tri h1 h2 h3 h4 h5]
  | .int _, .tup _, _, _, h, _, _ => by simp [likeD] at h
  | .tup _, .int _, _, _, h, _, _ => by simp [likeD] at h
  | .non, _, h, _, _, _, _ | .bl _, _, h, _, _, _, _ | .str _, _, h, _, _, _, _ | .lst _, _, h, _, _, _, _ | .dct _ _, _, h, _, _, _, _ | .fn _, _, h, _, _, _, _ | .exc _ _, _, h, _, _, _, _ | .scr _, _, h, _, _, _, _ => by unfold datD at h; cases h
  | .int _, .non, _, h, _, _, _ | .int _, .bl _, _, h, _, _, _ | .int _, .str _, _, h, _, _, _ | .int _, .lst _, _, h, _, _, _ | .int _, .dct _ _, _, h, _, _, _ | .int _, .fn _, _, h, _, _, _ | .int _, .exc _ _, _, h, _, _, _ | .int _, .scr _, _, h, _, _, _ => by unfold datD at h; cases h
  | .tup _, .non, _, h, _, _, _ | .tup _, .bl _, _, h, _, _, _ | .tup _, .str _, _, h, _, _, _ | .tup _, .lst _, _, h, _, _, _ | .tup _, .dct _ _, _, h, _, _, _ | .tup _, .fn _, _, h, _, _, _ | .tup _, .exc _ _, _, h, _, _, _ | .tup _, .scr _, _, h, _, _, _ => by unfold datD at h; cases h
theorem ltDs_tri : ∀ {xs ys : List D}, datDs xs = true → datDs ys = true → likeDs xs ys = true → ltDs xs ys = false → ltDs ys xs = false → xs = ys
  | [], [], _, _, _, _, _ => rfl
  | [], _ :: _, _, _, _, h, _ => by simp [ltDs] at h
  | _ :: _, [], _, _, _, _, h => by simp [ltDs] at h
  | x :: xs, y :: ys, h1, h2, h3, h4, h5 => by
    unfold datDs at h1 h2
    unfold likeDs at h3
    unfold ltDs at h4 h5
    obtain ⟨a1, a2⟩ := Bool.and_eq_true_iff.mp h1
    obtain ⟨b1, b2⟩ := Bool.and_eq_true_iff.mp h2
    obtain ⟨c1, c2⟩ := Bool.and_eq_true_iff.mp h3
    by_cases e : eqD x y = true
    · have exy := eqD_eq a1 b1 e
      subst exy
      rw [if_pos e] at h4 h5
      rw [ltDs_tri a2 b2 c2 h4 h5]
    · by_cases e2 : eqD y x = true
      · have exy := eqD_eq b1 a1 e2
        subst exy
        exact absurd e2 e
      · rw [if_neg e] at h4
        rw [if_neg e2] at h5
        have exy := ltD_tri a1 b1 c1 h4 h5
        rw [exy] at e
        exact absurd (eqD_refl y (dat_plain b1)) e
theorem dat_plain : ∀ {a : D}, datD a = true → plainD a = true
  | .int _, _ => by simp [plainD]
  | .tup xs, h => by
    unfold datD at h
    unfold plainD
    exact dats_plain h
  | .non, h | .bl _, h | .str _, h | .lst _, h | .dct _ _, h | .fn _, h | .exc _ _, h | .scr _, h => by unfold datD at h; cases h
theorem dats_plain : ∀ {xs : List D}, datDs xs = true → plainDs xs = true
  | [], _ => by simp [plainDs]
  | x :: xs, h => by
    unfold datDs at h
    obtain ⟨a1, a2⟩ := Bool.and_eq_true_iff.mp h
    unfold plainDs
    rw [dat_plain a1, dats_plain a2]; rfl
end
abbrev leS : D → D → Bool := W.dataLe false pyd
theorem le_iff {a b : D} (h1 : datD a = true) (h2 : datD b = true) (h3 : likeD b a = true) : leS a b = !ltD b a := by
  show (!W.dataLt (pyd b) (pyd a)) = _
  rw [lt_ok h2 h1 h3]
theorem pair_one {l m : List D} (le : D → D → Bool) (ha : ∀ a ∈ l, ∀ b ∈ l, le a b = true → le b a = true → a = b) (hp : l.Perm m) (h1 : l.Pairwise fun a b => le a b = true) (h2 : m.Pairwise fun a b => le a b = true) : l = m := by
  induction l generalizing m with
  | nil => exact (List.Perm.eq_nil hp.symm).symm
  | cons x l ih =>
    cases m with
    | nil => exact absurd (List.Perm.eq_nil hp) (by simp)
    | cons y m =>
      have hx : x = y := by
        have hxm : x ∈ y :: m := hp.mem_iff.mp List.mem_cons_self
        have hyl : y ∈ x :: l := hp.mem_iff.mpr List.mem_cons_self
        rcases List.mem_cons.mp hxm with e | hxm
        · exact e
        · rcases List.mem_cons.mp hyl with e | hyl'
          · exact e.symm
          · exact ha x List.mem_cons_self y hyl ((List.pairwise_cons.mp h1).1 y hyl') ((List.pairwise_cons.mp h2).1 x hxm)
      subst hx
      rw [ih (fun a h b h' => ha a (List.mem_cons_of_mem _ h) b (List.mem_cons_of_mem _ h')) hp.cons_inv (List.pairwise_cons.mp h1).2 (List.pairwise_cons.mp h2).2]
theorem srt_anti {xs : List D} (h : srtOk xs = true) : ∀ a ∈ xs, ∀ b ∈ xs, leS a b = true → leS b a = true → a = b := fun a ha b hb h1 h2 => by
  unfold srtOk at h
  simp only [Bool.and_eq_true, List.all_eq_true] at h
  have da := (h.1.1.2 a ha).1
  have db := (h.1.1.2 b hb).1
  rw [le_iff da db (h.1.2 b hb a ha)] at h1
  rw [le_iff db da (h.1.2 a ha b hb)] at h2
  exact ltD_tri da db (h.1.2 a ha b hb) (by simpa using h2) (by simpa using h1)
theorem srt_perm {xs ys : List D} (hp : xs.Perm ys) (h : srtOk xs = true) : srtOk ys = true := by
  unfold srtOk at h ⊢
  simp only [Bool.and_eq_true, List.all_eq_true, decide_eq_true_eq, Bool.or_eq_true] at h ⊢
  refine ⟨⟨⟨by rw [← hp.length_eq]; exact h.1.1.1, fun x hx => h.1.1.2 x (hp.mem_iff.mpr hx)⟩, fun x hx y hy => h.1.2 x (hp.mem_iff.mpr hx) y (hp.mem_iff.mpr hy)⟩, ?_⟩
  rcases h.2 with h | h
  · exact .inl fun x hx => h x (hp.mem_iff.mpr hx)
  · exact .inr fun x hx => h x (hp.mem_iff.mpr hx)
theorem merge_pair (xs : List D) : (xs.mergeSort leS).Pairwise fun a b => leS a b = true := W.sort_pairwise (W.sortLe_total _ _ _) xs
/-- sorted lists of the same things are one -/
theorem merge_one {xs ys : List D} (hp : xs.Perm ys) (h : srtOk xs = true) : xs.mergeSort leS = ys.mergeSort leS :=
  pair_one leS (fun a ha b hb => srt_anti h a ((List.mergeSort_perm xs leS).mem_iff.mp ha) b ((List.mergeSort_perm xs leS).mem_iff.mp hb)) (((List.mergeSort_perm xs leS).trans hp).trans (List.mergeSort_perm ys leS).symm) (merge_pair xs) (merge_pair ys)
theorem merge_same {xs : List D} (h : srtOk xs = true) (hs : xs.Pairwise fun a b => leS a b = true) : xs.mergeSort leS = xs :=
  pair_one leS (fun a ha b hb => srt_anti h a ((List.mergeSort_perm xs leS).mem_iff.mp ha) b ((List.mergeSort_perm xs leS).mem_iff.mp hb)) (List.mergeSort_perm xs leS) (merge_pair xs) hs
theorem sortR_ok {xs : List D} (h : srtOk xs = true) : sortR (.lst xs) = .ok (.lst (xs.mergeSort leS)) := by
  unfold sortR
  rw [seqsR_lst, R.ok_bind, if_pos h]
theorem sortR_perm {xs ys : List D} (hp : xs.Perm ys) (h : srtOk xs = true) : sortR (.lst xs) = sortR (.lst ys) := by
  rw [sortR_ok h, sortR_ok (srt_perm hp h), merge_one hp h]
end Fj

set_option maxHeartbeats 4000000
namespace Fj.K36
open PySem PySem.Spec PyProof.Rows L2 Fj
def topS (i : Nat) : Stmt := PySem.Challenge.pw_fewjumps_k36_whole_greedy_and_fewest.main.body.getD i (.Pass ⟨0, 0, 0, 0⟩)
def b__law_pen_of (a0 : D) : R (Fl Unit Empty) := (((op2 max2R (R.ok a0) (op2 subR (R.ok (.int 0)) (R.ok a0)))).bind fun v1 => (((lstE [(R.ok v1), (op1 intR (blE (op2 geR (R.ok v1) (op2 powR (R.ok (.int 10)) (R.ok (.int 18)))))), (op2 modR (R.ok v1) (R.ok (.int 1000003)))])).bind fun v2 => .ok (.rt v2 [])))
def c__law_pen_of (ds : List D) : R D := finP (ap1 b__law_pen_of ds)
theorem e__law_pen_of (a0 : D) : c__law_pen_of [a0] = finP (b__law_pen_of a0) := congrArg finP (ap1_eq _ _)
def b__law_next (a0 : D) : R (Fl Unit Empty) := (((op2 modR (op2 addR (R.ok a0) (R.ok (.int 7919))) (R.ok (.int 2147483647)))).bind fun v1 => (((op2 modR (op2 addR (op2 addR (op2 mulR (R.ok v1) (R.ok v1)) (op2 mulR (R.ok (.int 48271)) (R.ok v1))) (R.ok (.int 12345))) (R.ok (.int 2147483629)))).bind fun v2 => .ok (.rt v2 [])))
def c__law_next (ds : List D) : R D := finP (ap1 b__law_next ds)
theorem e__law_next (a0 : D) : c__law_next [a0] = finP (b__law_next a0) := congrArg finP (ap1_eq _ _)
def b__law_draw (a0 a1 : D) : R (Fl Unit Empty) := (ifE (op2 eqR (op2 idxR (R.ok a0) (R.ok (.int 1))) (R.ok (.int 1))) (endR (((op2 modR (op2 idxR (R.ok a0) (R.ok (.int 0))) (R.ok a1))).bind fun v1 => ((setE a0 (R.ok (.int 0)) (op2 fdivR (op2 idxR (R.ok a0) (R.ok (.int 0))) (R.ok a1))).bind fun v2 => (((R.ok v1)).bind fun v3 => .ok (.rt v3 [v2]))))) ((setE a0 (R.ok (.int 2)) ((allR [(op2 addR ((allR [(op2 idxR (R.ok a0) (R.ok (.int 2)))]).bind c__law_next) (R.ok (.int 7)))]).bind c__law_next)).bind fun v4 => (((op2 modR (op2 fdivR (op2 idxR (R.ok v4) (R.ok (.int 2))) (R.ok (.int 64))) (R.ok a1))).bind fun v5 => .ok (.rt v5 [v4]))))
def c__law_draw (ds : List D) : R (D × List D) := finR (ap2 b__law_draw ds)
theorem e__law_draw (a0 a1 : D) : c__law_draw [a0, a1] = finR (b__law_draw a0 a1) := congrArg finR (ap2_eq _ _ _)
def b__law_names_by (a0 a1 : D) : R (Fl Unit Empty) := (ownR (lstOf (op1 range1R (R.ok a1))) fun v1 => (retX (compX (((R.ok a1)).bind range1R) (turnX (fun x3 s4 => (R.ok (true, s4))) (fun x3 s5 => (popL (fun (s : D × D) => s.2) (fun (s : D × D) (d : D) => (s.1, d)) s5 (ioX c__law_draw 0 (fun (s : D × D) => s.1) (fun (s : D × D) (d : D) => (d, s.2)) (consX (pX (op1 lenR (R.ok s5.2)) s5) (fun s8 => (R.ok ([], s8)))))))) (a0, v1)) (fun s9 => [s9.1])))
def c__law_names_by (ds : List D) : R (D × List D) := finR (ap2 b__law_names_by ds)
theorem e__law_names_by (a0 a1 : D) : c__law_names_by [a0, a1] = finR (b__law_names_by a0 a1) := congrArg finR (ap2_eq _ _ _)
def b__law_closed (a0 : D) : R (Fl Unit Empty) := (((((R.ok a0)).bind sortSetB)).bind fun v1 => (((op1 negR (R.ok (.int 1)))).bind fun v2 => (aftR (S := D × D) (whileR 200 (v1, v2) (fun s3 => (op2 neR (R.ok s3.2) (op1 lenR (R.ok s3.1)))) fun s3 => (((op1 lenR (R.ok s3.1))).bind fun v6 => (((op1 listR (R.ok s3.1))).bind fun v7 => (aftR (S := D) (((((R.ok s3.1)).bind seqsR)).bind fun xs => forR xs v7 fun d17 s8 => un2 (fun d11 d12 => (((op2 addR (R.ok s8) (compE (((R.ok s3.1)).bind seqsR) (un2 fun x14 x15 => (op2 eqR (R.ok x14) (R.ok d12))) (un2 fun x14 x15 => (tupE [(R.ok d11), (R.ok x15)]))))).bind fun v13 => (R.ok (.nx v13)))) d17) fun s9 => (((((R.ok s9)).bind sortSetB)).bind fun v16 => (R.ok (.nx (v16, v6)))))))) fun s4 => (((R.ok s4.1)).bind fun v18 => .ok (.rt v18 [])))))
def c__law_closed (ds : List D) : R D := finP (ap1 b__law_closed ds)
theorem e__law_closed (a0 : D) : c__law_closed [a0] = finP (b__law_closed a0) := congrArg finP (ap1_eq _ _)
def b__law_order_by (a0 a1 : D) : R (Fl Unit Empty) := (bindX (ioX c__law_draw 0 (fun (s : D) => s) (fun (_ d : D) => d) (consX (pX (op2 addR (R.ok a1) (R.ok (.int 1))) a0) (fun s5 => (R.ok ([], s5))))) fun v1 s2 => (bindX (ioX c__law_names_by 0 (fun (s : D) => s) (fun (_ d : D) => d) (consX (pX (R.ok v1) s2) (fun s10 => (R.ok ([], s10))))) fun v6 s7 => (bindX (opX idxR (pX (lstE [(R.ok (.int 2)), (R.ok (.int 3)), (R.ok (.int 5)), (R.ok (.int 9))]) s7) (fun s14 => (ioX c__law_draw 0 (fun (s : D) => s) (fun (_ d : D) => d) (consX (pX (R.ok (.int 4)) s14) (fun s16 => (R.ok ([], s16))))))) fun v11 s12 => (((lstE [])).bind fun v17 => (aftR (S := D × D) (((((R.ok v1)).bind range1R)).bind fun xs => forR xs (s12, v17) fun d21 s18 => (bindX (opX addR (pX (R.ok s18.2) s18.1) (fun s25 => (compX (((R.ok d21)).bind range1R) (turnX (fun x27 s28 => (opXT eqR (ioX c__law_draw 0 (fun (s : D) => s) (fun (_ d : D) => d) (consX (pX (R.ok v11) s28) (fun s32 => (R.ok ([], s32))))) (fun s30 => (pX (R.ok (.int 0)) s30)))) (fun x27 s29 => (pX (tupE [(op2 idxR (R.ok v6) (R.ok x27)), (op2 idxR (R.ok v6) (R.ok d21))]) s29))) s25))) fun v22 s23 => (R.ok (.nx (s23, v22))))) fun s19 => (((tupE [(R.ok v1), (op1 tupleR ((allR [(R.ok s19.2)]).bind c__law_closed))])).bind fun v33 => .ok (.rt v33 [s19.1])))))))
def c__law_order_by (ds : List D) : R (D × List D) := finR (ap2 b__law_order_by ds)
theorem e__law_order_by (a0 a1 : D) : c__law_order_by [a0, a1] = finR (b__law_order_by a0 a1) := congrArg finR (ap2_eq _ _ _)
def b_waits (a0 : D) : R (Fl Unit Empty) := (ownR (op2 mulR (lstE [(R.ok (.int 0))]) (op2 idxR (R.ok a0) (R.ok (.int 0)))) fun v1 => (aftR (S := D) (((((op2 idxR (R.ok a0) (R.ok (.int 1)))).bind seqsR)).bind fun xs => forR xs v1 fun d8 s2 => un2 (fun d5 d6 => ((setE s2 (R.ok d6) (op2 borR (op2 idxR (R.ok s2) (R.ok d6)) (op2 shlR (R.ok (.int 1)) (R.ok d5)))).bind fun v7 => (R.ok (.nx v7)))) d8) fun s3 => (R.ok (.rt s3 []))))
def c_waits (ds : List D) : R D := finP (ap1 b_waits ds)
theorem e_waits (a0 : D) : c_waits [a0] = finP (b_waits a0) := congrArg finP (ap1_eq _ _)
def b_things_in (a0 a1 : D) : R (Fl Unit Empty) := (((op1 tupleR (compE (((R.ok a1)).bind range1R) (fun x1 => (op2 eqR (op2 bandR (op2 shrR (R.ok a0) (R.ok x1)) (R.ok (.int 1))) (R.ok (.int 1)))) (fun x1 => (R.ok x1))))).bind fun v2 => .ok (.rt v2 []))
def c_things_in (ds : List D) : R D := finP (ap2 b_things_in ds)
theorem e_things_in (a0 a1 : D) : c_things_in [a0, a1] = finP (b_things_in a0 a1) := congrArg finP (ap2_eq _ _ _)
def b_is_lower (a0 a1 : D) : R (Fl Unit Empty) := (((op1 allQ (compE ((((allR [(R.ok a1), (op1 lenR (R.ok a0))]).bind c_things_in)).bind seqsR) yesT (fun x1 => (blE (op2 eqR (op2 bandR (op2 idxR (R.ok a0) (R.ok x1)) (R.ok a1)) (op2 idxR (R.ok a0) (R.ok x1)))))))).bind fun v2 => .ok (.rt v2 []))
def c_is_lower (ds : List D) : R D := finP (ap2 b_is_lower ds)
theorem e_is_lower (a0 a1 : D) : c_is_lower [a0, a1] = finP (b_is_lower a0 a1) := congrArg finP (ap2_eq _ _ _)
def b_stands_of (a0 : D) : R (Fl Unit Empty) := ((((allR [(R.ok a0)]).bind c_waits)).bind fun v1 => (ownR (lstE []) fun v2 => (aftR (S := D) (((op2 rangeDR (op2 subR (op2 shlR (R.ok (.int 1)) (op2 idxR (R.ok a0) (R.ok (.int 0)))) (R.ok (.int 1))) (R.ok (.int 0)))).bind fun xs => forR xs v2 fun d6 s3 => (seqR (S' := D) (ifE (op1 truT ((allR [(R.ok v1), (R.ok d6)]).bind c_is_lower)) ((extendE s3 (compE ((((allR [(R.ok d6), (op2 idxR (R.ok a0) (R.ok (.int 0)))]).bind c_things_in)).bind seqsR) (fun x8 => (op1 truT ((allR [(R.ok v1), (op2 bxorR (R.ok d6) (op2 shlR (R.ok (.int 1)) (R.ok x8)))]).bind c_is_lower))) (fun x8 => (tupE [(R.ok d6), (R.ok x8)])))).bind fun v7 => (R.ok (.nx v7))) (R.ok (.nx s3))) fun s9 => (R.ok (.nx s9)))) fun s4 => (((op2 addR (R.ok s4) (lstE [(tupE [(R.ok (.int 0)), (op1 negR (R.ok (.int 1)))])]))).bind fun v11 => .ok (.rt v11 [])))))
def c_stands_of (ds : List D) : R D := finP (ap1 b_stands_of ds)
theorem e_stands_of (a0 : D) : c_stands_of [a0] = finP (b_stands_of a0) := congrArg finP (ap1_eq _ _)
def b_free_by (a0 a1 : D) : R (Fl Unit Empty) := (((compE (((op1 lenR (R.ok a0))).bind range1R) (fun x1 => (andT (op2 eqR (op2 bandR (op2 shrR (R.ok a1) (R.ok x1)) (R.ok (.int 1))) (R.ok (.int 0))) (op2 eqR (op2 bandR (op2 idxR (R.ok a0) (R.ok x1)) (R.ok a1)) (op2 idxR (R.ok a0) (R.ok x1))))) (fun x1 => (R.ok x1)))).bind fun v2 => .ok (.rt v2 []))
def c_free_by (ds : List D) : R D := finP (ap2 b_free_by ds)
theorem e_free_by (a0 a1 : D) : c_free_by [a0, a1] = finP (b_free_by a0 a1) := congrArg finP (ap2_eq _ _ _)
def b_cost_of (a0 a1 a2 : D) : R (Fl Unit Empty) := (((op1 intR (andV (blE (op2 geR (R.ok a1) (R.ok (.int 0)))) (blE (op2 notInR (tupE [(R.ok a1), (R.ok a2)]) (op2 idxR (R.ok a0) (R.ok (.int 1)))))))).bind fun v1 => .ok (.rt v1 []))
def c_cost_of (ds : List D) : R D := finP (ap3 b_cost_of ds)
theorem e_cost_of (a0 a1 a2 : D) : c_cost_of [a0, a1, a2] = finP (b_cost_of a0 a1 a2) := congrArg finP (ap3_eq _ _ _ _)
def b_ahead_by (a0 a1 a2 a3 a4 : D) : R (Fl Unit Empty) := (((op2 idxR (R.ok a0) (tupE [(op2 borR (R.ok a2) (op2 shlR (R.ok (.int 1)) (R.ok a4))), (R.ok a4)]))).bind (un2 fun v1 v2 => (((tupE [(op2 addR (R.ok v1) ((allR [(R.ok a1), (R.ok a3), (R.ok a4)]).bind c_cost_of)), (R.ok v2)])).bind fun v3 => .ok (.rt v3 []))))
def c_ahead_by (ds : List D) : R D := finP (ap5 b_ahead_by ds)
theorem e_ahead_by (a0 a1 a2 a3 a4 : D) : c_ahead_by [a0, a1, a2, a3, a4] = finP (b_ahead_by a0 a1 a2 a3 a4) := congrArg finP (ap5_eq _ _ _ _ _ _)
def b_fewest_table (a0 : D) : R (Fl Unit Empty) := ((((allR [(R.ok a0)]).bind c_waits)).bind fun v1 => (ownR (R.ok (.dct 1 [])) fun v2 => (aftR (S := D) ((((((allR [(R.ok a0)]).bind c_stands_of)).bind seqsR)).bind fun xs => forR xs v2 fun d20 s3 => un2 (fun d6 d7 => (((tupE [(R.ok (.int 0)), (R.ok (.int 1))])).bind (un2 fun v8 v9 => ((((allR [(R.ok v1), (R.ok d6)]).bind c_free_by)).bind fun v10 => (seqR (S' := D × D) (ifE (op2 neR (R.ok v10) (lstE [])) (((compE (((R.ok v10)).bind seqsR) yesT (fun x12 => (flatE ((allR [(R.ok s3), (R.ok a0), (R.ok d6), (R.ok d7), (R.ok x12)]).bind c_ahead_by))))).bind fun v11 => (((op1 minR (compE (((R.ok v11)).bind seqsR) yesT (fun x14 => (op2 idxR (R.ok x14) (R.ok (.int 0))))))).bind fun v13 => (((op1 sumR (compE (((R.ok v11)).bind seqsR) (fun x16 => (op2 eqR (op2 idxR (R.ok x16) (R.ok (.int 0))) (R.ok v13))) (fun x16 => (op2 idxR (R.ok x16) (R.ok (.int 1))))))).bind fun v15 => (R.ok (.nx (v13, v15)))))) (R.ok (.nx (v8, v9)))) fun s17 => ((setE s3 (tupE [(R.ok d6), (R.ok d7)]) (tupE [(R.ok s17.1), (R.ok s17.2)])).bind fun v19 => (R.ok (.nx v19)))))))) d20) fun s4 => (R.ok (.rt s4 [])))))
def c_fewest_table (ds : List D) : R D := finP (ap1 b_fewest_table ds)
theorem e_fewest_table (a0 : D) : c_fewest_table [a0] = finP (b_fewest_table a0) := congrArg finP (ap1_eq _ _)
def b_fewest_jumps (a0 : D) : R (Fl Unit Empty) := (((op2 idxR (op2 idxR ((allR [(R.ok a0)]).bind c_fewest_table) (tupE [(R.ok (.int 0)), (op1 negR (R.ok (.int 1)))])) (R.ok (.int 0)))).bind fun v1 => .ok (.rt v1 []))
def c_fewest_jumps (ds : List D) : R D := finP (ap1 b_fewest_jumps ds)
theorem e_fewest_jumps (a0 : D) : c_fewest_jumps [a0] = finP (b_fewest_jumps a0) := congrArg finP (ap1_eq _ _)
def b_on_by (a0 a1 a2 a3 : D) : R (Fl Unit Empty) := (((compE ((((allR [(R.ok a1), (R.ok a2)]).bind c_free_by)).bind seqsR) (fun x1 => (andT (op2 geR (R.ok a3) (R.ok (.int 0))) (op2 inR (tupE [(R.ok a3), (R.ok x1)]) (op2 idxR (R.ok a0) (R.ok (.int 1)))))) (fun x1 => (R.ok x1)))).bind fun v2 => .ok (.rt v2 []))
def c_on_by (ds : List D) : R D := finP (ap4 b_on_by ds)
theorem e_on_by (a0 a1 a2 a3 : D) : c_on_by [a0, a1, a2, a3] = finP (b_on_by a0 a1 a2 a3) := congrArg finP (ap4_eq _ _ _ _ _)
def b_greedy_next (a0 a1 a2 a3 : D) : R (Fl Unit Empty) := ((((allR [(R.ok a0), (R.ok a1), (R.ok a2), (R.ok a3)]).bind c_on_by)).bind fun v1 => (ifE (op2 eqR (R.ok v1) (lstE [])) (endR ((((allR [(R.ok a1), (R.ok a2)]).bind c_free_by)).bind fun v2 => .ok (.rt v2 []))) (((R.ok v1)).bind fun v3 => .ok (.rt v3 []))))
def c_greedy_next (ds : List D) : R D := finP (ap4 b_greedy_next ds)
theorem e_greedy_next (a0 a1 a2 a3 : D) : c_greedy_next [a0, a1, a2, a3] = finP (b_greedy_next a0 a1 a2 a3) := congrArg finP (ap4_eq _ _ _ _ _)
def b_greedy_table (a0 : D) : R (Fl Unit Empty) := ((((allR [(R.ok a0)]).bind c_waits)).bind fun v1 => (ownR (R.ok (.dct 1 [])) fun v2 => (aftR (S := D) ((((((allR [(R.ok a0)]).bind c_stands_of)).bind seqsR)).bind fun xs => forR xs v2 fun d24 s3 => un2 (fun d6 d7 => ((((allR [(R.ok a0), (R.ok v1), (R.ok d6), (R.ok d7)]).bind c_greedy_next)).bind fun v8 => (seqR (S' := D) (ifE (op2 eqR (R.ok v8) (lstE [])) ((setE s3 (tupE [(R.ok d6), (R.ok d7)]) (tupE [(R.ok (.int 1)), (R.ok (.int 0)), (R.ok (.int 0))])).bind fun v9 => (R.ok (.nx v9))) (((compE (((R.ok v8)).bind seqsR) yesT (fun x11 => (op2 idxR (R.ok s3) (tupE [(op2 borR (R.ok d6) (op2 shlR (R.ok (.int 1)) (R.ok x11))), (R.ok x11)]))))).bind fun v10 => (((compE (((R.ok v8)).bind seqsR) yesT (fun x13 => ((allR [(R.ok a0), (R.ok d7), (R.ok x13)]).bind c_cost_of)))).bind fun v12 => (((op1 minR (compE (op2 zipR (R.ok v12) (R.ok v10)) yesT (un2 fun x15 x16 => (op2 addR (R.ok x15) (op2 idxR (R.ok x16) (R.ok (.int 1)))))))).bind fun v14 => (((op1 maxR (compE (op2 zipR (R.ok v12) (R.ok v10)) yesT (un2 fun x18 x19 => (op2 addR (R.ok x18) (op2 idxR (R.ok x19) (R.ok (.int 2)))))))).bind fun v17 => ((setE s3 (tupE [(R.ok d6), (R.ok d7)]) (tupE [(op1 sumR (compE (((R.ok v10)).bind seqsR) yesT (fun x20 => (op2 idxR (R.ok x20) (R.ok (.int 0)))))), (R.ok v14), (R.ok v17)])).bind fun v21 => (R.ok (.nx v21)))))))) fun s22 => (R.ok (.nx s22))))) d24) fun s4 => (R.ok (.rt s4 [])))))
def c_greedy_table (ds : List D) : R D := finP (ap1 b_greedy_table ds)
theorem e_greedy_table (a0 : D) : c_greedy_table [a0] = finP (b_greedy_table a0) := congrArg finP (ap1_eq _ _)
def b_first_best (a0 : D) : R (Fl Unit Empty) := ((((allR [(R.ok a0)]).bind c_greedy_table)).bind fun v1 => ((((allR [(R.ok a0)]).bind c_waits)).bind fun v2 => (ownR (lstE []) fun v3 => (((tupE [(R.ok (.int 0)), (op1 negR (R.ok (.int 1)))])).bind (un2 fun v4 v5 => (aftR (S := D × D × D) (whileR 200 (v3, v4, v5) (fun s6 => (op2 ltR (op1 lenR (R.ok s6.1)) (op2 idxR (R.ok a0) (R.ok (.int 0))))) fun s6 => (((op2 idxR (op2 idxR (R.ok v1) (tupE [(R.ok s6.2.1), (R.ok s6.2.2)])) (R.ok (.int 1)))).bind fun v9 => ((((allR [(R.ok a0), (R.ok v2), (R.ok s6.2.1), (R.ok s6.2.2)]).bind c_greedy_next)).bind fun v10 => (((compE (((R.ok v10)).bind seqsR) (fun x12 => (op2 eqR (op2 addR ((allR [(R.ok a0), (R.ok s6.2.2), (R.ok x12)]).bind c_cost_of) (op2 idxR (op2 idxR (R.ok v1) (tupE [(op2 borR (R.ok s6.2.1) (op2 shlR (R.ok (.int 1)) (R.ok x12))), (R.ok x12)])) (R.ok (.int 1)))) (R.ok v9))) (fun x12 => (R.ok x12)))).bind fun v11 => (((op2 idxR (R.ok v11) (R.ok (.int 0)))).bind fun v13 => (((op2 borR (R.ok s6.2.1) (op2 shlR (R.ok (.int 1)) (R.ok v13)))).bind fun v14 => ((appendE s6.1 (R.ok v13)).bind fun v15 => (R.ok (.nx (v15, v14, v13)))))))))) fun s7 => (((op1 tupleR (R.ok s7.1))).bind fun v16 => .ok (.rt v16 []))))))))
def c_first_best (ds : List D) : R D := finP (ap1 b_first_best ds)
theorem e_first_best (a0 : D) : c_first_best [a0] = finP (b_first_best a0) := congrArg finP (ap1_eq _ _)
def b__law_cell_at (a0 a1 : D) : R (Fl Unit Empty) := (ifE (op2 ltR (R.ok a1) (op1 lenR (R.ok a0))) (endR (((op2 idxR (R.ok a0) (R.ok a1))).bind fun v1 => .ok (.rt v1 []))) (((R.ok (.int 0))).bind fun v2 => .ok (.rt v2 [])))
def c__law_cell_at (ds : List D) : R D := finP (ap2 b__law_cell_at ds)
theorem e__law_cell_at (a0 a1 : D) : c__law_cell_at [a0, a1] = finP (b__law_cell_at a0 a1) := congrArg finP (ap2_eq _ _ _)
def b_greedy_least (a0 : D) : R (Fl Unit Empty) := (((op2 idxR (op2 idxR ((allR [(R.ok a0)]).bind c_greedy_table) (tupE [(R.ok (.int 0)), (op1 negR (R.ok (.int 1)))])) (R.ok (.int 1)))).bind fun v1 => .ok (.rt v1 []))
def c_greedy_least (ds : List D) : R D := finP (ap1 b_greedy_least ds)
theorem e_greedy_least (a0 : D) : c_greedy_least [a0] = finP (b_greedy_least a0) := congrArg finP (ap1_eq _ _)
def b_is_whole (a0 : D) : R (Fl Unit Empty) := (((andV (blE (op1 (isaR isInt) (R.ok a0))) (blE (notT (op1 truT (blE (op1 (isaR isBool) (R.ok a0)))))))).bind fun v1 => .ok (.rt v1 []))
def c_is_whole (ds : List D) : R D := finP (ap1 b_is_whole ds)
theorem e_is_whole (a0 : D) : c_is_whole [a0] = finP (b_is_whole a0) := congrArg finP (ap1_eq _ _)
def b_begins (a0 a1 : D) : R (Fl Unit Empty) := (ifE (orT (notT (op1 truT (blE (op1 (isaR isTuple) (R.ok a1))))) (notT (op1 truT (op1 allQ (compE (((R.ok a1)).bind seqsR) yesT (fun x1 => ((allR [(R.ok x1)]).bind c_is_whole))))))) (endR (((R.ok (.bl false))).bind fun v2 => .ok (.rt v2 []))) ((((allR [(R.ok a0)]).bind c_waits)).bind fun v3 => (((R.ok (.int 0))).bind fun v4 => (aftR (S := D) (((((R.ok a1)).bind seqsR)).bind fun xs => forR xs v4 fun d8 s5 => (ifE (op2 notInR (R.ok d8) ((allR [(R.ok v3), (R.ok s5)]).bind c_free_by)) (endR (((R.ok (.bl false))).bind fun v9 => .ok (.rt v9 []))) (((op2 borR (R.ok s5) (op2 shlR (R.ok (.int 1)) (R.ok d8)))).bind fun v10 => (R.ok (.nx v10))))) fun s6 => (((R.ok (.bl true))).bind fun v11 => .ok (.rt v11 []))))))
def c_begins (ds : List D) : R D := finP (ap2 b_begins ds)
theorem e_begins (a0 a1 : D) : c_begins [a0, a1] = finP (b_begins a0 a1) := congrArg finP (ap2_eq _ _ _)
def b_is_row (a0 a1 : D) : R (Fl Unit Empty) := (((andV ((allR [(R.ok a0), (R.ok a1)]).bind c_begins) (blE (op2 eqR (op1 lenR (R.ok a1)) (op2 idxR (R.ok a0) (R.ok (.int 0))))))).bind fun v1 => .ok (.rt v1 []))
def c_is_row (ds : List D) : R D := finP (ap2 b_is_row ds)
theorem e_is_row (a0 a1 : D) : c_is_row [a0, a1] = finP (b_is_row a0 a1) := congrArg finP (ap2_eq _ _ _)
def b_mask_of (a0 : D) : R (Fl Unit Empty) := (((R.ok (.int 0))).bind fun v1 => (aftR (S := D) (((((R.ok a0)).bind seqsR)).bind fun xs => forR xs v1 fun d5 s2 => (((op2 borR (R.ok s2) (op2 shlR (R.ok (.int 1)) (R.ok d5)))).bind fun v6 => (R.ok (.nx v6)))) fun s3 => (((R.ok s3)).bind fun v7 => .ok (.rt v7 []))))
def c_mask_of (ds : List D) : R D := finP (ap1 b_mask_of ds)
theorem e_mask_of (a0 : D) : c_mask_of [a0] = finP (b_mask_of a0) := congrArg finP (ap1_eq _ _)
def b_slip_by (a0 a1 : D) : R (Fl Unit Empty) := ((((allR [(R.ok a0)]).bind c_waits)).bind fun v1 => (aftR (S := Unit) (((op2 range2R (R.ok (.int 1)) (op1 lenR (R.ok a1)))).bind fun xs => forR xs () fun d5 _ => (seqR (S' := Unit) (ifE (op2 eqR ((allR [(R.ok a0), (op2 idxR (R.ok a1) (op2 subR (R.ok d5) (R.ok (.int 1)))), (op2 idxR (R.ok a1) (R.ok d5))]).bind c_cost_of) (R.ok (.int 1))) ((((allR [(R.ok a0), (R.ok v1), ((allR [(cutE (R.ok a1) none (some (R.ok d5)))]).bind c_mask_of), (op2 idxR (R.ok a1) (op2 subR (R.ok d5) (R.ok (.int 1))))]).bind c_on_by)).bind fun v6 => (ifE (op2 neR (R.ok v6) (lstE [])) (endR (((tupE [(R.ok d5), (op2 idxR (R.ok v6) (R.ok (.int 0)))])).bind fun v7 => .ok (.rt v7 []))) (R.ok (.nx ())))) (R.ok (.nx ()))) fun _ => (R.ok (.nx ())))) fun _ => (((R.ok .non)).bind fun v10 => .ok (.rt v10 []))))
def c_slip_by (ds : List D) : R D := finP (ap2 b_slip_by ds)
theorem e_slip_by (a0 a1 : D) : c_slip_by [a0, a1] = finP (b_slip_by a0 a1) := congrArg finP (ap2_eq _ _ _)
def b_greedy_good (a0 a1 : D) : R (Fl Unit Empty) := (((andV ((allR [(R.ok a0), (R.ok a1)]).bind c_is_row) (blE (op1 isR ((allR [(R.ok a0), (R.ok a1)]).bind c_slip_by))))).bind fun v1 => .ok (.rt v1 []))
def c_greedy_good (ds : List D) : R D := finP (ap2 b_greedy_good ds)
theorem e_greedy_good (a0 a1 : D) : c_greedy_good [a0, a1] = finP (b_greedy_good a0 a1) := congrArg finP (ap2_eq _ _ _)
def b_jumps_in (a0 a1 : D) : R (Fl Unit Empty) := (((op1 sumR (compE (op2 range2R (R.ok (.int 1)) (op1 lenR (R.ok a1))) yesT (fun x1 => ((allR [(R.ok a0), (op2 idxR (R.ok a1) (op2 subR (R.ok x1) (R.ok (.int 1)))), (op2 idxR (R.ok a1) (R.ok x1))]).bind c_cost_of))))).bind fun v2 => .ok (.rt v2 []))
def c_jumps_in (ds : List D) : R D := finP (ap2 b_jumps_in ds)
theorem e_jumps_in (a0 a1 : D) : c_jumps_in [a0, a1] = finP (b_jumps_in a0 a1) := congrArg finP (ap2_eq _ _ _)
def b_fewest_from (a0 a1 : D) : R (Fl Unit Empty) := (ifE (notT (op1 truT ((allR [(R.ok a0), (R.ok a1)]).bind c_begins))) (endR (R.ex (D.exc 1 []))) (((op1 negR (R.ok (.int 1)))).bind fun v1 => (seqR (S' := D) (ifE (op2 neR (R.ok a1) (tupE [])) (((op2 idxR (R.ok a1) (op1 negR (R.ok (.int 1))))).bind fun v2 => (R.ok (.nx v2))) (R.ok (.nx v1))) fun s3 => (((op2 addR ((allR [(R.ok a0), (R.ok a1)]).bind c_jumps_in) (op2 idxR (op2 idxR ((allR [(R.ok a0)]).bind c_fewest_table) (tupE [((allR [(R.ok a1)]).bind c_mask_of), (R.ok s3)])) (R.ok (.int 0))))).bind fun v5 => .ok (.rt v5 [])))))
def c_fewest_from (ds : List D) : R D := finP (ap2 b_fewest_from ds)
theorem e_fewest_from (a0 a1 : D) : c_fewest_from [a0, a1] = finP (b_fewest_from a0 a1) := congrArg finP (ap2_eq _ _ _)
def b_first_fewest (a0 : D) : R (Fl Unit Empty) := ((((allR [(R.ok a0)]).bind c_fewest_table)).bind fun v1 => ((((allR [(R.ok a0)]).bind c_waits)).bind fun v2 => (ownR (lstE []) fun v3 => (((tupE [(R.ok (.int 0)), (op1 negR (R.ok (.int 1)))])).bind (un2 fun v4 v5 => (aftR (S := D × D × D) (whileR 200 (v3, v4, v5) (fun s6 => (op2 ltR (op1 lenR (R.ok s6.1)) (op2 idxR (R.ok a0) (R.ok (.int 0))))) fun s6 => (((op2 idxR (op2 idxR (R.ok v1) (tupE [(R.ok s6.2.1), (R.ok s6.2.2)])) (R.ok (.int 0)))).bind fun v9 => (((compE ((((allR [(R.ok v2), (R.ok s6.2.1)]).bind c_free_by)).bind seqsR) (fun x11 => (op2 eqR (op2 idxR ((allR [(R.ok v1), (R.ok a0), (R.ok s6.2.1), (R.ok s6.2.2), (R.ok x11)]).bind c_ahead_by) (R.ok (.int 0))) (R.ok v9))) (fun x11 => (R.ok x11)))).bind fun v10 => (((op2 idxR (R.ok v10) (R.ok (.int 0)))).bind fun v12 => (((op2 borR (R.ok s6.2.1) (op2 shlR (R.ok (.int 1)) (R.ok v12)))).bind fun v13 => ((appendE s6.1 (R.ok v12)).bind fun v14 => (R.ok (.nx (v14, v13, v12))))))))) fun s7 => (((op1 tupleR (R.ok s7.1))).bind fun v15 => .ok (.rt v15 []))))))))
def c_first_fewest (ds : List D) : R D := finP (ap1 b_first_fewest ds)
theorem e_first_fewest (a0 : D) : c_first_fewest [a0] = finP (b_first_fewest a0) := congrArg finP (ap1_eq _ _)
def b_first_greedy (a0 : D) : R (Fl Unit Empty) := ((((allR [(R.ok a0)]).bind c_waits)).bind fun v1 => (ownR (lstE []) fun v2 => (((tupE [(R.ok (.int 0)), (op1 negR (R.ok (.int 1)))])).bind (un2 fun v3 v4 => (aftR (S := D × D × D) (whileR 200 (v2, v3, v4) (fun s5 => (op2 ltR (op1 lenR (R.ok s5.1)) (op2 idxR (R.ok a0) (R.ok (.int 0))))) fun s5 => (((op2 idxR ((allR [(R.ok a0), (R.ok v1), (R.ok s5.2.1), (R.ok s5.2.2)]).bind c_greedy_next) (R.ok (.int 0)))).bind fun v8 => (((op2 borR (R.ok s5.2.1) (op2 shlR (R.ok (.int 1)) (R.ok v8)))).bind fun v9 => ((appendE s5.1 (R.ok v8)).bind fun v10 => (R.ok (.nx (v10, v9, v8))))))) fun s6 => (((op1 tupleR (R.ok s6.1))).bind fun v11 => .ok (.rt v11 [])))))))
def c_first_greedy (ds : List D) : R D := finP (ap1 b_first_greedy ds)
theorem e_first_greedy (a0 : D) : c_first_greedy [a0] = finP (b_first_greedy a0) := congrArg finP (ap1_eq _ _)
def b_greedy_many (a0 : D) : R (Fl Unit Empty) := (((op2 idxR (op2 idxR ((allR [(R.ok a0)]).bind c_greedy_table) (tupE [(R.ok (.int 0)), (op1 negR (R.ok (.int 1)))])) (R.ok (.int 0)))).bind fun v1 => .ok (.rt v1 []))
def c_greedy_many (ds : List D) : R D := finP (ap1 b_greedy_many ds)
theorem e_greedy_many (a0 : D) : c_greedy_many [a0] = finP (b_greedy_many a0) := congrArg finP (ap1_eq _ _)
def b_rows_many (a0 : D) : R (Fl Unit Empty) := ((((allR [(R.ok a0)]).bind c_waits)).bind fun v1 => (ownR (R.ok (.dct 0 [])) fun v2 => (aftR (S := D) (((op2 rangeDR (op2 subR (op2 shlR (R.ok (.int 1)) (op2 idxR (R.ok a0) (R.ok (.int 0)))) (R.ok (.int 1))) (op1 negR (R.ok (.int 1))))).bind fun xs => forR xs v2 fun d6 s3 => (seqR (S' := D) (ifE (op1 truT ((allR [(R.ok v1), (R.ok d6)]).bind c_is_lower)) ((((allR [(R.ok v1), (R.ok d6)]).bind c_free_by)).bind fun v7 => ((setE s3 (R.ok d6) (ifE (op2 neR (R.ok v7) (lstE [])) (op1 sumR (compE (((R.ok v7)).bind seqsR) yesT (fun x8 => (op2 idxR (R.ok s3) (op2 borR (R.ok d6) (op2 shlR (R.ok (.int 1)) (R.ok x8))))))) (R.ok (.int 1)))).bind fun v9 => (R.ok (.nx v9)))) (R.ok (.nx s3))) fun s10 => (R.ok (.nx s10)))) fun s4 => (((op2 idxR (R.ok s4) (R.ok (.int 0)))).bind fun v12 => .ok (.rt v12 [])))))
def c_rows_many (ds : List D) : R D := finP (ap1 b_rows_many ds)
theorem e_rows_many (a0 : D) : c_rows_many [a0] = finP (b_rows_many a0) := congrArg finP (ap1_eq _ _)
def b_check_row (a0 a1 : D) : R (Fl Unit Empty) := (ifE (notT (op1 truT ((allR [(R.ok a0), (R.ok a1)]).bind c_is_row))) (endR (R.ex (D.exc 1 []))) (R.ok (.nx ())))
def c_check_row (ds : List D) : R D := finP (ap2 b_check_row ds)
theorem e_check_row (a0 a1 : D) : c_check_row [a0, a1] = finP (b_check_row a0 a1) := congrArg finP (ap2_eq _ _ _)
def b_gone_on (a0 a1 : D) : R (Fl Unit Empty) := ((((allR [(R.ok a0), (R.ok a1)]).bind c_check_row)).bind fun _ => ((((allR [(R.ok a0), (R.ok a1)]).bind c_slip_by)).bind fun v1 => (aftR (S := D × D) (whileR 200 (a1, v1) (fun s2 => (op1 isNotR (R.ok s2.2))) fun s2 => (((R.ok s2.2)).bind (un2 fun v5 v6 => (((op1 tupleR (compE (((cutE (R.ok s2.1) (some (R.ok v5)) none)).bind seqsR) (fun x8 => (op2 neR (R.ok x8) (R.ok v6))) (fun x8 => (R.ok x8))))).bind fun v7 => (((op2 addR (op2 addR (cutE (R.ok s2.1) none (some (R.ok v5))) (tupE [(R.ok v6)])) (R.ok v7))).bind fun v9 => ((((allR [(R.ok a0), (R.ok v9)]).bind c_slip_by)).bind fun v10 => (R.ok (.nx (v9, v10))))))))) fun s3 => (((R.ok s3.1)).bind fun v11 => .ok (.rt v11 [])))))
def c_gone_on (ds : List D) : R D := finP (ap2 b_gone_on ds)
theorem e_gone_on (a0 a1 : D) : c_gone_on [a0, a1] = finP (b_gone_on a0 a1) := congrArg finP (ap2_eq _ _ _)
def b_greedy_most (a0 : D) : R (Fl Unit Empty) := (((op2 idxR (op2 idxR ((allR [(R.ok a0)]).bind c_greedy_table) (tupE [(R.ok (.int 0)), (op1 negR (R.ok (.int 1)))])) (R.ok (.int 2)))).bind fun v1 => .ok (.rt v1 []))
def c_greedy_most (ds : List D) : R D := finP (ap1 b_greedy_most ds)
theorem e_greedy_most (a0 : D) : c_greedy_most [a0] = finP (b_greedy_most a0) := congrArg finP (ap1_eq _ _)
def b_slip_of (a0 a1 : D) : R (Fl Unit Empty) := ((((allR [(R.ok a0), (R.ok a1)]).bind c_check_row)).bind fun _ => ((((allR [(R.ok a0), (R.ok a1)]).bind c_slip_by)).bind fun v1 => .ok (.rt v1 [])))
def c_slip_of (ds : List D) : R D := finP (ap2 b_slip_of ds)
theorem e_slip_of (a0 a1 : D) : c_slip_of [a0, a1] = finP (b_slip_of a0 a1) := congrArg finP (ap2_eq _ _ _)
def b__law_row_right (a0 a1 : D) : R (Fl Unit Empty) := ((((allR [(R.ok a0), (R.ok a1)]).bind c_fewest_from)).bind fun v1 => ((((allR [(R.ok a0), (R.ok a1)]).bind c_gone_on)).bind fun v2 => (ifE (orT (notT (op1 truT ((allR [(R.ok a0), (R.ok v2)]).bind c_greedy_good))) (orT (op2 gtR ((allR [(R.ok a0), (R.ok v2)]).bind c_fewest_from) (R.ok v1)) (op2 neR ((allR [(R.ok a0), (R.ok v2)]).bind c_gone_on) (R.ok v2)))) (endR (((R.ok (.bl false))).bind fun v3 => .ok (.rt v3 []))) (ifE (orT (op2 neR ((allR [(R.ok a0), (R.ok a1)]).bind c_greedy_good) (blE (op1 isR ((allR [(R.ok a0), (R.ok a1)]).bind c_slip_of)))) (op2 neR (blE (op2 eqR (R.ok v2) (R.ok a1))) ((allR [(R.ok a0), (R.ok a1)]).bind c_greedy_good))) (endR (((R.ok (.bl false))).bind fun v4 => .ok (.rt v4 []))) (((blE (chainR leR leR ((allR [(R.ok a0)]).bind c_greedy_least) ((allR [(R.ok a0), (R.ok v2)]).bind c_fewest_from) ((allR [(R.ok a0)]).bind c_greedy_most)))).bind fun v5 => .ok (.rt v5 []))))))
def c__law_row_right (ds : List D) : R D := finP (ap2 b__law_row_right ds)
theorem e__law_row_right (a0 a1 : D) : c__law_row_right [a0, a1] = finP (b__law_row_right a0 a1) := congrArg finP (ap2_eq _ _ _)
def b_set_good (a0 a1 : D) : R (Fl Unit Empty) := (ifE (orT (notT (op1 truT (blE (op1 (isaR isTuple) (R.ok a1))))) (notT (op1 truT (op1 allQ (compE (((R.ok a1)).bind seqsR) yesT (fun x1 => ((allR [(R.ok x1)]).bind c_is_whole))))))) (endR (((R.ok (.bl false))).bind fun v2 => .ok (.rt v2 []))) (((blE (op2 eqR (op1 listR (R.ok a1)) (compE (((R.ok a0)).bind range1R) (fun x3 => (op2 inR (R.ok x3) (R.ok a1))) (fun x3 => (R.ok x3)))))).bind fun v4 => .ok (.rt v4 [])))
def c_set_good (ds : List D) : R D := finP (ap2 b_set_good ds)
theorem e_set_good (a0 a1 : D) : c_set_good [a0, a1] = finP (b_set_good a0 a1) := congrArg finP (ap2_eq _ _ _)
def b_lower_good (a0 a1 : D) : R (Fl Unit Empty) := (((andV ((allR [(op2 idxR (R.ok a0) (R.ok (.int 0))), (R.ok a1)]).bind c_set_good) ((allR [((allR [(R.ok a0)]).bind c_waits), ((allR [(R.ok a1)]).bind c_mask_of)]).bind c_is_lower))).bind fun v1 => .ok (.rt v1 []))
def c_lower_good (ds : List D) : R D := finP (ap2 b_lower_good ds)
theorem e_lower_good (a0 a1 : D) : c_lower_good [a0, a1] = finP (b_lower_good a0 a1) := congrArg finP (ap2_eq _ _ _)
def b_free_in (a0 a1 : D) : R (Fl Unit Empty) := (ifE (notT (op1 truT ((allR [(R.ok a0), (R.ok a1)]).bind c_lower_good))) (endR (R.ex (D.exc 2 []))) (((op1 tupleR ((allR [((allR [(R.ok a0)]).bind c_waits), ((allR [(R.ok a1)]).bind c_mask_of)]).bind c_free_by))).bind fun v1 => .ok (.rt v1 [])))
def c_free_in (ds : List D) : R D := finP (ap2 b_free_in ds)
theorem e_free_in (a0 a1 : D) : c_free_in [a0, a1] = finP (b_free_in a0 a1) := congrArg finP (ap2_eq _ _ _)
def b__law_row_by (a0 a1 : D) : R (Fl Unit Empty) := (((tupE [])).bind fun v1 => (aftR (S := D × D) (whileR 200 (a0, v1) (fun s2 => (op2 ltR (op1 lenR (R.ok s2.2)) (op2 idxR (R.ok a1) (R.ok (.int 0))))) fun s2 => ((((allR [(R.ok a1), (op1 tupleR (((R.ok s2.2)).bind sortR))]).bind c_free_in)).bind fun v5 => (bindX (opX addR (pX (R.ok s2.2) s2.1) (fun s9 => (tupX (consX (opX idxR (pX (R.ok v5) s9) (fun s12 => (ioX c__law_draw 0 (fun (s : D) => s) (fun (_ d : D) => d) (consX (pX (op1 lenR (R.ok v5)) s12) (fun s14 => (R.ok ([], s14))))))) (fun s11 => (R.ok ([], s11))))))) fun v6 s7 => (R.ok (.nx (s7, v6)))))) fun s3 => (((R.ok s3.2)).bind fun v15 => .ok (.rt v15 [s3.1]))))
def c__law_row_by (ds : List D) : R (D × List D) := finR (ap2 b__law_row_by ds)
theorem e__law_row_by (a0 a1 : D) : c__law_row_by [a0, a1] = finR (b__law_row_by a0 a1) := congrArg finR (ap2_eq _ _ _)
def b_law (a0 : D) : R (Fl Unit Empty) := (aftR (S := Unit) (((((op2 addR (lstE [((allR [(R.ok a0), (R.ok (.int 0))]).bind c__law_cell_at)]) (cutE (R.ok a0) (some (R.ok (.int 1))) (some (R.ok (.int 3)))))).bind seqsR)).bind fun xs => forR xs () fun d4 _ => (ownR ((allR [(R.ok d4)]).bind c__law_pen_of) fun v5 => (bindX (ioX c__law_order_by 0 (fun (s : D) => s) (fun (_ d : D) => d) (consX (pX (R.ok (.int 8)) v5) (fun s10 => (R.ok ([], s10))))) fun v6 s7 => ((((allR [(R.ok v6)]).bind c_fewest_jumps)).bind fun v11 => ((((allR [(R.ok v6)]).bind c_first_best)).bind fun v12 => (ifE (orT (op2 neR ((allR [(R.ok v6)]).bind c_greedy_least) (R.ok v11)) (orT (notT (op1 truT ((allR [(R.ok v6), (R.ok v12)]).bind c_greedy_good))) (op2 neR ((allR [(R.ok v6), (R.ok v12)]).bind c_fewest_from) (R.ok v11)))) (endR (((R.ok (.bl false))).bind fun v13 => .ok (.rt v13 []))) (ifE (orT (op2 ltR (R.ok v12) ((allR [(R.ok v6)]).bind c_first_fewest)) (orT (op2 ltR (R.ok v12) ((allR [(R.ok v6)]).bind c_first_greedy)) (notT (op1 truT ((allR [(R.ok v6), ((allR [(R.ok v6)]).bind c_first_greedy)]).bind c_greedy_good))))) (endR (((R.ok (.bl false))).bind fun v14 => .ok (.rt v14 []))) (ifE (notT (chainR leR leR (R.ok (.int 1)) ((allR [(R.ok v6)]).bind c_greedy_many) ((allR [(R.ok v6)]).bind c_rows_many))) (endR (((R.ok (.bl false))).bind fun v15 => .ok (.rt v15 []))) (aftR (S := D) (((((R.ok (.int 4))).bind range1R)).bind fun xs => forR xs s7 fun d19 s16 => (ifX (notX (truX (callX c__law_row_right (consX (pX (R.ok v6) s16) (fun s25 => (consX (ioX c__law_row_by 0 (fun (s : D) => s) (fun (_ d : D) => d) (consX (pX (R.ok v6) s25) (fun s28 => (R.ok ([], s28))))) (fun s26 => (R.ok ([], s26))))))))) (fun s20 => endR (((R.ok (.bl false))).bind fun v29 => .ok (.rt v29 []))) (fun s20 => (R.ok (.nx s20))))) fun s17 => (R.ok (.nx ()))))))))))) fun _ => (((R.ok (.bl true))).bind fun v30 => .ok (.rt v30 [])))
def c_law (ds : List D) : R D := finP (ap1 b_law ds)
theorem e_law (a0 : D) : c_law [a0] = finP (b_law a0) := congrArg finP (ap1_eq _ _)
/-! ### masks over the mirrors -/
def needsD (n : Nat) (F : List (Int × Int)) : D := .lst ((List.range n).map fun b => D.int (wn F b : Nat))
abbrev MemN (n : Nat) (G : List (Int × Int)) : Prop := ∀ p ∈ G, (0 ≤ p.1 ∧ p.1 < n) ∧ (0 ≤ p.2 ∧ p.2 < n)
theorem waits_ok {n : Nat} {G : List (Int × Int)} (hn : n ≤ 9) (hm : MemN n G) : c_waits [ordD n G] = .ok (needsD n G) := by
  rw [e_waits]
  unfold b_waits
  simp only [op2_ok, idx_ord0, idx_ord1, lstE_1, R.ok_bind, seqsR_tup]
  rw [mul_zeros (by omega)]
  simp only [ownR_lst]
  refine for_gen (fun r => finP r = _) (xs := G) encP (fun i s => s = needsD n (G.take i)) ?_ (fun i p s hp hs => ?_) (fun s hs => ?_)
  · unfold needsD
    congr 1
  · subst hs
    refine ⟨_, ?_, rfl⟩
    obtain ⟨⟨h1, h2⟩, h3, h4⟩ := hm p (List.mem_of_getElem? hp)
    obtain ⟨a, b⟩ := p
    obtain ⟨a, rfl⟩ := Int.eq_ofNat_of_zero_le h1
    obtain ⟨b, rfl⟩ := Int.eq_ofNat_of_zero_le h3
    have hb : b < n := by omega
    rw [take_succ_of hp]
    simp only [encP, un2_tup]
    unfold needsD
    rw [shl_one a (by omega), idx_lst (i := b) (x := .int (wn (G.take i) b : Nat)) (by simp [hb]), op2_ok, bor_nat, setE_ok, set_lst (by simpa using hb)]
    simp only [R.ok_bind]
    congr 3
    rw [set_range hb]
    refine List.map_congr_left fun x _ => ?_
    rw [wn_snoc]
    by_cases e : x = b
    · subst e; rw [if_pos rfl, if_pos rfl]; rfl
    · rw [if_neg e, if_neg (by show ¬ (b : Int) = x; omega)]
  · subst hs
    rw [List.take_of_length_le (Nat.le_refl _)]
    rfl
theorem things_ok {n m : Nat} (hn : n ≤ 1000) : c_things_in [.int m, .int n] = .ok (.tup ((thL n m).map fun t : Nat => D.int t)) := by
  rw [e_things_in]
  unfold b_things_in
  rw [R.ok_bind, range1_up (by omega)]
  rw [compE_map (fun k : Nat => D.int k) (fun t => m.testBit t) (fun t : Nat => D.int t) (by rw [List.length_range]; show n ≤ 100000; omega) (fun t _ => ?_) (fun t _ _ => rfl)]
  · rfl
  · rw [bandR_bit]
    cases m.testBit t <;> rfl
theorem need_at {n t : Nat} (G : List (Int × Int)) (h : t < n) : op2 idxR (R.ok (needsD n G)) (R.ok (.int t)) = .ok (.int (wn G t : Nat)) := by
  unfold needsD
  rw [op2_ok, idx_lst (i := t) (x := .int (wn G t : Nat)) (by simp [h])]
theorem need_ok {n t m : Nat} (G : List (Int × Int)) (h : t < n) : op2 eqR (op2 bandR (op2 idxR (R.ok (needsD n G)) (R.ok (.int t))) (R.ok (.int m))) (op2 idxR (R.ok (needsD n G)) (R.ok (.int t))) = .ok (okB G m t) := by
  rw [need_at G h, op2_ok, band_nat, op2_ok, eqR_nat]; rfl
theorem need_len (n : Nat) (G : List (Int × Int)) : op1 lenR (R.ok (needsD n G)) = .ok (.int n) := by
  unfold needsD
  rw [op1_ok, lenR_lst, List.length_map, List.length_range]
theorem thL_len (n m : Nat) : (thL n m).length ≤ n := by
  have := List.length_filter_le (fun t => m.testBit t) (List.range n)
  rw [List.length_range] at this; exact this
theorem freeL_len (n : Nat) (G : List (Int × Int)) (m : Nat) : (freeL n G m).length ≤ n := by
  have := List.length_filter_le (fun t => !m.testBit t && okB G m t) (List.range n)
  rw [List.length_range] at this; exact this
theorem lower_ok {n m : Nat} (G : List (Int × Int)) (hn : n ≤ 1000) : c_is_lower [needsD n G, .int m] = .ok (.bl (lowB n G m)) := by
  rw [e_is_lower]
  unfold b_is_lower
  rw [need_len]
  simp only [allR_ok, allR_nil, R.ok_bind]
  rw [things_ok hn]
  simp only [R.ok_bind, seqsR_tup]
  rw [compE_all (fun k : Nat => D.int k) (fun t => D.bl (okB G m t)) (by have := thL_len n m; show _ ≤ 100000; omega) (fun t ht => ?_)]
  · rw [op1_ok, all_map]; rfl
  · rw [need_ok G (mem_th.mp ht).1, blE_ok]
theorem free_ok {n m : Nat} (G : List (Int × Int)) (hn : n ≤ 1000) : c_free_by [needsD n G, .int m] = .ok (.lst ((freeL n G m).map fun t : Nat => D.int t)) := by
  rw [e_free_by]
  unfold b_free_by
  rw [need_len, R.ok_bind, range1_up (by omega)]
  rw [compE_map (fun k : Nat => D.int k) (fun t => !m.testBit t && okB G m t) (fun t : Nat => D.int t) (by rw [List.length_range]; show n ≤ 100000; omega) (fun t ht => ?_) (fun t _ _ => rfl)]
  · rfl
  · rw [need_ok G (List.mem_range.mp ht), bandR_bit]
    cases m.testBit t <;> rfl
/-! ### standings -/
def encS (s : Nat × Int) : D := .tup [.int s.1, .int s.2]
theorem stands_ok {n : Nat} {G : List (Int × Int)} (hn : n ≤ 9) (hm : MemN n G) : c_stands_of [ordD n G] = .ok (.lst ((standsL n G).map encS)) := by
  have hp : 2 ^ n ≤ 2 ^ 9 := Nat.pow_le_pow_right (by decide) hn
  have hp0 : 0 < 2 ^ n := Nat.two_pow_pos n
  rw [e_stands_of]
  unfold b_stands_of
  simp only [allR_ok, allR_nil, R.ok_bind]
  rw [waits_ok hn hm]
  simp only [op2_ok, idx_ord0, R.ok_bind, lstE_nil, ownR_lst]
  rw [shl_one n (by omega), op2_ok, Nat.one_shiftLeft, subR_int, show ((2 ^ n : Nat) : Int) - 1 = ((2 ^ n - 1 : Nat) : Int) by omega, op2_ok, rangeD_down (by omega), R.ok_bind]
  have hlen : ∀ k, (((down (2 ^ n - 1)).take k).flatMap (standsAt n G)).length ≤ 511 * 9 := fun k => by
    refine Nat.le_trans (fm_take (standsAt n G) _ k) (Nat.le_trans (fm_bound (c := 9) fun m _ => ?_) ?_)
    · unfold standsAt
      split
      · rw [List.length_map]
        have h1 := List.length_filter_le (fun l => lowB n G (m ^^^ 1 <<< l)) (thL n m)
        have h2 := thL_len n m
        omega
      · exact Nat.zero_le _
    · unfold down; rw [List.length_map, List.length_range]; omega
  refine for_gen (fun r => finP r = _) (xs := down (2 ^ n - 1)) (fun m : Nat => D.int m) (fun i s => s = .lst ((((down (2 ^ n - 1)).take i).flatMap (standsAt n G)).map encS)) rfl (fun i m s hp hs => ?_) (fun s hs => ?_)
  · subst hs
    refine ⟨_, ?_, rfl⟩
    have hl := hlen (i + 1)
    rw [take_succ_of hp, List.flatMap_append, List.length_append] at hl
    rw [take_succ_of hp, List.flatMap_append]
    simp only [allR_ok, allR_nil, R.ok_bind, lower_ok G (show n ≤ 1000 by omega), things_ok (show n ≤ 1000 by omega), op1_ok, truT_bl, ifE_ok, seqsR_tup]
    simp only [List.flatMap_cons, List.flatMap_nil, List.append_nil] at hl ⊢
    unfold standsAt at hl ⊢
    cases h : lowB n G m with
    | false =>
      simp only [Bool.false_eq_true, if_false, List.append_nil]
      rfl
    | true =>
      simp only [h, if_true] at hl ⊢
      rw [compE_map (fun k : Nat => D.int k) (fun l => lowB n G (m ^^^ 1 <<< l)) (fun l : Nat => encS (m, (l : Int))) (by have := thL_len n m; show _ ≤ 100000; omega) (fun l hl => ?_) (fun t _ _ => rfl)]
      · simp only [List.length_map] at hl
        rw [extendE_ok (by simp only [List.length_map]; omega)]
        simp only [R.ok_bind, seqR_nx, List.map_append, List.map_map]
        rfl
      · have h1 := (mem_th.mp hl).1
        rw [shl_one l (by omega), op2_ok, bxor_nat]
        simp only [allR_ok, allR_nil, R.ok_bind, lower_ok G (show n ≤ 1000 by omega), op1_ok, truT_bl]
  · subst hs
    rw [List.take_of_length_le (Nat.le_refl _)]
    have hl := hlen (2 ^ n)
    rw [List.take_of_length_le (by unfold down; rw [List.length_map, List.length_range]; omega)] at hl
    simp only [op1_ok, negR_int, tupE_2, lstE_1]
    rw [op2_ok, add_lst (by simp only [List.length_map, List.length_cons, List.length_nil]; omega)]
    unfold standsL
    rw [List.map_append]
    rfl
def csI (G : List (Int × Int)) (l : Int) (t : Nat) : Int := b2 (decide (0 ≤ l) && !decide ((l, (t : Int)) ∈ G))
theorem cost_ok {n : Nat} {G : List (Int × Int)} (l : Int) (t : Nat) : c_cost_of [ordD n G, .int l, .int t] = .ok (.int (csI G l t)) := by
  rw [e_cost_of]
  unfold b_cost_of
  simp only [op2_ok, tupE_2, idx_ord1, geR_int, blE_ok, notInR, in_pairs, R.ok_bind, andV, truT_bl]
  unfold csI
  by_cases h : 0 ≤ l
  · simp [h, intR]
  · simp [h, intR]
/-! ### the table -/
def bsN (n : Nat) (G : List (Int × Int)) (s : Nat × Int) : Int := bst (freeL n G) (csI G) (remN n s.1) s.1 s.2
def ctN (n : Nat) (G : List (Int × Int)) (s : Nat × Int) : Int := cnt (freeL n G) (csI G) (remN n s.1) s.1 s.2
def entD (n : Nat) (G : List (Int × Int)) (s : Nat × Int) : D := .tup [.int (bsN n G s), .int (ctN n G s)]
def tabD (n : Nat) (G : List (Int × Int)) (L : List (Nat × Int)) : D := .dct 1 (L.map fun s => (encS s, entD n G s))
theorem same_encS (a b : Nat × Int) : sameD (encS a) (encS b) = decide (a = b) := by
  obtain ⟨a, c⟩ := a
  obtain ⟨b, d⟩ := b
  have e : sameD (encS (a, c)) (encS (b, d)) = (((a : Int) == b) && ((c == d) && true)) := by simp [encS, sameD, sameDs]
  rw [e, Bool.and_true, Bool.eq_iff_iff]
  simp only [Bool.and_eq_true, beq_iff_eq, decide_eq_true_eq, Prod.mk.injEq]
  omega
theorem look_tab {f : Nat × Int → D} {s : Nat × Int} : ∀ {L : List (Nat × Int)}, s ∈ L → lookD (encS s) (L.map fun s => (encS s, f s)) = some (f s)
  | [], h => nomatch h
  | t :: L, h => by
    rw [List.map_cons]
    unfold lookD
    rw [same_encS]
    by_cases e : t = s
    · subst e; simp
    · rw [if_neg (by simpa using e)]
      exact look_tab (by rcases List.mem_cons.mp h with h | h; exact absurd h.symm e; exact h)
theorem put_tab {f : Nat × Int → D} {s : Nat × Int} {L : List (Nat × Int)} (h : s ∉ L) : putD (encS s) (f s) (L.map fun s => (encS s, f s)) = (L ++ [s]).map fun s => (encS s, f s) := by
  unfold putD
  rw [if_neg, List.map_append]
  · rfl
  · rw [List.any_map, List.any_eq_true]
    rintro ⟨t, ht, e⟩
    have : sameD (encS t) (encS s) = true := e
    rw [same_encS] at this
    exact h (of_decide_eq_true this ▸ ht)
theorem tab_at {n : Nat} {G : List (Int × Int)} {L : List (Nat × Int)} {s : Nat × Int} (h : s ∈ L) : idxR (tabD n G L) (encS s) = .ok (entD n G s) := by
  show (if kindOk (encS s) 1 = true then ofO (lookD (encS s) (L.map fun s => (encS s, entD n G s))) else R.bad) = _
  rw [look_tab h]; rfl
theorem ahead_ok {n : Nat} {G : List (Int × Int)} {L : List (Nat × Int)} {m t : Nat} {l : Int} (ht : t ≤ 1000) (h : (m ||| 1 <<< t, (t : Int)) ∈ L) :
    c_ahead_by [tabD n G L, ordD n G, .int m, .int l, .int t] = .ok (.tup [.int (bsN n G (m ||| 1 <<< t, (t : Int)) + csI G l t), .int (ctN n G (m ||| 1 <<< t, (t : Int)))]) := by
  rw [e_ahead_by]
  unfold b_ahead_by
  rw [op2_ok, shl_one t ht, op2_ok, bor_nat, tupE_2, op2_ok]
  have e := tab_at (n := n) (G := G) h
  unfold encS at e
  rw [e]
  unfold entD
  simp only [R.ok_bind, un2_tup, allR_ok, allR_nil, cost_ok, op2_ok, addR_int, tupE_2]
  rfl
theorem table_ok {n : Nat} {G : List (Int × Int)} (hn : n ≤ 9) (hm : MemN n G) (hg : Goes n G) : c_fewest_table [ordD n G] = .ok (tabD n G (standsL n G)) := by
  have h0 : ∀ p ∈ G, 0 ≤ p.1 := fun p hp => (hm p hp).1.1
  have hlen : (standsL n G).length ≤ 511 * 9 + 1 := by
    have hp : 2 ^ n ≤ 2 ^ 9 := Nat.pow_le_pow_right (by decide) hn
    unfold standsL
    rw [List.length_append]
    refine Nat.add_le_add_right (Nat.le_trans (fm_bound (c := 9) fun m _ => ?_) ?_) 1
    · unfold standsAt
      split
      · rw [List.length_map]
        have h1 := List.length_filter_le (fun l => lowB n G (m ^^^ 1 <<< l)) (thL n m)
        have h2 := thL_len n m
        omega
      · exact Nat.zero_le _
    · unfold down; rw [List.length_map, List.length_range]; omega
  rw [e_fewest_table]
  unfold b_fewest_table
  simp only [allR_ok, allR_nil, R.ok_bind]
  rw [waits_ok hn hm, stands_ok hn hm]
  simp only [R.ok_bind, ownR_dct, seqsR_lst]
  refine for_gen (fun r => finP r = _) (xs := standsL n G) encS (fun i s => s = tabD n G ((standsL n G).take i)) rfl (fun i s st hp hs => ?_) (fun s hs => ?_)
  · subst hs
    refine ⟨_, ?_, rfl⟩
    rw [take_succ_of hp]
    have hin := List.mem_of_getElem? hp
    have hlow := stands_low hin
    have hlt := (stands_lt hin).1
    obtain ⟨m, l⟩ := s
    have hlow : lowB n G m = true := hlow
    have hlt : m < 2 ^ n := hlt
    simp only [encS, un2_tup, tupE_2, R.ok_bind, free_ok G (show n ≤ 1000 by omega)]
    refine seq_gen (fun r => r = _) (fun s17 => s17 = (D.int (bsN n G (m, l)), D.int (ctN n G (m, l)))) ?_ (fun s17 hs => ?_)
    · by_cases hf : freeL n G m = []
      · have hr : remN n m = 0 := Classical.byContradiction fun h => hg m hlow h hf
        have e1 : bsN n G (m, l) = 0 := by unfold bsN; rw [hr]; rfl
        have e2 : ctN n G (m, l) = 1 := by unfold ctN; rw [hr]; rfl
        rw [hf, e1, e2]
        exact ⟨_, rfl, rfl⟩
      · obtain ⟨k, hk⟩ : ∃ k, remN n m = k + 1 := ⟨remN n m - 1, by
          have : remN n m ≠ 0 := fun h => hf (rem_none h)
          omega⟩
        have hkt : ∀ t ∈ freeL n G m, remN n (m ||| 1 <<< t) = k := fun t ht => by
          have := rem_put (n := n) (mem_free.mp ht).1 (mem_free.mp ht).2.1
          omega
        have hrow : ∀ t ∈ freeL n G m, rowsF (freeL n G) k (m ||| 1 <<< t) ≠ [] := fun t ht => rows_ne h0 hg (low_put h0 hlow ht) (hkt t ht)
        have hway : ∀ t ∈ freeL n G m, flatE ((allR [R.ok (tabD n G ((standsL n G).take i)), R.ok (ordD n G), R.ok (.int m), R.ok (.int l), R.ok (.int t)]).bind c_ahead_by) = .ok (.tup [.int (bst (freeL n G) (csI G) k (m ||| 1 <<< t) t + csI G l t), .int (cnt (freeL n G) (csI G) k (m ||| 1 <<< t) t)]) := fun t ht => by
          have h1 := mem_free.mp ht
          simp only [allR_ok, allR_nil, R.ok_bind]
          have hin2 : (m ||| 1 <<< t, (t : Int)) ∈ (standsL n G).take i := by
            refine ahead_in stands_desc hp (stands_put h0 hlow hlt ht) (fun e => ?_) ?_
            · have := lt_put h1.2.1
              have := (Prod.mk.inj e).1
              omega
            · have := lt_put h1.2.1
              show ¬ m ||| 1 <<< t ≤ m
              omega
          rw [ahead_ok (by omega) hin2]
          unfold bsN ctN
          dsimp only
          rw [hkt t ht]
          rfl
        have hb := bst_succ (cs := csI G) (l := l) hf hrow
        have hc := cnt_succ (cs := csI G) (l := l) hf hrow
        have hfl := freeL_len n G m
        simp only [allR_ok, allR_nil, R.ok_bind] at hway
        simp only [lstE_nil, op2_ok, ne_nil hf, ifE_true, seqsR_lst]
        rw [compE_all (fun t : Nat => D.int t) (fun t => D.tup [.int (bst (freeL n G) (csI G) k (m ||| 1 <<< t) t + csI G l t), .int (cnt (freeL n G) (csI G) k (m ||| 1 <<< t) t)]) (by show _ ≤ 100000; omega) hway]
        simp only [R.ok_bind, seqsR_lst]
        rw [compE_all (xs := freeL n G m) (fun t => D.tup [.int (bst (freeL n G) (csI G) k (m ||| 1 <<< t) t + csI G l t), .int (cnt (freeL n G) (csI G) k (m ||| 1 <<< t) t)]) (fun t => D.int (bst (freeL n G) (csI G) k (m ||| 1 <<< t) t + csI G l t)) (by show _ ≤ 100000; omega) (fun t _ => rfl), op1_ok, min_map _ hf, ← hb]
        simp only [R.ok_bind]
        rw [compE_map (xs := freeL n G m) (fun t => D.tup [.int (bst (freeL n G) (csI G) k (m ||| 1 <<< t) t + csI G l t), .int (cnt (freeL n G) (csI G) k (m ||| 1 <<< t) t)]) (fun t => decide (bst (freeL n G) (csI G) k (m ||| 1 <<< t) t + csI G l t = bst (freeL n G) (csI G) (k + 1) m l)) (fun t => D.int (cnt (freeL n G) (csI G) k (m ||| 1 <<< t) t)) (by show _ ≤ 100000; omega) (fun t _ => ?_) (fun t _ _ => rfl), op1_ok, sum_map, ← hc]
        · refine ⟨_, rfl, ?_⟩
          unfold bsN ctN
          rw [hk]
        · show eqR (.int _) (.int _) = _
          rw [eqR_int]; rfl
    · subst hs
      have hno : (m, l) ∉ (standsL n G).take i := fun h => by
        obtain ⟨j, hj⟩ := List.mem_iff_getElem?.mp h
        have hji : j < i := by
          have := (List.getElem?_eq_some_iff.mp hj).1
          rw [List.length_take] at this; omega
        rw [List.getElem?_take_of_lt hji] at hj
        have := at_inj stands_nodup hj hp
        omega
      have hlt : ((standsL n G).take i).length < 100000 := by rw [List.length_take]; omega
      have e : setE (tabD n G ((standsL n G).take i)) (R.ok (encS (m, l))) (R.ok (entD n G (m, l))) = .ok (tabD n G ((standsL n G).take i ++ [(m, l)])) := by
        show (if (kindOk (encS (m, l)) 1 && decide (List.length _ < most)) = true then R.ok (D.dct 1 (putD (encS (m, l)) (entD n G (m, l)) _)) else .bad) = _
        rw [if_pos (by rw [List.length_map, decide_eq_true (show _ < most from hlt)]; rfl), put_tab hno]
        rfl
      unfold encS entD at e
      rw [e]
      rfl
  · subst hs
    rw [List.take_of_length_le (Nat.le_refl _)]
    rfl
theorem start_in (n : Nat) (G : List (Int × Int)) : ((0, -1) : Nat × Int) ∈ standsL n G := List.mem_append.mpr (.inr (List.mem_singleton.mpr rfl))
theorem fewest_ok {n : Nat} {G : List (Int × Int)} (hn : n ≤ 9) (hm : MemN n G) (hg : Goes n G) : c_fewest_jumps [ordD n G] = .ok (.int (bst (freeL n G) (csI G) n 0 (-1))) := by
  rw [e_fewest_jumps]
  unfold b_fewest_jumps
  simp only [allR_ok, allR_nil, R.ok_bind]
  rw [table_ok hn hm hg]
  have e := tab_at (n := n) (G := G) (start_in n G)
  simp only [op1_ok, negR_int, tupE_2, op2_ok]
  unfold encS at e
  rw [show idxR (tabD n G (standsL n G)) (.tup [.int 0, .int (-1)]) = _ from e]
  unfold entD
  simp only [op2_ok]
  rw [show idxR (.tup [.int (bsN n G (0, -1)), .int (ctN n G (0, -1))]) (.int 0) = .ok (.int (bsN n G (0, -1))) from rfl]
  unfold bsN
  simp only [R.ok_bind]
  rw [rem_zero]
  rfl

/-! ### all rows, as the law makes them -/
def encR (r : List Nat) : D := .tup (r.map fun t : Nat => D.int t)
def maskL (r : List Nat) : Nat := r.foldl (fun m t => m ||| 1 <<< t) 0
theorem maskL_snoc (r : List Nat) (t : Nat) : maskL (r ++ [t]) = maskL r ||| 1 <<< t := by unfold maskL; rw [List.foldl_append]; rfl
theorem mask_bits (a : Nat) : ∀ (r : List Nat) (m : Nat), (r.foldl (fun m t => m ||| 1 <<< t) m).testBit a = (m.testBit a || decide (a ∈ r))
  | [], m => by simp
  | t :: r, m => by
    rw [List.foldl_cons, mask_bits a r, bit_put, Bool.or_assoc]
    congr 1
    rw [Bool.eq_iff_iff]
    simp only [Bool.or_eq_true, decide_eq_true_eq, List.mem_cons]
    exact ⟨fun h => h.imp_left Eq.symm, fun h => h.imp_left Eq.symm⟩
theorem mask_bit (r : List Nat) (a : Nat) : (maskL r).testBit a = decide (a ∈ r) := by unfold maskL; rw [mask_bits]; simp
def lvl (n : Nat) (G : List (Int × Int)) : Nat → List (List Nat)
  | 0 => [[]]
  | k + 1 => (lvl n G k).flatMap fun r => (freeL n G (maskL r)).map fun t => r ++ [t]
theorem lvl_rows (n : Nat) (G : List (Int × Int)) : ∀ j k : Nat, (lvl n G j).flatMap (fun r => (rowsF (freeL n G) k (maskL r)).map (r ++ ·)) = rowsF (freeL n G) (j + k) 0
  | 0, k => by
    rw [Nat.zero_add]
    show ([[]] : List (List Nat)).flatMap _ = _
    rw [List.flatMap_cons, List.flatMap_nil, List.append_nil]
    exact List.map_id _
  | j + 1, k => by
    rw [show j + 1 + k = j + (k + 1) by omega, ← lvl_rows n G j (k + 1)]
    show ((lvl n G j).flatMap fun r => (freeL n G (maskL r)).map fun t => r ++ [t]).flatMap _ = _
    rw [List.flatMap_assoc]
    congr 1
    funext r
    rw [List.flatMap_map]
    show _ = ((freeL n G (maskL r)).flatMap fun t => (rowsF (freeL n G) k (maskL r ||| 1 <<< t)).map (t :: ·)).map (r ++ ·)
    rw [List.map_flatMap]
    congr 1
    funext t
    rw [maskL_snoc, List.map_map]
    refine List.map_congr_left fun q _ => ?_
    show r ++ [t] ++ q = r ++ (t :: q)
    rw [List.append_assoc]; rfl
theorem lvl_all (n : Nat) (G : List (Int × Int)) : lvl n G n = rowsF (freeL n G) n 0 := by
  have := lvl_rows n G n 0
  rw [Nat.add_zero] at this
  rw [← this]
  show _ = (lvl n G n).flatMap fun r => [r ++ []]
  rw [show (fun r : List Nat => [r ++ []]) = fun r => [r] by funext r; rw [List.append_nil]]
  exact (List.flatMap_singleton' _).symm
theorem lvl_len (n : Nat) (G : List (Int × Int)) (hn : n ≤ 6) : ∀ k, (lvl n G k).length ≤ 6 ^ k
  | 0 => Nat.le_refl _
  | k + 1 => by
    have h := lvl_len n G hn k
    refine Nat.le_trans (fm_bound (c := 6) fun r _ => ?_) ?_
    · rw [List.length_map]; have := freeL_len n G (maskL r); omega
    · rw [Nat.pow_succ]; exact Nat.mul_le_mul_right 6 h
theorem lvl_mem {n : Nat} {G : List (Int × Int)} : ∀ {k : Nat} {r : List Nat}, r ∈ lvl n G k → r.length = k
  | 0, r, h => by
    have h : r ∈ ([[]] : List (List Nat)) := h
    rw [List.mem_singleton] at h; subst h; rfl
  | k + 1, r, h => by
    obtain ⟨q, h1, h2⟩ := List.mem_flatMap.mp h
    obtain ⟨t, _, rfl⟩ := List.mem_map.mp h2
    rw [List.length_append, lvl_mem h1]; rfl
theorem all_filter_okB {G : List (Int × Int)} (h0 : ∀ p ∈ G, 0 ≤ p.1) (r : List Nat) (t : Nat) : (G.filter fun q => decide (q.2 = (t : Int))).all (fun q => decide (q.1.toNat ∈ r)) = okB G (maskL r) t := by
  rw [Bool.eq_iff_iff, List.all_eq_true, okB_iff h0]
  constructor
  · intro h a ha
    have := h _ (List.mem_filter.mpr ⟨ha, by simp⟩)
    rw [mask_bit]
    simpa using this
  · intro h q hq
    obtain ⟨h1, h2⟩ := List.mem_filter.mp hq
    have h3 := h0 q h1
    have h2 := of_decide_eq_true h2
    have h4 := h q.1.toNat (by
      rw [Int.toNat_of_nonneg h3, ← h2]; exact h1)
    rw [mask_bit] at h4
    exact h4
/-! ### jumps, counted -/
def jpos (G : List (Int × Int)) (r : List Nat) : List Nat := (List.range (r.length - 1)).filter fun k => !decide ((((r.getD k 0 : Nat) : Int), ((r.getD (k + 1) 0 : Nat) : Int)) ∈ G)
theorem jpos_len (G : List (Int × Int)) : ∀ (t : Nat) (r : List Nat), ((jpos G (t :: r)).length : Int) = jmp (csI G) t r
  | t, [] => rfl
  | t, u :: r => by
    have ih := jpos_len G u r
    show _ = csI G t u + jmp (csI G) u r
    rw [← ih]
    unfold jpos
    rw [show (t :: u :: r).length - 1 = r.length + 1 by simp, show (u :: r).length - 1 = r.length by simp, List.range_succ_eq_map, List.filter_cons, List.filter_map]
    have e : ((fun k => !decide (((((t :: u :: r).getD k 0 : Nat) : Int), (((t :: u :: r).getD (k + 1) 0 : Nat) : Int)) ∈ G)) ∘ Nat.succ) = fun k => !decide (((((u :: r).getD k 0 : Nat) : Int), (((u :: r).getD (k + 1) 0 : Nat) : Int)) ∈ G) := by
      funext k; simp
    rw [e]
    unfold csI
    by_cases h : (((t : Nat) : Int), ((u : Nat) : Int)) ∈ G
    · simp [h, b2]
    · simp [h, b2]; omega
theorem jpos_all (G : List (Int × Int)) (r : List Nat) : ((jpos G r).length : Int) = jmp (csI G) (-1) r := by
  cases r with
  | nil => rfl
  | cons t r =>
    rw [jpos_len]
    show _ = csI G (-1) t + jmp (csI G) t r
    have : csI G (-1) t = 0 := by unfold csI; simp [b2]
    rw [this]; omega
/-! ### the pen -/
def Pen (p : D) : Prop := ∃ l b s : Int, p = .lst [.int l, .int b, .int s] ∧ 0 ≤ l ∧ 0 ≤ s ∧ s < 2147483629
theorem next_ok {s : Int} (h0 : 0 ≤ s) (h1 : s < 4294967296) : ∃ r : Int, c__law_next [.int s] = .ok (.int r) ∧ 0 ≤ r ∧ r < 2147483629 := by
  have a0 : 0 ≤ (s + 7919) % 2147483647 := Int.emod_nonneg _ (by decide)
  have a1 : (s + 7919) % 2147483647 < 2147483647 := Int.emod_lt_of_pos _ (by decide)
  have hs : small ((s + 7919) % 2147483647) = true := by unfold small; simp; omega
  have hs2 : small 48271 = true := by decide
  refine ⟨((s + 7919) % 2147483647 * ((s + 7919) % 2147483647) + 48271 * ((s + 7919) % 2147483647) + 12345) % 2147483629, ?_, Int.emod_nonneg _ (by decide), Int.emod_lt_of_pos _ (by decide)⟩
  simp [c__law_next, ap1, b__law_next, modR, addR, mulR, hs, hs2]
theorem draw_ok {p : D} {n : Int} (hp : Pen p) (h0 : 0 < n) (h1 : n < 1073741824) : ∃ (r : Int) (p' : D), c__law_draw [p, .int n] = .ok (.int r, [p']) ∧ 0 ≤ r ∧ r < n ∧ Pen p' := by
  obtain ⟨l, b, s, rfl, hl, hs0, hs1⟩ := hp
  have hfit : fitD (.int b) = true := rfl
  have hfit1 : fitD (.int 1) = true := rfl
  by_cases hb : b = 1
  · subst hb
    refine ⟨l % n, .lst [.int (l / n), .int 1, .int s], ?_, Int.emod_nonneg _ (by omega), Int.emod_lt_of_pos _ h0, _, _, _, rfl, Int.ediv_nonneg hl (by omega), hs0, hs1⟩
    simp [c__law_draw, ap2, b__law_draw, idxR, idxR0, atI, ixN, eqR, hfit1, eqD, modR, fdivR, h0, h1, setE, setR]
  · obtain ⟨r1, e1, g1, g2⟩ := next_ok hs0 (by omega)
    obtain ⟨r2, e2, g3, g4⟩ := next_ok (s := r1 + 7) (by omega) (by omega)
    refine ⟨r2 / 64 % n, .lst [.int l, .int b, .int r2], ?_, Int.emod_nonneg _ (by omega), Int.emod_lt_of_pos _ h0, _, _, _, rfl, hl, g3, g4⟩
    simp [c__law_draw, ap2, b__law_draw, idxR, idxR0, atI, ixN, eqR, hfit, hfit1, eqD, modR, fdivR, h0, h1, setE, setR, hb, e1, e2]
theorem pen_ok (c : Int) : ∃ p, c__law_pen_of [.int c] = .ok p ∧ (∃ xs, p = .lst xs) ∧ Pen p := by
  have h : small 10 = true := by decide
  have hm : 0 ≤ (if 0 - c > c then 0 - c else c) := by split <;> omega
  refine ⟨.lst [.int (if 0 - c > c then 0 - c else c), .int (b2 (decide (10 ^ 18 ≤ (if 0 - c > c then 0 - c else c)))), .int ((if 0 - c > c then 0 - c else c) % 1000003)], ?_, ⟨_, rfl⟩, _, _, _, rfl, hm, Int.emod_nonneg _ (by decide), Int.lt_trans (Int.emod_lt_of_pos _ (by decide)) (by decide)⟩
  simp [c__law_pen_of, ap1, b__law_pen_of, max2R, subR, lstE, intR, geR, powR, modR, h]
theorem cell_ok (ns : List Int) : ∃ c : Int, c__law_cell_at [.scr ns, .int 0] = .ok (.int c) := by
  cases ns with
  | nil => exact ⟨0, by simp [c__law_cell_at, ap2, b__law_cell_at, lenR]⟩
  | cons x ns => 
    refine ⟨x, ?_⟩
    have : (0 : Int) < (ns.length : Int) + 1 := by omega
    simp [c__law_cell_at, ap2, b__law_cell_at, lenR, idxR, idxR0, atI, ixN, this]

/-! ### an order that is drawn, things named at last -/
theorem names_ok {p : D} (hp : Pen p) {n : Nat} (hn : n ≤ 9) : ∃ (row : List Int) (p' : D), c__law_names_by [p, .int n] = .ok (.lst (row.map D.int), [p']) ∧ Pen p' ∧ row.Perm (ups n) := by
  rw [e__law_names_by]
  unfold b__law_names_by
  rw [op1_ok, range1_up (show n ≤ 100000 by omega)]
  have e0 : lstOf (R.ok ((List.range n).map fun k : Nat => D.int k)) = .ok (.lst ((ups n).map D.int)) := by
    unfold lstOf
    rw [R.ok_bind, if_pos (by rw [List.length_map, List.length_range]; show n ≤ 100000; omega)]
    unfold ups
    rw [List.map_map]; rfl
  rw [e0, ownR_lst, R.ok_bind, range1_up (show n ≤ 100000 by omega)]
  refine compX_go (fun r => ∃ (row : List Int) (p' : D), finR (retX r (fun s9 : D × D => [s9.1])) = .ok (.lst (row.map D.int), [p']) ∧ Pen p' ∧ row.Perm (ups n)) (fun k : Nat => D.int k) (fun i acc s => ∃ row left : List Int, acc = row.map D.int ∧ s.2 = .lst (left.map D.int) ∧ Pen s.1 ∧ (row ++ left).Perm (ups n) ∧ left.length + i = n)
    (by rw [List.length_range]; omega) ⟨[], ups n, rfl, rfl, hp, List.Perm.refl _, by rw [ups_len]; omega⟩ (fun i x acc s hx hJ => ?_) (fun ys s' h => ?_)
  · obtain ⟨row, left, rfl, e2, h1, h2, h3⟩ := hJ
    obtain ⟨s1, s2⟩ := s
    have e2 : s2 = .lst (left.map D.int) := e2
    subst e2
    have hi : i < n := by have := (List.getElem?_eq_some_iff.mp hx).1; simpa using this
    obtain ⟨r, p', e3, g1, g2, g3⟩ := draw_ok (n := (left.length : Int)) h1 (by omega) (by omega)
    obtain ⟨k, rfl⟩ := Int.eq_ofNat_of_zero_le g1
    have hk : k < left.length := by omega
    refine ⟨some (.int (left[k])), (p', .lst ((left.map D.int).eraseIdx k)), ?_, row ++ [left[k]], left.eraseIdx k, by simp, ?_, g3, ?_, ?_⟩
    · unfold turnX
      rw [R.ok_bind]
      simp only [if_true]
      have e4 : (ioX c__law_draw 0 (fun (s : D × D) => s.1) (fun (s : D × D) (d : D) => (d, s.2)) (consX (pX (op1 lenR (R.ok (D.lst (left.map D.int)))) (s1, D.lst (left.map D.int))) (fun s8 => (R.ok ([], s8))))) = .ok (.int k, (p', .lst (left.map D.int))) := by
        rw [op1_ok, lenR_lst, List.length_map]
        simp only [pX_ok, consX_ok, R.ok_bind]
        rw [ioX_ok (d := .int k) (o := p') (by exact e3)]
      rw [popL_ok (S := D × D) (gt := fun s => s.2) (up := fun s d => (s.1, d)) (k := k) (xs := left.map D.int) (xs0 := left.map D.int) (y := .int (left[k])) rfl e4 rfl (by omega) (by simp [hk])]
      rfl
    · show D.lst ((left.map D.int).eraseIdx k) = _
      rw [erase_map]
    · rw [List.append_assoc]
      refine List.Perm.trans (List.Perm.append_left row ?_) h2
      exact erase_perm (List.getElem?_eq_getElem hk)
    · rw [List.length_eraseIdx_of_lt hk]; omega
  · obtain ⟨row, left, e1, e2, h1, h2, h3⟩ := h
    rw [List.length_range] at h3
    have hl : left = [] := List.eq_nil_of_length_eq_zero (by omega)
    subst hl
    rw [List.append_nil] at h2
    refine ⟨row, s'.1, ?_, h1, h2⟩
    subst e1
    rfl
theorem closed_ok {row : List Int} (hn : row.Nodup) (h0 : ∀ x ∈ row, 0 ≤ x) (hl : row.length ≤ 9) {ps : List (Int × Int)} (hs : ∀ p ∈ ps, p ∈ upP row) :
    ∃ G : List (Int × Int), c__law_closed [.lst (ps.map encP)] = .ok (.lst (G.map encP)) ∧ G.Nodup ∧ (∀ p ∈ G, p ∈ upP row) ∧ sortP G = G ∧ (∀ p ∈ ps, p ∈ G) ∧ Clo G ∧ (∀ (T : List (Int × Int)), Clo T → (∀ p ∈ ps, p ∈ T) → ∀ p ∈ G, p ∈ T) := by
  have hnn : ∀ p ∈ upP row, 0 ≤ p.1 ∧ 0 ≤ p.2 := fun p hp => ⟨h0 _ (mem_upP_mem hp).1, h0 _ (mem_upP_mem hp).2⟩
  rw [e__law_closed]
  unfold b__law_closed
  simp only [R.ok_bind, sortSetB_enc (U := upP row) hs (Nat.le_trans (up9 hl) (by omega)) (fun p hp => hnn p (hs p hp)), op1_ok, negR_int]
  refine closure_fin9 (out := finP) (ex := fun G => .lst (G.map encP)) hn h0 hl hs (by decide) (fun F z => ?_) (fun F z hF hFs hFn => ?_) (fun G y => ?_)
  · simp; rfl
  · simp only [op1_ok, lenR_lst, R.ok_bind, listR, seqsR_lst, List.length_map]
    refine for_go encP (fun k s => s = .lst ((F ++ ((F.take k).flatMap fun p => (F.filter fun q => decide (q.1 = p.2)).map fun q => (p.1, q.2))).map encP)) (by simp) (fun i p s hp hs => ?_) (fun s hs => ?_)
    · subst hs
      refine ⟨_, ?_, rfl⟩
      rw [take_succ_of hp, List.flatMap_append]
      simp only [encP, un2_tup]
      rw [compE_map (enc := encP) (fun q => decide (q.1 = p.2)) (fun q => encP (p.1, q.2)) (by show _ ≤ 100000; omega) (fun q hq => by simp [encP]; rfl) (fun q hq _ => by simp [encP])]
      have h1 := fm_take (fun p : Int × Int => (F.filter fun q => decide (q.1 = p.2)).map fun q => (p.1, q.2)) F (i + 1)
      rw [take_succ_of hp, List.flatMap_append, List.length_append] at h1
      have h2 : (F.flatMap fun p : Int × Int => (F.filter fun q => decide (q.1 = p.2)).map fun q => (p.1, q.2)) = moreP F := rfl
      rw [h2] at h1
      simp only [List.flatMap_cons, List.flatMap_nil, List.append_nil, List.length_map] at h1
      rw [op2_ok, add_lst (by simp only [List.length_map, List.length_append]; omega)]
      simp [List.map_map, Function.comp_def]
    · subst hs
      rw [List.take_of_length_le (Nat.le_refl _)]
      have e : (F.flatMap fun p => (F.filter fun q => decide (q.1 = p.2)).map fun q => (p.1, q.2)) = moreP F := rfl
      rw [e, sortSetB_enc (U := upP row) hFs (Nat.le_trans (up9 hl) (by omega)) hFn]
      rfl
  · rfl
theorem drop_mem {α : Type} {row : List α} {i j : Nat} {y : α} (h : row[j]? = some y) (hij : i ≤ j) : y ∈ row.drop i := by
  refine List.mem_iff_getElem?.mpr ⟨j - i, ?_⟩
  rw [List.getElem?_drop, show i + (j - i) = j by omega]
  exact h
theorem order_ok {p : D} (hp : Pen p) {m : Nat} (hm : m ≤ 9) : ∃ (n : Nat) (G : List (Int × Int)) (p' : D), c__law_order_by [p, .int m] = .ok (ordD n G, [p']) ∧ n ≤ m ∧ Pen p' ∧ Ord n G := by
  rw [e__law_order_by]
  unfold b__law_order_by
  obtain ⟨r1, p1, e1, g1, g2, g3⟩ := draw_ok (n := (m : Int) + 1) hp (by omega) (by omega)
  obtain ⟨n, rfl⟩ := Int.eq_ofNat_of_zero_le g1
  obtain ⟨row, p2, e2, g4, hperm⟩ := names_ok g3 (n := n) (by omega)
  obtain ⟨r3, p3, e3, g5, g6, g7⟩ := draw_ok (n := 4) g4 (by omega) (by omega)
  have hidx : ∃ th : Nat, 1 ≤ th ∧ th ≤ 9 ∧ idxR (.lst [.int 2, .int 3, .int 5, .int 9]) (.int r3) = .ok (.int th) := by
    have : r3 = 0 ∨ r3 = 1 ∨ r3 = 2 ∨ r3 = 3 := by omega
    rcases this with rfl | rfl | rfl | rfl
    · exact ⟨2, by omega, by omega, rfl⟩
    · exact ⟨3, by omega, by omega, rfl⟩
    · exact ⟨5, by omega, by omega, rfl⟩
    · exact ⟨9, by omega, by omega, rfl⟩
  obtain ⟨th, ht1, ht2, hidx⟩ := hidx
  have hlen : row.length = n := by rw [hperm.length_eq, ups_len]
  have hnd : row.Nodup := hperm.nodup_iff.mpr (ups_nodup n)
  simp only [op2_ok, addR_int, pX_ok, consX_ok, R.ok_bind]
  rw [ioX_ok (d := .int n) (o := p1) (by exact e1)]
  simp only [bindX_ok, pX_ok, consX_ok, R.ok_bind]
  rw [ioX_ok (d := .lst (row.map D.int)) (o := p2) (by exact e2)]
  simp only [bindX_ok, pX_ok, consX_ok, R.ok_bind]
  rw [show lstE [R.ok (D.int 2), R.ok (.int 3), R.ok (.int 5), R.ok (.int 9)] = .ok (.lst [.int 2, .int 3, .int 5, .int 9]) from rfl]
  simp only [opX_ok, pX_ok, consX_ok, R.ok_bind]
  rw [ioX_ok (d := .int r3) (o := p3) (by exact e3)]
  simp only [R.ok_bind]
  rw [hidx]
  simp only [bindX_ok, pX_ok, lstE_nil, R.ok_bind]
  rw [range1_up (show n ≤ 100000 by omega)]
  simp only [R.ok_bind]
  refine for_gen (fun r => ∃ (n : Nat) (G : List (Int × Int)) (p' : D), finR r = .ok (ordD n G, [p']) ∧ n ≤ m ∧ Pen p' ∧ Ord n G) (fun k : Nat => D.int k)
    (fun i s => ∃ acc : List (Int × Int), s.2 = .lst (acc.map encP) ∧ Pen s.1 ∧ (∀ q ∈ acc, q ∈ upP row) ∧ acc.length ≤ 9 * i) ⟨[], rfl, g7, (fun q h => nomatch h), Nat.le_refl _⟩ (fun i x s hx hJ => ?_) (fun s hJ => ?_)
  · obtain ⟨acc, e, hpen, hacc, hal⟩ := hJ
    obtain ⟨s1, s2⟩ := s
    have e : s2 = .lst (acc.map encP) := e
    subst e
    have hi : i < n := by have := (List.getElem?_eq_some_iff.mp hx).1; simpa using this
    have hx' : x = i := by
      rw [List.getElem?_range hi] at hx
      exact (Option.some.inj hx).symm
    subst hx'
    obtain ⟨y, hy⟩ : ∃ y, row[x]? = some y := ⟨row[x]'(by omega), by simp [hlen, hi]⟩
    dsimp only
    rw [range1_up (show x ≤ 100000 by omega)]
    refine compX_go (fun r => ∃ s', bindX (r.bind fun q => pX (addR (D.lst (acc.map encP)) q.1) q.2) (fun v22 s23 => R.ok (Fl.nx (S := D × D) (B := D × D) (s23, v22))) = R.ok (Fl.nx s') ∧ ∃ acc : List (Int × Int), s'.2 = .lst (acc.map encP) ∧ Pen s'.1 ∧ (∀ q ∈ acc, q ∈ upP row) ∧ acc.length ≤ 9 * (x + 1)) (fun k : Nat => D.int k) (fun k ys s => ∃ more : List (Int × Int), ys = more.map encP ∧ Pen s ∧ (∀ q ∈ more, q ∈ upP row) ∧ more.length ≤ k)
      (by rw [List.length_range]; omega) ⟨[], rfl, hpen, (fun q h => nomatch h), Nat.le_refl _⟩ (fun k u ys s hu hJ => ?_) (fun ys s' hJ => ?_)
    · obtain ⟨more, rfl, h1, h2, h3⟩ := hJ
      obtain ⟨r, p5, e5, g11, g12, g13⟩ := draw_ok (n := (th : Int)) h1 (by omega) (by omega)
      have hk : k < x := by have := (List.getElem?_eq_some_iff.mp hu).1; simpa using this
      have hu' : u = k := by
        rw [List.getElem?_range hk] at hu
        exact (Option.some.inj hu).symm
      subst hu'
      obtain ⟨z, hz⟩ : ∃ z, row[u]? = some z := ⟨row[u]'(by omega), by simp [show u < row.length by omega]⟩
      unfold turnX
      dsimp only
      rw [ioX_ok (d := .int r) (o := p5) (by exact e5)]
      simp only [opXT_ok, R.ok_bind, eqR_int, pXT_ok]
      by_cases h0 : r = 0
      · refine ⟨some (encP (z, y)), p5, ?_, more ++ [(z, y)], by simp, g13, fun q hq => ?_, by simp; omega⟩
        · rw [if_pos (by rw [h0]; rfl), idx_lst (i := u) (x := .int z) (by rw [List.getElem?_map, hz]; rfl), idx_lst (i := x) (x := .int y) (by rw [List.getElem?_map, hy]; rfl), tupE_2]
          rfl
        · rcases List.mem_append.mp hq with h | h
          · exact h2 q h
          · rw [List.mem_singleton] at h
            subst h
            exact upP_at hz (drop_mem hy (by omega))
      · refine ⟨none, p5, ?_, more, by simp, g13, h2, by omega⟩
        rw [if_neg (by simpa using h0)]
    · obtain ⟨more, h1, h2, h3, h4⟩ := hJ
      refine ⟨(s', .lst ((acc ++ more).map encP)), ?_, acc ++ more, rfl, h2, fun q hq => ?_, ?_⟩
      · rw [h1]
        simp only [R.ok_bind]
        rw [add_lst (by rw [List.length_range] at h4; simp only [List.length_map]; omega)]
        simp only [pX_ok, bindX_ok, List.map_append]
      · rcases List.mem_append.mp hq with h | h
        · exact hacc q h
        · exact h3 q h
      · rw [List.length_range] at h4
        rw [List.length_append]; omega
  · obtain ⟨acc, e, hpen, hacc, hal⟩ := hJ
    obtain ⟨s1, s2⟩ := s
    have e : s2 = .lst (acc.map encP) := e
    subst e
    have h0 : ∀ x ∈ row, 0 ≤ x := fun x hx => (mem_ups.mp (hperm.mem_iff.mp hx)).1
    obtain ⟨G, k1, k2, k3, k4, k5, k6, k7⟩ := closed_ok hnd h0 (by omega) hacc
    refine ⟨n, G, s1, ?_, by omega, hpen, ⟨row, hperm, k3⟩, k4, k6⟩
    simp only [allR_ok, allR_nil, R.ok_bind]
    rw [k1]
    rfl

/-! ### the least number of jumps, by all rows -/
theorem rows_len {n : Nat} {G : List (Int × Int)} (hn : n ≤ 6) : (rowsF (freeL n G) n 0).length ≤ 46656 := by
  rw [← lvl_all]
  have h1 := lvl_len n G hn n
  have h2 : 6 ^ n ≤ 6 ^ 6 := Nat.pow_le_pow_right (by decide) hn
  have h3 : (6 : Nat) ^ 6 = 46656 := rfl
  omega
theorem row_len {n : Nat} {G : List (Int × Int)} {r : List Nat} (h : r ∈ rowsF (freeL n G) n 0) : r.length = n := by
  rw [← lvl_all] at h; exact lvl_mem h
theorem rows_some {n : Nat} {G : List (Int × Int)} (hO : Ord n G) : rowsF (freeL n G) n 0 ≠ [] := rows_ne (fun p hp => (hO.mem hp).1.1) (goes_ok hO) (low_zero n G) rem_zero
/-! ### how many rows, how many with the fewest jumps, the first of them -/
def rcD (n : Nat) (G : List (Int × Int)) (m : Nat) : D := .int ((rowsF (freeL n G) (remN n m) m).length : Nat)
def rtD (n : Nat) (G : List (Int × Int)) (L : List Nat) : D := .dct 0 (L.map fun m : Nat => (D.int m, rcD n G m))
theorem look_rt {n : Nat} {G : List (Int × Int)} {m : Nat} : ∀ {L : List Nat}, m ∈ L → lookD (.int m) (L.map fun m : Nat => (D.int m, rcD n G m)) = some (rcD n G m)
  | [], h => nomatch h
  | t :: L, h => by
    rw [List.map_cons]
    unfold lookD
    rw [show sameD (D.int t) (.int m) = ((t : Int) == (m : Int)) by simp [sameD]]
    by_cases e : t = m
    · subst e; simp
    · rw [if_neg (by simp only [beq_iff_eq]; omega)]
      exact look_rt (by rcases List.mem_cons.mp h with h | h; exact absurd h.symm e; exact h)
theorem put_rt {n : Nat} {G : List (Int × Int)} {m : Nat} {L : List Nat} (h : m ∉ L) : putD (.int m) (rcD n G m) (L.map fun m : Nat => (D.int m, rcD n G m)) = (L ++ [m]).map fun m : Nat => (D.int m, rcD n G m) := by
  unfold putD
  rw [if_neg, List.map_append]
  · rfl
  · rw [List.any_map, List.any_eq_true]
    rintro ⟨t, ht, e⟩
    have e : sameD (D.int t) (.int m) = true := e
    rw [show sameD (D.int t) (.int m) = ((t : Int) == (m : Int)) by simp [sameD], beq_iff_eq] at e
    have : t = m := by omega
    exact h (this ▸ ht)
theorem rt_at {n : Nat} {G : List (Int × Int)} {L : List Nat} {m : Nat} (h : m ∈ L) : idxR (rtD n G L) (.int m) = .ok (rcD n G m) := by
  show (if kindOk (.int m) 0 = true then ofO (lookD (.int m) (L.map fun m : Nat => (D.int m, rcD n G m))) else R.bad) = _
  rw [look_rt h]; rfl
theorem rmany_ok {n : Nat} {G : List (Int × Int)} (hn : n ≤ 9) (hm : MemN n G) (hg : Goes n G) : c_rows_many [ordD n G] = .ok (.int ((rowsF (freeL n G) n 0).length : Nat)) := by
  have h0 : ∀ p ∈ G, 0 ≤ p.1 := fun p hp => (hm p hp).1.1
  have hp : 2 ^ n ≤ 2 ^ 9 := Nat.pow_le_pow_right (by decide) hn
  have hp0 : 0 < 2 ^ n := Nat.two_pow_pos n
  rw [e_rows_many]
  unfold b_rows_many
  simp only [allR_ok, allR_nil, R.ok_bind]
  rw [waits_ok hn hm]
  simp only [op2_ok, op1_ok, negR_int, idx_ord0, R.ok_bind, lstE_nil, ownR_dct]
  rw [shl_one n (by omega), op2_ok, Nat.one_shiftLeft, subR_int, show ((2 ^ n : Nat) : Int) - 1 = ((2 ^ n - 1 : Nat) : Int) by omega, op2_ok, rangeD_down0 (by omega), R.ok_bind]
  refine for_gen (fun r => finP r = _) (xs := down0 (2 ^ n - 1)) (fun m : Nat => D.int m) (fun i s => s = rtD n G (((down0 (2 ^ n - 1)).take i).filter (lowB n G))) rfl (fun i m s hp hs => ?_) (fun s hs => ?_)
  · subst hs
    refine ⟨_, ?_, rfl⟩
    have hmk := mem_down0.mp (List.mem_of_getElem? hp)
    rw [take_succ_of hp, List.filter_append]
    rw [lower_ok G (show n ≤ 1000 by omega), op1_ok, truT_bl]
    cases hlow : lowB n G m with
    | false =>
      rw [ifE_false, seqR_nx, List.filter_cons_of_neg (by rw [hlow]; exact Bool.false_ne_true), List.filter_nil, List.append_nil]
    | true =>
      rw [ifE_true, free_ok G (show n ≤ 1000 by omega), R.ok_bind, List.filter_cons_of_pos hlow, List.filter_nil]
      have hval : (ifE (op2 neR (R.ok (D.lst ((freeL n G m).map fun t : Nat => D.int t))) (R.ok (.lst []))) (op1 sumR (compE (((R.ok (D.lst ((freeL n G m).map fun t : Nat => D.int t)))).bind seqsR) yesT (fun x8 => (op2 idxR (R.ok (rtD n G (((down0 (2 ^ n - 1)).take i).filter (lowB n G)))) (op2 borR (R.ok (D.int m)) (op2 shlR (R.ok (.int 1)) (R.ok x8))))))) (R.ok (.int 1))) = .ok (rcD n G m) := by
        by_cases hf : freeL n G m = []
        · have hr : remN n m = 0 := Classical.byContradiction fun h => hg m hlow h hf
          rw [hf]
          unfold rcD
          rw [hr]
          rfl
        · obtain ⟨k, hk⟩ : ∃ k, remN n m = k + 1 := ⟨remN n m - 1, by
            have : remN n m ≠ 0 := fun h => hf (rem_none h)
            omega⟩
          have hfl := freeL_len n G m
          rw [op2_ok, ne_nil hf, ifE_true, R.ok_bind, seqsR_lst]
          rw [compE_all (xs := freeL n G m) (fun t : Nat => D.int t) (fun t => D.int ((rowsF (freeL n G) k (m ||| 1 <<< t)).length : Nat)) (by show _ ≤ 100000; omega) (fun t ht => ?_)]
          · rw [op1_ok, sum_map]
            unfold rcD
            rw [hk]
            congr 2
            show _ = (((freeL n G m).flatMap fun t => (rowsF (freeL n G) k (m ||| 1 <<< t)).map (t :: ·)).length : Int)
            rw [List.length_flatMap]
            simp only [List.length_map]
            clear hfl hk hf
            induction freeL n G m with
            | nil => rfl
            | cons a L ih => rw [List.map_cons, List.sum_cons, List.map_cons, List.sum_cons, ih, Int.natCast_add]
          · have h1 := mem_free.mp ht
            have h2 := lt_put h1.2.1
            have h3 := put_lt (n := n) (show m < 2 ^ n by omega) h1.1
            have hin2 : m ||| 1 <<< t ∈ ((down0 (2 ^ n - 1)).take i).filter (lowB n G) := by
              refine List.mem_filter.mpr ⟨ahead_in (down0_desc _) hp (mem_down0.mpr (by omega)) (by omega) (by omega), low_put h0 hlow ht⟩
            rw [op2_ok, shl_one t (by omega), op2_ok, bor_nat, op2_ok, rt_at hin2]
            unfold rcD
            have := rem_put (n := n) h1.1 h1.2.1
            rw [show remN n (m ||| 1 <<< t) = k by omega]
      simp only [op2_ok, R.ok_bind] at hval
      rw [hval]
      have hno : m ∉ ((down0 (2 ^ n - 1)).take i).filter (lowB n G) := fun h => by
        obtain ⟨j, hj⟩ := List.mem_iff_getElem?.mp (List.mem_filter.mp h).1
        have hji : j < i := by
          have := (List.getElem?_eq_some_iff.mp hj).1
          rw [List.length_take] at this; omega
        rw [List.getElem?_take_of_lt hji] at hj
        have := at_inj (List.Pairwise.imp (fun {a b} h => by omega) (down0_desc (2 ^ n - 1))) hj hp
        omega
      have hlt : (((down0 (2 ^ n - 1)).take i).filter (lowB n G)).length < 100000 := by
        have h1 := List.length_filter_le (lowB n G) ((down0 (2 ^ n - 1)).take i)
        have h2 : ((down0 (2 ^ n - 1)).take i).length ≤ (down0 (2 ^ n - 1)).length := by rw [List.length_take]; omega
        have h3 : (down0 (2 ^ n - 1)).length = 2 ^ n - 1 + 1 := by unfold down0; rw [List.length_map, List.length_range]
        omega
      have e : setE (rtD n G (((down0 (2 ^ n - 1)).take i).filter (lowB n G))) (R.ok (.int m)) (R.ok (rcD n G m)) = .ok (rtD n G (((down0 (2 ^ n - 1)).take i).filter (lowB n G) ++ [m])) := by
        show (if (kindOk (.int m) 0 && decide (List.length _ < most)) = true then R.ok (D.dct 0 (putD (.int m) (rcD n G m) _)) else .bad) = _
        rw [if_pos (by rw [List.length_map, decide_eq_true (show _ < most from hlt)]; rfl), put_rt hno]
        rfl
      rw [e]
      rfl
  · subst hs
    rw [List.take_of_length_le (Nat.le_refl _)]
    have : 0 ∈ (down0 (2 ^ n - 1)).filter (lowB n G) := List.mem_filter.mpr ⟨mem_down0.mpr (by omega), low_zero n G⟩
    have e := rt_at (n := n) (G := G) this
    rw [show ((0 : Nat) : Int) = 0 from rfl] at e
    rw [e]
    unfold rcD
    rw [rem_zero]
    rfl
theorem first_ok {n : Nat} {G : List (Int × Int)} (hn : n ≤ 9) (hm : MemN n G) (hg : Goes n G) : c_first_fewest [ordD n G] = .ok (encR (ffL (freeL n G) (csI G) n 0 (-1))) := by
  have h0 : ∀ p ∈ G, 0 ≤ p.1 := fun p hp => (hm p hp).1.1
  rw [e_first_fewest]
  unfold b_first_fewest
  simp only [allR_ok, allR_nil, R.ok_bind]
  rw [table_ok hn hm hg, waits_ok hn hm]
  simp only [op1_ok, negR_int, tupE_2, lstE_nil, ownR_lst, R.ok_bind, un2_tup]
  refine while_gen (fun r => finP r = _) (fun k s => ∃ (r0 : List Nat) (m : Nat) (l : Int), s = (.lst (r0.map fun t : Nat => D.int t), .int m, .int l) ∧ r0.length + k = n ∧ (m, l) ∈ standsL n G ∧ remN n m = k ∧ r0 ++ ffL (freeL n G) (csI G) k m l = ffL (freeL n G) (csI G) n 0 (-1)) n (by omega)
    ⟨[], 0, -1, rfl, by simp, start_in n G, rem_zero, rfl⟩ (fun k s hJ => ?_) (fun s hJ => ?_) (fun s hJ => ?_)
  · obtain ⟨r0, m, l, rfl, h1, h2, h3, h4⟩ := hJ
    have hlow := stands_low h2
    have hlt := (stands_lt h2).1
    have hlow : lowB n G m = true := hlow
    have hlt : m < 2 ^ n := hlt
    have hf := hg m hlow (by omega)
    have hrem : ∀ t ∈ freeL n G m, remN n (m ||| 1 <<< t) = k := fun t ht => by
      have := rem_put (n := n) (mem_free.mp ht).1 (mem_free.mp ht).2.1
      omega
    have hrow : ∀ t ∈ freeL n G m, rowsF (freeL n G) k (m ||| 1 <<< t) ≠ [] := fun t ht => rows_ne h0 hg (low_put h0 hlow ht) (hrem t ht)
    have hnx := nxt_ne (cs := csI G) (l := l) hf hrow
    have ent : idxR (tabD n G (standsL n G)) (.tup [.int m, .int l]) = .ok (entD n G (m, l)) := tab_at h2
    refine ⟨?_, ?_⟩
    · simp only [op1_ok, lenR_lst, List.length_map, idx_ord0, op2_ok, ltR_int]
      rw [decide_eq_true (by omega)]
    · simp only [tupE_2, op2_ok, ent]
      rw [show idxR (entD n G (m, l)) (.int 0) = .ok (.int (bsN n G (m, l))) from rfl]
      simp only [R.ok_bind, free_ok G (show n ≤ 1000 by omega), seqsR_lst]
      have hfl := freeL_len n G m
      rw [compE_map (xs := freeL n G m) (fun t : Nat => D.int t) (fun t => decide (bst (freeL n G) (csI G) k (m ||| 1 <<< t) t + csI G l t = bst (freeL n G) (csI G) (k + 1) m l)) (fun t : Nat => D.int t) (by show _ ≤ 100000; omega) (fun t ht => ?_) (fun _ _ _ => rfl)]
      · simp only [R.ok_bind]
        have hhd : ((freeL n G m).filter fun t => decide (bst (freeL n G) (csI G) k (m ||| 1 <<< t) t + csI G l t = bst (freeL n G) (csI G) (k + 1) m l)) = nxtT (freeL n G) (csI G) k m l := rfl
        rw [hhd]
        obtain ⟨t0, L0, hnl⟩ : ∃ t0 L0, nxtT (freeL n G) (csI G) k m l = t0 :: L0 := by
          cases hq : nxtT (freeL n G) (csI G) k m l with
          | nil => exact absurd hq hnx
          | cons a b => exact ⟨a, b, rfl⟩
        have ht0 : t0 ∈ freeL n G m := by
          have : t0 ∈ nxtT (freeL n G) (csI G) k m l := by rw [hnl]; exact List.mem_cons_self
          exact (List.mem_filter.mp this).1
        have hft := mem_free.mp ht0
        rw [hnl, List.map_cons, show idxR (D.lst (D.int t0 :: L0.map fun t : Nat => D.int t)) (.int 0) = .ok (.int t0) from idx_lst (i := 0) rfl]
        simp only [R.ok_bind]
        rw [shl_one t0 (by omega), op2_ok, bor_nat, R.ok_bind, appendE_ok (by rw [List.length_map]; omega), R.ok_bind]
        refine ⟨_, rfl, r0 ++ [t0], m ||| 1 <<< t0, (t0 : Int), by rw [List.map_append]; rfl, by rw [List.length_append]; show r0.length + 1 + k = n; omega, stands_put h0 hlow hlt ht0, hrem t0 ht0, ?_⟩
        rw [← h4, List.append_assoc]
        congr 1
        show _ = (nxtT (freeL n G) (csI G) k m l).headD 0 :: ffL (freeL n G) (csI G) k (m ||| 1 <<< (nxtT (freeL n G) (csI G) k m l).headD 0) ((nxtT (freeL n G) (csI G) k m l).headD 0 : Nat)
        rw [hnl]
        rfl
      · have h5 := mem_free.mp ht
        rw [ahead_ok (by omega) (stands_put h0 hlow hlt ht)]
        rw [op2_ok]
        rw [show idxR (D.tup [.int (bsN n G (m ||| 1 <<< t, (t : Int)) + csI G l t), .int (ctN n G (m ||| 1 <<< t, (t : Int)))]) (.int 0) = .ok (.int (bsN n G (m ||| 1 <<< t, (t : Int)) + csI G l t)) from rfl, op2_ok, eqR_int]
        unfold bsN
        dsimp only
        rw [hrem t ht, h3]
        rfl
  · obtain ⟨r0, m, l, rfl, h1, h2, h3, h4⟩ := hJ
    simp only [op1_ok, lenR_lst, List.length_map, idx_ord0, op2_ok, ltR_int]
    rw [decide_eq_false (by omega)]
  · obtain ⟨r0, m, l, rfl, h1, h2, h3, h4⟩ := hJ
    have h4 : r0 ++ [] = _ := h4
    rw [List.append_nil] at h4
    rw [← h4]
    rfl

/-! ### what is a row, by the program -/
theorem pwhole_gen {d : D} (h : isaOk d = true) : c_is_whole [d] = .ok (.bl (isInt d && !isBool d)) := by
  rw [e_is_whole]
  unfold b_is_whole isaR
  simp only [op1_ok, h, if_true, blE_ok, truT_bl, notT_ok]
  cases d <;> rfl
theorem pwholes {xs : List D} (hl : xs.length ≤ 1000) (h : ∀ x ∈ xs, isaOk x = true) : op1 allQ (compE (R.ok xs) yesT (fun x1 => c_is_whole [x1])) = .ok (.bl (xs.all fun d => isInt d && !isBool d)) := by
  have := compE_all (xs := xs) (fun d : D => d) (fun d => D.bl (isInt d && !isBool d)) (f := fun x1 => c_is_whole [x1]) (by show _ ≤ 100000; omega) (fun d hd => by exact pwhole_gen (h d hd))
  rw [List.map_id'] at this
  rw [this, op1_ok, all_map]
theorem begins_no {o : D} {xs : List D} (hl : xs.length ≤ 1000) (h : ∀ x ∈ xs, isaOk x = true) (hn : (xs.all fun d => isInt d && !isBool d) = false) : c_begins [o, .tup xs] = .ok (.bl false) := by
  rw [e_begins]
  unfold b_begins
  have h1 : isaR isTuple (.tup xs) = .ok true := rfl
  simp only [op1_ok, h1, blE_ok, truT_bl, notT_ok, R.ok_bind, seqsR_tup, allR_ok, allR_nil]
  have := pwholes hl h
  rw [this, hn]
  rfl
theorem begins_nt {o d : D} (h : isaOk d = true) (hn : isTuple d = false) : c_begins [o, d] = .ok (.bl false) := by
  rw [e_begins]
  unfold b_begins
  have h1 : isaR isTuple d = .ok false := by unfold isaR; rw [h, hn]; rfl
  simp only [op1_ok, h1, blE_ok, truT_bl, notT_ok, Bool.not_false, orT_true, ifE_true]
  rfl
def begB (n : Nat) (G : List (Int × Int)) : Nat → List Nat → Bool
  | _, [] => true
  | m, t :: r => decide (t ∈ freeL n G m) && begB n G (m ||| 1 <<< t) r
theorem beg_loop {n : Nat} {G : List (Int × Int)} (hn : n ≤ 1000) : ∀ (r : List Nat) (m : Nat), (∀ t ∈ r, t ≤ 1000) → finP (aftR (forR (r.map fun t : Nat => D.int t) (.int m) fun d8 s5 => (ifE (op2 notInR (R.ok d8) (c_free_by [needsD n G, s5])) (endR (R.ok (.rt (.bl false) []))) ((op2 borR (R.ok s5) (shlR (.int 1) d8)).bind fun v10 => (R.ok (.nx v10)))))
      fun _ => (R.ok (.rt (.bl true) []) : R (Fl Unit Empty))) = .ok (.bl (begB n G m r))
  | [], m, _ => rfl
  | t :: r, m, h => by
    have ht := h t List.mem_cons_self
    have ih := beg_loop (G := G) hn r (m ||| 1 <<< t) fun u hu => h u (List.mem_cons_of_mem _ hu)
    rw [List.map_cons]
    unfold forR
    dsimp only
    rw [free_ok G hn, op2_ok]
    unfold notInR
    rw [in_nats_l, R.ok_bind, shl_one t ht, op2_ok, bor_nat]
    unfold begB
    cases hd : decide (t ∈ freeL n G m) with
    | false => rfl
    | true =>
      simp only [Bool.not_true, ifE_false, R.ok_bind, Bool.true_and]
      exact ih
theorem begins_ok {n : Nat} {G : List (Int × Int)} (hn : n ≤ 9) (hm : MemN n G) {r : List Nat} (hl : r.length ≤ 1000) (h : ∀ t ∈ r, t ≤ 1000) : c_begins [ordD n G, encR r] = .ok (.bl (begB n G 0 r)) := by
  rw [e_begins]
  unfold b_begins encR
  have h1 : isaR isTuple (.tup (r.map fun t : Nat => D.int t)) = .ok true := rfl
  simp only [op1_ok, h1, blE_ok, truT_bl, notT_ok, R.ok_bind, seqsR_tup, allR_ok, allR_nil]
  have h2 := pwholes (xs := r.map fun t : Nat => D.int t) (by rw [List.length_map]; exact hl) (fun x hx => by
    obtain ⟨t, _, rfl⟩ := List.mem_map.mp hx; rfl)
  have h3 : ((r.map fun t : Nat => D.int t).all fun d => isInt d && !isBool d) = true := by
    rw [List.all_map, List.all_eq_true]; exact fun _ _ => rfl
  simp only [op1] at h2 ⊢
  rw [h2, h3]
  simp only [R.ok_bind, truT_bl, notT_ok, Bool.not_true, orT_ok, Bool.or_false, ifE_false]
  rw [waits_ok hn hm]
  simp only [R.ok_bind]
  exact beg_loop (by omega) r 0 h
theorem is_row_nt {n : Nat} {G : List (Int × Int)} {d : D} (h : c_begins [ordD n G, d] = .ok (.bl false)) : c_is_row [ordD n G, d] = .ok (.bl false) := by
  rw [e_is_row]
  unfold b_is_row
  simp only [allR_ok, allR_nil, R.ok_bind, h, andV, truT_bl]
  rfl
theorem is_row_ok {n : Nat} {G : List (Int × Int)} (hn : n ≤ 9) (hm : MemN n G) {r : List Nat} (hl : r.length ≤ 1000) (h : ∀ t ∈ r, t ≤ 1000) : c_is_row [ordD n G, encR r] = .ok (.bl (begB n G 0 r && decide (r.length = n))) := by
  rw [e_is_row]
  unfold b_is_row
  have hlen : lenR (encR r) = .ok (.int r.length) := by unfold encR; rw [lenR_tup, List.length_map]
  simp only [allR_ok, allR_nil, R.ok_bind, begins_ok hn hm hl h, andV, truT_bl, op1_ok, hlen, op2_ok, idx_ord0, eqR_nat, blE_ok]
  cases begB n G 0 r with
  | false => rfl
  | true =>
    show finP (R.ok (.rt (.bl (r.length == n)) [])) = _
    rw [finP_rt, Bool.true_and]
    congr 2
theorem check_row_no {n : Nat} {G : List (Int × Int)} {d : D} (h : c_is_row [ordD n G, d] = .ok (.bl false)) : c_check_row [ordD n G, d] = .ex (.exc 1 []) := by
  rw [e_check_row]
  unfold b_check_row
  simp only [allR_ok, allR_nil, R.ok_bind, h, op1_ok, truT_bl, notT_ok]
  rfl
theorem check_row_yes {n : Nat} {G : List (Int × Int)} {d : D} (h : c_is_row [ordD n G, d] = .ok (.bl true)) : c_check_row [ordD n G, d] = .ok .non := by
  rw [e_check_row]
  unfold b_check_row
  simp only [allR_ok, allR_nil, R.ok_bind, h, op1_ok, truT_bl, notT_ok]
  rfl
theorem rows_beg {n : Nat} {G : List (Int × Int)} : ∀ {k m : Nat} {r : List Nat}, r ∈ rowsF (freeL n G) k m → begB n G m r = true
  | 0, m, r, h => by
    have h : r ∈ ([[]] : List (List Nat)) := h
    rw [List.mem_singleton] at h; subst h; rfl
  | k + 1, m, r, h => by
    obtain ⟨t, ht, q, hq, rfl⟩ := mem_rows_succ.mp h
    unfold begB
    rw [decide_eq_true ht, rows_beg hq]; rfl
theorem rows_things {n : Nat} {G : List (Int × Int)} : ∀ {k m : Nat} {r : List Nat}, r ∈ rowsF (freeL n G) k m → r.Nodup ∧ ∀ t ∈ r, t < n ∧ m.testBit t = false
  | 0, m, r, h => by
    have h : r ∈ ([[]] : List (List Nat)) := h
    rw [List.mem_singleton] at h; subst h; exact ⟨List.Pairwise.nil, fun t h => nomatch h⟩
  | k + 1, m, r, h => by
    obtain ⟨t, ht, q, hq, rfl⟩ := mem_rows_succ.mp h
    obtain ⟨h1, h2⟩ := rows_things hq
    have h3 := mem_free.mp ht
    refine ⟨List.nodup_cons.mpr ⟨fun hin => ?_, h1⟩, fun u hu => ?_⟩
    · have := (h2 t hin).2
      rw [bit_put] at this
      simp at this
    · rcases List.mem_cons.mp hu with rfl | hu
      · exact ⟨h3.1, h3.2.1⟩
      · refine ⟨(h2 u hu).1, ?_⟩
        have := (h2 u hu).2
        rw [bit_put] at this
        exact (Bool.or_eq_false_iff.mp this).1
theorem rows_perm {n : Nat} {G : List (Int × Int)} {r : List Nat} (h : r ∈ rowsF (freeL n G) n 0) : r.Perm (List.range n) := by
  obtain ⟨h1, h2⟩ := rows_things h
  have hl : r.length = n := row_len h
  refine (List.perm_ext_iff_of_nodup h1 List.nodup_range).mpr fun a => ⟨fun ha => List.mem_range.mpr (h2 a ha).1, fun ha => ?_⟩
  exact eq_of_len h1 List.nodup_range (fun x hx => List.mem_range.mpr (h2 x hx).1) (by rw [List.length_range, hl]; exact Nat.le_refl _) a ha

/-! ### slips -/
def slipD : Option (Nat × Nat) → D
  | none => .non
  | some q => .tup [.int q.1, .int q.2]
def onL (n : Nat) (G : List (Int × Int)) (pre : List Nat) (l : Nat) : List Nat := (freeL n G (maskL pre)).filter fun t => decide (((l : Int), (t : Int)) ∈ G)
def slipAt (n : Nat) (G : List (Int × Int)) (r : List Nat) (k : Nat) : Option (Nat × Nat) := if (!decide ((((r.getD k 0 : Nat) : Int), ((r.getD (k + 1) 0 : Nat) : Int)) ∈ G)) = true then (onL n G (r.take (k + 1)) (r.getD k 0)).head?.map fun t => (k + 1, t) else none
def slipF (n : Nat) (G : List (Int × Int)) (r : List Nat) : Option (Nat × Nat) := (List.range (r.length - 1)).findSome? (slipAt n G r)
def slipO (n : Nat) (G : List (Int × Int)) (r : List Nat) (k : Nat) : Option D := (slipAt n G r k).map fun q => slipD (some q)
theorem findSome_map {α β γ : Type} (f : β → γ) (g : α → Option β) : ∀ xs : List α, xs.findSome? (fun x => (g x).map f) = (xs.findSome? g).map f
  | [] => rfl
  | x :: xs => by
    rw [List.findSome?_cons, List.findSome?_cons]
    cases g x with
    | some b => rfl
    | none => exact findSome_map f g xs
theorem slip_end (n : Nat) (G : List (Int × Int)) (r : List Nat) : finP (aftR (match (List.range (r.length - 1)).findSome? (slipO n G r) with | some d => .ok (.rt d []) | none => .ok (.nx ())) fun _ : Unit => (R.ok (.rt .non []) : R (Fl Unit Empty))) = .ok (slipD (slipF n G r)) := by
  have : (List.range (r.length - 1)).findSome? (slipO n G r) = (slipF n G r).map fun q => slipD (some q) := findSome_map _ _ _
  rw [this]
  cases slipF n G r <;> rfl
theorem mask_of_ok {r : List Nat} (h : ∀ t ∈ r, t ≤ 1000) : c_mask_of [encR r] = .ok (.int (maskL r : Nat)) := by
  rw [e_mask_of]
  unfold b_mask_of encR
  simp only [R.ok_bind, seqsR_tup]
  refine for_gen (fun x => finP x = _) (fun t : Nat => D.int t) (fun i s => s = .int (maskL (r.take i) : Nat)) rfl (fun i t s ht hs => ?_) (fun s hs => ?_)
  · subst hs
    refine ⟨_, ?_, rfl⟩
    rw [op2_ok, shl_one t (h t (List.mem_of_getElem? ht)), op2_ok, bor_nat, take_succ_of ht, maskL_snoc]
    rfl
  · subst hs
    rw [List.take_of_length_le (Nat.le_refl _)]
    rfl
theorem on_by_ok {n : Nat} {G : List (Int × Int)} (hn : n ≤ 1000) (m l : Nat) : c_on_by [ordD n G, needsD n G, .int m, .int l] = .ok (.lst (((freeL n G m).filter fun t : Nat => decide (((l : Int), (t : Int)) ∈ G)).map fun t : Nat => D.int t)) := by
  rw [e_on_by]
  unfold b_on_by
  simp only [allR_ok, allR_nil, R.ok_bind, free_ok G hn, seqsR_lst]
  have hl := freeL_len n G m
  rw [compE_map (xs := freeL n G m) (fun t : Nat => D.int t) (fun t : Nat => decide (((l : Int), (t : Int)) ∈ G)) (fun t : Nat => D.int t) (by show _ ≤ 100000; omega) (fun t _ => ?_) (fun _ _ _ => rfl)]
  · rfl
  · simp only [op2_ok, geR_int, tupE_2, idx_ord1, in_pairs]
    rw [decide_eq_true (show (0 : Int) ≤ l by omega), andT_true]
theorem row_at {r : List Nat} {k : Nat} (hk : k < r.length) : idxR (encR r) (.int k) = .ok (.int (r.getD k 0 : Nat)) := by
  unfold encR
  rw [idx_tup (i := k) (x := .int (r.getD k 0 : Nat))]
  rw [List.getElem?_map, List.getElem?_eq_getElem hk, List.getD_eq_getElem?_getD, List.getElem?_eq_getElem hk]
  rfl
theorem slip_by_ok {n : Nat} {G : List (Int × Int)} (hn : n ≤ 9) (hm : MemN n G) {r : List Nat} (hl : r.length ≤ 1000) (h : ∀ t ∈ r, t ≤ 1000) : c_slip_by [ordD n G, encR r] = .ok (slipD (slipF n G r)) := by
  rw [e_slip_by]
  unfold b_slip_by
  have hlen : lenR (encR r) = .ok (.int r.length) := by unfold encR; rw [lenR_tup, List.length_map]
  simp only [allR_ok, allR_nil, R.ok_bind]
  rw [waits_ok hn hm]
  simp only [R.ok_bind, op1_ok, hlen, op2_ok]
  rw [range2_up (by omega) (by omega) (by omega) (by omega), show ((r.length : Int) - 1).toNat = r.length - 1 by omega]
  simp only [R.ok_bind]
  rw [for_first (B := Unit) (fun k : Nat => D.int (1 + k)) (slipO n G r) (fun k hk => ?_)]
  · exact slip_end n G r
  · have hk := List.mem_range.mp hk
    have e0 : (1 : Int) + (k : Int) - 1 = ((k : Nat) : Int) := by omega
    have e1 : (1 : Int) + (k : Int) = ((k + 1 : Nat) : Int) := by omega
    have hcut : cutE (R.ok (encR r)) none (some (R.ok (.int ((k + 1 : Nat) : Int)))) = .ok (encR (r.take (k + 1))) := by
      unfold encR
      rw [cutE_to_tup, take_map]
    have r0 := row_at (show k < r.length by omega)
    have r1 := row_at (show k + 1 < r.length by omega)
    have e2 : ((k + 1 : Nat) : Int) - 1 = ((k : Nat) : Int) := by omega
    simp only [op2_ok, subR_int, e1, e2, r0, r1, hcut, allR_ok, allR_nil, R.ok_bind, cost_ok, eqR_int]
    rw [mask_of_ok (fun t ht => h t (List.mem_of_mem_take ht))]
    simp only [R.ok_bind, allR_ok, allR_nil, on_by_ok (show n ≤ 1000 by omega), lstE_nil, op2_ok, ne_nats_l]
    unfold slipO slipAt csI
    rw [decide_eq_true (show (0 : Int) ≤ ((r.getD k 0 : Nat) : Int) by omega), Bool.true_and]
    cases hd : decide ((((r.getD k 0 : Nat) : Int), ((r.getD (k + 1) 0 : Nat) : Int)) ∈ G) with
    | true => rfl
    | false =>
      simp only [Bool.not_false, if_true]
      show seqR (ifE (.ok true) _ _) _ = _
      rw [ifE_true]
      unfold onL
      cases hf : ((freeL n G (maskL (r.take (k + 1)))).filter fun t : Nat => decide ((((r.getD k 0 : Nat) : Int), (t : Int)) ∈ G)) with
      | nil => rfl
      | cons t L =>
        rw [List.map_cons, show idxR (D.lst (D.int t :: L.map fun t : Nat => D.int t)) (.int 0) = .ok (.int t) from idx_lst (i := 0) rfl]
        rfl
theorem last_at {r : List Nat} {k : Nat} (hk : k < r.length) : idxR (encR (r.take (k + 1))) (.int (-1)) = .ok (.int (r.getD k 0 : Nat)) := by
  have hlen : (r.take (k + 1)).length = k + 1 := by rw [List.length_take]; omega
  unfold encR
  show (ofO (atI ((r.take (k + 1)).map fun t : Nat => D.int t) (-1))) = _
  unfold atI ixN
  rw [List.length_map, hlen, if_neg (by omega), if_pos (by omega)]
  show ofO (((r.take (k + 1)).map fun t : Nat => D.int t)[(-1 + ((k + 1 : Nat) : Int)).toNat]?) = _
  rw [show (-1 + ((k + 1 : Nat) : Int)).toNat = k by omega, List.getElem?_map, List.getElem?_take_of_lt (by omega), List.getElem?_eq_getElem hk, List.getD_eq_getElem?_getD, List.getElem?_eq_getElem hk]
  rfl
theorem eqD_encR (a b : List Nat) : eqD (encR a) (encR b) = decide (a = b) := by
  have h := eq_ints (a.map fun t : Nat => (t : Int)) (b.map fun t : Nat => (t : Int))
  rw [List.map_map, List.map_map] at h
  have e : eqD (encR a) (encR b) = eqDs (a.map fun t : Nat => D.int t) (b.map fun t : Nat => D.int t) := by unfold encR; simp [eqD]
  rw [e, show (a.map fun t : Nat => D.int t) = List.map (D.int ∘ fun t : Nat => (t : Int)) a from rfl, show (b.map fun t : Nat => D.int t) = List.map (D.int ∘ fun t : Nat => (t : Int)) b from rfl, h]
  refine decide_eq_decide.mpr ⟨fun q => ?_, fun q => by rw [q]⟩
  exact List.map_inj_right (fun x y hxy => by omega) |>.mp q
theorem rows_fit (L : List (List Nat)) : fitD (.lst (L.map encR)) = true := by
  have h1 : plainDs (L.map encR) = true := by
    induction L with
    | nil => rfl
    | cons a L ih => 
      have hp : plainD (encR a) = true := fit_plain (nats_fit_t a)
      rw [List.map_cons]; unfold plainDs; rw [ih, hp]; rfl
  have h2 : depDs (L.map encR) ≤ 1 := by
    clear h1
    induction L with
    | nil => simp [depDs]
    | cons a L ih =>
      rw [List.map_cons]; unfold depDs
      have h3 : depD (encR a) = 1 := by
        unfold encR depD
        have := dep_ints (a.map fun t : Nat => (t : Int))
        rw [List.map_map] at this
        rw [show (a.map fun t : Nat => D.int t) = List.map (D.int ∘ fun t : Nat => (t : Int)) a from rfl, this]
      omega
  unfold fitD plainD depD
  rw [h1]
  simp; omega
theorem any_row (s : List Nat) : ∀ L : List (List Nat), (L.map encR).any (fun y => eqD y (encR s)) = decide (s ∈ L)
  | [] => by simp
  | q :: L => by
    rw [List.map_cons, List.any_cons, any_row s L, eqD_encR, Bool.eq_iff_iff]
    simp only [Bool.or_eq_true, decide_eq_true_eq, List.mem_cons]
    exact ⟨fun h => h.imp_left Eq.symm, fun h => h.imp_left Eq.symm⟩
theorem in_rows (s : List Nat) (L : List (List Nat)) : inR (encR s) (.lst (L.map encR)) = .ok (decide (s ∈ L)) := by
  show (if (fitD (encR s) && fitD (.lst (L.map encR))) = true then R.ok ((L.map encR).any fun y => eqD y (encR s)) else _) = _
  rw [rows_fit, show fitD (encR s) = true from nats_fit_t s, if_pos (show (true && true) = true from rfl), any_row]
theorem beg_rows {n : Nat} {G : List (Int × Int)} : ∀ {s : List Nat} {m : Nat}, begB n G m s = true → s ∈ rowsF (freeL n G) s.length m
  | [], m, _ => by
    show ([] : List Nat) ∈ ([[]] : List (List Nat))
    simp
  | t :: s, m, h => by
    unfold begB at h
    obtain ⟨h1, h2⟩ := Bool.and_eq_true_iff.mp h
    exact mem_rows_succ.mpr ⟨t, of_decide_eq_true h1, s, beg_rows h2, rfl⟩
theorem row_iff {n : Nat} {G : List (Int × Int)} (s : List Nat) : (begB n G 0 s && decide (s.length = n)) = decide (s ∈ rowsF (freeL n G) n 0) := by
  rw [Bool.eq_iff_iff, Bool.and_eq_true, decide_eq_true_eq, decide_eq_true_eq]
  constructor
  · rintro ⟨h1, h2⟩
    have := beg_rows h1
    rw [h2] at this; exact this
  · exact fun h => ⟨rows_beg h, row_len h⟩

/-! ### what is refused -/
def NoRow (n : Nat) (G : List (Int × Int)) (d : D) : Prop := c_is_row [ordD n G, d] = .ok (.bl false)
theorem norow_len {n : Nat} {G : List (Int × Int)} (hn : n ≤ 9) (hm : MemN n G) {s : List Nat} (hl : s.length ≤ 1000) (h : ∀ t ∈ s, t ≤ 1000) (hne : s.length ≠ n) : NoRow n G (encR s) := by
  show c_is_row [ordD n G, encR s] = _
  rw [is_row_ok hn hm hl h, decide_eq_false hne, Bool.and_false]
theorem norow_nt {n : Nat} {G : List (Int × Int)} {d : D} (h : isaOk d = true) (hn : isTuple d = false) : NoRow n G d := is_row_nt (begins_nt h hn)
theorem norow_odd {n : Nat} {G : List (Int × Int)} {xs : List D} (hl : xs.length ≤ 1000) (h : ∀ x ∈ xs, isaOk x = true) (hn : (xs.all fun d => isInt d && !isBool d) = false) : NoRow n G (.tup xs) := is_row_nt (begins_no hl h hn)
theorem int_isa {l : List Nat} : ∀ x ∈ l.map (fun t : Nat => D.int t), isaOk x = true := fun x hx => by
  obtain ⟨t, _, rfl⟩ := List.mem_map.mp hx; rfl
theorem cut_last {r : List Nat} : cutE (R.ok (encR r)) none (some (R.ok (.int (-1)))) = .ok (encR (r.take (r.length - 1))) := by
  unfold encR
  show R.ok (D.tup (cutL (r.map fun t : Nat => D.int t) none (some (-1)))) = _
  unfold cutL sIx
  have : (-1 : Int) < 0 := by omega
  simp only [this, if_true, List.length_map, List.drop_zero, Nat.sub_zero]
  rw [take_map, show (-1 + (r.length : Int)).toNat = r.length - 1 by omega]
theorem no_slip {n : Nat} {G : List (Int × Int)} {r : List Nat} (h : ∀ j < r.length - 1, slipAt n G r j = none) : slipF n G r = none := by
  unfold slipF
  exact List.findSome?_eq_none_iff.mpr fun j hj => h j (List.mem_range.mp hj)

/-! ### gone on -/
def stepR (r : List Nat) (p t : Nat) : List Nat := r.take p ++ [t] ++ (r.drop p).filter fun x => !decide (x = t)
inductive GoneN (n : Nat) (G : List (Int × Int)) : Nat → List Nat → List Nat → Prop
  | stop {r : List Nat} : slipF n G r = none → GoneN n G 0 r r
  | go {r r' : List Nat} {q : Nat × Nat} {d : Nat} : slipF n G r = some q → GoneN n G d (stepR r q.1 q.2) r' → GoneN n G (d + 1) r r'
theorem slip_some {n : Nat} {G : List (Int × Int)} {r : List Nat} {q : Nat × Nat} (h : slipF n G r = some q) : ∃ k, k < r.length - 1 ∧ q.1 = k + 1 ∧ q.2 ∈ onL n G (r.take (k + 1)) (r.getD k 0) ∧ ∀ j < k, slipAt n G r j = none := by
  obtain ⟨k, h1, h2, h3⟩ := findSome_range h
  unfold slipAt at h2
  split at h2
  · cases hh : (onL n G (r.take (k + 1)) (r.getD k 0)).head? with
    | none => rw [hh] at h2; cases h2
    | some t =>
      rw [hh] at h2
      cases h2
      exact ⟨k, h1, rfl, List.mem_of_mem_head? hh, h3⟩
  · cases h2
theorem perm_filter {t : Nat} : ∀ {L : List Nat}, L.Nodup → t ∈ L → (t :: L.filter fun x => !decide (x = t)).Perm L
  | [], _, h => by cases h
  | x :: L, hn, h => by
    obtain ⟨h1, h2⟩ := List.nodup_cons.mp hn
    by_cases e : x = t
    · subst e
      rw [List.filter_cons_of_neg (by simp), List.filter_eq_self.mpr (fun y hy => by
        have : y ≠ x := fun e => h1 (e ▸ hy)
        simp [this])]
    · rw [List.filter_cons_of_pos (by simp [e])]
      have ht : t ∈ L := by rcases List.mem_cons.mp h with h | h; exact absurd h.symm e; exact h
      exact (List.Perm.swap x t _).trans (List.Perm.cons x (perm_filter h2 ht))
theorem step_perm {n : Nat} {G : List (Int × Int)} {r : List Nat} (hp : r.Perm (List.range n)) {q : Nat × Nat} (h : slipF n G r = some q) : (stepR r q.1 q.2).Perm (List.range n) := by
  obtain ⟨k, h1, h2, h3, _⟩ := slip_some h
  have hnd : r.Nodup := hp.nodup_iff.mpr List.nodup_range
  have hf := mem_free.mp (List.mem_filter.mp h3).1
  have hnin : q.2 ∉ r.take (k + 1) := by
    have := hf.2.1
    rw [mask_bit] at this
    simpa using this
  have hin : q.2 ∈ r := hp.mem_iff.mpr (List.mem_range.mpr hf.1)
  rw [← List.take_append_drop (k + 1) r] at hin
  have hd : q.2 ∈ r.drop (k + 1) := by
    rcases List.mem_append.mp hin with h | h
    · exact absurd h hnin
    · exact h
  unfold stepR
  rw [h2, List.append_assoc]
  refine List.Perm.trans (List.Perm.append_left _ (perm_filter (hnd.sublist (List.drop_sublist _ _)) hd)) ?_
  rw [List.take_append_drop]
  exact hp
theorem getD_take {r s : List Nat} {p k : Nat} (h : k < p) (hp : p ≤ r.length) : (r.take p ++ s).getD k 0 = r.getD k 0 := by
  rw [List.getD_eq_getElem?_getD, List.getD_eq_getElem?_getD, List.getElem?_append_left (by rw [List.length_take]; omega), List.getElem?_take_of_lt h]
theorem step_later {n : Nat} {G : List (Int × Int)} {r : List Nat} {q q2 : Nat × Nat} (h : slipF n G r = some q) (h' : slipF n G (stepR r q.1 q.2) = some q2) : q.1 < q2.1 := by
  obtain ⟨k, h1, h2, h3, h4⟩ := slip_some h
  obtain ⟨k2, h5, h6, h7⟩ := findSome_range h'
  have hq2 : q2.1 = k2 + 1 := by
    unfold slipAt at h6
    split at h6
    · cases hh : (onL n G ((stepR r q.1 q.2).take (k2 + 1)) ((stepR r q.1 q.2).getD k2 0)).head? with
      | none => rw [hh] at h6; cases h6
      | some t => rw [hh] at h6; cases h6; rfl
    · cases h6
  rw [h2, hq2]
  refine Nat.succ_lt_succ (Classical.byContradiction fun hlt => ?_)
  have hst : stepR r q.1 q.2 = r.take (k + 1) ++ ([q.2] ++ (r.drop (k + 1)).filter fun x => !decide (x = q.2)) := by
    unfold stepR; rw [h2, List.append_assoc]
  by_cases e : k2 = k
  · subst e
    unfold slipAt at h6
    have e1 : (stepR r q.1 q.2).getD k2 0 = r.getD k2 0 := by rw [hst]; exact getD_take (by omega) (by omega)
    have e2 : (stepR r q.1 q.2).getD (k2 + 1) 0 = q.2 := by
      rw [hst, List.getD_eq_getElem?_getD, List.getElem?_append_right (by rw [List.length_take]; omega), List.length_take, show k2 + 1 - min (k2 + 1) r.length = 0 by omega]
      rfl
    have hg : (((r.getD k2 0 : Nat) : Int), ((q.2 : Nat) : Int)) ∈ G := of_decide_eq_true (List.mem_filter.mp h3).2
    rw [e1, e2, decide_eq_true hg] at h6
    cases h6
  · have hk2 : k2 < k := by omega
    have e1 : (stepR r q.1 q.2).getD k2 0 = r.getD k2 0 := by rw [hst]; exact getD_take (by omega) (by omega)
    have e2 : (stepR r q.1 q.2).getD (k2 + 1) 0 = r.getD (k2 + 1) 0 := by rw [hst]; exact getD_take (by omega) (by omega)
    have e3 : (stepR r q.1 q.2).take (k2 + 1) = r.take (k2 + 1) := by
      rw [hst, List.take_append_of_le_length (by rw [List.length_take]; omega), List.take_take, Nat.min_eq_left (by omega)]
    have := h4 k2 hk2
    unfold slipAt at this h6
    rw [e1, e2, e3] at h6
    rw [this] at h6
    cases h6
theorem gone_some {n : Nat} {G : List (Int × Int)} : ∀ (m : Nat) (r : List Nat), r.Perm (List.range n) → (∀ q, slipF n G r = some q → n ≤ q.1 + m) → ∃ d r', d ≤ m ∧ GoneN n G d r r'
  | m, r, hp, hm => by
    cases h : slipF n G r with
    | none => exact ⟨0, r, Nat.zero_le _, .stop h⟩
    | some q =>
      have hle := hm q h
      obtain ⟨k, h1, h2, _, _⟩ := slip_some h
      have hlen : r.length = n := by rw [hp.length_eq, List.length_range]
      cases m with
      | zero => omega
      | succ m =>
        obtain ⟨d, r', h3, h4⟩ := gone_some m (stepR r q.1 q.2) (step_perm hp h) fun q2 h' => by
          have := step_later h h'
          omega
        exact ⟨d + 1, r', by omega, .go h h4⟩
theorem gone_perm {n : Nat} {G : List (Int × Int)} {d : Nat} {r r' : List Nat} (h : GoneN n G d r r') : r.Perm (List.range n) → r'.Perm (List.range n) := by
  induction h with
  | stop _ => exact fun h => h
  | go h1 _ ih => exact fun hp => ih (step_perm hp h1)
theorem gone_loop {n : Nat} {G : List (Int × Int)} {c : D × D → R Bool} {f : D × D → R (Fl (D × D) (D × D))} (hc : ∀ r q, c (encR r, slipD q) = .ok q.isSome)
    (hf : ∀ (r : List Nat) (q : Nat × Nat), r.Perm (List.range n) → slipF n G r = some q → f (encR r, slipD (some q)) = .ok (.nx (encR (stepR r q.1 q.2), slipD (slipF n G (stepR r q.1 q.2))))) {d : Nat} {r r' : List Nat} (h : GoneN n G d r r') :
    ∀ fuel, d < fuel → r.Perm (List.range n) → whileR fuel (encR r, slipD (slipF n G r)) c f = .ok (.nx (encR r', .non)) := by
  induction h with
  | stop h1 =>
    intro fuel hfu _
    cases fuel with
    | zero => omega
    | succ fuel =>
      unfold whileR
      rw [hc, h1]
      rfl
  | go h1 h2 ih =>
    intro fuel hfu hp
    cases fuel with
    | zero => omega
    | succ fuel =>
      unfold whileR
      rw [hc, h1]
      simp only [Option.isSome_some, R.ok_bind, if_true]
      rw [hf _ _ hp h1]
      exact ih fuel (by omega) (step_perm hp h1)
theorem rest_ok {r : List Nat} (hr : r.length ≤ 1000) (p t : Nat) : compE (R.ok ((r.drop p).map fun t : Nat => D.int t)) (fun x8 => neR x8 (.int t)) (fun x8 => R.ok x8) = .ok (.lst (((r.drop p).filter fun x => !decide (x = t)).map fun t : Nat => D.int t)) := by
  rw [compE_map (xs := r.drop p) (fun t : Nat => D.int t) (fun x => !decide (x = t)) (fun t : Nat => D.int t) (by rw [List.length_drop]; show _ ≤ 100000; omega) (fun x _ => ?_) (fun _ _ _ => rfl)]
  rw [neR_int]
  congr 2
  rw [Bool.eq_iff_iff]
  simp only [beq_iff_eq, decide_eq_true_eq]
  omega
theorem cat_ok {r : List Nat} (hr : r.length ≤ 1000) (p t : Nat) : op2 addR (op2 addR (R.ok (encR (r.take p))) (R.ok (.tup [.int t]))) (R.ok (.tup (((r.drop p).filter fun x => !decide (x = t)).map fun t : Nat => D.int t))) = .ok (encR (stepR r p t)) := by
  unfold encR stepR
  have h1 := List.length_filter_le (fun x => !decide (x = t)) (r.drop p)
  rw [List.length_drop] at h1
  rw [op2_ok, add_tup (by simp only [List.length_map, List.length_take, List.length_cons, List.length_nil]; omega), op2_ok, add_tup (by simp only [List.length_append, List.length_map, List.length_take, List.length_cons, List.length_nil]; omega)]
  simp only [List.map_append, List.map_cons, List.map_nil]

/-! ### rows that begin so -/
def lastI : Int → List Nat → Int
  | l, [] => l
  | _, t :: s => lastI (t : Int) s
def putL (m : Nat) (s : List Nat) : Nat := s.foldl (fun m t => m ||| 1 <<< t) m
theorem jmp_app (cs : Int → Nat → Int) : ∀ (l : Int) (s q : List Nat), jmp cs l (s ++ q) = jmp cs l s + jmp cs (lastI l s) q
  | l, [], q => by show jmp cs l q = 0 + jmp cs l q; omega
  | l, t :: s, q => by
    show cs l t + jmp cs t (s ++ q) = cs l t + jmp cs t s + jmp cs (lastI t s) q
    rw [jmp_app cs t s q]; omega
theorem pre_mem {n : Nat} {G : List (Int × Int)} : ∀ {s : List Nat} {k m : Nat} {r : List Nat}, (r ∈ rowsF (freeL n G) (s.length + k) m ∧ r.take s.length = s) ↔ (begB n G m s = true ∧ ∃ q ∈ rowsF (freeL n G) k (putL m s), r = s ++ q)
  | [], k, m, r => by
    show (r ∈ rowsF (freeL n G) (0 + k) m ∧ r.take 0 = []) ↔ (true = true ∧ ∃ q ∈ rowsF (freeL n G) k m, r = q)
    rw [Nat.zero_add]
    simp
  | t :: s, k, m, r => by
    rw [show (t :: s).length + k = (s.length + k) + 1 by simp; omega, mem_rows_succ]
    unfold begB
    rw [Bool.and_eq_true, decide_eq_true_eq]
    constructor
    · rintro ⟨⟨u, hu, q, hq, rfl⟩, h⟩
      rw [List.length_cons, List.take_succ_cons] at h
      injection h with h1 h2
      subst h1
      obtain ⟨h3, q', h4, h5⟩ := pre_mem.mp ⟨hq, h2⟩
      exact ⟨⟨hu, h3⟩, q', h4, by rw [h5]; rfl⟩
    · rintro ⟨⟨hu, h3⟩, q', h4, rfl⟩
      obtain ⟨h5, h6⟩ := (pre_mem (k := k)).mpr ⟨h3, q', h4, rfl⟩
      exact ⟨⟨t, hu, s ++ q', h5, rfl⟩, by rw [List.length_cons, List.cons_append, List.take_succ_cons, h6]⟩
theorem put_stands {n : Nat} {G : List (Int × Int)} (h0 : ∀ p ∈ G, 0 ≤ p.1) : ∀ {s : List Nat} {m : Nat} {l : Int}, (m, l) ∈ standsL n G → begB n G m s = true → (putL m s, lastI l s) ∈ standsL n G ∧ remN n (putL m s) + s.length = remN n m
  | [], m, l, h, _ => ⟨h, rfl⟩
  | t :: s, m, l, h, hb => by
    unfold begB at hb
    obtain ⟨h1, h2⟩ := Bool.and_eq_true_iff.mp hb
    have h1 := of_decide_eq_true h1
    have hl : lowB n G m = true := stands_low h
    have hm : m < 2 ^ n := (stands_lt h).1
    obtain ⟨g1, g2⟩ := put_stands h0 (stands_put h0 hl hm h1) h2
    have hf := mem_free.mp h1
    have := rem_put (n := n) hf.1 hf.2.1
    refine ⟨g1, ?_⟩
    show remN n (putL (m ||| 1 <<< t) s) + (s.length + 1) = _
    omega
theorem beg_len {n : Nat} {G : List (Int × Int)} (h0 : ∀ p ∈ G, 0 ≤ p.1) {s : List Nat} (hb : begB n G 0 s = true) : (maskL s, lastI (-1) s) ∈ standsL n G ∧ remN n (maskL s) + s.length = n := by
  have := put_stands h0 (start_in n G) hb
  rw [rem_zero] at this
  exact this
/-- the least number of jumps of the rows that begin so -/
def fromI (n : Nat) (G : List (Int × Int)) (s : List Nat) : Int := jmp (csI G) (-1) s + bsN n G (maskL s, lastI (-1) s)
def preF (n : Nat) (G : List (Int × Int)) (s : List Nat) : List (List Nat) := (rowsF (freeL n G) n 0).filter fun r => decide (r.take s.length = s)
theorem pre_iff {n : Nat} {G : List (Int × Int)} (h0 : ∀ p ∈ G, 0 ≤ p.1) {s r : List Nat} (hb : begB n G 0 s = true) : r ∈ preF n G s ↔ ∃ q ∈ rowsF (freeL n G) (remN n (maskL s)) (maskL s), r = s ++ q := by
  have hl := (beg_len h0 hb).2
  unfold preF
  rw [List.mem_filter, decide_eq_true_eq, show rowsF (freeL n G) n 0 = rowsF (freeL n G) (s.length + remN n (maskL s)) 0 by rw [show s.length + remN n (maskL s) = n by omega], pre_mem]
  exact ⟨fun h => h.2, fun h => ⟨hb, h⟩⟩
theorem pre_beg {n : Nat} {G : List (Int × Int)} {s r : List Nat} (hr : r ∈ rowsF (freeL n G) n 0) (h : r.take s.length = s) : begB n G 0 s = true := by
  have hl := row_len hr
  have hs : s.length ≤ n := by
    rw [← h, List.length_take]; omega
  have : r ∈ rowsF (freeL n G) (s.length + (n - s.length)) 0 ∧ r.take s.length = s := ⟨by rw [show s.length + (n - s.length) = n by omega]; exact hr, h⟩
  exact (pre_mem.mp this).1
theorem pre_ne {n : Nat} {G : List (Int × Int)} (hO : Ord n G) {s : List Nat} (hb : begB n G 0 s = true) : preF n G s ≠ [] := by
  have h0 : ∀ p ∈ G, 0 ≤ p.1 := fun p hp => (hO.mem hp).1.1
  have hl := (beg_len h0 hb)
  have := rows_ne h0 (goes_ok hO) (stands_low hl.1) rfl
  obtain ⟨q, hq⟩ := List.exists_mem_of_ne_nil _ this
  exact List.ne_nil_of_mem ((pre_iff h0 hb).mpr ⟨q, hq, rfl⟩)
theorem pre_min {n : Nat} {G : List (Int × Int)} (hO : Ord n G) {s : List Nat} (hb : begB n G 0 s = true) : minI ((preF n G s).map (jmp (csI G) (-1))) = fromI n G s := by
  have h0 : ∀ p ∈ G, 0 ≤ p.1 := fun p hp => (hO.mem hp).1.1
  have hl := (beg_len h0 hb)
  have hne := rows_ne h0 (goes_ok hO) (stands_low hl.1) rfl
  have h1 := minI_min (xs := (preF n G s).map (jmp (csI G) (-1))) (by simpa using pre_ne hO hb)
  refine h1.eq ?_
  have h2 := bst_min (cs := csI G) (l := lastI (-1) s) hne
  obtain ⟨q, hq, hq2⟩ := List.mem_map.mp h2.1
  refine ⟨List.mem_map.mpr ⟨s ++ q, (pre_iff h0 hb).mpr ⟨q, hq, rfl⟩, ?_⟩, fun y hy => ?_⟩
  · rw [jmp_app, hq2]; rfl
  · obtain ⟨r, hr, rfl⟩ := List.mem_map.mp hy
    obtain ⟨q', hq', rfl⟩ := (pre_iff h0 hb).mp hr
    rw [jmp_app]
    have h3 : bst (freeL n G) (csI G) (remN n (maskL s)) (maskL s) (lastI (-1) s) ≤ jmp (csI G) (lastI (-1) s) q' := h2.2 _ (List.mem_map_of_mem hq')
    show jmp (csI G) (-1) s + bst (freeL n G) (csI G) (remN n (maskL s)) (maskL s) (lastI (-1) s) ≤ _
    omega
/-! ### what the program says -/
theorem jsum (G : List (Int × Int)) : ∀ (t : Nat) (r : List Nat), ((List.range ((t :: r).length - 1)).map fun k => csI G ((t :: r).getD k 0 : Nat) ((t :: r).getD (k + 1) 0)).sum = jmp (csI G) t r
  | t, [] => rfl
  | t, u :: r => by
    have ih := jsum G u r
    show _ = csI G t u + jmp (csI G) u r
    rw [← ih, show (t :: u :: r).length - 1 = r.length + 1 by simp, show (u :: r).length - 1 = r.length by simp, List.range_succ_eq_map, List.map_cons, List.map_map, List.sum_cons]
    rfl
theorem jumps_in_ok {n : Nat} {G : List (Int × Int)} {r : List Nat} (hr : r.length ≤ 1000) : c_jumps_in [ordD n G, encR r] = .ok (.int (jmp (csI G) (-1) r)) := by
  rw [e_jumps_in]
  unfold b_jumps_in
  have hat : ∀ k < r.length, idxR (encR r) (.int k) = .ok (.int (r.getD k 0 : Nat)) := fun k hk => by
    unfold encR
    rw [idx_tup (i := k) (x := .int (r.getD k 0 : Nat))]
    rw [List.getElem?_map, List.getElem?_eq_getElem hk, List.getD_eq_getElem?_getD, List.getElem?_eq_getElem hk]
    rfl
  have hlen : lenR (encR r) = .ok (.int r.length) := by unfold encR; rw [lenR_tup, List.length_map]
  simp only [op1_ok, op2_ok, hlen, subR_int]
  rw [range2_up (by omega) (by omega) (by omega) (by omega), show ((r.length : Int) - 1).toNat = r.length - 1 by omega]
  rw [compE_all (fun k : Nat => D.int (1 + k)) (fun k : Nat => D.int (csI G (r.getD k 0 : Nat) (r.getD (k + 1) 0))) (by rw [List.length_range]; show _ ≤ 100000; omega) (fun k hk => ?_)]
  · rw [op1_ok, sum_map]
    cases r with
    | nil => rfl
    | cons t r =>
      rw [jsum]
      have e9 : jmp (csI G) (-1) (t :: r) = csI G (-1) t + jmp (csI G) t r := rfl
      rw [e9]
      have : csI G (-1) t = 0 := by unfold csI; simp [b2]
      rw [this, show (0 : Int) + jmp (csI G) t r = jmp (csI G) t r by omega]
      rfl
  · have hk := List.mem_range.mp hk
    simp only [op2_ok, subR_int]
    rw [show (1 : Int) + k - 1 = ((k : Nat) : Int) by omega, hat k (by omega), show (1 : Int) + k = ((k + 1 : Nat) : Int) by omega, hat (k + 1) (by omega)]
    simp only [allR_ok, allR_nil, R.ok_bind]
    exact cost_ok _ _
theorem last_snoc : ∀ (l : Int) (s : List Nat) (t : Nat), lastI l (s ++ [t]) = t
  | _, [], _ => rfl
  | _, u :: s, t => last_snoc u s t
theorem last_idx {s : List Nat} (h : s ≠ []) : idxR (encR s) (.int (-1)) = .ok (.int (lastI (-1) s)) := by
  have hp : 0 < s.length := List.length_pos_iff.mpr h
  have e : s = s.take (s.length - 1) ++ [s[s.length - 1]] := by
    have := List.take_append_getElem (l := s) (i := s.length - 1) (by omega)
    rw [show s.length - 1 + 1 = s.length by omega, List.take_length] at this
    exact this.symm
  show (ofO (atI (s.map fun t : Nat => D.int t) (-1))) = _
  unfold atI ixN
  rw [if_neg (by omega), List.length_map, if_pos (by omega), show ((-1 : Int) + (s.length : Int)).toNat = s.length - 1 by omega]
  show ofO ((s.map fun t : Nat => D.int t)[s.length - 1]?) = _
  rw [List.getElem?_map, List.getElem?_eq_getElem (by omega)]
  have h2 : lastI (-1) s = (s[s.length - 1] : Nat) := by
    have := last_snoc (-1) (s.take (s.length - 1)) s[s.length - 1]
    rw [← e] at this
    exact this
  rw [h2]
  rfl
theorem from_no {n : Nat} {G : List (Int × Int)} {d : D} (h : c_begins [ordD n G, d] = .ok (.bl false)) : c_fewest_from [ordD n G, d] = .ex (.exc 1 []) := by
  rw [e_fewest_from]
  unfold b_fewest_from
  simp only [allR_ok, allR_nil, R.ok_bind, h, op1_ok, truT_bl, notT_ok, Bool.not_false, ifE_true]
  rfl
theorem from_ok {n : Nat} {G : List (Int × Int)} (hn : n ≤ 9) (hO : Ord n G) {s : List Nat} (hl : s.length ≤ 1000) (hs : ∀ t ∈ s, t ≤ 1000) (hb : begB n G 0 s = true) : c_fewest_from [ordD n G, encR s] = .ok (.int (fromI n G s)) := by
  have h0 : ∀ p ∈ G, 0 ≤ p.1 := fun p hp => (hO.mem hp).1.1
  have hm := ord_mem hO
  rw [e_fewest_from]
  unfold b_fewest_from
  simp only [allR_ok, allR_nil, R.ok_bind, begins_ok hn hm hl hs, hb, op1_ok, truT_bl, notT_ok, Bool.not_true, ifE_false, negR_int]
  refine seq_gen (fun r : R (Fl Unit Empty) => finP r = _) (fun v => v = .int (lastI (-1) s)) ?_ (fun v hv => ?_)
  · have hne : neR (encR s) (.tup []) = .ok (!decide (s = [])) := ne_nats_t
    simp only [tupE_nil, op2_ok, hne]
    by_cases e : s = []
    · subst e
      exact ⟨_, rfl, rfl⟩
    · rw [decide_eq_false e, Bool.not_false, ifE_true, last_idx e]
      exact ⟨_, rfl, rfl⟩
  · subst hv
    rw [jumps_in_ok hl, table_ok hn hm (goes_ok hO), mask_of_ok hs]
    have e := tab_at (n := n) (G := G) (beg_len h0 hb).1
    simp only [tupE_2, op2_ok]
    unfold encS at e
    rw [show idxR (tabD n G (standsL n G)) (.tup [.int (maskL s : Nat), .int (lastI (-1) s)]) = _ from e]
    unfold entD
    simp only [op2_ok]
    rw [show ∀ a b : D, idxR (.tup [a, b]) (.int 0) = .ok a from fun _ _ => rfl]
    rfl
/-- a list of whole numbers, one of them below nought -/
theorem in_neg {x : Int} (h : x < 0) (L : List Nat) : inR (.int x) (.lst (L.map fun t : Nat => D.int t)) = .ok false := by
  show (if (fitD (.int x) && fitD (.lst (L.map fun t : Nat => D.int t))) = true then R.ok ((L.map fun t : Nat => D.int t).any fun y => eqD y (.int x)) else _) = _
  rw [nats_fit_l L, if_pos (by rfl)]
  congr 1
  rw [List.any_eq_false]
  intro y hy
  obtain ⟨t, _, rfl⟩ := List.mem_map.mp hy
  simp [eqD]; omega
theorem beg_neg {n : Nat} {G : List (Int × Int)} (hn : n ≤ 1000) : ∀ (r : List Int) (m : Nat), (∀ t ∈ r, t ≤ 1000) → (∃ t ∈ r, t < 0) → finP (aftR (forR (r.map D.int) (.int m) fun d8 s5 => (ifE (op2 notInR (R.ok d8) (c_free_by [needsD n G, s5])) (endR (R.ok (.rt (.bl false) []))) ((op2 borR (R.ok s5) (shlR (.int 1) d8)).bind fun v10 => (R.ok (.nx v10)))))
      fun _ => (R.ok (.rt (.bl true) []) : R (Fl Unit Empty))) = .ok (.bl false)
  | [], m, _, h => by obtain ⟨t, ht, _⟩ := h; cases ht
  | x :: r, m, h, hx => by
    rw [List.map_cons]
    unfold forR
    dsimp only
    rw [free_ok G hn, op2_ok]
    unfold notInR
    by_cases hneg : x < 0
    · rw [in_neg hneg]
      rfl
    · obtain ⟨t, rfl⟩ := Int.eq_ofNat_of_zero_le (show 0 ≤ x by omega)
      have ht := h _ List.mem_cons_self
      have ih := beg_neg (G := G) hn r (m ||| 1 <<< t) (fun u hu => h u (List.mem_cons_of_mem _ hu)) (by
        obtain ⟨u, hu, hu2⟩ := hx
        rcases List.mem_cons.mp hu with rfl | hu
        · exact absurd hu2 hneg
        · exact ⟨u, hu, hu2⟩)
      rw [in_nats_l, R.ok_bind, shl_one t (by omega), op2_ok, bor_nat]
      cases hd : decide (t ∈ freeL n G m) with
      | false => rfl
      | true =>
        simp only [Bool.not_true, ifE_false, R.ok_bind]
        exact ih
theorem begins_neg {n : Nat} {G : List (Int × Int)} (hn : n ≤ 9) (hm : MemN n G) {r : List Int} (hl : r.length ≤ 1000) (h : ∀ t ∈ r, t ≤ 1000) (hx : ∃ t ∈ r, t < 0) : c_begins [ordD n G, .tup (r.map D.int)] = .ok (.bl false) := by
  rw [e_begins]
  unfold b_begins
  have h1 : isaR isTuple (.tup (r.map D.int)) = .ok true := rfl
  simp only [op1_ok, h1, blE_ok, truT_bl, notT_ok, R.ok_bind, seqsR_tup, allR_ok, allR_nil]
  have h2 := pwholes (xs := r.map D.int) (by rw [List.length_map]; exact hl) (fun x hx => by
    obtain ⟨t, _, rfl⟩ := List.mem_map.mp hx; rfl)
  have h3 : ((r.map D.int).all fun d => isInt d && !isBool d) = true := by
    rw [List.all_map, List.all_eq_true]; exact fun _ _ => rfl
  simp only [op1] at h2 ⊢
  rw [h2, h3]
  simp only [R.ok_bind, truT_bl, notT_ok, Bool.not_true, orT_ok, Bool.or_false, ifE_false]
  rw [waits_ok hn hm]
  simp only [R.ok_bind]
  exact beg_neg (by omega) r 0 h hx

/-! ### rising lists -/
theorem inc_eq {a b : List Int} (ha : a.Pairwise (· < ·)) (hb : b.Pairwise (· < ·)) (h : ∀ x, x ∈ a ↔ x ∈ b) : a = b := by
  have ss : ∀ l : List Int, l.Pairwise (· < ·) → SS (l.map fun x => [x]) := fun l hl => List.pairwise_map.mpr (hl.imp fun {x y} hxy => by
    unfold lexLt
    rw [if_neg (by omega)]
    exact decide_eq_true hxy)
  have := ss_eq (ss a ha) (ss b hb) fun k => by
    rw [List.mem_map, List.mem_map]
    constructor <;> rintro ⟨x, hx, rfl⟩
    · exact ⟨x, (h x).mp hx, rfl⟩
    · exact ⟨x, (h x).mpr hx, rfl⟩
  have h2 := congrArg (fun l : List (List Int) => l.map fun k => k.headD 0) this
  simp only [List.map_map, Function.comp_def, List.headD_cons, List.map_id'] at h2
  exact h2
theorem range_inc (n : Nat) (p : Nat → Bool) : (((List.range n).filter p).map fun t : Nat => (t : Int)).Pairwise (· < ·) := List.pairwise_map.mpr ((List.pairwise_lt_range.filter p).imp fun {a b} h => by omega)
theorem srt_lex {G : List (Int × Int)} (h : sortP G = G) : G.Pairwise fun p q => p.1 < q.1 ∨ (p.1 = q.1 ∧ p.2 < q.2) := by
  have h1 : SS (G.map prL) := by
    have := setLex_ss (l := G.map prL)
    rw [← sortP_prL, h] at this
    exact this
  refine (List.pairwise_map.mp h1).imp fun {p q} hpq => ?_
  unfold prL lexLt at hpq
  split at hpq
  · rename_i e
    unfold lexLt at hpq
    split at hpq
    · simp [lexLt] at hpq
    · exact .inr ⟨e, of_decide_eq_true hpq⟩
  · exact .inl (of_decide_eq_true hpq)
theorem ahead_eq {n : Nat} {G : List (Int × Int)} (h : sortP G = G) (hm : ∀ p ∈ G, (0 ≤ p.1 ∧ p.1 < n) ∧ (0 ≤ p.2 ∧ p.2 < n)) (t : Int) : (G.filter fun q => decide (q.2 = t)).map (·.1) = ((List.range n).filter fun x : Nat => decide (((x : Int), t) ∈ G)).map fun x : Nat => (x : Int) := by
  refine inc_eq (List.pairwise_map.mpr ?_) (range_inc n _) fun x => ?_
  · refine List.Pairwise.imp_of_mem (fun {p q} hp hq hpq => ?_) ((srt_lex h).filter _)
    have e1 := of_decide_eq_true (List.mem_filter.mp hp).2
    have e2 := of_decide_eq_true (List.mem_filter.mp hq).2
    rcases hpq with hpq | hpq
    · exact hpq
    · have := hpq.2
      rw [e1, e2] at this; omega
  · rw [List.mem_map, List.mem_map]
    constructor
    · rintro ⟨p, hp, rfl⟩
      obtain ⟨h1, h2⟩ := List.mem_filter.mp hp
      have h2 := of_decide_eq_true h2
      have h3 := hm p h1
      refine ⟨p.1.toNat, List.mem_filter.mpr ⟨List.mem_range.mpr (by omega), decide_eq_true ?_⟩, by omega⟩
      rw [show ((p.1.toNat : Nat) : Int) = p.1 by omega, ← h2]
      exact h1
    · rintro ⟨u, hu, rfl⟩
      obtain ⟨h1, h2⟩ := List.mem_filter.mp hu
      exact ⟨((u : Int), t), List.mem_filter.mpr ⟨of_decide_eq_true h2, decide_eq_true rfl⟩, rfl⟩
theorem behind_eq {n : Nat} {G : List (Int × Int)} (h : sortP G = G) (hm : ∀ p ∈ G, (0 ≤ p.1 ∧ p.1 < n) ∧ (0 ≤ p.2 ∧ p.2 < n)) (t : Int) : (G.filter fun q => decide (q.1 = t)).map (·.2) = ((List.range n).filter fun x : Nat => decide ((t, (x : Int)) ∈ G)).map fun x : Nat => (x : Int) := by
  refine inc_eq (List.pairwise_map.mpr ?_) (range_inc n _) fun x => ?_
  · refine List.Pairwise.imp_of_mem (fun {p q} hp hq hpq => ?_) ((srt_lex h).filter _)
    have e1 := of_decide_eq_true (List.mem_filter.mp hp).2
    have e2 := of_decide_eq_true (List.mem_filter.mp hq).2
    rcases hpq with hpq | hpq
    · rw [e1, e2] at hpq; omega
    · exact hpq.2
  · rw [List.mem_map, List.mem_map]
    constructor
    · rintro ⟨p, hp, rfl⟩
      obtain ⟨h1, h2⟩ := List.mem_filter.mp hp
      have h2 := of_decide_eq_true h2
      have h3 := hm p h1
      refine ⟨p.2.toNat, List.mem_filter.mpr ⟨List.mem_range.mpr (by omega), decide_eq_true ?_⟩, by omega⟩
      rw [show ((p.2.toNat : Nat) : Int) = p.2 by omega, ← h2]
      exact h1
    · rintro ⟨u, hu, rfl⟩
      obtain ⟨h1, h2⟩ := List.mem_filter.mp hu
      exact ⟨(t, (u : Int)), List.mem_filter.mpr ⟨of_decide_eq_true h2, decide_eq_true rfl⟩, rfl⟩
/-! ### sorted(..) of pairs -/
theorem srt_pairs {ps : List (Int × Int)} (hl : ps.length ≤ 100000) : srtOk (ps.map encP) = true := by
  unfold srtOk
  have h2 : ((ps.map encP).all filled) = true := by
    rw [List.all_map, List.all_eq_true]; exact fun _ _ => rfl
  have h3 : ((ps.map encP).all fun x => datD x && decide (dpD x ≤ 10)) = true := by
    rw [List.all_map, List.all_eq_true]; exact fun _ _ => rfl
  have h4 : ((ps.map encP).all fun x => (ps.map encP).all fun y => likeD x y) = true := by
    rw [List.all_map, List.all_eq_true]
    intro p _
    show ((ps.map encP).all fun y => likeD (encP p) y) = true
    rw [List.all_map, List.all_eq_true]; exact fun _ _ => rfl
  rw [h2, h3, h4, List.length_map, decide_eq_true (show ps.length ≤ most from hl)]
  rfl
def decP : D → Int × Int
  | .tup [.int a, .int b] => (a, b)
  | _ => (0, 0)
theorem dec_enc (p : Int × Int) : decP (encP p) = p := rfl
theorem sort_pairs {ps : List (Int × Int)} (hl : ps.length ≤ 100000) : ∃ zs : List (Int × Int), sortR (.lst (ps.map encP)) = .ok (.lst (zs.map encP)) ∧ zs.Perm ps := by
  have hp := List.mergeSort_perm (ps.map encP) (W.dataLe false pyd)
  refine ⟨((ps.map encP).mergeSort (W.dataLe false pyd)).map decP, ?_, ?_⟩
  · unfold sortR
    rw [seqsR_lst, R.ok_bind, if_pos (srt_pairs hl), List.map_map]
    congr 2
    conv => lhs; rw [← List.map_id ((ps.map encP).mergeSort (W.dataLe false pyd))]
    refine List.map_congr_left fun d hd => ?_
    obtain ⟨p, _, rfl⟩ := List.mem_map.mp (hp.mem_iff.mp hd)
    rfl
  · have := hp.map decP
    rw [List.map_map, show decP ∘ encP = id from funext dec_enc, List.map_id] at this
    exact this

/-! ### rows, as orders gone through -/
theorem beg_iff {n : Nat} {G : List (Int × Int)} : ∀ {r : List Nat} {m : Nat}, begB n G m r = true ↔ ∀ (s : List Nat) (t : Nat) (q : List Nat), r = s ++ t :: q → t ∈ freeL n G (putL m s)
  | [], m => by
    constructor
    · intro _ s t q e
      cases s <;> cases e
    · intro _; rfl
  | u :: r, m => by
    unfold begB
    rw [Bool.and_eq_true, decide_eq_true_eq, beg_iff (r := r)]
    constructor
    · rintro ⟨h1, h2⟩ s t q e
      cases s with
      | nil => injection e with e1 e2; subst e1; exact h1
      | cons v s => injection e with e1 e2; subst e1; exact h2 s t q e2
    · intro h
      exact ⟨h [] u r rfl, fun s t q e => h (u :: s) t q (by rw [e]; rfl)⟩
theorem free_iff {n : Nat} {G : List (Int × Int)} (h0 : ∀ p ∈ G, 0 ≤ p.1) {s : List Nat} {t : Nat} : t ∈ freeL n G (maskL s) ↔ t < n ∧ t ∉ s ∧ ∀ a : Nat, ((a : Int), (t : Int)) ∈ G → a ∈ s := by
  rw [mem_free, mask_bit, okB_iff h0]
  constructor
  · rintro ⟨h1, h2, h3⟩
    exact ⟨h1, of_decide_eq_false h2, fun a ha => by have := h3 a ha; rw [mask_bit] at this; exact of_decide_eq_true this⟩
  · rintro ⟨h1, h2, h3⟩
    exact ⟨h1, decide_eq_false h2, fun a ha => by rw [mask_bit]; exact decide_eq_true (h3 a ha)⟩
theorem row_char {n : Nat} {G : List (Int × Int)} (h0 : ∀ p ∈ G, 0 ≤ p.1) {r : List Nat} : r ∈ rowsF (freeL n G) n 0 ↔ r.Perm (List.range n) ∧ ∀ (s : List Nat) (t : Nat) (q : List Nat), r = s ++ t :: q → ∀ a : Nat, ((a : Int), (t : Int)) ∈ G → a ∈ s := by
  constructor
  · intro h
    refine ⟨rows_perm h, fun s t q e a ha => ?_⟩
    have hb := rows_beg h
    have := beg_iff.mp hb s t q e
    exact (free_iff h0).mp this |>.2.2 a ha
  · rintro ⟨hp, h⟩
    have hl : r.length = n := by rw [hp.length_eq, List.length_range]
    have hnd : r.Nodup := hp.nodup_iff.mpr List.nodup_range
    have hb : begB n G 0 r = true := beg_iff.mpr fun s t q e => (free_iff h0).mpr ⟨List.mem_range.mp (hp.mem_iff.mp (by rw [e]; simp)), fun ht => by
      rw [e] at hnd
      exact (List.nodup_append.mp hnd).2.2 t ht t List.mem_cons_self rfl, h s t q e⟩
    have := beg_rows hb
    rw [hl] at this
    exact this
theorem rows_nodup {n : Nat} {G : List (Int × Int)} : ∀ (k m : Nat), (rowsF (freeL n G) k m).Nodup
  | 0, m => by show ([[]] : List (List Nat)).Nodup; simp
  | k + 1, m => by
    show ((freeL n G m).flatMap fun t => (rowsF (freeL n G) k (m ||| 1 <<< t)).map (t :: ·)).Pairwise (· ≠ ·)
    rw [List.pairwise_flatMap]
    refine ⟨fun t _ => List.pairwise_map.mpr ((rows_nodup k (m ||| 1 <<< t)).imp fun {a b} h e => h (by injection e)), ?_⟩
    have hnd : (freeL n G m).Nodup := List.Pairwise.filter _ List.nodup_range
    refine hnd.imp fun {t u} htu x hx y hy e => ?_
    obtain ⟨a, _, rfl⟩ := List.mem_map.mp hx
    obtain ⟨b, _, rfl⟩ := List.mem_map.mp hy
    injection e with e1 _
    exact htu e1
/-- pairs turned about -/
def swp (p : Int × Int) : Int × Int := (p.2, p.1)
theorem swap_iff {a b : Int} {G : List (Int × Int)} : (a, b) ∈ G.map swp ↔ (b, a) ∈ G := by
  rw [List.mem_map]
  constructor
  · rintro ⟨p, hp, e⟩
    unfold swp at e
    injection e with e1 e2
    subst e1 e2
    exact hp
  · intro h
    exact ⟨(b, a), h, rfl⟩
theorem split_twice {α : Type} {t : α} {s1 s2 q1 q2 : List α} (h : (s1 ++ t :: q1).Nodup) (e : s1 ++ t :: q1 = s2 ++ t :: q2) : s1 = s2 ∧ q1 = q2 := by
  induction s1 generalizing s2 with
  | nil =>
    cases s2 with
    | nil => injection e with _ e; exact ⟨rfl, e⟩
    | cons x s2 =>
      injection e with e1 e2
      subst e1
      have := (List.nodup_cons.mp h).1
      exact absurd (by rw [e2]; simp) this
  | cons x s1 ih =>
    cases s2 with
    | nil =>
      injection e with e1 e2
      subst e1
      have := (List.nodup_cons.mp h).1
      exact absurd (by simp) this
    | cons y s2 =>
      injection e with e1 e2
      subst e1
      obtain ⟨h1, h2⟩ := ih (List.nodup_cons.mp h).2 e2
      exact ⟨by rw [h1], h2⟩
theorem rev_row {n : Nat} {G G' : List (Int × Int)} (h0 : ∀ p ∈ G, (0 ≤ p.1 ∧ p.1 < n) ∧ (0 ≤ p.2 ∧ p.2 < n)) (h0' : ∀ p ∈ G', 0 ≤ p.1) (hs : ∀ a b : Nat, ((a : Int), (b : Int)) ∈ G' ↔ ((b : Int), (a : Int)) ∈ G) {r : List Nat} (h : r ∈ rowsF (freeL n G) n 0) : r.reverse ∈ rowsF (freeL n G') n 0 := by
  obtain ⟨hp, hc⟩ := (row_char fun p hp => (h0 p hp).1.1).mp h
  have hnd : r.Nodup := hp.nodup_iff.mpr List.nodup_range
  refine (row_char h0').mpr ⟨(List.reverse_perm r).trans hp, fun s t q e a ha => ?_⟩
  have hta : ((t : Int), (a : Int)) ∈ G := (hs a t).mp ha
  have er : r = q.reverse ++ t :: s.reverse := by
    have := congrArg List.reverse e
    rw [List.reverse_reverse] at this
    rw [this]
    simp
  have har : a ∈ r := hp.mem_iff.mpr (List.mem_range.mpr (by have := (h0 _ hta).2; dsimp only at this; omega))
  obtain ⟨s1, q1, e1⟩ := List.append_of_mem har
  have ht1 := hc s1 a q1 e1 t hta
  have hnot : ∀ x y : List Nat, r = x ++ t :: y → a ∉ x := fun x y exy hax => by
    obtain ⟨x1, x2, ex⟩ := List.append_of_mem hax
    have e2 : r = x1 ++ a :: (x2 ++ t :: y) := by rw [exy, ex]; simp
    have := split_twice (by rw [← e1]; exact hnd) (e1.symm.trans e2)
    rw [this.1] at ht1
    rw [e2] at hnd
    exact (List.nodup_append.mp hnd).2.2 t ht1 t (by simp) rfl
  have h1 := hnot _ _ er
  have hat : a ≠ t := fun e => by
    subst e
    rw [e1] at hnd
    exact (List.nodup_append.mp hnd).2.2 a ht1 a List.mem_cons_self rfl
  rw [er] at har
  simp only [List.mem_append, List.mem_cons, List.mem_reverse] at har h1
  rcases har with h | h | h
  · exact absurd h h1
  · exact absurd h hat
  · exact h
theorem jmp_one (cs : Int → Nat → Int) (l : Int) (s : List Nat) (t : Nat) : jmp cs l (s ++ [t]) = jmp cs l s + cs (lastI l s) t := by
  rw [jmp_app]
  show _ + (cs (lastI l s) t + 0) = _
  omega
theorem cs_neg (G : List (Int × Int)) (t : Nat) : csI G (-1) t = 0 := by unfold csI; simp [b2]
theorem cs_nat (G : List (Int × Int)) (l t : Nat) : csI G (l : Int) t = b2 (!decide (((l : Int), (t : Int)) ∈ G)) := by
  unfold csI
  rw [decide_eq_true (show (0 : Int) ≤ l by omega), Bool.true_and]
theorem rev_jmp {G G' : List (Int × Int)} (hs : ∀ a b : Nat, ((a : Int), (b : Int)) ∈ G' ↔ ((b : Int), (a : Int)) ∈ G) : ∀ r : List Nat, jmp (csI G') (-1) r.reverse = jmp (csI G) (-1) r
  | [] => rfl
  | [t] => by
    show csI G' (-1) t + 0 = csI G (-1) t + 0
    rw [cs_neg, cs_neg]
  | t :: u :: r => by
    have ih := rev_jmp hs (u :: r)
    rw [List.reverse_cons, jmp_one, ih, List.reverse_cons, last_snoc]
    show (csI G (-1) u + jmp (csI G) u r) + csI G' (u : Int) t = csI G (-1) t + (csI G (t : Int) u + jmp (csI G) u r)
    rw [cs_neg, cs_neg, cs_nat, cs_nat, decide_eq_decide.mpr (hs u t)]
    omega
theorem rows_turn {n : Nat} {G G' : List (Int × Int)} (h0 : ∀ p ∈ G, (0 ≤ p.1 ∧ p.1 < n) ∧ (0 ≤ p.2 ∧ p.2 < n)) (h0' : ∀ p ∈ G', (0 ≤ p.1 ∧ p.1 < n) ∧ (0 ≤ p.2 ∧ p.2 < n)) (hs : ∀ a b : Nat, ((a : Int), (b : Int)) ∈ G' ↔ ((b : Int), (a : Int)) ∈ G) :
    (rowsF (freeL n G') n 0).Perm ((rowsF (freeL n G) n 0).map List.reverse) := by
  refine (List.perm_ext_iff_of_nodup (rows_nodup n 0) (List.pairwise_map.mpr ((rows_nodup n 0).imp fun {a b} h e => h (by rw [← List.reverse_reverse a, e, List.reverse_reverse])))).mpr fun r => ?_
  rw [List.mem_map]
  constructor
  · intro h
    exact ⟨r.reverse, rev_row h0' (fun p hp => (h0 p hp).1.1) (fun a b => (hs b a).symm) h, List.reverse_reverse r⟩
  · rintro ⟨q, hq, rfl⟩
    exact rev_row h0 (fun p hp => (h0' p hp).1.1) hs hq
theorem min_perm {xs ys : List Int} (h : ∀ x, x ∈ xs ↔ x ∈ ys) (hne : xs ≠ []) : minI xs = minI ys := by
  have hne2 : ys ≠ [] := by
    obtain ⟨x, hx⟩ := List.exists_mem_of_ne_nil _ hne
    exact List.ne_nil_of_mem ((h x).mp hx)
  refine (minI_min hne).eq ⟨(h _).mpr (minI_min hne2).1, fun y hy => (minI_min hne2).2 y ((h y).mp hy)⟩
theorem turn_best {n : Nat} {G G' : List (Int × Int)} (h0 : ∀ p ∈ G, (0 ≤ p.1 ∧ p.1 < n) ∧ (0 ≤ p.2 ∧ p.2 < n)) (h0' : ∀ p ∈ G', (0 ≤ p.1 ∧ p.1 < n) ∧ (0 ≤ p.2 ∧ p.2 < n)) (hs : ∀ a b : Nat, ((a : Int), (b : Int)) ∈ G' ↔ ((b : Int), (a : Int)) ∈ G) (hne : rowsF (freeL n G) n 0 ≠ []) :
    bst (freeL n G') (csI G') n 0 (-1) = bst (freeL n G) (csI G) n 0 (-1) ∧ cnt (freeL n G') (csI G') n 0 (-1) = cnt (freeL n G) (csI G) n 0 (-1) ∧ (rowsF (freeL n G') n 0).length = (rowsF (freeL n G) n 0).length := by
  have hp := rows_turn h0 h0' hs
  have hj : ((rowsF (freeL n G) n 0).map List.reverse).map (jmp (csI G') (-1)) = (rowsF (freeL n G) n 0).map (jmp (csI G) (-1)) := by
    rw [List.map_map]
    exact List.map_congr_left fun r _ => rev_jmp hs r
  have h1 : bst (freeL n G') (csI G') n 0 (-1) = bst (freeL n G) (csI G) n 0 (-1) := by
    unfold bst
    rw [← hj]
    refine min_perm (fun x => (hp.map _).mem_iff) ?_
    intro e
    rw [List.map_eq_nil_iff] at e
    rw [e] at hp
    exact hne (List.map_eq_nil_iff.mp (List.Perm.eq_nil hp.symm))
  refine ⟨h1, ?_, by rw [hp.length_eq, List.length_map]⟩
  unfold cnt
  rw [h1, (hp.filter _).length_eq, List.filter_map, List.length_map]
  congr 2
  refine List.filter_congr fun r _ => ?_
  show decide (jmp (csI G') (-1) r.reverse = _) = _
  rw [rev_jmp hs]
/-! ### things apart -/
theorem apart_le {G : List (Int × Int)} (hc : Clo G) {A : List Nat} (hA : ∀ a ∈ A, ∀ b ∈ A, ((a : Int), (b : Int)) ∉ G) : ∀ (r : List Nat) (l : Nat) (b : Bool), (b = true → ∃ a ∈ A, a = l ∨ ((a : Int), (l : Int)) ∈ G) → ((r.filter fun t => decide (t ∈ A)).length : Int) ≤ jmp (csI G) l r + (if b = true then 0 else 1)
  | [], l, b, _ => by
    show (0 : Int) ≤ 0 + _
    split <;> omega
  | t :: r, l, b, h => by
    have e : jmp (csI G) (l : Int) (t :: r) = csI G l t + jmp (csI G) t r := rfl
    rw [e, cs_nat, List.filter_cons]
    by_cases hlt : ((l : Int), (t : Int)) ∈ G
    · rw [decide_eq_true hlt]
      by_cases ht : t ∈ A
      · rw [if_pos (decide_eq_true ht)]
        have hb : b = false := by
          cases b with
          | false => rfl
          | true =>
            obtain ⟨a, ha, hal⟩ := h rfl
            rcases hal with rfl | hal
            · exact absurd hlt (hA _ ha _ ht)
            · exact absurd (hc _ _ _ hal hlt) (hA _ ha _ ht)
        subst hb
        have := apart_le hc hA r t true fun _ => ⟨t, ht, .inl rfl⟩
        simp [b2] at this ⊢
        omega
      · rw [if_neg (by simpa using ht)]
        have := apart_le hc hA r t b fun hb => by
          obtain ⟨a, ha, hal⟩ := h hb
          rcases hal with rfl | hal
          · exact ⟨a, ha, .inr hlt⟩
          · exact ⟨a, ha, .inr (hc _ _ _ hal hlt)⟩
        simp [b2] at this ⊢
        omega
    · rw [decide_eq_false hlt]
      by_cases ht : t ∈ A
      · rw [if_pos (decide_eq_true ht)]
        have := apart_le hc hA r t true fun _ => ⟨t, ht, .inl rfl⟩
        simp [b2] at this ⊢
        split <;> omega
      · rw [if_neg (by simpa using ht)]
        have := apart_le hc hA r t false fun hb => nomatch hb
        simp [b2] at this ⊢
        split <;> omega
theorem apart_row {n : Nat} {G : List (Int × Int)} (hc : Clo G) {A : List Nat} (hA : ∀ a ∈ A, ∀ b ∈ A, ((a : Int), (b : Int)) ∉ G) (hn : A.Nodup) (hl : ∀ a ∈ A, a < n) {r : List Nat} (hr : r.Perm (List.range n)) : (A.length : Int) - 1 ≤ jmp (csI G) (-1) r := by
  have h1 : A.length ≤ (r.filter fun t => decide (t ∈ A)).length := len_sub hn fun x hx => List.mem_filter.mpr ⟨hr.mem_iff.mpr (List.mem_range.mpr (hl x hx)), decide_eq_true hx⟩
  cases r with
  | nil =>
    have h1 : A.length ≤ 0 := h1
    show (A.length : Int) - 1 ≤ 0
    omega
  | cons t r =>
    have e : jmp (csI G) (-1) (t :: r) = csI G (-1) t + jmp (csI G) t r := rfl
    rw [e, cs_neg]
    rw [List.filter_cons] at h1
    by_cases ht : t ∈ A
    · rw [if_pos (decide_eq_true ht)] at h1
      have := apart_le hc hA r t true fun _ => ⟨t, ht, .inl rfl⟩
      simp at this h1
      omega
    · rw [if_neg (by simpa using ht)] at h1
      have := apart_le hc hA r t false fun hb => nomatch hb
      simp at this h1
      omega

/-! ### sorted pairs, once each -/
theorem lt_encP (p q : Int × Int) (h : p.1 < q.1 ∨ (p.1 = q.1 ∧ p.2 < q.2)) : ltD (encP q) (encP p) = false := by
  unfold encP ltD ltDs
  simp only [eqD, beq_iff_eq]
  split
  · rename_i e
    unfold ltDs
    simp only [eqD, beq_iff_eq]
    split
    · simp [ltDs]
    · simp only [ltD, decide_eq_false_iff_not]; omega
  · simp only [ltD, decide_eq_false_iff_not]; omega
theorem sort_once {ps : List (Int × Int)} (hl : ps.length ≤ 100000) (hn : ps.Nodup) : sortR (.lst (ps.map encP)) = .ok (.lst ((sortP ps).map encP)) := by
  have hp : ps.Perm (sortP ps) := (List.perm_ext_iff_of_nodup hn (nodup_sortP ps)).mpr fun p => mem_sortP.symm
  rw [sortR_perm (hp.map encP) (srt_pairs hl)]
  have hs : srtOk ((sortP ps).map encP) = true := srt_pairs (by rw [← hp.length_eq]; exact hl)
  rw [sortR_ok hs, merge_same hs]
  refine List.pairwise_map.mpr ((srt_lex (sortP_sortP ps)).imp fun {p q} h => ?_)
  rw [le_iff (by rfl) (by rfl) (by rfl), lt_encP p q h]
  rfl
theorem upP_rev : ∀ {l : List Int} {a b : Int}, (a, b) ∈ upP l → (b, a) ∈ upP l.reverse
  | [], a, b, h => by simp [upP] at h
  | x :: xs, a, b, h => by
    rw [upP, List.mem_append, List.mem_map] at h
    rw [List.reverse_cons]
    refine upP_app.mpr ?_
    rcases h with ⟨y, hy, e⟩ | h
    · injection e with e1 e2
      subst e1 e2
      exact .inr (.inl ⟨List.mem_reverse.mpr hy, List.mem_singleton.mpr rfl⟩)
    · exact .inl (upP_rev h)
theorem ord_nodup {n : Nat} {G : List (Int × Int)} (hO : Ord n G) : G.Nodup := by rw [← hO.srt]; exact nodup_sortP G
theorem ord_turn {n : Nat} {G : List (Int × Int)} (hO : Ord n G) : Ord n (sortP (G.map swp)) := by
  obtain ⟨row, hr, hs⟩ := hO.row
  refine ⟨⟨row.reverse, (List.reverse_perm row).trans hr, fun p hp => ?_⟩, sortP_sortP _, fun a b c h1 h2 => ?_⟩
  · have hp := mem_sortP.mp hp
    obtain ⟨a, b⟩ := p
    exact upP_rev (hs _ (swap_iff.mp hp))
  · have h1 := swap_iff.mp (mem_sortP.mp h1)
    have h2 := swap_iff.mp (mem_sortP.mp h2)
    exact mem_sortP.mpr (swap_iff.mpr (hO.clo _ _ _ h2 h1))
/-! ### sorted things -/
def srN (n : Nat) (s : List Nat) : List Nat := (List.range n).filter fun t => decide (t ∈ s)
theorem srt_nats {s : List Nat} (hl : s.length ≤ 1000) : srtOk (s.map fun t : Nat => D.int t) = true := by
  unfold srtOk
  have h2 : ((s.map fun t : Nat => D.int t).all isInt0) = true := by
    rw [List.all_map, List.all_eq_true]; exact fun _ _ => rfl
  have h3 : ((s.map fun t : Nat => D.int t).all fun x => datD x && decide (dpD x ≤ 10)) = true := by
    rw [List.all_map, List.all_eq_true]; exact fun _ _ => rfl
  have h4 : ((s.map fun t : Nat => D.int t).all fun x => (s.map fun t : Nat => D.int t).all fun y => likeD x y) = true := by
    rw [List.all_map, List.all_eq_true]
    intro p _
    show ((s.map fun t : Nat => D.int t).all fun y => likeD (D.int p) y) = true
    rw [List.all_map, List.all_eq_true]; exact fun _ _ => rfl
  rw [h2, h3, h4, List.length_map, decide_eq_true (show s.length ≤ most by have : most = 100000 := rfl; omega), Bool.or_true]
  rfl
theorem sort_nats {n : Nat} {s : List Nat} (hl : s.length ≤ 1000) (hn : s.Nodup) (hs : ∀ t ∈ s, t < n) : sortR (.tup (s.map fun t : Nat => D.int t)) = .ok (.lst ((srN n s).map fun t : Nat => D.int t)) := by
  have hp : s.Perm (srN n s) := (List.perm_ext_iff_of_nodup hn (List.Pairwise.filter _ List.nodup_range)).mpr fun t => by
    rw [List.mem_filter, List.mem_range, decide_eq_true_eq]
    exact ⟨fun h => ⟨hs t h, h⟩, fun h => h.2⟩
  have e : sortR (.tup (s.map fun t : Nat => D.int t)) = sortR (.lst (s.map fun t : Nat => D.int t)) := rfl
  rw [e, sortR_perm (hp.map fun t : Nat => D.int t) (srt_nats hl)]
  have hk : srtOk ((srN n s).map fun t : Nat => D.int t) = true := srt_nats (by rw [← hp.length_eq]; exact hl)
  rw [sortR_ok hk, merge_same hk]
  refine List.pairwise_map.mpr ((List.pairwise_lt_range.filter _).imp fun {a b} h => ?_)
  rw [le_iff (by rfl) (by rfl) (by rfl)]
  simp only [ltD, Bool.not_eq_true', decide_eq_false_iff_not]
  omega
theorem mask_srN {n : Nat} {s : List Nat} (hs : ∀ t ∈ s, t < n) : maskL (srN n s) = maskL s := Nat.eq_of_testBit_eq fun i => by
  rw [mask_bit, mask_bit]
  refine decide_eq_decide.mpr ?_
  unfold srN
  rw [List.mem_filter, List.mem_range, decide_eq_true_eq]
  exact ⟨fun h => h.2, fun h => ⟨hs i h, h⟩⟩
theorem freein_ok {n : Nat} {G : List (Int × Int)} (hn : n ≤ 9) (hm : MemN n G) {s : List Nat} (hs : ∀ t ∈ s, t < n) (hlow : lowB n G (maskL s) = true) :
    c_free_in [ordD n G, .tup ((srN n s).map fun t : Nat => D.int t)] = .ok (.tup ((freeL n G (maskL s)).map fun t : Nat => D.int t)) := by
  have hl : (srN n s).length ≤ n := by
    have := List.length_filter_le (fun t => decide (t ∈ s)) (List.range n)
    rw [List.length_range] at this; exact this
  have hb : ∀ t ∈ srN n s, t < n := fun t ht => List.mem_range.mp (List.mem_filter.mp ht).1
  have hset : c_set_good [.int n, .tup ((srN n s).map fun t : Nat => D.int t)] = .ok (.bl true) := by
    rw [e_set_good]
    unfold b_set_good
    have h1 : isaR isTuple (.tup ((srN n s).map fun t : Nat => D.int t)) = .ok true := rfl
    have h2 : listR (.tup ((srN n s).map fun t : Nat => D.int t)) = .ok (.lst ((srN n s).map fun t : Nat => D.int t)) := rfl
    simp only [op1_ok, h1, h2, blE_ok, truT_bl, notT_ok, R.ok_bind, seqsR_tup, allR_ok, allR_nil]
    have h3 := pwholes (xs := (srN n s).map fun t : Nat => D.int t) (by rw [List.length_map]; omega) int_isa
    have h4 : (((srN n s).map fun t : Nat => D.int t).all fun d => isInt d && !isBool d) = true := by
      rw [List.all_map, List.all_eq_true]; exact fun _ _ => rfl
    simp only [op1] at h3 ⊢
    rw [h3, h4]
    simp only [R.ok_bind, truT_bl, notT_ok, Bool.not_true, orT_ok, Bool.or_false, ifE_false]
    rw [range1_up (show n ≤ 100000 by omega)]
    rw [compE_map (xs := List.range n) (fun k : Nat => D.int k) (fun x => decide (x ∈ srN n s)) (fun k : Nat => D.int k) (by rw [List.length_range]; show _ ≤ 100000; omega) (fun x _ => by rw [op2_ok, in_nats_t]) (fun _ _ _ => rfl)]
    have e : ((List.range n).filter fun x => decide (x ∈ srN n s)) = srN n s := by
      unfold srN
      refine List.filter_congr fun x hx => decide_eq_decide.mpr ?_
      rw [List.mem_filter, decide_eq_true_eq]
      exact ⟨fun h => h.2, fun h => ⟨hx, h⟩⟩
    rw [e, op2_ok, eq_self (nats_fit_l _)]
    rfl
  have hmask : c_mask_of [.tup ((srN n s).map fun t : Nat => D.int t)] = .ok (.int (maskL s : Nat)) := by
    have := mask_of_ok (r := srN n s) (fun t ht => by have := hb t ht; omega)
    rw [mask_srN hs] at this
    exact this
  have hgood : c_lower_good [ordD n G, .tup ((srN n s).map fun t : Nat => D.int t)] = .ok (.bl true) := by
    rw [e_lower_good]
    unfold b_lower_good
    simp only [op2_ok, idx_ord0, allR_ok, allR_nil, R.ok_bind, hset, hmask, andV, truT_bl]
    rw [waits_ok hn hm]
    simp only [allR_ok, allR_nil, R.ok_bind, if_true]
    rw [lower_ok G (by omega), hlow]
    rfl
  rw [e_free_in]
  unfold b_free_in
  simp only [allR_ok, allR_nil, R.ok_bind, hgood, op1_ok, truT_bl, notT_ok, Bool.not_true, ifE_false, hmask]
  rw [waits_ok hn hm]
  simp only [allR_ok, allR_nil, R.ok_bind]
  rw [free_ok G (by omega)]
  rfl

/-! ### one row's own order -/
theorem pair_oneP {α : Type} {l m : List α} (R : α → α → Prop) (ha : ∀ a ∈ l, ∀ b ∈ l, R a b → R b a → a = b) (hp : l.Perm m) (h1 : l.Pairwise R) (h2 : m.Pairwise R) : l = m := by
  induction l generalizing m with
  | nil => exact (List.Perm.eq_nil hp.symm).symm
  | cons x l ih =>
    cases m with
    | nil => exact absurd (List.Perm.eq_nil hp) (by simp)
    | cons y m =>
      have hx : x = y := by
        have hxm : x ∈ y :: m := hp.mem_iff.mp List.mem_cons_self
        have hyl : y ∈ x :: l := hp.mem_iff.mpr List.mem_cons_self
        rcases List.mem_cons.mp hxm with e | hxm
        · exact e
        · rcases List.mem_cons.mp hyl with e | hyl'
          · exact e.symm
          · exact ha x List.mem_cons_self y hyl ((List.pairwise_cons.mp h1).1 y hyl') ((List.pairwise_cons.mp h2).1 x hxm)
      subst hx
      rw [ih (fun a h b h' => ha a (List.mem_cons_of_mem _ h) b (List.mem_cons_of_mem _ h')) hp.cons_inv (List.pairwise_cons.mp h1).2 (List.pairwise_cons.mp h2).2]
theorem pair_split {α : Type} {R : α → α → Prop} : ∀ {l : List α}, (∀ (s : List α) (t : α) (q : List α), l = s ++ t :: q → ∀ b ∈ q, R t b) → l.Pairwise R
  | [], _ => List.Pairwise.nil
  | x :: l, h => List.pairwise_cons.mpr ⟨h [] x l rfl, pair_split fun s t q e => h (x :: s) t q (by rw [e]; rfl)⟩
def rI (r : List Nat) : List Int := r.map fun t : Nat => (t : Int)
theorem rI_mem {r : List Nat} {t : Nat} : (t : Int) ∈ rI r ↔ t ∈ r := by
  unfold rI
  rw [List.mem_map]
  constructor
  · rintro ⟨u, hu, e⟩
    rw [← show u = t by omega]; exact hu
  · exact fun h => ⟨t, h, rfl⟩
theorem rI_nodup {r : List Nat} (h : r.Nodup) : (rI r).Nodup := List.pairwise_map.mpr (h.imp fun {a b} hab e => hab (by omega))
theorem up_split {s q : List Nat} {t b : Nat} (hb : b ∈ q) : ((t : Int), (b : Int)) ∈ upP (rI (s ++ t :: q)) := by
  unfold rI
  rw [List.map_append, List.map_cons]
  refine upP_app.mpr (.inr (.inr ?_))
  rw [upP, List.mem_append]
  exact .inl (List.mem_map.mpr ⟨(b : Int), List.mem_map_of_mem hb, rfl⟩)
theorem up_ahead {s q : List Nat} {t a : Nat} (hn : (s ++ t :: q).Nodup) (h : ((a : Int), (t : Int)) ∈ upP (rI (s ++ t :: q))) : a ∈ s := by
  unfold rI at h
  rw [List.map_append, List.map_cons] at h
  have hts : t ∉ s := fun h => (List.nodup_append.mp hn).2.2 t h t List.mem_cons_self rfl
  have htq : t ∉ q := (List.nodup_cons.mp (List.nodup_append.mp hn).2.1).1
  rcases upP_app.mp h with h | ⟨h, _⟩ | h
  · exact absurd (rI_mem.mp (mem_upP_mem h).2) hts
  · exact rI_mem.mp h
  · rw [upP, List.mem_append, List.mem_map] at h
    rcases h with ⟨y, hy, e⟩ | h
    · injection e with e1 e2
      rw [e2] at hy
      exact absurd (rI_mem.mp hy) htq
    · exact absurd (rI_mem.mp (mem_upP_mem h).2) htq
theorem row_up {n : Nat} {G : List (Int × Int)} (hm : MemN n G) {r : List Nat} (hr : r ∈ rowsF (freeL n G) n 0) : ∀ p ∈ G, p ∈ upP (rI r) := fun p hp => by
  obtain ⟨h1, h2⟩ := (row_char fun p hp => (hm p hp).1.1).mp hr
  have hb := hm p hp
  obtain ⟨a, b⟩ := p
  dsimp only at hb
  obtain ⟨a, rfl⟩ := Int.eq_ofNat_of_zero_le hb.1.1
  obtain ⟨b, rfl⟩ := Int.eq_ofNat_of_zero_le hb.2.1
  have hbr : b ∈ r := h1.mem_iff.mpr (List.mem_range.mpr (by omega))
  obtain ⟨s, q, e⟩ := List.append_of_mem hbr
  have has := h2 s b q e a hp
  rw [e]
  unfold rI
  rw [List.map_append]
  exact upP_app.mpr (.inr (.inl ⟨List.mem_map_of_mem has, List.mem_map_of_mem List.mem_cons_self⟩))
def chL : List Nat → List (Int × Int)
  | t :: u :: r => ((t : Int), (u : Int)) :: chL (u :: r)
  | _ => []
theorem chL_at : ∀ r : List Nat, (List.range (r.length - 1)).map (fun k => (((r.getD k 0 : Nat) : Int), ((r.getD (k + 1) 0 : Nat) : Int))) = chL r
  | [] => rfl
  | [t] => rfl
  | t :: u :: r => by
    have ih := chL_at (u :: r)
    unfold chL
    rw [← ih, show (t :: u :: r).length - 1 = r.length + 1 by simp, show (u :: r).length - 1 = r.length by simp, List.range_succ_eq_map, List.map_cons, List.map_map]
    rfl
theorem chL_up : ∀ {r : List Nat}, ∀ p ∈ chL r, p ∈ upP (rI r)
  | [], p, h => by simp [chL] at h
  | [t], p, h => by simp [chL] at h
  | t :: u :: r, p, h => by
    unfold chL at h
    show p ∈ (rI (u :: r)).map (fun y => ((t : Int), y)) ++ upP (rI (u :: r))
    rw [List.mem_append]
    rcases List.mem_cons.mp h with rfl | h
    · exact .inl (List.mem_map.mpr ⟨(u : Int), rI_mem.mpr List.mem_cons_self, rfl⟩)
    · exact .inr (chL_up p h)
theorem chL_all {F : List (Int × Int)} (hc : Clo F) : ∀ {r : List Nat}, (∀ p ∈ chL r, p ∈ F) → ∀ p ∈ upP (rI r), p ∈ F
  | [], _, p, h => by simp [rI, upP] at h
  | [t], _, p, h => by simp [rI, upP] at h
  | t :: u :: r, hF, p, h => by
    have ih := chL_all hc (r := u :: r) fun p hp => hF p (by unfold chL; exact List.mem_cons_of_mem _ hp)
    have htu : ((t : Int), (u : Int)) ∈ F := hF _ (by unfold chL; exact List.mem_cons_self)
    have h : p ∈ (rI (u :: r)).map (fun y => ((t : Int), y)) ++ upP (rI (u :: r)) := h
    rcases List.mem_append.mp h with h | h
    · obtain ⟨y, hy, rfl⟩ := List.mem_map.mp h
      rcases List.mem_cons.mp (show y ∈ (u : Int) :: rI r from hy) with rfl | hy
      · exact htu
      · refine hc _ _ _ htu (ih _ ?_)
        show ((u : Int), y) ∈ (rI r).map (fun y => ((u : Int), y)) ++ upP (rI r)
        exact List.mem_append.mpr (.inl (List.mem_map.mpr ⟨y, hy, rfl⟩))
    · exact ih p h
theorem chL_jmp {F : List (Int × Int)} : ∀ {t : Nat} {r : List Nat}, (∀ p ∈ chL (t :: r), p ∈ F) → jmp (csI F) t r = 0
  | t, [], _ => rfl
  | t, u :: r, h => by
    have ih := chL_jmp (t := u) (r := r) fun p hp => h p (by unfold chL; exact List.mem_cons_of_mem _ hp)
    have htu : ((t : Int), (u : Int)) ∈ F := h _ (by unfold chL; exact List.mem_cons_self)
    show csI F (t : Int) u + jmp (csI F) u r = 0
    rw [ih, cs_nat, decide_eq_true htu]
    rfl
theorem chain_rows {n : Nat} {F : List (Int × Int)} {r : List Nat} (hp : r.Perm (List.range n)) (hF : ∀ p, p ∈ F ↔ p ∈ upP (rI r)) (h0 : ∀ p ∈ F, 0 ≤ p.1) : rowsF (freeL n F) n 0 = [r] := by
  have hnd : r.Nodup := hp.nodup_iff.mpr List.nodup_range
  have hone : ∀ q, q ∈ rowsF (freeL n F) n 0 ↔ q ∈ [r] := fun q => by
    rw [List.mem_singleton]
    constructor
    · intro hq
      obtain ⟨h1, h2⟩ := (row_char h0).mp hq
      have hqn : q.Nodup := h1.nodup_iff.mpr List.nodup_range
      refine (pair_oneP (fun a b : Nat => ((a : Int), (b : Int)) ∈ upP (rI r)) (fun a _ b _ g1 g2 => ?_) (h1.trans hp.symm) (pair_split fun s t q2 e b hb => ?_) (pair_split fun s t q2 e b hb => ?_))
      · exact absurd (upP_trans (rI_nodup hnd) g1 g2) (upP_irrefl (rI_nodup hnd))
      · have htb : t ≠ b := fun e2 => by
          subst e2
          rw [e] at hqn
          exact (List.nodup_cons.mp (List.nodup_append.mp hqn).2.1).1 hb
        have htr : t ∈ r := hp.mem_iff.mpr (h1.mem_iff.mp (by rw [e]; simp))
        have hbr : b ∈ r := hp.mem_iff.mpr (h1.mem_iff.mp (by rw [e]; simp [hb]))
        obtain ⟨s1, q1, e1⟩ := List.append_of_mem htr
        rw [e1] at hbr
        rcases List.mem_append.mp hbr with h | h
        · obtain ⟨x1, x2, ex⟩ := List.append_of_mem h
          have hbt : ((b : Int), (t : Int)) ∈ upP (rI r) := by
            rw [e1, ex, List.append_assoc]
            exact up_split (by simp)
          have := h2 s t q2 e b ((hF _).mpr hbt)
          rw [e] at hqn
          exact absurd rfl ((List.nodup_append.mp hqn).2.2 b this b (List.mem_cons_of_mem _ hb))
        · rcases List.mem_cons.mp h with h | h
          · exact absurd h.symm htb
          · rw [e1]; exact up_split h
      · rw [e]; exact up_split hb
    · rintro rfl
      refine (row_char h0).mpr ⟨hp, fun s t q e a ha => ?_⟩
      have := (hF _).mp ha
      rw [e] at this hnd
      exact up_ahead hnd this
  exact List.perm_singleton.mp ((List.perm_ext_iff_of_nodup (rows_nodup n 0) (by simp)).mpr hone)
/-! ### order_of -/
theorem enumL_map {α : Type} (enc : α → D) : ∀ (k : Nat) (ps : List α), enumL k (ps.map enc) = (ps.zipIdx k).map fun q : α × Nat => D.tup [.int q.2, enc q.1]
  | _, [] => rfl
  | k, p :: ps => by
    rw [List.map_cons, List.zipIdx_cons, List.map_cons]
    show _ :: enumL (k + 1) (ps.map enc) = _
    rw [enumL_map enc (k + 1) ps]
/-! ### greedy rows -/
theorem maxI_max : ∀ {xs : List Int}, xs ≠ [] → maxI xs ∈ xs ∧ ∀ y ∈ xs, y ≤ maxI xs
  | [], h => absurd rfl h
  | [x], _ => ⟨by simp [maxI], fun y hy => by simp at hy; subst hy; simp [maxI]⟩
  | x :: y :: xs, _ => by
    have ih := maxI_max (xs := y :: xs) (by simp)
    have e : maxI (x :: y :: xs) = max x (maxI (y :: xs)) := rfl
    refine ⟨?_, fun z hz => ?_⟩
    · rw [e]
      by_cases h : x ≤ maxI (y :: xs)
      · rw [Int.max_eq_right h]; exact List.mem_cons_of_mem _ ih.1
      · rw [Int.max_eq_left (by omega)]; exact List.mem_cons_self
    · rw [e]
      rcases List.mem_cons.mp hz with rfl | hz
      · exact Int.le_max_left ..
      · exact Int.le_trans (ih.2 z hz) (Int.le_max_right ..)
def onC (n : Nat) (G : List (Int × Int)) (m : Nat) (l : Int) : List Nat := (freeL n G m).filter fun t : Nat => decide ((l, (t : Int)) ∈ G)
def nxG (n : Nat) (G : List (Int × Int)) (m : Nat) (l : Int) : List Nat := if onC n G m l = [] then freeL n G m else onC n G m l
theorem nx_sub {n : Nat} {G : List (Int × Int)} {m : Nat} {l : Int} {t : Nat} (h : t ∈ nxG n G m l) : t ∈ freeL n G m := by
  unfold nxG at h
  split at h
  · exact h
  · exact (List.mem_filter.mp h).1
theorem nx_ne' {n : Nat} {G : List (Int × Int)} {m : Nat} {l : Int} (h : freeL n G m ≠ []) : nxG n G m l ≠ [] := by
  unfold nxG
  split
  · exact h
  · rename_i h2; exact h2
theorem nx_nil {n : Nat} {G : List (Int × Int)} {m : Nat} {l : Int} (h : freeL n G m = []) : nxG n G m l = [] := by
  unfold nxG
  split
  · exact h
  · rename_i h2
    exact absurd (by unfold onC; rw [h]; rfl) h2
theorem nx_up {n : Nat} {G : List (Int × Int)} {m : Nat} {l : Int} : (nxG n G m l).Pairwise (· < ·) := by
  unfold nxG
  split
  · exact List.Pairwise.filter _ List.pairwise_lt_range
  · exact List.Pairwise.filter _ (List.Pairwise.filter _ List.pairwise_lt_range)
def rowsG (n : Nat) (G : List (Int × Int)) : Nat → Nat → Int → List (List Nat)
  | 0, _, _ => [[]]
  | k + 1, m, l => (nxG n G m l).flatMap fun t => (rowsG n G k (m ||| 1 <<< t) (t : Int)).map (t :: ·)
theorem mem_rowsG {n : Nat} {G : List (Int × Int)} {k m : Nat} {l : Int} {r : List Nat} : r ∈ rowsG n G (k + 1) m l ↔ ∃ t ∈ nxG n G m l, ∃ q ∈ rowsG n G k (m ||| 1 <<< t) (t : Int), r = t :: q := by
  show r ∈ (nxG n G m l).flatMap _ ↔ _
  rw [List.mem_flatMap]
  constructor
  · rintro ⟨t, ht, h⟩
    obtain ⟨q, hq, e⟩ := List.mem_map.mp h
    exact ⟨t, ht, q, hq, e.symm⟩
  · rintro ⟨t, ht, q, hq, rfl⟩
    exact ⟨t, ht, List.mem_map_of_mem hq⟩
theorem rowsG_sub {n : Nat} {G : List (Int × Int)} : ∀ {k m : Nat} {l : Int} {r : List Nat}, r ∈ rowsG n G k m l → r ∈ rowsF (freeL n G) k m
  | 0, m, l, r, h => h
  | k + 1, m, l, r, h => by
    obtain ⟨t, ht, q, hq, rfl⟩ := mem_rowsG.mp h
    exact mem_rows_succ.mpr ⟨t, nx_sub ht, q, rowsG_sub hq, rfl⟩
theorem rowsG_ne {n : Nat} {G : List (Int × Int)} (h0 : ∀ p ∈ G, 0 ≤ p.1) (hg : Goes n G) : ∀ {k m : Nat} {l : Int}, lowB n G m = true → remN n m = k → rowsG n G k m l ≠ []
  | 0, m, l, _, _ => by show ([[]] : List (List Nat)) ≠ []; simp
  | k + 1, m, l, hl, hr => by
    have hf := hg m hl (by omega)
    obtain ⟨t, ht⟩ := List.exists_mem_of_ne_nil _ (nx_ne' (l := l) hf)
    have htf := nx_sub ht
    have h1 := mem_free.mp htf
    have := rem_put (n := n) h1.1 h1.2.1
    obtain ⟨q, hq⟩ := List.exists_mem_of_ne_nil _ (rowsG_ne h0 hg (k := k) (l := (t : Int)) (low_put h0 hl htf) (by omega))
    exact List.ne_nil_of_mem (mem_rowsG.mpr ⟨t, ht, q, hq, rfl⟩)
theorem rowsG_nodup {n : Nat} {G : List (Int × Int)} : ∀ (k m : Nat) (l : Int), (rowsG n G k m l).Nodup
  | 0, m, l => by show ([[]] : List (List Nat)).Nodup; simp
  | k + 1, m, l => by
    show ((nxG n G m l).flatMap fun t => (rowsG n G k (m ||| 1 <<< t) (t : Int)).map (t :: ·)).Pairwise (· ≠ ·)
    rw [List.pairwise_flatMap]
    refine ⟨fun t _ => List.pairwise_map.mpr ((rowsG_nodup k (m ||| 1 <<< t) t).imp fun {a b} h e => h (by injection e)), ?_⟩
    refine nx_up.imp fun {t u} htu x hx y hy e => ?_
    obtain ⟨a, _, rfl⟩ := List.mem_map.mp hx
    obtain ⟨b, _, rfl⟩ := List.mem_map.mp hy
    injection e with e1 _
    omega
/-- lists of one length, as tuples compare -/
def lexN : List Nat → List Nat → Prop
  | a :: r, b :: q => a < b ∨ (a = b ∧ lexN r q)
  | _, _ => False
theorem rowsG_lex {n : Nat} {G : List (Int × Int)} : ∀ (k m : Nat) (l : Int), (rowsG n G k m l).Pairwise lexN
  | 0, m, l => by show ([[]] : List (List Nat)).Pairwise lexN; simp
  | k + 1, m, l => by
    show ((nxG n G m l).flatMap fun t => (rowsG n G k (m ||| 1 <<< t) (t : Int)).map (t :: ·)).Pairwise lexN
    rw [List.pairwise_flatMap]
    refine ⟨fun t _ => List.pairwise_map.mpr ((rowsG_lex k (m ||| 1 <<< t) t).imp fun {a b} h => .inr ⟨rfl, h⟩), ?_⟩
    refine nx_up.imp fun {t u} htu x hx y hy => ?_
    obtain ⟨a, _, rfl⟩ := List.mem_map.mp hx
    obtain ⟨b, _, rfl⟩ := List.mem_map.mp hy
    exact .inl htu
theorem rowsF_lex {n : Nat} {G : List (Int × Int)} : ∀ (k m : Nat), (rowsF (freeL n G) k m).Pairwise lexN
  | 0, m => by show ([[]] : List (List Nat)).Pairwise lexN; simp
  | k + 1, m => by
    show ((freeL n G m).flatMap fun t => (rowsF (freeL n G) k (m ||| 1 <<< t)).map (t :: ·)).Pairwise lexN
    rw [List.pairwise_flatMap]
    refine ⟨fun t _ => List.pairwise_map.mpr ((rowsF_lex k (m ||| 1 <<< t)).imp fun {a b} h => .inr ⟨rfl, h⟩), ?_⟩
    refine (List.Pairwise.filter _ List.pairwise_lt_range).imp fun {t u} htu x hx y hy => ?_
    obtain ⟨a, _, rfl⟩ := List.mem_map.mp hx
    obtain ⟨b, _, rfl⟩ := List.mem_map.mp hy
    exact .inl htu
theorem lexN_not : ∀ {a b : List Nat}, lexN a b → lexLt (b.map fun t : Nat => (t : Int)) (a.map fun t : Nat => (t : Int)) = false
  | [], _, h => h.elim
  | _ :: _, [], h => h.elim
  | x :: a, y :: b, h => by
    simp only [List.map_cons]
    unfold lexLt
    rcases h with h | ⟨rfl, h⟩
    · rw [if_neg (by omega)]
      exact decide_eq_false (by omega)
    · rw [if_pos rfl]
      exact lexN_not h
theorem head_least {L : List (List Nat)} (h : L.Pairwise lexN) {a : List Nat} (ha : L.head? = some a) {b : List Nat} (hb : b ∈ L) : lexLt (b.map fun t : Nat => (t : Int)) (a.map fun t : Nat => (t : Int)) = false := by
  cases L with
  | nil => cases ha
  | cons x L =>
    injection ha with ha
    subst ha
    rcases List.mem_cons.mp hb with rfl | hb
    · exact lexLt_irrefl _
    · exact lexN_not ((List.pairwise_cons.mp h).1 b hb)
/-! the table -/
def bG (n : Nat) (G : List (Int × Int)) (k m : Nat) (l : Int) : Int := minI ((rowsG n G k m l).map (jmp (csI G) l))
def wG (n : Nat) (G : List (Int × Int)) (k m : Nat) (l : Int) : Int := maxI ((rowsG n G k m l).map (jmp (csI G) l))
theorem bG_succ {n : Nat} {G : List (Int × Int)} {k m : Nat} {l : Int} (hne : nxG n G m l ≠ []) (h : ∀ t ∈ nxG n G m l, rowsG n G k (m ||| 1 <<< t) (t : Int) ≠ []) :
    minI ((nxG n G m l).map fun t => csI G l t + bG n G k (m ||| 1 <<< t) t) = bG n G (k + 1) m l := by
  have hne2 : rowsG n G (k + 1) m l ≠ [] := by
    obtain ⟨t, ht⟩ := List.exists_mem_of_ne_nil _ hne
    obtain ⟨q, hq⟩ := List.exists_mem_of_ne_nil _ (h t ht)
    exact List.ne_nil_of_mem (mem_rowsG.mpr ⟨t, ht, q, hq, rfl⟩)
  have h1 := minI_min (xs := (rowsG n G (k + 1) m l).map (jmp (csI G) l)) (by simpa using hne2)
  refine IsMin.eq (minI_min (by simpa using hne)) ⟨?_, fun y hy => ?_⟩
  · obtain ⟨r, hr, e⟩ := List.mem_map.mp h1.1
    obtain ⟨t, ht, q, hq, rfl⟩ := mem_rowsG.mp hr
    have h2 := minI_min (xs := (rowsG n G k (m ||| 1 <<< t) (t : Int)).map (jmp (csI G) t)) (by simpa using h t ht)
    obtain ⟨q2, hq2, e2⟩ := List.mem_map.mp h2.1
    refine List.mem_map.mpr ⟨t, ht, ?_⟩
    have g1 : bG n G k (m ||| 1 <<< t) t ≤ jmp (csI G) t q := h2.2 _ (List.mem_map_of_mem hq)
    have g2 : bG n G (k + 1) m l ≤ csI G l t + jmp (csI G) t q2 := h1.2 _ (List.mem_map.mpr ⟨t :: q2, mem_rowsG.mpr ⟨t, ht, q2, hq2, rfl⟩, rfl⟩)
    have g3 : csI G l t + jmp (csI G) t q = bG n G (k + 1) m l := e
    have g4 : jmp (csI G) t q2 = bG n G k (m ||| 1 <<< t) t := e2
    show _ = bG n G (k + 1) m l
    omega
  · obtain ⟨t, ht, rfl⟩ := List.mem_map.mp hy
    have h2 := minI_min (xs := (rowsG n G k (m ||| 1 <<< t) (t : Int)).map (jmp (csI G) t)) (by simpa using h t ht)
    obtain ⟨q2, hq2, e2⟩ := List.mem_map.mp h2.1
    have g2 : bG n G (k + 1) m l ≤ csI G l t + jmp (csI G) t q2 := h1.2 _ (List.mem_map.mpr ⟨t :: q2, mem_rowsG.mpr ⟨t, ht, q2, hq2, rfl⟩, rfl⟩)
    have g4 : jmp (csI G) t q2 = bG n G k (m ||| 1 <<< t) t := e2
    show bG n G (k + 1) m l ≤ _
    omega
theorem wG_succ {n : Nat} {G : List (Int × Int)} {k m : Nat} {l : Int} (hne : nxG n G m l ≠ []) (h : ∀ t ∈ nxG n G m l, rowsG n G k (m ||| 1 <<< t) (t : Int) ≠ []) :
    maxI ((nxG n G m l).map fun t => csI G l t + wG n G k (m ||| 1 <<< t) t) = wG n G (k + 1) m l := by
  have hne2 : rowsG n G (k + 1) m l ≠ [] := by
    obtain ⟨t, ht⟩ := List.exists_mem_of_ne_nil _ hne
    obtain ⟨q, hq⟩ := List.exists_mem_of_ne_nil _ (h t ht)
    exact List.ne_nil_of_mem (mem_rowsG.mpr ⟨t, ht, q, hq, rfl⟩)
  have h1 := maxI_max (xs := (rowsG n G (k + 1) m l).map (jmp (csI G) l)) (by simpa using hne2)
  have h3 := maxI_max (xs := (nxG n G m l).map fun t => csI G l t + wG n G k (m ||| 1 <<< t) t) (by simpa using hne)
  have sub : ∀ t ∈ nxG n G m l, (∃ q ∈ rowsG n G k (m ||| 1 <<< t) (t : Int), jmp (csI G) t q = wG n G k (m ||| 1 <<< t) t) ∧ ∀ q ∈ rowsG n G k (m ||| 1 <<< t) (t : Int), jmp (csI G) t q ≤ wG n G k (m ||| 1 <<< t) t := fun t ht => by
    have h2 := maxI_max (xs := (rowsG n G k (m ||| 1 <<< t) (t : Int)).map (jmp (csI G) t)) (by simpa using h t ht)
    obtain ⟨q2, hq2, e2⟩ := List.mem_map.mp h2.1
    exact ⟨⟨q2, hq2, e2⟩, fun q hq => h2.2 _ (List.mem_map_of_mem hq)⟩
  apply Int.le_antisymm
  · obtain ⟨t, ht, e⟩ := List.mem_map.mp h3.1
    obtain ⟨q, hq, e2⟩ := (sub t ht).1
    have : csI G l t + jmp (csI G) t q ≤ wG n G (k + 1) m l := h1.2 _ (List.mem_map.mpr ⟨t :: q, mem_rowsG.mpr ⟨t, ht, q, hq, rfl⟩, rfl⟩)
    rw [← e]; omega
  · obtain ⟨r, hr, e⟩ := List.mem_map.mp h1.1
    obtain ⟨t, ht, q, hq, rfl⟩ := mem_rowsG.mp hr
    have g1 := (sub t ht).2 q hq
    have g2 : csI G l t + wG n G k (m ||| 1 <<< t) t ≤ _ := h3.2 _ (List.mem_map_of_mem ht)
    have g3 : csI G l t + jmp (csI G) t q = wG n G (k + 1) m l := e
    omega
theorem cG_succ {n : Nat} {G : List (Int × Int)} {k m : Nat} {l : Int} : ((rowsG n G (k + 1) m l).length : Int) = ((nxG n G m l).map fun t => ((rowsG n G k (m ||| 1 <<< t) (t : Int)).length : Int)).sum := by
  show ((((nxG n G m l).flatMap fun t => (rowsG n G k (m ||| 1 <<< t) (t : Int)).map (t :: ·)).length : Nat) : Int) = _
  induction nxG n G m l with
  | nil => rfl
  | cons t L ih =>
    rw [List.flatMap_cons, List.length_append, List.length_map, List.map_cons, List.sum_cons, ← ih]
    omega
/-! greedy rows are those without a slip -/
theorem greedy_iff {n : Nat} {G : List (Int × Int)} : ∀ {k m : Nat} {l : Int} {r : List Nat}, r ∈ rowsG n G k m l ↔ r.length = k ∧ ∀ (s : List Nat) (t : Nat) (q : List Nat), r = s ++ t :: q → t ∈ nxG n G (putL m s) (lastI l s)
  | 0, m, l, r => by
    show r ∈ ([[]] : List (List Nat)) ↔ _
    rw [List.mem_singleton]
    constructor
    · rintro rfl
      refine ⟨rfl, fun s t q e => ?_⟩
      cases s <;> cases e
    · rintro ⟨h, _⟩
      exact List.eq_nil_of_length_eq_zero h
  | k + 1, m, l, r => by
    rw [mem_rowsG]
    constructor
    · rintro ⟨t, ht, q, hq, rfl⟩
      obtain ⟨h1, h2⟩ := greedy_iff.mp hq
      refine ⟨by rw [List.length_cons, h1], fun s u q2 e => ?_⟩
      cases s with
      | nil => injection e with e1 e2; subst e1; exact ht
      | cons v s => injection e with e1 e2; subst e1; exact h2 s u q2 e2
    · rintro ⟨h1, h2⟩
      cases r with
      | nil => cases h1
      | cons t q =>
        exact ⟨t, h2 [] t q rfl, q, greedy_iff.mpr ⟨by simpa using h1, fun s u q2 e => h2 (t :: s) u q2 (by rw [e]; rfl)⟩, rfl⟩
theorem slip_iff {n : Nat} {G : List (Int × Int)} (h0 : ∀ p ∈ G, 0 ≤ p.1) {r : List Nat} (hr : r ∈ rowsF (freeL n G) n 0) : slipF n G r = none ↔ r ∈ rowsG n G n 0 (-1) := by
  have hl := row_len hr
  have hbeg := beg_iff.mp (rows_beg hr)
  have hneg : ∀ m, onC n G m (-1) = [] := fun m => List.filter_eq_nil_iff.mpr fun t _ => by
    intro h
    have := h0 _ (of_decide_eq_true h)
    dsimp only at this
    omega
  have one : ∀ (s : List Nat) (x : Nat) (t : Nat) (q : List Nat), r = (s ++ [x]) ++ t :: q → (slipAt n G r s.length = none ↔ t ∈ nxG n G (maskL (s ++ [x])) (x : Int)) := fun s x t q e => by
    have e1 : r.getD s.length 0 = x := by
      rw [e, List.getD_eq_getElem?_getD, List.append_assoc, List.getElem?_append_right (Nat.le_refl _), Nat.sub_self]; rfl
    have e2 : r.getD (s.length + 1) 0 = t := by
      rw [e, List.getD_eq_getElem?_getD, List.getElem?_append_right (by simp)]
      simp
    have e3 : r.take (s.length + 1) = s ++ [x] := by
      rw [e, List.take_append_of_le_length (by simp), List.take_of_length_le (by simp)]
    have hfree : t ∈ freeL n G (maskL (s ++ [x])) := hbeg (s ++ [x]) t q e
    unfold slipAt
    rw [e1, e2, e3]
    have hon : onL n G (s ++ [x]) x = onC n G (maskL (s ++ [x])) (x : Int) := rfl
    rw [hon]
    unfold nxG
    by_cases hxt : ((x : Int), (t : Int)) ∈ G
    · rw [decide_eq_true hxt]
      have hin : t ∈ onC n G (maskL (s ++ [x])) (x : Int) := List.mem_filter.mpr ⟨hfree, decide_eq_true hxt⟩
      rw [if_neg (List.ne_nil_of_mem hin)]
      exact ⟨fun _ => hin, fun _ => rfl⟩
    · rw [decide_eq_false hxt]
      by_cases hnil : onC n G (maskL (s ++ [x])) (x : Int) = []
      · rw [hnil, if_pos rfl]
        exact ⟨fun _ => hfree, fun _ => rfl⟩
      · rw [if_neg hnil]
        constructor
        · intro h
          cases hh : onC n G (maskL (s ++ [x])) (x : Int) with
          | nil => exact absurd hh hnil
          | cons a b => rw [hh] at h; simp at h
        · intro h
          exact absurd (of_decide_eq_true (List.mem_filter.mp h).2) hxt
  rw [greedy_iff]
  constructor
  · intro h
    refine ⟨hl, fun s t q e => ?_⟩
    rcases List.eq_nil_or_concat s with rfl | ⟨s', x, rfl⟩
    · show t ∈ nxG n G 0 (-1)
      unfold nxG
      rw [if_pos (hneg 0)]
      exact hbeg [] t q e
    · rw [List.concat_eq_append] at e ⊢
      rw [last_snoc]
      refine (one s' x t q e).mp ?_
      unfold slipF at h
      refine List.findSome?_eq_none_iff.mp h _ (List.mem_range.mpr ?_)
      rw [e]; simp
  · rintro ⟨_, h⟩
    refine no_slip fun j hj => ?_
    have hj1 : j + 1 < r.length := by omega
    have e : r = (r.take j ++ [r[j]]) ++ r[j + 1] :: r.drop (j + 2) := by
      rw [List.append_assoc, List.singleton_append, ← List.drop_eq_getElem_cons hj1, ← List.drop_eq_getElem_cons (by omega), List.take_append_drop]
    have := one (r.take j) r[j] r[j + 1] (r.drop (j + 2)) e
    rw [List.length_take, Nat.min_eq_left (by omega)] at this
    refine this.mpr ?_
    have := h (r.take j ++ [r[j]]) r[j + 1] (r.drop (j + 2)) e
    rw [last_snoc] at this
    exact this
/-! ### a slip put right: a row still, with no more jumps -/
theorem up_row {n : Nat} {G : List (Int × Int)} (hm : MemN n G) {r : List Nat} (hp : r.Perm (List.range n)) (h : ∀ p ∈ G, p ∈ upP (rI r)) : r ∈ rowsF (freeL n G) n 0 := by
  refine (row_char fun p hp => (hm p hp).1.1).mpr ⟨hp, fun s t q e a ha => ?_⟩
  have hnd : r.Nodup := hp.nodup_iff.mpr List.nodup_range
  have := h _ ha
  rw [e] at this hnd
  exact up_ahead hnd this
theorem rI_app (a b : List Nat) : rI (a ++ b) = rI a ++ rI b := List.map_append
theorem up_move {A u w : List Nat} {t : Nat} {p : Int × Int} (h : p ∈ upP (rI (A ++ (u ++ t :: w)))) : p ∈ upP (rI (A ++ t :: (u ++ w))) ∨ ∃ v ∈ u, p = ((v : Int), (t : Int)) := by
  rw [rI_app] at h ⊢
  have mem1 : ∀ {b : Int}, b ∈ rI (u ++ t :: w) → b ∈ rI (t :: (u ++ w)) := fun {b} hb => by
    obtain ⟨x, hx, rfl⟩ := List.mem_map.mp hb
    refine rI_mem.mpr ?_
    simp only [List.mem_append, List.mem_cons] at hx ⊢
    rcases hx with h | h | h
    · exact .inr (.inl h)
    · exact .inl h
    · exact .inr (.inr h)
  have tail : ∀ {q : Int × Int}, q ∈ upP (rI (u ++ w)) → q ∈ upP (rI (t :: (u ++ w))) := fun {q} hq => by
    show q ∈ (rI (u ++ w)).map (fun y => ((t : Int), y)) ++ upP (rI (u ++ w))
    exact List.mem_append_right _ hq
  rcases upP_app.mp h with h | ⟨h1, h2⟩ | h
  · exact .inl (upP_app.mpr (.inl h))
  · exact .inl (upP_app.mpr (.inr (.inl ⟨h1, mem1 h2⟩)))
  · rw [rI_app] at h
    rcases upP_app.mp h with h | ⟨h1, h2⟩ | h
    · exact .inl (upP_app.mpr (.inr (.inr (tail (by rw [rI_app]; exact upP_app.mpr (.inl h))))))
    · obtain ⟨v, hv, e⟩ := List.mem_map.mp h1
      rcases List.mem_cons.mp (show p.2 ∈ (t : Int) :: rI w from h2) with e2 | h2
      · exact .inr ⟨v, hv, by rw [← e2, e]⟩
      · exact .inl (upP_app.mpr (.inr (.inr (tail (by rw [rI_app]; exact upP_app.mpr (.inr (.inl ⟨h1, h2⟩)))))))
    · have h : p ∈ (rI w).map (fun y => ((t : Int), y)) ++ upP (rI w) := h
      rcases List.mem_append.mp h with h | h
      · obtain ⟨y, hy, rfl⟩ := List.mem_map.mp h
        refine .inl (upP_app.mpr (.inr (.inr ?_)))
        show _ ∈ (rI (u ++ w)).map (fun y => ((t : Int), y)) ++ upP (rI (u ++ w))
        exact List.mem_append_left _ (List.mem_map.mpr ⟨y, by rw [rI_app]; exact List.mem_append_right _ hy, rfl⟩)
      · exact .inl (upP_app.mpr (.inr (.inr (tail (by rw [rI_app]; exact upP_app.mpr (.inr (.inr h)))))))
theorem last_nat : ∀ (s : List Nat) (a : Nat), ∃ y : Nat, lastI (a : Int) s = (y : Int)
  | [], a => ⟨a, rfl⟩
  | t :: s, _ => last_nat s t
theorem cs_le (G : List (Int × Int)) (l t : Nat) : 0 ≤ csI G (l : Int) t ∧ csI G (l : Int) t ≤ 1 := by
  rw [cs_nat]
  cases (!decide (((l : Int), (t : Int)) ∈ G)) <;> simp [b2]
theorem tri_le {G : List (Int × Int)} (hc : Clo G) (y t : Nat) : ∀ w : List Nat, jmp (csI G) (y : Int) w ≤ csI G (y : Int) t + jmp (csI G) (t : Int) w
  | [] => by
    have := (cs_le G y t).1
    show (0 : Int) ≤ csI G y t + 0
    omega
  | z :: w => by
    show csI G (y : Int) z + jmp (csI G) z w ≤ csI G (y : Int) t + (csI G (t : Int) z + jmp (csI G) z w)
    have h1 := cs_le G y z
    have h2 := cs_le G y t
    have h3 := cs_le G t z
    by_cases g1 : ((y : Int), (t : Int)) ∈ G
    · by_cases g2 : ((t : Int), (z : Int)) ∈ G
      · have : csI G (y : Int) z = 0 := by rw [cs_nat, decide_eq_true (hc _ _ _ g1 g2)]; rfl
        omega
      · have : csI G (t : Int) z = 1 := by rw [cs_nat, decide_eq_false g2]; rfl
        omega
    · have : csI G (y : Int) t = 1 := by rw [cs_nat, decide_eq_false g1]; rfl
      omega
theorem move_le {G : List (Int × Int)} (hc : Clo G) {x t u0 : Nat} (u w : List Nat) (h1 : ((x : Int), (t : Int)) ∈ G) (h2 : ((x : Int), (u0 : Int)) ∉ G) : jmp (csI G) (x : Int) (t :: (u0 :: u ++ w)) ≤ jmp (csI G) (x : Int) (u0 :: u ++ t :: w) := by
  have e1 : jmp (csI G) (x : Int) (t :: (u0 :: u ++ w)) = csI G (x : Int) t + (csI G (t : Int) u0 + (jmp (csI G) u0 u + jmp (csI G) (lastI u0 u) w)) := by
    rw [← jmp_app]; rfl
  have e2 : jmp (csI G) (x : Int) (u0 :: u ++ t :: w) = csI G (x : Int) u0 + (jmp (csI G) u0 u + (csI G (lastI u0 u) t + jmp (csI G) t w)) := by
    show csI G (x : Int) u0 + jmp (csI G) u0 (u ++ t :: w) = _
    rw [jmp_app]; rfl
  rw [e1, e2]
  obtain ⟨y, hy⟩ := last_nat u u0
  rw [hy]
  have g1 : csI G (x : Int) t = 0 := by rw [cs_nat, decide_eq_true h1]; rfl
  have g2 : csI G (x : Int) u0 = 1 := by rw [cs_nat, decide_eq_false h2]; rfl
  have g3 := (cs_le G t u0).2
  have g4 := tri_le hc y t w
  omega
theorem step_row {n : Nat} {G : List (Int × Int)} (hO : Ord n G) {r : List Nat} (hr : r ∈ rowsF (freeL n G) n 0) {q : Nat × Nat} (h : slipF n G r = some q) : stepR r q.1 q.2 ∈ rowsF (freeL n G) n 0 ∧ jmp (csI G) (-1) (stepR r q.1 q.2) ≤ jmp (csI G) (-1) r := by
  have hm := ord_mem hO
  have h0 : ∀ p ∈ G, 0 ≤ p.1 := fun p hp => (hm p hp).1.1
  have hp := rows_perm hr
  have hnd : r.Nodup := hp.nodup_iff.mpr List.nodup_range
  have hsp := step_perm hp h
  obtain ⟨k, h1, hat, _⟩ := findSome_range h
  have hnotg : (((r.getD k 0 : Nat) : Int), ((r.getD (k + 1) 0 : Nat) : Int)) ∉ G := fun hg => by
    unfold slipAt at hat
    rw [decide_eq_true hg] at hat
    cases hat
  obtain ⟨k', g1, g2, g3, _⟩ := slip_some h
  have hkk : k' = k := by
    unfold slipAt at hat
    split at hat
    · cases hh : (onL n G (r.take (k + 1)) (r.getD k 0)).head? with
      | none => rw [hh] at hat; cases hat
      | some t =>
        rw [hh] at hat
        cases hat
        have g2 : k + 1 = k' + 1 := g2
        omega
    · cases hat
  subst hkk
  obtain ⟨q1, t⟩ := q
  have g2 : q1 = k' + 1 := g2
  subst g2
  have g3 : t ∈ onL n G (r.take (k' + 1)) (r.getD k' 0) := g3
  have hfree := (free_iff h0).mp (List.mem_filter.mp g3).1
  have hxt := of_decide_eq_true (List.mem_filter.mp g3).2
  have hin : t ∈ r := hp.mem_iff.mpr (List.mem_range.mpr hfree.1)
  rw [← List.take_append_drop (k' + 1) r] at hin
  have hd : t ∈ r.drop (k' + 1) := by
    rcases List.mem_append.mp hin with h | h
    · exact absurd h hfree.2.1
    · exact h
  obtain ⟨u, w, huw⟩ := List.append_of_mem hd
  have hx : r.getD k' 0 = r[k']'(by omega) := by
    rw [List.getD_eq_getElem?_getD, List.getElem?_eq_getElem (by omega)]; rfl
  have htk : r.take (k' + 1) = r.take k' ++ [r[k']'(by omega)] := take_succ_of (List.getElem?_eq_getElem (by omega))
  have hre : r = r.take (k' + 1) ++ (u ++ t :: w) := by rw [← huw, List.take_append_drop]
  have hdn : (u ++ t :: w).Nodup := by rw [← huw]; exact hnd.sublist (List.drop_sublist _ _)
  have htu : t ∉ u := fun h => (List.nodup_append.mp hdn).2.2 t h t List.mem_cons_self rfl
  have htw : t ∉ w := (List.nodup_cons.mp (List.nodup_append.mp hdn).2.1).1
  have hfil : ((u ++ t :: w).filter fun x => !decide (x = t)) = u ++ w := by
    rw [List.filter_append, List.filter_cons_of_neg (by simp), List.filter_eq_self.mpr, List.filter_eq_self.mpr]
    · intro y hy
      have : y ≠ t := fun e => htw (e ▸ hy)
      simp [this]
    · intro y hy
      have : y ≠ t := fun e => htu (e ▸ hy)
      simp [this]
  have hst : stepR r (k' + 1) t = r.take (k' + 1) ++ t :: (u ++ w) := by
    unfold stepR
    rw [huw, hfil, List.append_assoc]; rfl
  have hu : ∃ u0 u', u = u0 :: u' ∧ r.getD (k' + 1) 0 = u0 := by
    cases u with
    | nil =>
      have : r.getD (k' + 1) 0 = t := by
        rw [List.getD_eq_getElem?_getD, ← List.head?_drop, huw]; rfl
      rw [this] at hnotg
      exact absurd hxt hnotg
    | cons u0 u' =>
      refine ⟨u0, u', rfl, ?_⟩
      rw [List.getD_eq_getElem?_getD, ← List.head?_drop, huw]; rfl
  obtain ⟨u0, u', rfl, hu0⟩ := hu
  show stepR r (k' + 1) t ∈ _ ∧ jmp (csI G) (-1) (stepR r (k' + 1) t) ≤ _
  have hsp : (stepR r (k' + 1) t).Perm (List.range n) := hsp
  constructor
  · refine up_row hm hsp fun p hpG => ?_
    have hup := row_up hm hr p hpG
    rw [hst]
    rw [hre] at hup
    rcases up_move hup with h | ⟨v, hv, e⟩
    · exact h
    · rw [e] at hpG
      have hva := hfree.2.2 v hpG
      rw [hre] at hnd
      exact absurd rfl ((List.nodup_append.mp hnd).2.2 v hva v (List.mem_append_left _ hv))
  · rw [hst]
    conv => rhs; rw [hre]
    rw [jmp_app, jmp_app, htk, last_snoc]
    have := move_le hO.clo u' w (x := r[k']'(by omega)) (t := t) (u0 := u0) (by rw [← hx]; exact hxt) (by rw [← hx, ← hu0]; exact hnotg)
    have h5 : jmp (csI G) ((r[k']'(by omega) : Nat) : Int) (t :: (u0 :: u' ++ w)) ≤ jmp (csI G) ((r[k']'(by omega) : Nat) : Int) (u0 :: u' ++ t :: w) := this
    omega
theorem gone_good {n : Nat} {G : List (Int × Int)} (hO : Ord n G) {d : Nat} {r r' : List Nat} (h : GoneN n G d r r') : r ∈ rowsF (freeL n G) n 0 → r' ∈ rowsF (freeL n G) n 0 ∧ slipF n G r' = none ∧ jmp (csI G) (-1) r' ≤ jmp (csI G) (-1) r := by
  induction h with
  | stop h => exact fun hr => ⟨hr, h, Int.le_refl _⟩
  | go h1 _ ih =>
    intro hr
    obtain ⟨g1, g2⟩ := step_row hO hr h1
    obtain ⟨g3, g4, g5⟩ := ih g1
    exact ⟨g3, g4, Int.le_trans g5 g2⟩
/-- the least number of jumps of greedy rows is the least of all -/
theorem greedy_best {n : Nat} {G : List (Int × Int)} (hO : Ord n G) : bG n G n 0 (-1) = bst (freeL n G) (csI G) n 0 (-1) := by
  have hm := ord_mem hO
  have h0 : ∀ p ∈ G, 0 ≤ p.1 := fun p hp => (hm p hp).1.1
  have hne := rowsG_ne (l := -1) h0 (goes_ok hO) (low_zero n G) rem_zero
  have h1 := minI_min (xs := (rowsG n G n 0 (-1)).map (jmp (csI G) (-1))) (by simpa using hne)
  have h2 := bst_min (cs := csI G) (l := -1) (rows_some hO)
  apply Int.le_antisymm
  · obtain ⟨r, hr, e⟩ := List.mem_map.mp h2.1
    obtain ⟨d, r', g1, g2⟩ := gone_some n r (rows_perm hr) (fun q _ => by omega)
    obtain ⟨g3, g4, g5⟩ := gone_good hO g2 hr
    have : bG n G n 0 (-1) ≤ jmp (csI G) (-1) r' := h1.2 _ (List.mem_map_of_mem ((slip_iff h0 g3).mp g4))
    omega
  · obtain ⟨r, hr, e⟩ := List.mem_map.mp h1.1
    have := h2.2 _ (List.mem_map_of_mem (rowsG_sub hr))
    have e : jmp (csI G) (-1) r = bG n G n 0 (-1) := e
    omega
/-! ### the program's greedy table -/
theorem on_by_all {n : Nat} {G : List (Int × Int)} (hn : n ≤ 1000) (h0 : ∀ p ∈ G, 0 ≤ p.1) (m : Nat) (l : Int) : c_on_by [ordD n G, needsD n G, .int m, .int l] = .ok (.lst ((onC n G m l).map fun t : Nat => D.int t)) := by
  rw [e_on_by]
  unfold b_on_by
  have hf := freeL_len n G m
  simp only [allR_ok, allR_nil, R.ok_bind, free_ok G hn, seqsR_lst, idx_ord1]
  rw [compE_map (xs := freeL n G m) (fun t : Nat => D.int t) (fun t : Nat => decide ((l, (t : Int)) ∈ G)) (fun t : Nat => D.int t) (by show _ ≤ 100000; omega) (fun t _ => ?_) (fun _ _ _ => rfl)]
  · rfl
  · simp only [op2_ok, geR_int, idx_ord1, tupE_2]
    rw [in_pairs]
    by_cases h : (0 : Int) ≤ l
    · rw [decide_eq_true h]; rfl
    · rw [decide_eq_false h, decide_eq_false (fun hg => h (h0 _ hg))]; rfl
theorem nx_len {n : Nat} {G : List (Int × Int)} (m : Nat) (l : Int) : (nxG n G m l).length ≤ n := by
  have h1 := freeL_len n G m
  unfold nxG onC
  split
  · exact h1
  · exact Nat.le_trans (List.length_filter_le _ _) h1
theorem eq_nil_l (l : List Nat) : eqR (.lst (l.map fun t : Nat => D.int t)) (.lst []) = .ok (decide (l = [])) := by
  show (if (fitD (.lst (l.map fun t : Nat => D.int t)) && fitD (.lst [])) = true then R.ok (eqD (.lst (l.map fun t : Nat => D.int t)) (.lst [])) else _) = _
  rw [nats_fit_l l, if_pos (by rfl)]
  cases l <;> rfl
theorem gnext_ok {n : Nat} {G : List (Int × Int)} (hn : n ≤ 1000) (h0 : ∀ p ∈ G, 0 ≤ p.1) (m : Nat) (l : Int) : c_greedy_next [ordD n G, needsD n G, .int m, .int l] = .ok (.lst ((nxG n G m l).map fun t : Nat => D.int t)) := by
  rw [e_greedy_next]
  unfold b_greedy_next
  simp only [allR_ok, allR_nil, R.ok_bind, on_by_all hn h0, lstE_nil, op2_ok, eq_nil_l]
  unfold nxG
  by_cases h : onC n G m l = []
  · rw [decide_eq_true h, if_pos h]
    simp only [ifE_true, free_ok G hn, R.ok_bind]
    rfl
  · rw [decide_eq_false h, if_neg h]
    rfl
def cGN (n : Nat) (G : List (Int × Int)) (s : Nat × Int) : Int := ((rowsG n G (remN n s.1) s.1 s.2).length : Nat)
def bGN (n : Nat) (G : List (Int × Int)) (s : Nat × Int) : Int := bG n G (remN n s.1) s.1 s.2
def wGN (n : Nat) (G : List (Int × Int)) (s : Nat × Int) : Int := wG n G (remN n s.1) s.1 s.2
def entG (n : Nat) (G : List (Int × Int)) (s : Nat × Int) : D := .tup [.int (cGN n G s), .int (bGN n G s), .int (wGN n G s)]
def tabG (n : Nat) (G : List (Int × Int)) (L : List (Nat × Int)) : D := .dct 1 (L.map fun s => (encS s, entG n G s))
theorem tabG_at {n : Nat} {G : List (Int × Int)} {L : List (Nat × Int)} {s : Nat × Int} (h : s ∈ L) : idxR (tabG n G L) (encS s) = .ok (entG n G s) := by
  show (if kindOk (encS s) 1 = true then ofO (lookD (encS s) (L.map fun s => (encS s, entG n G s))) else R.bad) = _
  rw [look_tab h]; rfl
theorem max_map {α : Type} (f : α → Int) {xs : List α} (h : xs ≠ []) : maxR (.lst (xs.map fun x => .int (f x))) = .ok (.int (maxI (xs.map f))) := by
  show (ofO (intsD (xs.map fun x => .int (f x)))).bind (fun ns => if ns.isEmpty then R.bad else R.ok (D.int (maxI ns))) = _
  rw [ints_map]
  simp [h]
theorem zipL_map {α : Type} (f g : α → D) : ∀ xs : List α, zipL (xs.map f) (xs.map g) = xs.map fun x => .tup [f x, g x]
  | [] => rfl
  | x :: xs => by
    rw [List.map_cons, List.map_cons, List.map_cons, ← zipL_map f g xs]; rfl
theorem gtable_ok {n : Nat} {G : List (Int × Int)} (hn : n ≤ 9) (hm : MemN n G) (hg : Goes n G) : c_greedy_table [ordD n G] = .ok (tabG n G (standsL n G)) := by
  have h0 : ∀ p ∈ G, 0 ≤ p.1 := fun p hp => (hm p hp).1.1
  have hlen : (standsL n G).length ≤ 511 * 9 + 1 := by
    have hp : 2 ^ n ≤ 2 ^ 9 := Nat.pow_le_pow_right (by decide) hn
    unfold standsL
    rw [List.length_append]
    refine Nat.add_le_add_right (Nat.le_trans (fm_bound (c := 9) fun m _ => ?_) ?_) 1
    · unfold standsAt
      split
      · rw [List.length_map]
        have h1 := List.length_filter_le (fun l => lowB n G (m ^^^ 1 <<< l)) (thL n m)
        have h2 := thL_len n m
        omega
      · exact Nat.zero_le _
    · unfold down; rw [List.length_map, List.length_range]; omega
  rw [e_greedy_table]
  unfold b_greedy_table
  simp only [allR_ok, allR_nil, R.ok_bind]
  rw [waits_ok hn hm, stands_ok hn hm]
  simp only [R.ok_bind, ownR_dct, seqsR_lst]
  refine for_gen (fun r => finP r = _) (xs := standsL n G) encS (fun i s => s = tabG n G ((standsL n G).take i)) rfl (fun i s st hp hs => ?_) (fun s hs => ?_)
  · subst hs
    refine ⟨_, ?_, rfl⟩
    rw [take_succ_of hp]
    have hin := List.mem_of_getElem? hp
    have hlow := stands_low hin
    have hlt := (stands_lt hin).1
    obtain ⟨m, l⟩ := s
    have hlow : lowB n G m = true := hlow
    have hlt : m < 2 ^ n := hlt
    simp only [encS, un2_tup, allR_ok, allR_nil, R.ok_bind, gnext_ok (show n ≤ 1000 by omega) h0]
    have hno : (m, l) ∉ (standsL n G).take i := fun h => by
      obtain ⟨j, hj⟩ := List.mem_iff_getElem?.mp h
      have hji : j < i := by
        have := (List.getElem?_eq_some_iff.mp hj).1
        rw [List.length_take] at this; omega
      rw [List.getElem?_take_of_lt hji] at hj
      have := at_inj stands_nodup hj hp
      omega
    have hlt2 : ((standsL n G).take i).length < 100000 := by rw [List.length_take]; omega
    have hset : setE (tabG n G ((standsL n G).take i)) (R.ok (.tup [.int m, .int l])) (R.ok (.tup [.int (cGN n G (m, l)), .int (bGN n G (m, l)), .int (wGN n G (m, l))])) = .ok (tabG n G ((standsL n G).take i ++ [(m, l)])) := by
      show (if (kindOk (encS (m, l)) 1 && decide (List.length _ < most)) = true then R.ok (D.dct 1 (putD (encS (m, l)) (entG n G (m, l)) _)) else .bad) = _
      rw [if_pos (by rw [List.length_map, decide_eq_true (show _ < most from hlt2)]; rfl), put_tab hno]
      rfl
    refine seq_gen (fun r => r = _) (fun s17 => s17 = tabG n G ((standsL n G).take i ++ [(m, l)])) ?_ (fun s17 hs => by rw [hs])
    by_cases hf : freeL n G m = []
    · have hr : remN n m = 0 := Classical.byContradiction fun h => hg m hlow h hf
      have e1 : bGN n G (m, l) = 0 := by unfold bGN; rw [hr]; rfl
      have e2 : cGN n G (m, l) = 1 := by unfold cGN; rw [hr]; rfl
      have e3 : wGN n G (m, l) = 0 := by unfold wGN; rw [hr]; rfl
      rw [e1, e2, e3] at hset
      rw [nx_nil hf]
      have he : eqR (.lst (([] : List Nat).map fun t : Nat => D.int t)) (.lst []) = .ok true := rfl
      simp only [lstE_nil, op2_ok, he, ifE_true, tupE_2, tupE_3]
      rw [hset]
      exact ⟨_, rfl, rfl⟩
    · obtain ⟨k, hk⟩ : ∃ k, remN n m = k + 1 := ⟨remN n m - 1, by
        have : remN n m ≠ 0 := fun h => hf (rem_none h)
        omega⟩
      have hx := nx_ne' (l := l) hf
      have hkt : ∀ t ∈ nxG n G m l, remN n (m ||| 1 <<< t) = k := fun t ht => by
        have ht := nx_sub ht
        have := rem_put (n := n) (mem_free.mp ht).1 (mem_free.mp ht).2.1
        omega
      have hrow : ∀ t ∈ nxG n G m l, rowsG n G k (m ||| 1 <<< t) (t : Int) ≠ [] := fun t ht => rowsG_ne h0 hg (low_put h0 hlow (nx_sub ht)) (hkt t ht)
      have hnl := nx_len (n := n) (G := G) m l
      simp only [lstE_nil, op2_ok, eq_nil_l, decide_eq_false hx, ifE_false, seqsR_lst]
      rw [compE_all (xs := nxG n G m l) (fun t : Nat => D.int t) (fun t => entG n G (m ||| 1 <<< t, (t : Int))) (by show _ ≤ 100000; omega) (fun t ht => by
        have h1 := mem_free.mp (nx_sub ht)
        have hin2 : (m ||| 1 <<< t, (t : Int)) ∈ (standsL n G).take i := by
          refine ahead_in stands_desc hp (stands_put h0 hlow hlt (nx_sub ht)) (fun e => ?_) ?_
          · have := lt_put h1.2.1
            have := (Prod.mk.inj e).1
            omega
          · have := lt_put h1.2.1
            show ¬ m ||| 1 <<< t ≤ m
            omega
        rw [shl_one t (by omega), op2_ok, bor_nat, tupE_2, op2_ok]
        exact tabG_at hin2)]
      simp only [R.ok_bind]
      rw [compE_all (xs := nxG n G m l) (fun t : Nat => D.int t) (fun t => D.int (csI G l t)) (by show _ ≤ 100000; omega) (fun t _ => cost_ok l t)]
      have hzip : zipR (.lst ((nxG n G m l).map fun t => D.int (csI G l t))) (.lst ((nxG n G m l).map fun t => entG n G (m ||| 1 <<< t, (t : Int)))) = .ok ((nxG n G m l).map fun t => .tup [D.int (csI G l t), entG n G (m ||| 1 <<< t, (t : Int))]) := by
        rw [← zipL_map]; rfl
      simp only [R.ok_bind, op2_ok, hzip]
      rw [compE_all (xs := nxG n G m l) (fun t => D.tup [D.int (csI G l t), entG n G (m ||| 1 <<< t, (t : Int))]) (fun t => D.int (csI G l t + bG n G k (m ||| 1 <<< t) t)) (by show _ ≤ 100000; omega) (fun t ht => by
        show (idxR (entG n G (m ||| 1 <<< t, (t : Int))) (.int 1)).bind (addR (.int (csI G l t))) = _
        unfold entG bGN
        dsimp only
        rw [hkt t ht]; rfl), op1_ok, min_map _ hx, bG_succ hx hrow]
      simp only [R.ok_bind]
      rw [compE_all (xs := nxG n G m l) (fun t => D.tup [D.int (csI G l t), entG n G (m ||| 1 <<< t, (t : Int))]) (fun t => D.int (csI G l t + wG n G k (m ||| 1 <<< t) t)) (by show _ ≤ 100000; omega) (fun t ht => by
        show (idxR (entG n G (m ||| 1 <<< t, (t : Int))) (.int 2)).bind (addR (.int (csI G l t))) = _
        unfold entG wGN
        dsimp only
        rw [hkt t ht]; rfl), op1_ok, max_map _ hx, wG_succ hx hrow]
      simp only [R.ok_bind, seqsR_lst]
      rw [compE_all (xs := nxG n G m l) (fun t => entG n G (m ||| 1 <<< t, (t : Int))) (fun t => D.int ((rowsG n G k (m ||| 1 <<< t) (t : Int)).length : Nat)) (by show _ ≤ 100000; omega) (fun t ht => by
        unfold entG cGN
        dsimp only
        rw [hkt t ht]; rfl), op1_ok, sum_map, ← cG_succ]
      have e1 : bGN n G (m, l) = bG n G (k + 1) m l := by unfold bGN; rw [hk]
      have e2 : cGN n G (m, l) = ((rowsG n G (k + 1) m l).length : Nat) := by unfold cGN; rw [hk]
      have e3 : wGN n G (m, l) = wG n G (k + 1) m l := by unfold wGN; rw [hk]
      rw [e1, e2, e3] at hset
      rw [tupE_2, tupE_3, hset]
      exact ⟨_, rfl, rfl⟩
  · subst hs
    rw [List.take_of_length_le (Nat.le_refl _)]
    rfl
theorem gread {n : Nat} {G : List (Int × Int)} (hn : n ≤ 9) (hm : MemN n G) (hg : Goes n G) : idxR (tabG n G (standsL n G)) (.tup [.int 0, .int (-1)]) = .ok (.tup [.int ((rowsG n G n 0 (-1)).length : Nat), .int (bG n G n 0 (-1)), .int (wG n G n 0 (-1))]) := by
  have e := tabG_at (n := n) (G := G) (start_in n G)
  unfold encS entG cGN bGN wGN at e
  dsimp only at e
  rw [rem_zero] at e
  exact e
theorem gmany_ok {n : Nat} {G : List (Int × Int)} (hn : n ≤ 9) (hm : MemN n G) (hg : Goes n G) : c_greedy_many [ordD n G] = .ok (.int ((rowsG n G n 0 (-1)).length : Nat)) := by
  rw [e_greedy_many]
  unfold b_greedy_many
  simp only [allR_ok, allR_nil, R.ok_bind]
  rw [gtable_ok hn hm hg]
  simp only [op1_ok, negR_int, tupE_2, op2_ok]
  rw [gread hn hm hg]
  rfl
theorem gleast_ok {n : Nat} {G : List (Int × Int)} (hn : n ≤ 9) (hm : MemN n G) (hg : Goes n G) : c_greedy_least [ordD n G] = .ok (.int (bG n G n 0 (-1))) := by
  rw [e_greedy_least]
  unfold b_greedy_least
  simp only [allR_ok, allR_nil, R.ok_bind]
  rw [gtable_ok hn hm hg]
  simp only [op1_ok, negR_int, tupE_2, op2_ok]
  rw [gread hn hm hg]
  rfl
theorem gmost_ok {n : Nat} {G : List (Int × Int)} (hn : n ≤ 9) (hm : MemN n G) (hg : Goes n G) : c_greedy_most [ordD n G] = .ok (.int (wG n G n 0 (-1))) := by
  rw [e_greedy_most]
  unfold b_greedy_most
  simp only [allR_ok, allR_nil, R.ok_bind]
  rw [gtable_ok hn hm hg]
  simp only [op1_ok, negR_int, tupE_2, op2_ok]
  rw [gread hn hm hg]
  rfl
/-! the first greedy row -/
def fgL (n : Nat) (G : List (Int × Int)) : Nat → Nat → Int → List Nat
  | 0, _, _ => []
  | k + 1, m, l => (nxG n G m l).headD 0 :: fgL n G k (m ||| 1 <<< (nxG n G m l).headD 0) ((nxG n G m l).headD 0 : Nat)
theorem fg_head {n : Nat} {G : List (Int × Int)} (h0 : ∀ p ∈ G, 0 ≤ p.1) (hg : Goes n G) : ∀ {k m : Nat} {l : Int}, lowB n G m = true → remN n m = k → (rowsG n G k m l).head? = some (fgL n G k m l)
  | 0, m, l, _, _ => rfl
  | k + 1, m, l, hl, hr => by
    have hf := hg m hl (by omega)
    have hx := nx_ne' (l := l) hf
    show ((nxG n G m l).flatMap fun t => (rowsG n G k (m ||| 1 <<< t) (t : Int)).map (t :: ·)).head? = some (fgL n G (k + 1) m l)
    unfold fgL
    cases hq : nxG n G m l with
    | nil => exact absurd hq hx
    | cons t L =>
      have ht : t ∈ nxG n G m l := by rw [hq]; exact List.mem_cons_self
      have htf := nx_sub ht
      have h1 := mem_free.mp htf
      have := rem_put (n := n) h1.1 h1.2.1
      have ih := fg_head h0 hg (k := k) (l := (t : Int)) (low_put h0 hl htf) (by omega)
      rw [List.flatMap_cons]
      show (((rowsG n G k (m ||| 1 <<< t) (t : Int)).map (t :: ·)) ++ _).head? = some (t :: fgL n G k (m ||| 1 <<< t) (t : Nat))
      cases hr2 : rowsG n G k (m ||| 1 <<< t) (t : Int) with
      | nil => rw [hr2] at ih; cases ih
      | cons a b =>
        rw [hr2] at ih
        injection ih with ih
        rw [← ih]; rfl
theorem fgreedy_ok {n : Nat} {G : List (Int × Int)} (hn : n ≤ 9) (hm : MemN n G) (hg : Goes n G) : c_first_greedy [ordD n G] = .ok (encR (fgL n G n 0 (-1))) := by
  have h0 : ∀ p ∈ G, 0 ≤ p.1 := fun p hp => (hm p hp).1.1
  rw [e_first_greedy]
  unfold b_first_greedy
  simp only [allR_ok, allR_nil, R.ok_bind]
  rw [waits_ok hn hm]
  simp only [op1_ok, negR_int, tupE_2, lstE_nil, ownR_lst, R.ok_bind, un2_tup]
  refine while_gen (fun r => finP r = _) (fun k s => ∃ (r0 : List Nat) (m : Nat) (l : Int), s = (.lst (r0.map fun t : Nat => D.int t), .int m, .int l) ∧ r0.length + k = n ∧ (m, l) ∈ standsL n G ∧ remN n m = k ∧ r0 ++ fgL n G k m l = fgL n G n 0 (-1)) n (by omega)
    ⟨[], 0, -1, rfl, by simp, start_in n G, rem_zero, rfl⟩ (fun k s hJ => ?_) (fun s hJ => ?_) (fun s hJ => ?_)
  · obtain ⟨r0, m, l, rfl, h1, h2, h3, h4⟩ := hJ
    have hlow : lowB n G m = true := stands_low h2
    have hlt : m < 2 ^ n := (stands_lt h2).1
    have hf := hg m hlow (by omega)
    have hx := nx_ne' (l := l) hf
    refine ⟨?_, ?_⟩
    · simp only [op1_ok, lenR_lst, List.length_map, idx_ord0, op2_ok, ltR_int]
      rw [decide_eq_true (by omega)]
    · simp only [allR_ok, allR_nil, R.ok_bind, gnext_ok (show n ≤ 1000 by omega) h0]
      obtain ⟨t0, L0, hnl⟩ : ∃ t0 L0, nxG n G m l = t0 :: L0 := by
        cases hq : nxG n G m l with
        | nil => exact absurd hq hx
        | cons a b => exact ⟨a, b, rfl⟩
      have ht0 : t0 ∈ freeL n G m := nx_sub (l := l) (by rw [hnl]; exact List.mem_cons_self)
      have hft := mem_free.mp ht0
      have hrem := rem_put (n := n) hft.1 hft.2.1
      rw [hnl, List.map_cons, op2_ok, show idxR (D.lst (D.int t0 :: L0.map fun t : Nat => D.int t)) (.int 0) = .ok (.int t0) from idx_lst (i := 0) rfl]
      simp only [R.ok_bind, op2_ok]
      rw [shl_one t0 (by omega), op2_ok, bor_nat, R.ok_bind, appendE_ok (by rw [List.length_map]; omega), R.ok_bind]
      refine ⟨_, rfl, r0 ++ [t0], m ||| 1 <<< t0, (t0 : Int), by rw [List.map_append]; rfl, by rw [List.length_append]; show r0.length + 1 + k = n; omega, stands_put h0 hlow hlt ht0, by omega, ?_⟩
      rw [← h4, List.append_assoc]
      congr 1
      show _ = (nxG n G m l).headD 0 :: fgL n G k (m ||| 1 <<< (nxG n G m l).headD 0) ((nxG n G m l).headD 0 : Nat)
      rw [hnl]
      rfl
  · obtain ⟨r0, m, l, rfl, h1, h2, h3, h4⟩ := hJ
    simp only [op1_ok, lenR_lst, List.length_map, idx_ord0, op2_ok, ltR_int]
    rw [decide_eq_false (by omega)]
  · obtain ⟨r0, m, l, rfl, h1, h2, h3, h4⟩ := hJ
    have h4 : r0 ++ [] = _ := h4
    rw [List.append_nil] at h4
    rw [← h4]
    rfl
theorem lexN_app : ∀ (r : List Nat) {a b : List Nat}, lexN a b → lexN (r ++ a) (r ++ b)
  | [], _, _, h => h
  | _ :: r, _, _, h => .inr ⟨rfl, lexN_app r h⟩
/-! the first of the best -/
theorem fbest_ok {n : Nat} {G : List (Int × Int)} (hn : n ≤ 9) (hm : MemN n G) (hg : Goes n G) : ∃ r ∈ rowsG n G n 0 (-1), c_first_best [ordD n G] = .ok (encR r) ∧ jmp (csI G) (-1) r = bG n G n 0 (-1) ∧ ∀ q ∈ rowsG n G n 0 (-1), jmp (csI G) (-1) q = bG n G n 0 (-1) → q = r ∨ lexN r q := by
  have h0 : ∀ p ∈ G, 0 ≤ p.1 := fun p hp => (hm p hp).1.1
  rw [e_first_best]
  unfold b_first_best
  simp only [allR_ok, allR_nil, R.ok_bind]
  rw [gtable_ok hn hm hg, waits_ok hn hm]
  simp only [op1_ok, negR_int, tupE_2, lstE_nil, ownR_lst, R.ok_bind, un2_tup]
  refine while_gen (fun x => ∃ r ∈ rowsG n G n 0 (-1), finP x = .ok (encR r) ∧ jmp (csI G) (-1) r = bG n G n 0 (-1) ∧ ∀ q ∈ rowsG n G n 0 (-1), jmp (csI G) (-1) q = bG n G n 0 (-1) → q = r ∨ lexN r q)
    (fun k s => ∃ (r0 : List Nat) (m : Nat) (l : Int), s = (.lst (r0.map fun t : Nat => D.int t), .int m, .int l) ∧ r0.length + k = n ∧ (m, l) ∈ standsL n G ∧ remN n m = k ∧ (∀ q ∈ rowsG n G k m l, r0 ++ q ∈ rowsG n G n 0 (-1) ∧ (jmp (csI G) l q = bG n G k m l → jmp (csI G) (-1) (r0 ++ q) = bG n G n 0 (-1))) ∧
      ∀ q ∈ rowsG n G n 0 (-1), jmp (csI G) (-1) q = bG n G n 0 (-1) → (∃ q' ∈ rowsG n G k m l, q = r0 ++ q' ∧ jmp (csI G) l q' = bG n G k m l) ∨ ∀ q' ∈ rowsG n G k m l, lexN (r0 ++ q') q) n (by omega)
    ⟨[], 0, -1, rfl, by simp, start_in n G, rem_zero, fun q hq => ⟨hq, fun h => h⟩, fun q hq e => .inl ⟨q, hq, rfl, e⟩⟩ (fun k s hJ => ?_) (fun s hJ => ?_) (fun s hJ => ?_)
  · obtain ⟨r0, m, l, rfl, h1, h2, h3, h4, h5⟩ := hJ
    have hlow : lowB n G m = true := stands_low h2
    have hlt : m < 2 ^ n := (stands_lt h2).1
    have hf := hg m hlow (by omega)
    have hx := nx_ne' (l := l) hf
    have hkt : ∀ t ∈ nxG n G m l, remN n (m ||| 1 <<< t) = k := fun t ht => by
      have ht := nx_sub ht
      have := rem_put (n := n) (mem_free.mp ht).1 (mem_free.mp ht).2.1
      omega
    have hrow : ∀ t ∈ nxG n G m l, rowsG n G k (m ||| 1 <<< t) (t : Int) ≠ [] := fun t ht => rowsG_ne h0 hg (low_put h0 hlow (nx_sub ht)) (hkt t ht)
    refine ⟨?_, ?_⟩
    · simp only [op1_ok, lenR_lst, List.length_map, idx_ord0, op2_ok, ltR_int]
      rw [decide_eq_true (by omega)]
    · have ent : idxR (tabG n G (standsL n G)) (.tup [.int m, .int l]) = .ok (entG n G (m, l)) := tabG_at h2
      have i1 : ∀ s, idxR (entG n G s) (.int 1) = .ok (.int (bGN n G s)) := fun _ => rfl
      have hnl := nx_len (n := n) (G := G) m l
      have hbk : bGN n G (m, l) = bG n G (k + 1) m l := by unfold bGN; rw [h3]
      simp only [tupE_2, op2_ok, ent, i1, allR_ok, allR_nil, R.ok_bind, gnext_ok (show n ≤ 1000 by omega) h0, seqsR_lst]
      rw [compE_map (xs := nxG n G m l) (fun t : Nat => D.int t) (fun t => decide (csI G l t + bG n G k (m ||| 1 <<< t) t = bG n G (k + 1) m l)) (fun t : Nat => D.int t) (by show _ ≤ 100000; omega) (fun t ht => by
        have h6 := mem_free.mp (nx_sub ht)
        have e2 : idxR (tabG n G (standsL n G)) (.tup [.int ((m ||| 1 <<< t : Nat) : Int), .int t]) = .ok (entG n G (m ||| 1 <<< t, (t : Int))) := tabG_at (stands_put h0 hlow hlt (nx_sub ht))
        rw [cost_ok l t, shl_one t (by omega), op2_ok, bor_nat, tupE_2, op2_ok, e2, op2_ok, i1, op2_ok, addR_int, op2_ok, eqR_int, hbk]
        unfold bGN
        dsimp only
        rw [hkt t ht]
        rfl) (fun _ _ _ => rfl)]
      have hgood : ((nxG n G m l).filter fun t => decide (csI G l t + bG n G k (m ||| 1 <<< t) t = bG n G (k + 1) m l)) ≠ [] := by
        have := (minI_min (xs := (nxG n G m l).map fun t => csI G l t + bG n G k (m ||| 1 <<< t) t) (by simpa using hx)).1
        rw [bG_succ hx hrow] at this
        obtain ⟨t, ht, e⟩ := List.mem_map.mp this
        exact List.ne_nil_of_mem (List.mem_filter.mpr ⟨ht, decide_eq_true e⟩)
      obtain ⟨t0, L0, hnl2⟩ : ∃ t0 L0, ((nxG n G m l).filter fun t => decide (csI G l t + bG n G k (m ||| 1 <<< t) t = bG n G (k + 1) m l)) = t0 :: L0 := by
        cases hq : ((nxG n G m l).filter fun t => decide (csI G l t + bG n G k (m ||| 1 <<< t) t = bG n G (k + 1) m l)) with
        | nil => exact absurd hq hgood
        | cons a b => exact ⟨a, b, rfl⟩
      have ht0 : t0 ∈ (nxG n G m l).filter fun t => decide (csI G l t + bG n G k (m ||| 1 <<< t) t = bG n G (k + 1) m l) := by rw [hnl2]; exact List.mem_cons_self
      obtain ⟨ht0, heq0⟩ := List.mem_filter.mp ht0
      have heq0 := of_decide_eq_true heq0
      have hft := mem_free.mp (nx_sub ht0)
      have hup : ∀ u ∈ nxG n G m l, csI G l u + bG n G k (m ||| 1 <<< u) u = bG n G (k + 1) m l → u = t0 ∨ t0 < u := fun u hu e => by
        have h6 : u ∈ (nxG n G m l).filter fun t => decide (csI G l t + bG n G k (m ||| 1 <<< t) t = bG n G (k + 1) m l) := List.mem_filter.mpr ⟨hu, decide_eq_true e⟩
        have h7 : ((nxG n G m l).filter fun t => decide (csI G l t + bG n G k (m ||| 1 <<< t) t = bG n G (k + 1) m l)).Pairwise (· < ·) := nx_up.filter _
        rw [hnl2] at h6 h7
        rcases List.mem_cons.mp h6 with h | h
        · exact .inl h
        · exact .inr ((List.pairwise_cons.mp h7).1 u h)
      simp only [R.ok_bind]
      rw [hnl2, List.map_cons, show idxR (D.lst (D.int t0 :: L0.map fun t : Nat => D.int t)) (.int 0) = .ok (.int t0) from idx_lst (i := 0) rfl]
      simp only [R.ok_bind, op2_ok]
      rw [shl_one t0 (by omega), op2_ok, bor_nat, R.ok_bind, appendE_ok (by rw [List.length_map]; omega), R.ok_bind]
      refine ⟨_, rfl, r0 ++ [t0], m ||| 1 <<< t0, (t0 : Int), by rw [List.map_append]; rfl, by rw [List.length_append]; show r0.length + 1 + k = n; omega, stands_put h0 hlow hlt (nx_sub ht0), hkt t0 ht0, fun q hq => ?_, fun q hq e => ?_⟩
      · have h6 := h4 (t0 :: q) (mem_rowsG.mpr ⟨t0, ht0, q, hq, rfl⟩)
        rw [List.append_assoc]
        refine ⟨h6.1, fun e => h6.2 ?_⟩
        show csI G l t0 + jmp (csI G) t0 q = _
        rw [e, heq0]
      · rcases h5 q hq e with ⟨q', hq', rfl, e'⟩ | h
        · obtain ⟨u, hu, q2, hq2, rfl⟩ := mem_rowsG.mp hq'
          have e' : csI G l u + jmp (csI G) u q2 = bG n G (k + 1) m l := e'
          have g1 : bG n G k (m ||| 1 <<< u) u ≤ jmp (csI G) u q2 := (minI_min (xs := (rowsG n G k (m ||| 1 <<< u) (u : Int)).map (jmp (csI G) u)) (by simpa using hrow u hu)).2 _ (List.mem_map_of_mem hq2)
          have g2 := (minI_min (xs := (nxG n G m l).map fun t => csI G l t + bG n G k (m ||| 1 <<< t) t) (by simpa using hx)).2 _ (List.mem_map_of_mem hu)
          rw [bG_succ hx hrow] at g2
          have g3 : csI G l u + bG n G k (m ||| 1 <<< u) u = bG n G (k + 1) m l := by omega
          rcases hup u hu g3 with rfl | hlt2
          · exact .inl ⟨q2, hq2, by rw [List.append_assoc]; rfl, by omega⟩
          · refine .inr fun q3 hq3 => ?_
            rw [List.append_assoc]
            exact lexN_app r0 (.inl hlt2)
        · exact .inr fun q3 hq3 => by
            rw [List.append_assoc]
            exact h (t0 :: q3) (mem_rowsG.mpr ⟨t0, ht0, q3, hq3, rfl⟩)
  · obtain ⟨r0, m, l, rfl, h1, h2, h3, h4, h5⟩ := hJ
    simp only [op1_ok, lenR_lst, List.length_map, idx_ord0, op2_ok, ltR_int]
    rw [decide_eq_false (by omega)]
  · obtain ⟨r0, m, l, rfl, h1, h2, h3, h4, h5⟩ := hJ
    have g := h4 [] (by show ([] : List Nat) ∈ ([[]] : List (List Nat)); simp)
    rw [List.append_nil] at g
    refine ⟨r0, g.1, rfl, g.2 rfl, fun q hq e => ?_⟩
    rcases h5 q hq e with ⟨q', hq', rfl, _⟩ | h
    · have hq' : q' ∈ ([[]] : List (List Nat)) := hq'
      rw [List.mem_singleton] at hq'
      subst hq'
      rw [List.append_nil]; exact .inl rfl
    · have := h [] (by show ([] : List Nat) ∈ ([[]] : List (List Nat)); simp)
      rw [List.append_nil] at this
      exact .inr this
theorem beg_snoc {n : Nat} {G : List (Int × Int)} {s : List Nat} (hb : begB n G 0 s = true) {t : Nat} (ht : t ∈ freeL n G (maskL s)) : begB n G 0 (s ++ [t]) = true := by
  refine beg_iff.mpr fun s1 u q e => ?_
  rcases List.append_eq_append_iff.mp e.symm with ⟨a, e1, e2⟩ | ⟨a, e1, e2⟩
  · cases a with
    | nil =>
      rw [List.append_nil] at e1
      have e2 : u :: q = [t] := by simpa using e2
      injection e2 with e3 e4
      subst e3
      rw [← e1]
      exact ht
    | cons v a =>
      have e2 : u :: q = v :: (a ++ [t]) := by simpa using e2
      injection e2 with e3 e4
      subst e3
      exact beg_iff.mp hb s1 u a e1
  · have : a = [] ∨ ∃ v b, a = v :: b := by cases a <;> simp
    rcases this with rfl | ⟨v, b, rfl⟩
    · rw [List.append_nil] at e1
      have e2 : [t] = u :: q := by simpa using e2
      injection e2 with e3 e4
      subst e3
      rw [e1]
      exact ht
    · have := congrArg List.length e2
      simp at this
theorem beg_things {n : Nat} {G : List (Int × Int)} (hO : Ord n G) {s : List Nat} (hb : begB n G 0 s = true) : s.Nodup ∧ (∀ t ∈ s, t < n) ∧ s.length ≤ n := by
  obtain ⟨r, hr⟩ := List.exists_mem_of_ne_nil _ (pre_ne hO hb)
  obtain ⟨h1, h2⟩ := List.mem_filter.mp hr
  have h2 := of_decide_eq_true h2
  obtain ⟨g1, g2⟩ := rows_things h1
  have hsub : s.Sublist r := by rw [← h2]; exact List.take_sublist _ _
  refine ⟨g1.sublist hsub, fun t ht => (g2 t (hsub.subset ht)).1, ?_⟩
  have := hsub.length_le
  rw [row_len h1] at this
  exact this
theorem whole_from {n : Nat} {G : List (Int × Int)} (hn : n ≤ 9) (hO : Ord n G) {r : List Nat} (hr : r ∈ rowsF (freeL n G) n 0) : c_fewest_from [ordD n G, encR r] = .ok (.int (jmp (csI G) (-1) r)) := by
  have h0 : ∀ p ∈ G, 0 ≤ p.1 := fun p hp => (hO.mem hp).1.1
  have hb := rows_beg hr
  have hl := row_len hr
  have hr0 := (beg_len h0 hb).2
  rw [from_ok hn hO (by omega) (fun t ht => by have := ((rows_things hr).2 t ht).1; omega) hb]
  unfold fromI bsN
  rw [show remN n (maskL r) = 0 by omega]
  congr 2
  show jmp (csI G) (-1) r + minI ([[]].map (jmp (csI G) _)) = _
  show jmp (csI G) (-1) r + 0 = _
  omega
theorem row_yes {n : Nat} {G : List (Int × Int)} (hn : n ≤ 9) (hm : MemN n G) {r : List Nat} (hr : r ∈ rowsF (freeL n G) n 0) : c_is_row [ordD n G, encR r] = .ok (.bl true) := by
  have hl := row_len hr
  rw [is_row_ok hn hm (by omega) (fun t ht => by have := ((rows_things hr).2 t ht).1; omega), rows_beg hr, decide_eq_true hl]
  rfl
theorem slipby {n : Nat} {G : List (Int × Int)} (hn : n ≤ 9) (hm : MemN n G) {r : List Nat} (hr : r ∈ rowsF (freeL n G) n 0) : c_slip_by [ordD n G, encR r] = .ok (slipD (slipF n G r)) :=
  slip_by_ok hn hm (by rw [row_len hr]; omega) (fun t ht => by have := ((rows_things hr).2 t ht).1; omega)
theorem ggood_ok {n : Nat} {G : List (Int × Int)} (hn : n ≤ 9) (hm : MemN n G) {r : List Nat} (hr : r ∈ rowsF (freeL n G) n 0) : c_greedy_good [ordD n G, encR r] = .ok (.bl (slipF n G r).isNone) := by
  rw [e_greedy_good]
  unfold b_greedy_good
  simp only [allR_ok, allR_nil, R.ok_bind, row_yes hn hm hr, andV, truT_bl]
  rw [slipby hn hm hr]
  cases slipF n G r <;> rfl
theorem slipof_ok {n : Nat} {G : List (Int × Int)} (hn : n ≤ 9) (hm : MemN n G) {r : List Nat} (hr : r ∈ rowsF (freeL n G) n 0) : c_slip_of [ordD n G, encR r] = .ok (slipD (slipF n G r)) := by
  rw [e_slip_of]
  unfold b_slip_of
  simp only [allR_ok, allR_nil, R.ok_bind, check_row_yes (row_yes hn hm hr)]
  rw [slipby hn hm hr]
  rfl
theorem gone_ok {n : Nat} {G : List (Int × Int)} (hn : n ≤ 9) (hO : Ord n G) {r : List Nat} (hr : r ∈ rowsF (freeL n G) n 0) : ∃ r' ∈ rowsF (freeL n G) n 0, c_gone_on [ordD n G, encR r] = .ok (encR r') ∧ slipF n G r' = none ∧ jmp (csI G) (-1) r' ≤ jmp (csI G) (-1) r ∧ (slipF n G r = none → r' = r) := by
  have hm := ord_mem hO
  have hp := rows_perm hr
  have small : ∀ s : List Nat, s.Perm (List.range n) → s.length ≤ 1000 ∧ ∀ t ∈ s, t ≤ 1000 := fun s hs => ⟨by rw [hs.length_eq, List.length_range]; omega, fun t ht => by have := List.mem_range.mp (hs.mem_iff.mp ht); omega⟩
  obtain ⟨d, r', h1, h2⟩ := gone_some n r hp (fun q _ => by omega)
  obtain ⟨g1, g2, g3⟩ := gone_good hO h2 hr
  refine ⟨r', g1, ?_, g2, g3, fun hno => ?_⟩
  · rw [e_gone_on]
    unfold b_gone_on
    simp only [allR_ok, allR_nil, R.ok_bind, check_row_yes (row_yes hn hm hr)]
    rw [slip_by_ok hn hm (small r hp).1 (small r hp).2]
    simp only [R.ok_bind]
    rw [gone_loop (n := n) (G := G) (fun s q => ?_) (fun s q hs hq => ?_) h2 _ (by omega) hp]
    · rfl
    · cases q <;> rfl
    · have e1 : cutE (R.ok (encR s)) (some (R.ok (.int q.1))) none = .ok (encR (s.drop q.1)) := by unfold encR; rw [cutE_from_tup, drop_map]
      have e2 : cutE (R.ok (encR s)) none (some (R.ok (.int q.1))) = .ok (encR (s.take q.1)) := by unfold encR; rw [cutE_to_tup, take_map]
      have e3 := rest_ok (small s hs).1 q.1 q.2
      have e4 := cat_ok (small s hs).1 q.1 q.2
      show (un2 _ (D.tup [.int q.1, .int q.2])) = _
      simp only [un2_tup, e1, e2, R.ok_bind, tupE_1]
      rw [show seqsR (encR (s.drop q.1)) = .ok ((s.drop q.1).map fun t : Nat => D.int t) from rfl]
      simp only [op2_ok]
      rw [e3]
      simp only [op1_ok, tupleR, seqsR_lst, R.ok_bind]
      simp only [op2_ok] at e4
      rw [e4]
      simp only [R.ok_bind, allR_ok, allR_nil]
      rw [slip_by_ok hn hm (small _ (step_perm hs hq)).1 (small _ (step_perm hs hq)).2]
      rfl
  · cases h2 with
    | stop _ => rfl
    | go h3 _ => rw [hno] at h3; cases h3
theorem rowby_ok {n : Nat} {G : List (Int × Int)} (hn : n ≤ 9) (hO : Ord n G) {p : D} (hp : Pen p) : ∃ r ∈ rowsF (freeL n G) n 0, ∃ p' : D, c__law_row_by [p, ordD n G] = .ok (encR r, [p']) ∧ Pen p' := by
  have hm := ord_mem hO
  have h0 : ∀ p ∈ G, 0 ≤ p.1 := fun p hp => (hm p hp).1.1
  rw [e__law_row_by]
  unfold b__law_row_by
  simp only [tupE_nil, R.ok_bind]
  refine while_gen (fun x => ∃ r ∈ rowsF (freeL n G) n 0, ∃ p' : D, finR x = .ok (encR r, [p']) ∧ Pen p') (fun k s => ∃ (r0 : List Nat) (pen : D), s = (pen, encR r0) ∧ Pen pen ∧ begB n G 0 r0 = true ∧ r0.length + k = n) n (by omega)
    ⟨[], p, rfl, hp, rfl, by simp⟩ (fun k s hJ => ?_) (fun s hJ => ?_) (fun s hJ => ?_)
  · obtain ⟨r0, pen, rfl, hpen, hb, hl⟩ := hJ
    have hlen : lenR (encR r0) = .ok (.int r0.length) := by unfold encR; rw [lenR_tup, List.length_map]
    refine ⟨?_, ?_⟩
    · simp only [op1_ok, hlen, idx_ord0, op2_ok, ltR_int]
      rw [decide_eq_true (by omega)]
    · obtain ⟨hnd, hlt, hln⟩ := beg_things hO hb
      have hst := beg_len h0 hb
      have hlow : lowB n G (maskL r0) = true := stands_low hst.1
      have hf := goes_ok hO (maskL r0) hlow (by omega)
      have hsort : sortR (encR r0) = .ok (.lst ((srN n r0).map fun t : Nat => D.int t)) := sort_nats (by omega) hnd hlt
      have htup : tupleR (.lst ((srN n r0).map fun t : Nat => D.int t)) = .ok (.tup ((srN n r0).map fun t : Nat => D.int t)) := rfl
      simp only [hsort, op1_ok, htup, allR_ok, allR_nil, R.ok_bind]
      rw [freein_ok hn hm hlt hlow]
      have hfl := freeL_len n G (maskL r0)
      have hfp : 0 < (freeL n G (maskL r0)).length := List.length_pos_iff.mpr hf
      obtain ⟨k2, p2, e2, g1, g2, g3⟩ := draw_ok (n := ((freeL n G (maskL r0)).length : Int)) hpen (by omega) (by omega)
      obtain ⟨k2, rfl⟩ := Int.eq_ofNat_of_zero_le g1
      obtain ⟨t, ht⟩ : ∃ t, (freeL n G (maskL r0))[k2]? = some t := ⟨_, List.getElem?_eq_getElem (by omega)⟩
      have htm := List.mem_of_getElem? ht
      have hidx : idxR (.tup ((freeL n G (maskL r0)).map fun t : Nat => D.int t)) (.int k2) = .ok (.int t) := idx_tup (by rw [List.getElem?_map, ht]; rfl)
      have hadd : addR (encR r0) (.tup [.int t]) = .ok (encR (r0 ++ [t])) := by
        unfold encR; rw [add_tup (by simp only [List.length_map, List.length_cons, List.length_nil]; omega), List.map_append]; rfl
      simp only [R.ok_bind, op1_ok, lenR_tup, List.length_map, pX_ok, opX_ok, consX_ok]
      rw [ioX_ok (d := .int k2) (o := p2) (by exact e2)]
      simp only [R.ok_bind, hidx, pX_ok, consX_ok, tupX_ok, hadd, bindX_ok]
      exact ⟨_, rfl, r0 ++ [t], p2, rfl, g3, beg_snoc hb htm, by rw [List.length_append]; show r0.length + 1 + k = n; omega⟩
  · obtain ⟨r0, pen, rfl, hpen, hb, hl⟩ := hJ
    have hlen : lenR (encR r0) = .ok (.int r0.length) := by unfold encR; rw [lenR_tup, List.length_map]
    simp only [op1_ok, hlen, idx_ord0, op2_ok, ltR_int]
    rw [decide_eq_false (by omega)]
  · obtain ⟨r0, pen, rfl, hpen, hb, hl⟩ := hJ
    refine ⟨r0, ?_, pen, rfl, hpen⟩
    have := beg_rows hb
    rw [show r0.length = n by omega] at this
    exact this
theorem eq_encR (a b : List Nat) : eqR (encR a) (encR b) = .ok (decide (a = b)) := by
  show (if (fitD (encR a) && fitD (encR b)) = true then R.ok (eqD (encR a) (encR b)) else _) = _
  rw [show fitD (encR a) = true from nats_fit_t a, show fitD (encR b) = true from nats_fit_t b, if_pos (by rfl), eqD_encR]
theorem rowright_ok {n : Nat} {G : List (Int × Int)} (hn : n ≤ 9) (hO : Ord n G) {r : List Nat} (hr : r ∈ rowsF (freeL n G) n 0) : c__law_row_right [ordD n G, encR r] = .ok (.bl true) := by
  have hm := ord_mem hO
  have hg := goes_ok hO
  have h0 : ∀ p ∈ G, 0 ≤ p.1 := fun p hp => (hm p hp).1.1
  obtain ⟨r', h1, h2, h3, h4, h5⟩ := gone_ok hn hO hr
  obtain ⟨r2, k1, k2, k3, k4, k5⟩ := gone_ok hn hO h1
  have k5 := k5 h3
  subst k5
  rw [e__law_row_right]
  unfold b__law_row_right
  simp only [allR_ok, allR_nil, R.ok_bind, whole_from hn hO hr, h2, ggood_ok hn hm h1, h3, whole_from hn hO h1, k2, ggood_ok hn hm hr, slipof_ok hn hm hr, gleast_ok hn hm hg, gmost_ok hn hm hg]
  have e1 : neR (encR r2) (encR r2) = .ok false := ne_self (nats_fit_t _)
  simp only [Option.isNone_none, op1_ok, truT_bl, notT_ok, Bool.not_true, op2_ok, gtR_int, e1, decide_eq_false (show ¬ jmp (csI G) (-1) r < jmp (csI G) (-1) r2 by omega), orT_ok, Bool.or_false, ifE_false, eq_encR, blE_ok]
  have e2 : isR (slipD (slipF n G r)) = .ok (slipF n G r).isNone := by cases slipF n G r <;> rfl
  have e3 : decide (r2 = r) = (slipF n G r).isNone := by
    cases hs : slipF n G r with
    | none => rw [decide_eq_true (h5 hs)]; rfl
    | some q =>
      rw [decide_eq_false (fun e => by rw [e, hs] at h3; cases h3)]; rfl
  rw [e2, e3]
  simp only [blE_ok, op2_ok]
  have hn2 : ∀ b : Bool, neR (.bl b) (.bl b) = .ok false := fun b => ne_self (bls_fit b)
  rw [hn2]
  simp only [orT_ok, Bool.or_false, ifE_false]
  have hmem : r2 ∈ rowsG n G n 0 (-1) := (slip_iff h0 h1).mp h3
  have hne := rowsG_ne (l := -1) h0 hg (low_zero n G) rem_zero
  have c1 : bG n G n 0 (-1) ≤ jmp (csI G) (-1) r2 := (minI_min (xs := (rowsG n G n 0 (-1)).map (jmp (csI G) (-1))) (by simpa using hne)).2 _ (List.mem_map_of_mem hmem)
  have c2 : jmp (csI G) (-1) r2 ≤ wG n G n 0 (-1) := (maxI_max (xs := (rowsG n G n 0 (-1)).map (jmp (csI G) (-1))) (by simpa using hne)).2 _ (List.mem_map_of_mem hmem)
  have hch : chainR leR leR (R.ok (.int (bG n G n 0 (-1)))) (R.ok (.int (jmp (csI G) (-1) r2))) (R.ok (.int (wG n G n 0 (-1)))) = .ok true := by
    show (leR (.int (bG n G n 0 (-1))) (.int (jmp (csI G) (-1) r2))).bind (fun b => if b = true then leR (.int (jmp (csI G) (-1) r2)) (.int (wG n G n 0 (-1))) else .ok false) = _
    have g1 : ∀ a b : Int, leR (.int a) (.int b) = .ok (decide (a ≤ b)) := fun _ _ => rfl
    rw [g1, decide_eq_true c1, R.ok_bind, if_pos rfl, g1, decide_eq_true c2]
  rw [hch]
  rfl
theorem lt_encR (a b : List Nat) : ltR (encR a) (encR b) = .ok (lexLt (a.map fun t : Nat => (t : Int)) (b.map fun t : Nat => (t : Int))) := by
  have h : ∀ l : List Nat, intsD (l.map fun t : Nat => D.int t) = some (l.map fun t : Nat => (t : Int)) := fun l => by
    have := intsD_map (l.map fun t : Nat => (t : Int))
    rw [List.map_map] at this
    exact this
  unfold ltR encR
  simp only [h]
theorem law_true (ns : List Int) (hl : ns.length ≤ 63) : c_law [.scr ns] = .ok (.bl true) := by
  rw [e_law]
  unfold b_law
  obtain ⟨c0, hc⟩ := cell_ok ns
  have hcut : cutE (.ok (.scr ns)) (some (.ok (.int 1))) (some (.ok (.int 3))) = .ok (.lst ((cutL ns (some 1) (some 3)).map D.int)) := id rfl
  have hcl : (cutL ns (some 1) (some 3)).length ≤ 63 := by
    unfold cutL
    rw [List.length_take, List.length_drop]; omega
  simp only [allR_ok, allR_nil, R.ok_bind]
  rw [hc, hcut]
  simp only [lstE_1, op2_ok]
  rw [add_lst (by simp; omega)]
  simp only [R.ok_bind, seqsR_lst]
  rw [show [D.int c0] ++ (cutL ns (some 1) (some 3)).map D.int = (c0 :: cutL ns (some 1) (some 3)).map D.int from rfl]
  refine for_gen (fun r => finP r = .ok (.bl true)) D.int (fun _ _ => True) trivial (fun i x s hx _ => ⟨(), ?_, trivial⟩) (fun s _ => by simp)
  obtain ⟨p0, e0, ⟨xs0, rfl⟩, hp0⟩ := pen_ok x
  rw [e0, ownR_lst]
  obtain ⟨n, G, p1, e1, hn, hp1, hO⟩ := order_ok hp0 (m := 8) (by omega)
  have hn9 : n ≤ 9 := by omega
  have hm := ord_mem hO
  have hg := goes_ok hO
  have h0 : ∀ p ∈ G, 0 ≤ p.1 := fun p hp => (hm p hp).1.1
  simp only [pX_ok, consX_ok, R.ok_bind]
  rw [ioX_ok (d := ordD n G) (o := p1) (by exact e1)]
  simp only [bindX_ok]
  rw [fewest_ok hn9 hm hg]
  simp only [R.ok_bind]
  obtain ⟨rb, hb1, hb2, hb3, hb4⟩ := fbest_ok hn9 hm hg
  rw [hb2]
  simp only [R.ok_bind]
  have hbF := rowsG_sub hb1
  have hbest := greedy_best hO
  rw [gleast_ok hn9 hm hg, ggood_ok hn9 hm hbF, (slip_iff h0 hbF).mpr hb1, whole_from hn9 hO hbF, hb3, hbest]
  simp only [op2_ok, neR_int, beq_self_eq_true, Bool.not_true, op1_ok, Option.isNone_none, truT_bl, notT_ok, orT_ok, Bool.or_false, ifE_false]
  rw [first_ok hn9 hm hg, fgreedy_ok hn9 hm hg]
  have hfh := fg_head (l := -1) h0 hg (low_zero n G) rem_zero
  have hfgm := List.mem_of_mem_head? hfh
  have hfgF := rowsG_sub hfgm
  simp only [allR_ok, allR_nil, R.ok_bind]
  rw [ggood_ok hn9 hm hfgF, (slip_iff h0 hfgF).mpr hfgm]
  simp only [op2_ok, lt_encR]
  have hl1 : lexLt (rb.map fun t : Nat => (t : Int)) ((ffL (freeL n G) (csI G) n 0 (-1)).map fun t : Nat => (t : Int)) = false := by
    refine head_least (L := fewL (freeL n G) (csI G) n 0 (-1)) ((rowsF_lex n 0).filter _) (few_head h0 hg (low_zero n G) rem_zero) ?_
    exact List.mem_filter.mpr ⟨hbF, decide_eq_true (by rw [hb3, hbest])⟩
  have hl2 : lexLt (rb.map fun t : Nat => (t : Int)) ((fgL n G n 0 (-1)).map fun t : Nat => (t : Int)) = false := head_least (rowsG_lex n 0 (-1)) hfh hb1
  rw [hl1, hl2]
  simp only [Option.isNone_none, op1_ok, truT_bl, notT_ok, Bool.not_true, orT_ok, Bool.or_false, ifE_false]
  rw [gmany_ok hn9 hm hg, rmany_ok hn9 hm hg]
  have hne := rowsG_ne (l := -1) h0 hg (low_zero n G) rem_zero
  have hpos : 0 < (rowsG n G n 0 (-1)).length := List.length_pos_iff.mpr hne
  have hsub : (rowsG n G n 0 (-1)).length ≤ (rowsF (freeL n G) n 0).length := len_sub (rowsG_nodup n 0 (-1)) fun r hr => rowsG_sub hr
  have hch : chainR leR leR (R.ok (.int 1)) (R.ok (.int ((rowsG n G n 0 (-1)).length : Nat))) (R.ok (.int ((rowsF (freeL n G) n 0).length : Nat))) = .ok true := by
    show (leR (.int 1) (.int ((rowsG n G n 0 (-1)).length : Nat))).bind (fun b => if b = true then leR (.int ((rowsG n G n 0 (-1)).length : Nat)) (.int ((rowsF (freeL n G) n 0).length : Nat)) else .ok false) = _
    have g1 : ∀ a b : Int, leR (.int a) (.int b) = .ok (decide (a ≤ b)) := fun _ _ => rfl
    rw [g1, decide_eq_true (by omega), R.ok_bind, if_pos rfl, g1, decide_eq_true (by omega)]
  rw [hch]
  have h4 : range1R (.int 4) = .ok ((List.range 4).map fun k : Nat => D.int k) := range1_up (n := 4) (by omega)
  simp only [notT_ok, Bool.not_true, ifE_false, R.ok_bind, h4]
  refine for_gen (fun r : R (Fl Unit Unit) => r = .ok (.nx ())) (fun k : Nat => D.int k) (fun _ s => Pen s) hp1 (fun i a s _ hpen => ?_) (fun s _ => rfl)
  obtain ⟨r, hr, p2, e2, g1⟩ := rowby_ok hn9 hO hpen
  try simp only [pX_ok, consX_ok, R.ok_bind]
  rw [ioX_ok (d := encR r) (o := p2) (by exact e2)]
  simp only [R.ok_bind, consX_ok, callX_ok]
  rw [rowright_ok hn9 hO hr]
  exact ⟨_, rfl, g1⟩
theorem sc__law_pen_of : FnScope ["_law_cell", "_law_left"] ["_law_cell"] (defScope (topS 43)) := ⟨rfl, rfl, rfl, by decide +kernel, rfl, by decide +kernel, by decide +kernel⟩
theorem w__law_pen_of {P : Program} {w : World} {K : PySem.W.Frag} {mg : Str → Option Value} {base : Heap} {T : Tb} (bi : Bi mg) {f : Addr} {fd : FuncData} (hF : Fun K "_law_pen_of" "_law_pen_of" (topS 43) f fd) (hb : Binds K fd ["_law_cell"] []) (hg : mg "_law_pen_of" = some (.ref f)) :
    FD P w K mg base T 1 "_law_pen_of" f true [] 1 (pureM c__law_pen_of) :=
  fd_pure (k := 0) (j := 1) (mm := ap1 b__law_pen_of) (mkN := fun _ => [.un, .un]) (mkB := fun e => nomatch e) hF sc__law_pen_of rfl rfl hb hg bi fun cdv A outer s H E g tk ds hd => by
    obtain ⟨a0, rfl⟩ := len1 hd
    rw [ap1_eq]
    show Ss _ T _ _ [] _ _ [C.val a0, .un] _ _
    unfold b__law_pen_of
    exact (ss_asg (i := 1) g rfl (.inl rfl) (.inl rfl) rfl rfl (Ev.lasting (ev_b2 (call_max2 g.calm) does_max2 rfl g.bi.max (by decide +kernel) (Ev.loan (ev_var (i := 0) rfl rfl (.inl rfl) rfl rfl)) (Ev.lend (ev_bin op_sub does_sub (Ev.lend ev_int) (Ev.loan (ev_var (i := 0) rfl rfl (.inl rfl) rfl rfl)))) rfl rfl (by decide +kernel) rfl rfl)) (fun v1 => (ss_ret rfl (ev_lst (evA_cons (ev_var (i := 1) rfl rfl (.inl rfl) rfl rfl) (evA_cons (Ev.lasting (ev_t1 call_int1 does_int rfl g.bi.int (by decide +kernel) (Ev.lend (ev_cmp op_ge does_ge nx_ge rfl (Ev.loan (ev_var (i := 1) rfl rfl (.inl rfl) rfl rfl)) (Ev.lend (ev_bin op_pow does_pow (Ev.lend ev_int) (Ev.lend ev_int))))) rfl (by decide +kernel) rfl)) (evA_cons (Ev.lasting (ev_bin op_mod does_mod (Ev.loan (ev_var (i := 1) rfl rfl (.inl rfl) rfl rfl)) (Ev.lend ev_int))) evA_nil rfl) rfl) rfl) (by simp)))))

theorem sc__law_next : FnScope ["_law_seed"] ["_law_seed"] (defScope (topS 42)) := ⟨rfl, rfl, rfl, by decide +kernel, rfl, by decide +kernel, by decide +kernel⟩
theorem w__law_next {P : Program} {w : World} {K : PySem.W.Frag} {mg : Str → Option Value} {base : Heap} {T : Tb} (bi : Bi mg) {f : Addr} {fd : FuncData} (hF : Fun K "_law_next" "_law_next" (topS 42) f fd) (hb : Binds K fd ["_law_seed"] []) (hg : mg "_law_next" = some (.ref f)) :
    FD P w K mg base T 1 "_law_next" f true [] 1 (pureM c__law_next) :=
  fd_pure (k := 0) (j := 0) (mm := ap1 b__law_next) (mkN := fun _ => [.un]) (mkB := fun e => nomatch e) hF sc__law_next rfl rfl hb hg bi fun cdv A outer s H E g tk ds hd => by
    obtain ⟨a0, rfl⟩ := len1 hd
    rw [ap1_eq]
    show Ss _ T _ _ [] _ _ [C.val a0] _ _
    unfold b__law_next
    exact (ss_asg (i := 0) g rfl (.inl rfl) (.inl rfl) rfl rfl (Ev.lasting (ev_bin op_mod does_mod (Ev.lend (ev_bin op_addR does_add (Ev.loan (ev_var (i := 0) rfl rfl (.inl rfl) rfl rfl)) (Ev.lend ev_int))) (Ev.lend ev_int))) (fun v1 => (ss_ret rfl (ev_bin op_mod does_mod (Ev.lend (ev_bin op_addR does_add (Ev.lend (ev_bin op_addR does_add (Ev.lend (ev_bin op_mulR does_mul (Ev.loan (ev_var (i := 0) rfl rfl (.inl rfl) rfl rfl)) (Ev.loan (ev_var (i := 0) rfl rfl (.inl rfl) rfl rfl)))) (Ev.lend (ev_bin op_mulR does_mul (Ev.lend ev_int) (Ev.loan (ev_var (i := 0) rfl rfl (.inl rfl) rfl rfl)))))) (Ev.lend ev_int))) (Ev.lend ev_int)))))

theorem sc__law_draw : FnScope ["_law_pen", "_law_many", "_law_found"] ["_law_pen", "_law_many"] (defScope (topS 44)) := ⟨rfl, rfl, rfl, by decide +kernel, rfl, by decide +kernel, by decide +kernel⟩
theorem w__law_draw {P : Program} {w : World} {K : PySem.W.Frag} {mg : Str → Option Value} {base : Heap} {T : Tb} (bi : Bi mg) {f__law_next : Addr} (F__law_next : FD P w K mg base T 1 "_law_next" f__law_next true [] 1 (pureM c__law_next)) {f : Addr} {fd : FuncData} (hF : Fun K "_law_draw" "_law_draw" (topS 44) f fd) (hb : Binds K fd ["_law_pen", "_law_many"] []) (hg : mg "_law_draw" = some (.ref f)) :
    FD P w K mg base T 2 "_law_draw" f false [0] 2 c__law_draw :=
  fd_io (k := 1) (j := 1) (mm := ap2 b__law_draw) (mkN := fun _ => [.un, .un, .un]) (mkB := fun e => nomatch e) hF sc__law_draw rfl rfl hb hg bi (by decide) fun cdv A outer s H E g tk ds hd => by
    obtain ⟨a0, a1, rfl⟩ := len2 hd
    rw [ap2_eq]
    show Ss _ T _ _ [0] _ _ [C.own a0, C.val a1, .un] _ _
    unfold b__law_draw
    exact (ss_ifE (mk := fun e => nomatch e) (evT_cmp (op_eqQ g) does_eq nx_eq rfl (Ev.loan (ev_ix g (ev_own (i := 0) rfl rfl (.inl rfl) rfl rfl) (Ev.lend ev_int) (fun _ _ => rfl))) (Ev.lend ev_int)) (ss_asg (i := 2) g rfl (.inl rfl) (.inl rfl) rfl rfl (Ev.lasting (ev_bin op_mod does_mod (Ev.loan (ev_ix g (ev_own (i := 0) rfl rfl (.inl rfl) rfl rfl) (Ev.lend ev_int) (fun _ _ => rfl))) (Ev.loan (ev_var (i := 1) rfl rfl (.inl rfl) rfl rfl)))) (fun v1 => (ss_set (i := 0) g rfl rfl (.inl rfl) rfl rfl (Ev.lasting (ev_bin op_fdiv does_fdiv (Ev.loan (ev_ix g (ev_own (i := 0) rfl rfl (.inl rfl) rfl rfl) (Ev.lend ev_int) (fun _ _ => rfl))) (Ev.loan (ev_var (i := 1) rfl rfl (.inl rfl) rfl rfl)))) (Ev.lasting ev_int) rfl (fun _ => rfl) rfl rfl (fun v2 => (ss_ret rfl (ev_var (i := 2) rfl rfl (.inl rfl) rfl rfl)))))) (ss_set (i := 0) g rfl rfl (.inl rfl) rfl rfl (Ev.lasting (ev_call (fr := true) g F__law_next (by decide) tk rfl (evA_cons (Ev.lasting (ev_bin op_addR does_add (Ev.lend (ev_call (fr := true) g F__law_next (by decide) tk rfl (evA_cons (ev_ix g (ev_own (i := 0) rfl rfl (.inl rfl) rfl rfl) (Ev.lend ev_int) (fun _ _ => rfl)) evA_nil rfl) rfl rfl rfl rfl)) (Ev.lend ev_int))) evA_nil rfl) rfl rfl rfl rfl)) (Ev.lasting ev_int) rfl (fun _ => rfl) rfl rfl (fun v4 => (ss_ret rfl (Ev.lasting (ev_bin op_mod does_mod (Ev.lend (ev_bin op_fdiv does_fdiv (Ev.loan (ev_ix g (ev_own (i := 0) rfl rfl (.inl rfl) rfl rfl) (Ev.lend ev_int) (fun _ _ => rfl))) (Ev.lend ev_int))) (Ev.loan (ev_var (i := 1) rfl rfl (.inl rfl) rfl rfl))))))))

theorem sc__law_names_by : FnScope ["_law_pen", "_law_many", "_law_left", "_law_turn"] ["_law_pen", "_law_many"] (defScope (topS 46)) := ⟨rfl, rfl, rfl, by decide +kernel, rfl, by decide +kernel, by decide +kernel⟩
theorem w__law_names_by {P : Program} {w : World} {K : PySem.W.Frag} {mg : Str → Option Value} {base : Heap} {T : Tb} (bi : Bi mg) {f__law_draw : Addr} (F__law_draw : FD P w K mg base T 2 "_law_draw" f__law_draw false [0] 2 c__law_draw) {f : Addr} {fd : FuncData} (hF : Fun K "_law_names_by" "_law_names_by" (topS 46) f fd) (hb : Binds K fd ["_law_pen", "_law_many"] []) (hg : mg "_law_names_by" = some (.ref f)) :
    FD P w K mg base T 3 "_law_names_by" f true [0] 2 c__law_names_by :=
  fd_io (k := 2) (j := 2) (mm := ap2 b__law_names_by) (mkN := fun _ => [.un, .un, .un, .un]) (mkB := fun e => nomatch e) hF sc__law_names_by rfl rfl hb hg bi (by decide) fun cdv A outer s H E g tk ds hd => by
    obtain ⟨a0, a1, rfl⟩ := len2 hd
    rw [ap2_eq]
    show Ss _ T _ _ [0] _ _ [C.own a0, C.val a1, .un, .un] _ _
    unfold b__law_names_by
    exact (ss_own (i := 2) g rfl (.inr rfl) (.inl rfl) rfl rfl (ev_listRg1 g rfl rfl (Ev.loan (ev_var (i := 1) rfl rfl (.inl rfl) rfl rfl)) rfl rfl) (fun v1 => (ss_retX (mk := (fun (s10 : D × D) => [C.own s10.1, C.val a1, C.own s10.2, .un])) (s := (a0, v1)) (os := (fun s9 => [s9.1])) (fun _ => rfl) (CmX.ev (cmx_comp (i := 3) g ⟨rfl, (.inl rfl), (.inr rfl)⟩ rfl (blkOk_by rfl) (fun _ _ => rfl) (fun _ _ => nofun) (evI_rg1 g rfl (evA_cons (ev_var (i := 1) rfl rfl (.inl rfl) rfl rfl) evA_nil rfl) rfl) fltX_no (fun x3 s5 _ _ _ _ _ => (evx_popL (i := 2) (s := s5) (gt := (fun (s : D × D) => s.2)) (up := (fun (s : D × D) (d : D) => (s.1, d))) ⟨fun _ => rfl, fun _ _ => rfl⟩ rfl (.inr (.inl rfl)) rfl rfl (evx_io (fr := false) (i := 0) (q := 0) (r := 1) (gt := (fun (s : D × D) => s.1)) (up := (fun (s : D × D) (d : D) => (d, s.2))) (Gd.blk g _ _ _ _ _) F__law_draw (by decide) takesF rfl ⟨fun _ => rfl, fun _ _ => rfl⟩ (evxA_own (i := 0) rfl rfl (.inr (.inl rfl)) rfl rfl (evxA_cons (EvX.lasting (evx_of (by decide) (ev_b1 call_lenQ does_len rfl (Gd.blk g _ _ _ _ _).bi.len (by decide +kernel) (ev_own (i := 2) rfl rfl (.inr (.inl rfl)) rfl rfl) rfl (by decide +kernel) rfl))) (fun s8 => evxA_nil) rfl) rfl) rfl rfl rfl) (pe_bm PySem.F.plainAttrs_list PySem.F.slot_list_pop PySem.F.type_list_pop mt_popAt (pe_var rfl (.inr (.inl rfl)) rfl rfl) (pa_cons pw pa_nil rfl) rfl rfl rfl rfl rfl))))))))

theorem sc__law_closed : FnScope ["_law_pairs", "_law_found", "_law_size", "_law_more", "_law_a", "_law_b", "_law_c", "_law_d"] ["_law_pairs"] (defScope (topS 45)) := ⟨rfl, rfl, rfl, by decide +kernel, rfl, by decide +kernel, by decide +kernel⟩
theorem w__law_closed {P : Program} {w : World} {K : PySem.W.Frag} {mg : Str → Option Value} {base : Heap} {T : Tb} (bi : Bi mg) {f : Addr} {fd : FuncData} (hF : Fun K "_law_closed" "_law_closed" (topS 45) f fd) (hb : Binds K fd ["_law_pairs"] []) (hg : mg "_law_closed" = some (.ref f)) :
    FD P w K mg base T 1 "_law_closed" f false [] 1 (pureM c__law_closed) :=
  fd_pure (k := 0) (j := 7) (mm := ap1 b__law_closed) (mkN := fun _ => [.un, .un, .un, .un, .un, .un, .un, .un]) (mkB := fun e => nomatch e) hF sc__law_closed rfl rfl hb hg bi fun cdv A outer s H E g tk ds hd => by
    obtain ⟨a0, rfl⟩ := len1 hd
    rw [ap1_eq]
    show Ss _ T _ _ [] _ _ [C.val a0, .un, .un, .un, .un, .un, .un, .un] _ _
    unfold b__law_closed
    exact (ss_asg (i := 1) g rfl (.inl rfl) (.inl rfl) rfl rfl (Ev.lasting (ev_sortSetB g rfl rfl (ev_var (i := 0) rfl rfl (.inl rfl) rfl rfl) rfl rfl)) (fun v1 => (ss_asg (i := 2) g rfl (.inl rfl) (.inl rfl) rfl rfl (Ev.lasting (does_un (Ev.lend ev_int))) (fun v2 => (ss_while (mk := (fun (s5 : D × D) => [C.val a0, C.val s5.1, C.val s5.2, .un, .un, .un, .un, .un])) (s0 := (v1, v2)) (n := 200) (passes_of rfl) (.kp (.kp (.kp (.un (.un (.un (.un (.un .nil)))))))) rfl (fun s3 => (evT_cmp (op_neQ g) does_ne nx_ne rfl (Ev.loan (ev_var (i := 2) rfl rfl (.inl rfl) rfl rfl)) (Ev.lend (ev_b1 call_lenQ does_len rfl g.bi.len (by decide +kernel) (Ev.loan (ev_var (i := 1) rfl rfl (.inl rfl) rfl rfl)) rfl (by decide +kernel) rfl)))) (fun s3 => (ss_asg (i := 2) g rfl (.inl rfl) (.inl rfl) rfl rfl (Ev.lasting (ev_b1 call_lenQ does_len rfl g.bi.len (by decide +kernel) (Ev.loan (ev_var (i := 1) rfl rfl (.inl rfl) rfl rfl)) rfl (by decide +kernel) rfl)) (fun v6 => (ss_asg (i := 3) g rfl (.inl rfl) (.inl rfl) rfl rfl (Ev.lasting (ev_t1 call_list_of does_list rfl g.bi.list (by decide +kernel) (Ev.loan (ev_var (i := 1) rfl rfl (.inl rfl) rfl rfl)) rfl (by decide +kernel) rfl)) (fun v7 => (ss_for2 (mk := (fun (s10 : D) => [C.val a0, C.val s3.1, C.val v6, C.val s10, .un, .un, .un, .un])) (s0 := v7) (i := 4) (j := 5) g (passes_of rfl) ⟨rfl, (.inr rfl), (.inl rfl), rfl⟩ ⟨rfl, (.inr rfl), (.inl rfl), rfl⟩ (evI_seq (ev_var (i := 1) rfl rfl (.inl rfl) rfl rfl)) (.kp (.kp (.kp (.kp (.un (.un (.un (.un .nil)))))))) rfl (fun d11 d12 s8 => (ss_asg (i := 3) g rfl (.inl rfl) (.inl rfl) rfl rfl (Ev.lasting (ev_bin op_addR does_add (Ev.loan (ev_var (i := 3) rfl rfl (.inl rfl) rfl rfl)) (Ev.lend (Cm.ev (cm_comp2F (i := 6) (j := 7) g (by decide) ⟨rfl, (.inl rfl), (.inr rfl)⟩ ⟨rfl, (.inl rfl), (.inr rfl)⟩ (blkOk_by rfl) (EvI.w (evI_seq (ev_var (i := 1) rfl rfl (.inl rfl) rfl rfl))) (fun x14 x15 _ _ _ _ _ => (evT_cmp (op_eqQ (Gd.blk g _ _ _ _ _)) does_eq nx_eq rfl (Ev.loan (ev_var (i := 6) rfl rfl (.inl rfl) rfl rfl)) (Ev.loan (ev_var (i := 5) rfl rfl (.inr (.inl rfl)) rfl rfl)))) (fun x14 x15 _ _ _ _ _ => (Ev.lasting (ev_tup (evA_cons (ev_var (i := 4) rfl rfl (.inr (.inl rfl)) rfl rfl) (evA_cons (ev_var (i := 7) rfl rfl (.inl rfl) rfl rfl) evA_nil rfl) rfl) (by simp))))))))) (fun v13 => (ss_nil (.kp (.kp (.kp (.kp (.un (.un (.un (.un .nil)))))))) rfl)))) (fun s9 => (ss_asg (i := 1) g rfl (.inl rfl) (.inl rfl) rfl rfl (Ev.lasting (ev_sortSetB g rfl rfl (ev_var (i := 3) rfl rfl (.inl rfl) rfl rfl) rfl rfl)) (fun v16 => (ss_nil (.kp (.kp (.kp (.un (.un (.un (.un (.un .nil)))))))) rfl)))))))))) (fun s4 => (ss_ret rfl (ev_var (i := 1) rfl rfl (.inl rfl) rfl rfl))))))))

theorem sc__law_order_by : FnScope ["_law_pen", "_law_most", "_law_many", "_law_names", "_law_thin", "_law_pairs", "_law_other", "_law_one"] ["_law_pen", "_law_most"] (defScope (topS 47)) := ⟨rfl, rfl, rfl, by decide +kernel, rfl, by decide +kernel, by decide +kernel⟩
theorem w__law_order_by {P : Program} {w : World} {K : PySem.W.Frag} {mg : Str → Option Value} {base : Heap} {T : Tb} (bi : Bi mg) {f__law_draw : Addr} (F__law_draw : FD P w K mg base T 2 "_law_draw" f__law_draw false [0] 2 c__law_draw) {f__law_names_by : Addr} (F__law_names_by : FD P w K mg base T 3 "_law_names_by" f__law_names_by true [0] 2 c__law_names_by) {f__law_closed : Addr} (F__law_closed : FD P w K mg base T 1 "_law_closed" f__law_closed false [] 1 (pureM c__law_closed)) {f : Addr} {fd : FuncData} (hF : Fun K "_law_order_by" "_law_order_by" (topS 47) f fd) (hb : Binds K fd ["_law_pen", "_law_most"] []) (hg : mg "_law_order_by" = some (.ref f)) :
    FD P w K mg base T 4 "_law_order_by" f true [0] 2 c__law_order_by :=
  fd_io (k := 3) (j := 6) (mm := ap2 b__law_order_by) (mkN := fun _ => [.un, .un, .un, .un, .un, .un, .un, .un]) (mkB := fun e => nomatch e) hF sc__law_order_by rfl rfl hb hg bi (by decide) fun cdv A outer s H E g tk ds hd => by
    obtain ⟨a0, a1, rfl⟩ := len2 hd
    rw [ap2_eq]
    show Ss _ T _ _ [0] _ _ [C.own a0, C.val a1, .un, .un, .un, .un, .un, .un] _ _
    unfold b__law_order_by
    exact (ss_asgX (mk := (fun (s3 : D) => [C.own s3, C.val a1, .un, .un, .un, .un, .un, .un])) (s := a0) (i := 2) g ⟨rfl, (.inl rfl), (.inl rfl), rfl⟩ rfl (evx_io (fr := false) (i := 0) (q := 0) (r := 1) (gt := (fun (s : D) => s)) (up := (fun (_ d : D) => d)) g F__law_draw (by decide) tk rfl ⟨fun _ => rfl, fun _ _ => rfl⟩ (evxA_own (i := 0) rfl rfl (.inr (.inl rfl)) rfl rfl (evxA_cons (EvX.lasting (evx_of (by decide) (ev_bin op_addR does_add (Ev.loan (ev_var (i := 1) rfl rfl (.inl rfl) rfl rfl)) (Ev.lend ev_int)))) (fun s5 => evxA_nil) rfl) rfl) rfl rfl rfl) (fun v1 s2 => (ss_asgX (mk := (fun (s8 : D) => [C.own s8, C.val a1, C.val v1, .un, .un, .un, .un, .un])) (s := s2) (i := 3) g ⟨rfl, (.inr rfl), (.inl rfl), rfl⟩ rfl (EvX.lasting (evx_io (fr := true) (i := 0) (q := 0) (r := 1) (gt := (fun (s : D) => s)) (up := (fun (_ d : D) => d)) g F__law_names_by (by decide) tk rfl ⟨fun _ => rfl, fun _ _ => rfl⟩ (evxA_own (i := 0) rfl rfl (.inr (.inl rfl)) rfl rfl (evxA_cons (evx_of (by decide) (ev_var (i := 2) rfl rfl (.inl rfl) rfl rfl)) (fun s10 => evxA_nil) rfl) rfl) rfl rfl rfl)) (fun v6 s7 => (ss_asgX (mk := (fun (s13 : D) => [C.own s13, C.val a1, C.val v1, C.val v6, .un, .un, .un, .un])) (s := s7) (i := 4) g ⟨rfl, (.inr rfl), (.inl rfl), rfl⟩ rfl (evx_ix g (EvX.lasting (evx_of (by decide) (ev_lst (evA_cons (Ev.lasting ev_int) (evA_cons (Ev.lasting ev_int) (evA_cons (Ev.lasting ev_int) (evA_cons (Ev.lasting ev_int) evA_nil rfl) rfl) rfl) rfl) (by simp)))) (fun s14 => (evx_io (fr := false) (i := 0) (q := 0) (r := 1) (gt := (fun (s : D) => s)) (up := (fun (_ d : D) => d)) g F__law_draw (by decide) tk rfl ⟨fun _ => rfl, fun _ _ => rfl⟩ (evxA_own (i := 0) rfl rfl (.inr (.inl rfl)) rfl rfl (evxA_cons (EvX.lasting (evx_of (by decide) ev_int)) (fun s16 => evxA_nil) rfl) rfl) rfl rfl rfl)) (fun _ _ => rfl)) (fun v11 s12 => (ss_asg (i := 5) g rfl (.inl rfl) (.inl rfl) rfl rfl (Ev.lasting (ev_lst evA_nil (by simp))) (fun v17 => (ss_for (mk := (fun (s20 : D × D) => [C.own s20.1, C.val a1, C.val v1, C.val v6, C.val v11, C.val s20.2, .un, .un])) (s0 := (s12, v17)) (i := 6) g (passes_of rfl) rfl (.inr rfl) (.inl rfl) rfl (evI_rg1 g rfl (evA_cons (ev_var (i := 2) rfl rfl (.inl rfl) rfl rfl) evA_nil rfl) rfl) (.kp (.kp (.kp (.kp (.kp (.kp (.un (.un .nil)))))))) rfl (fun d21 s18 => (ss_asgX (mk := (fun (s24 : D) => [C.own s24, C.val a1, C.val v1, C.val v6, C.val v11, C.val s18.2, C.val d21, .un])) (s := s18.1) (i := 5) g ⟨rfl, (.inl rfl), (.inl rfl), rfl⟩ rfl (EvX.lasting (evx_bin op_addR does_add (evx_of (by decide) (ev_var (i := 5) rfl rfl (.inl rfl) rfl rfl)) (fun s25 => (EvX.lasting (CmX.ev (cmx_comp (i := 7) g ⟨rfl, (.inl rfl), (.inr rfl)⟩ rfl (blkOk_by rfl) (fun _ _ => rfl) (fun _ _ => nofun) (evI_rg1 g rfl (evA_cons (ev_var (i := 6) rfl rfl (.inr (.inl rfl)) rfl rfl) evA_nil rfl) rfl) (fltX_one fun x27 s28 _ _ _ _ _ => (evxT_cmp (op_eqQ (Gd.blk g _ _ _ _ _)) does_eq nx_eq rfl (evx_io (fr := false) (i := 0) (q := 0) (r := 1) (gt := (fun (s : D) => s)) (up := (fun (_ d : D) => d)) (Gd.blk g _ _ _ _ _) F__law_draw (by decide) takesF rfl ⟨fun _ => rfl, fun _ _ => rfl⟩ (evxA_own (i := 0) rfl rfl (.inr (.inl rfl)) rfl rfl (evxA_cons (evx_of (by decide) (ev_var (i := 4) rfl rfl (.inr (.inl rfl)) rfl rfl)) (fun s32 => evxA_nil) rfl) rfl) rfl rfl rfl) (fun s30 => (EvX.lasting (evx_of (by decide) ev_int))))) (fun x27 s29 _ _ _ _ _ => (EvX.lasting (evx_of (by decide) (ev_tup (evA_cons (ev_ix (Gd.blk g _ _ _ _ _) (Ev.loan (ev_var (i := 3) rfl rfl (.inr (.inl rfl)) rfl rfl)) (Ev.loan (ev_var (i := 7) rfl rfl (.inl rfl) rfl rfl)) (fun _ _ => rfl)) (evA_cons (ev_ix (Gd.blk g _ _ _ _ _) (Ev.loan (ev_var (i := 3) rfl rfl (.inr (.inl rfl)) rfl rfl)) (Ev.loan (ev_var (i := 6) rfl rfl (.inr (.inl rfl)) rfl rfl)) (fun _ _ => rfl)) evA_nil rfl) rfl) (by simp))))))))))) (fun v22 s23 => (ss_nil (.kp (.kp (.kp (.kp (.kp (.kp (.un (.un .nil)))))))) rfl)))) (fun s19 => (ss_ret rfl (ev_tup (evA_cons (ev_var (i := 2) rfl rfl (.inl rfl) rfl rfl) (evA_cons (Ev.lasting (ev_t1 call_tuple_of does_tuple rfl g.bi.tuple (by decide +kernel) (Ev.loan (ev_call (fr := false) g F__law_closed (by decide) tk rfl (evA_cons (ev_var (i := 5) rfl rfl (.inl rfl) rfl rfl) evA_nil rfl) rfl rfl rfl rfl)) rfl (by decide +kernel) rfl)) evA_nil rfl) rfl) (by simp)))))))))))))

theorem sc_waits : FnScope ["order", "found", "a", "b"] ["order"] (defScope (topS 6)) := ⟨rfl, rfl, rfl, by decide +kernel, rfl, by decide +kernel, by decide +kernel⟩
theorem w_waits {P : Program} {w : World} {K : PySem.W.Frag} {mg : Str → Option Value} {base : Heap} {T : Tb} (bi : Bi mg) {f : Addr} {fd : FuncData} (hF : Fun K "waits" "waits" (topS 6) f fd) (hb : Binds K fd ["order"] []) (hg : mg "waits" = some (.ref f)) :
    FD P w K mg base T 1 "waits" f true [] 1 (pureM c_waits) :=
  fd_pure (k := 0) (j := 3) (mm := ap1 b_waits) (mkN := fun _ => [.un, .un, .un, .un]) (mkB := fun e => nomatch e) hF sc_waits rfl rfl hb hg bi fun cdv A outer s H E g tk ds hd => by
    obtain ⟨a0, rfl⟩ := len1 hd
    rw [ap1_eq]
    show Ss _ T _ _ [] _ _ [C.val a0, .un, .un, .un] _ _
    unfold b_waits
    exact (ss_own (i := 1) g rfl (.inl rfl) (.inl rfl) rfl rfl (ev_bin op_mulR does_mul (Ev.lend (ev_lst (evA_cons (Ev.lasting ev_int) evA_nil rfl) (by simp))) (Ev.loan (ev_ix g (Ev.loan (ev_var (i := 0) rfl rfl (.inl rfl) rfl rfl)) (Ev.lend ev_int) (fun _ _ => rfl)))) (fun v1 => (ss_for2 (mk := (fun (s4 : D) => [C.val a0, C.own s4, .un, .un])) (s0 := v1) (i := 2) (j := 3) g (passes_of rfl) ⟨rfl, (.inl rfl), (.inl rfl), rfl⟩ ⟨rfl, (.inl rfl), (.inl rfl), rfl⟩ (evI_seq (ev_ix g (Ev.loan (ev_var (i := 0) rfl rfl (.inl rfl) rfl rfl)) (Ev.lend ev_int) (fun _ _ => rfl))) (.kp (.kp (.un (.un .nil)))) rfl (fun d5 d6 s2 => (ss_set (i := 1) g rfl rfl (.inl rfl) rfl rfl (Ev.lasting (ev_bin op_or does_bor (Ev.loan (ev_ix g (ev_own (i := 1) rfl rfl (.inl rfl) rfl rfl) (Ev.loan (ev_var (i := 3) rfl rfl (.inl rfl) rfl rfl)) (fun _ _ => rfl))) (Ev.lend (ev_bin op_shl does_shl (Ev.lend ev_int) (Ev.loan (ev_var (i := 2) rfl rfl (.inl rfl) rfl rfl)))))) (ev_var (i := 3) rfl rfl (.inl rfl) rfl rfl) rfl (fun _ => rfl) rfl rfl (fun v7 => (ss_nil (.kp (.kp (.un (.un .nil)))) rfl)))) (fun s3 => (ss_retOwn (i := 1) rfl rfl rfl (.inl rfl) rfl rfl rfl)))))

theorem sc_things_in : FnScope ["mask", "many", "thing"] ["mask", "many"] (defScope (topS 7)) := ⟨rfl, rfl, rfl, by decide +kernel, rfl, by decide +kernel, by decide +kernel⟩
theorem w_things_in {P : Program} {w : World} {K : PySem.W.Frag} {mg : Str → Option Value} {base : Heap} {T : Tb} (bi : Bi mg) {f : Addr} {fd : FuncData} (hF : Fun K "things_in" "things_in" (topS 7) f fd) (hb : Binds K fd ["mask", "many"] []) (hg : mg "things_in" = some (.ref f)) :
    FD P w K mg base T 1 "things_in" f true [] 2 (pureM c_things_in) :=
  fd_pure (k := 0) (j := 1) (mm := ap2 b_things_in) (mkN := fun _ => [.un, .un, .un]) (mkB := fun e => nomatch e) hF sc_things_in rfl rfl hb hg bi fun cdv A outer s H E g tk ds hd => by
    obtain ⟨a0, a1, rfl⟩ := len2 hd
    rw [ap2_eq]
    show Ss _ T _ _ [] _ _ [C.val a0, C.val a1, .un] _ _
    unfold b_things_in
    exact (ss_ret rfl (ev_t1 call_tuple_of does_tuple rfl g.bi.tuple (by decide +kernel) (Ev.lend (Cm.ev (cm_compF (i := 2) g ⟨rfl, (.inl rfl), (.inr rfl)⟩ (blkOk_by rfl) (EvI.w (evI_rg1 g rfl (evA_cons (ev_var (i := 1) rfl rfl (.inl rfl) rfl rfl) evA_nil rfl) rfl)) (fun x1 _ _ _ _ _ => (evT_cmp (op_eqQ (Gd.blk g _ _ _ _ _)) does_eq nx_eq rfl (Ev.lend (ev_bin op_and does_band (Ev.lend (ev_bin op_shr does_shr (Ev.loan (ev_var (i := 0) rfl rfl (.inr (.inl rfl)) rfl rfl)) (Ev.loan (ev_var (i := 2) rfl rfl (.inl rfl) rfl rfl)))) (Ev.lend ev_int))) (Ev.lend ev_int))) (fun x1 _ _ _ _ _ => (ev_var (i := 2) rfl rfl (.inl rfl) rfl rfl))))) rfl (by decide +kernel) rfl))

theorem sc_is_lower : FnScope ["needs", "mask", "thing"] ["needs", "mask"] (defScope (topS 10)) := ⟨rfl, rfl, rfl, by decide +kernel, rfl, by decide +kernel, by decide +kernel⟩
theorem w_is_lower {P : Program} {w : World} {K : PySem.W.Frag} {mg : Str → Option Value} {base : Heap} {T : Tb} (bi : Bi mg) {f_things_in : Addr} (F_things_in : FD P w K mg base T 1 "things_in" f_things_in true [] 2 (pureM c_things_in)) {f : Addr} {fd : FuncData} (hF : Fun K "is_lower" "is_lower" (topS 10) f fd) (hb : Binds K fd ["needs", "mask"] []) (hg : mg "is_lower" = some (.ref f)) :
    FD P w K mg base T 2 "is_lower" f true [] 2 (pureM c_is_lower) :=
  fd_pure (k := 1) (j := 1) (mm := ap2 b_is_lower) (mkN := fun _ => [.un, .un, .un]) (mkB := fun e => nomatch e) hF sc_is_lower rfl rfl hb hg bi fun cdv A outer s H E g tk ds hd => by
    obtain ⟨a0, a1, rfl⟩ := len2 hd
    rw [ap2_eq]
    show Ss _ T _ _ [] _ _ [C.val a0, C.val a1, .un] _ _
    unfold b_is_lower
    exact (ss_ret rfl (ev_b1 (cr_all g.calm) does_all rfl g.bi.all (by decide +kernel) (Ev.lend (Cm.ev (cm_comp (i := 2) g ⟨rfl, (.inl rfl), (.inr rfl)⟩ (blkOk_by rfl) (EvI.w (evI_seq (Ev.lasting (ev_call (fr := true) g F_things_in (by decide) tk rfl (evA_cons (ev_var (i := 1) rfl rfl (.inr (.inl rfl)) rfl rfl) (evA_cons (Ev.lasting (ev_b1 call_lenQ does_len rfl g.bi.len (by decide +kernel) (Ev.loan (ev_var (i := 0) rfl rfl (.inr (.inl rfl)) rfl rfl)) rfl (by decide +kernel) rfl)) evA_nil rfl) rfl) rfl rfl rfl rfl)))) (fun x1 _ _ _ _ _ => (Ev.lasting (ev_cmp (op_eqQ (Gd.blk g _ _ _ _ _)) does_eq nx_eq rfl (Ev.lend (ev_bin op_and does_band (Ev.loan (ev_ix (Gd.blk g _ _ _ _ _) (Ev.loan (ev_var (i := 0) rfl rfl (.inr (.inl rfl)) rfl rfl)) (Ev.loan (ev_var (i := 2) rfl rfl (.inl rfl) rfl rfl)) (fun _ _ => rfl))) (Ev.loan (ev_var (i := 1) rfl rfl (.inr (.inl rfl)) rfl rfl)))) (Ev.loan (ev_ix (Gd.blk g _ _ _ _ _) (Ev.loan (ev_var (i := 0) rfl rfl (.inr (.inl rfl)) rfl rfl)) (Ev.loan (ev_var (i := 2) rfl rfl (.inl rfl) rfl rfl)) (fun _ _ => rfl))))))))) rfl (by decide +kernel) rfl))

theorem sc_stands_of : FnScope ["order", "needs", "found", "mask", "last"] ["order"] (defScope (topS 16)) := ⟨rfl, rfl, rfl, by decide +kernel, rfl, by decide +kernel, by decide +kernel⟩
theorem w_stands_of {P : Program} {w : World} {K : PySem.W.Frag} {mg : Str → Option Value} {base : Heap} {T : Tb} (bi : Bi mg) {f_waits : Addr} (F_waits : FD P w K mg base T 1 "waits" f_waits true [] 1 (pureM c_waits)) {f_things_in : Addr} (F_things_in : FD P w K mg base T 1 "things_in" f_things_in true [] 2 (pureM c_things_in)) {f_is_lower : Addr} (F_is_lower : FD P w K mg base T 2 "is_lower" f_is_lower true [] 2 (pureM c_is_lower)) {f : Addr} {fd : FuncData} (hF : Fun K "stands_of" "stands_of" (topS 16) f fd) (hb : Binds K fd ["order"] []) (hg : mg "stands_of" = some (.ref f)) :
    FD P w K mg base T 3 "stands_of" f true [] 1 (pureM c_stands_of) :=
  fd_pure (k := 2) (j := 4) (mm := ap1 b_stands_of) (mkN := fun _ => [.un, .un, .un, .un, .un]) (mkB := fun e => nomatch e) hF sc_stands_of rfl rfl hb hg bi fun cdv A outer s H E g tk ds hd => by
    obtain ⟨a0, rfl⟩ := len1 hd
    rw [ap1_eq]
    show Ss _ T _ _ [] _ _ [C.val a0, .un, .un, .un, .un] _ _
    unfold b_stands_of
    exact (ss_asg (i := 1) g rfl (.inr rfl) (.inl rfl) rfl rfl (Ev.lasting (ev_call (fr := true) g F_waits (by decide) tk rfl (evA_cons (ev_var (i := 0) rfl rfl (.inl rfl) rfl rfl) evA_nil rfl) rfl rfl rfl rfl)) (fun v1 => (ss_own (i := 2) g rfl (.inl rfl) (.inl rfl) rfl rfl (ev_lst evA_nil (by simp)) (fun v2 => (ss_for (mk := (fun (s5 : D) => [C.val a0, C.val v1, C.own s5, .un, .un])) (s0 := v2) (i := 3) g (passes_of rfl) rfl (.inr rfl) (.inl rfl) rfl (evI_rgD g rfl (evA_cons (Ev.lasting (ev_bin op_sub does_sub (Ev.lend (ev_bin op_shl does_shl (Ev.lend ev_int) (Ev.loan (ev_ix g (Ev.loan (ev_var (i := 0) rfl rfl (.inl rfl) rfl rfl)) (Ev.lend ev_int) (fun _ _ => rfl))))) (Ev.lend ev_int))) (evA_cons (Ev.lasting ev_int) (evA_cons (Ev.lasting (does_un (Ev.lend ev_int))) evA_nil rfl) rfl) rfl) rfl rfl) (.kp (.kp (.kp (.un (.un .nil))))) rfl (fun d6 s3 => (ss_if (mk := (fun (s10 : D) => [C.val a0, C.val v1, C.own s10, C.val d6, .un])) (evT_val (Ev.lend (ev_call (fr := true) g F_is_lower (by decide) tk rfl (evA_cons (ev_var (i := 1) rfl rfl (.inr (.inl rfl)) rfl rfl) (evA_cons (ev_var (i := 3) rfl rfl (.inr (.inl rfl)) rfl rfl) evA_nil rfl) rfl) rfl rfl rfl rfl)) (fun _ => rfl)) (ss_extend (i := 2) rfl rfl (.inl rfl) rfl rfl rfl (Ev.lasting (Cm.ev (cm_compF (i := 4) g ⟨rfl, (.inl rfl), (.inr rfl)⟩ (blkOk_by rfl) (EvI.w (evI_seq (Ev.lasting (ev_call (fr := true) g F_things_in (by decide) tk rfl (evA_cons (ev_var (i := 3) rfl rfl (.inr (.inl rfl)) rfl rfl) (evA_cons (ev_ix g (Ev.loan (ev_var (i := 0) rfl rfl (.inl rfl) rfl rfl)) (Ev.lend ev_int) (fun _ _ => rfl)) evA_nil rfl) rfl) rfl rfl rfl rfl)))) (fun x8 _ _ _ _ _ => (evT_val (Ev.lend (ev_call (fr := true) (Gd.blk g _ _ _ _ _) F_is_lower (by decide) takesF rfl (evA_cons (ev_var (i := 1) rfl rfl (.inr (.inl rfl)) rfl rfl) (evA_cons (Ev.lasting (ev_bin op_xor does_bxor (Ev.loan (ev_var (i := 3) rfl rfl (.inr (.inl rfl)) rfl rfl)) (Ev.lend (ev_bin op_shl does_shl (Ev.lend ev_int) (Ev.loan (ev_var (i := 4) rfl rfl (.inl rfl) rfl rfl)))))) evA_nil rfl) rfl) rfl rfl rfl rfl)) (fun _ => rfl))) (fun x8 _ _ _ _ _ => (Ev.lasting (ev_tup (evA_cons (ev_var (i := 3) rfl rfl (.inr (.inl rfl)) rfl rfl) (evA_cons (ev_var (i := 4) rfl rfl (.inl rfl) rfl rfl) evA_nil rfl) rfl) (by simp))))))) (pe_bm PySem.F.plainAttrs_list PySem.F.slot_list_extend PySem.F.type_list_extend mt_extend (pe_var rfl (.inl rfl) rfl rfl) (pa_cons pw pa_nil rfl) rfl rfl rfl rfl rfl) (fun v7 => (ss_nil (.kp (.kp (.kp (.kp (.un .nil))))) rfl))) (ss_nil (.kp (.kp (.kp (.kp (.un .nil))))) rfl) (fun s9 => (ss_nil (.kp (.kp (.kp (.un (.un .nil))))) rfl)))) (fun s4 => (ss_freeze (i := 2) rfl rfl (ss_ret rfl (ev_bin op_addR does_add (Ev.loan (ev_var (i := 2) rfl rfl (.inl rfl) rfl rfl)) (Ev.lend (ev_lst (evA_cons (Ev.lasting (ev_tup (evA_cons (Ev.lasting ev_int) (evA_cons (Ev.lasting (does_un (Ev.lend ev_int))) evA_nil rfl) rfl) (by simp))) evA_nil rfl) (by simp))))))))))))

theorem sc_free_by : FnScope ["needs", "mask", "thing"] ["needs", "mask"] (defScope (topS 9)) := ⟨rfl, rfl, rfl, by decide +kernel, rfl, by decide +kernel, by decide +kernel⟩
theorem w_free_by {P : Program} {w : World} {K : PySem.W.Frag} {mg : Str → Option Value} {base : Heap} {T : Tb} (bi : Bi mg) {f : Addr} {fd : FuncData} (hF : Fun K "free_by" "free_by" (topS 9) f fd) (hb : Binds K fd ["needs", "mask"] []) (hg : mg "free_by" = some (.ref f)) :
    FD P w K mg base T 1 "free_by" f true [] 2 (pureM c_free_by) :=
  fd_pure (k := 0) (j := 1) (mm := ap2 b_free_by) (mkN := fun _ => [.un, .un, .un]) (mkB := fun e => nomatch e) hF sc_free_by rfl rfl hb hg bi fun cdv A outer s H E g tk ds hd => by
    obtain ⟨a0, a1, rfl⟩ := len2 hd
    rw [ap2_eq]
    show Ss _ T _ _ [] _ _ [C.val a0, C.val a1, .un] _ _
    unfold b_free_by
    exact (ss_ret rfl (Cm.ev (cm_compF (i := 2) g ⟨rfl, (.inl rfl), (.inr rfl)⟩ (blkOk_by rfl) (EvI.w (evI_rg1 g rfl (evA_cons (Ev.lasting (ev_b1 call_lenQ does_len rfl g.bi.len (by decide +kernel) (Ev.loan (ev_var (i := 0) rfl rfl (.inr (.inl rfl)) rfl rfl)) rfl (by decide +kernel) rfl)) evA_nil rfl) rfl)) (fun x1 _ _ _ _ _ => (EvW.t (evW_and (evT_cmp (op_eqQ (Gd.blk g _ _ _ _ _)) does_eq nx_eq rfl (Ev.lend (ev_bin op_and does_band (Ev.lend (ev_bin op_shr does_shr (Ev.loan (ev_var (i := 1) rfl rfl (.inr (.inl rfl)) rfl rfl)) (Ev.loan (ev_var (i := 2) rfl rfl (.inl rfl) rfl rfl)))) (Ev.lend ev_int))) (Ev.lend ev_int)) (evW_and1 (evT_cmp (op_eqQ (Gd.blk g _ _ _ _ _)) does_eq nx_eq rfl (Ev.lend (ev_bin op_and does_band (Ev.loan (ev_ix (Gd.blk g _ _ _ _ _) (Ev.loan (ev_var (i := 0) rfl rfl (.inr (.inl rfl)) rfl rfl)) (Ev.loan (ev_var (i := 2) rfl rfl (.inl rfl) rfl rfl)) (fun _ _ => rfl))) (Ev.loan (ev_var (i := 1) rfl rfl (.inr (.inl rfl)) rfl rfl)))) (Ev.loan (ev_ix (Gd.blk g _ _ _ _ _) (Ev.loan (ev_var (i := 0) rfl rfl (.inr (.inl rfl)) rfl rfl)) (Ev.loan (ev_var (i := 2) rfl rfl (.inl rfl) rfl rfl)) (fun _ _ => rfl)))))))) (fun x1 _ _ _ _ _ => (ev_var (i := 2) rfl rfl (.inl rfl) rfl rfl)))))

theorem sc_cost_of : FnScope ["order", "last", "thing"] ["order", "last", "thing"] (defScope (topS 15)) := ⟨rfl, rfl, rfl, by decide +kernel, rfl, by decide +kernel, by decide +kernel⟩
theorem w_cost_of {P : Program} {w : World} {K : PySem.W.Frag} {mg : Str → Option Value} {base : Heap} {T : Tb} (bi : Bi mg) {f : Addr} {fd : FuncData} (hF : Fun K "cost_of" "cost_of" (topS 15) f fd) (hb : Binds K fd ["order", "last", "thing"] []) (hg : mg "cost_of" = some (.ref f)) :
    FD P w K mg base T 1 "cost_of" f true [] 3 (pureM c_cost_of) :=
  fd_pure (k := 0) (j := 0) (mm := ap3 b_cost_of) (mkN := fun _ => [.un, .un, .un]) (mkB := fun e => nomatch e) hF sc_cost_of rfl rfl hb hg bi fun cdv A outer s H E g tk ds hd => by
    obtain ⟨a0, a1, a2, rfl⟩ := len3 hd
    rw [ap3_eq]
    show Ss _ T _ _ [] _ _ [C.val a0, C.val a1, C.val a2] _ _
    unfold b_cost_of
    exact (ss_ret rfl (ev_t1 call_int1 does_int rfl g.bi.int (by decide +kernel) (Ev.loan (ev_and (Ev.lasting (ev_cmp op_ge does_ge nx_ge rfl (Ev.loan (ev_var (i := 1) rfl rfl (.inl rfl) rfl rfl)) (Ev.lend ev_int))) (ev_one (Ev.lasting (ev_cmp (op_notInQ g) does_notIn nx_notIn rfl (Ev.lend (ev_tup (evA_cons (ev_var (i := 1) rfl rfl (.inl rfl) rfl rfl) (evA_cons (ev_var (i := 2) rfl rfl (.inl rfl) rfl rfl) evA_nil rfl) rfl) (by simp))) (Ev.loan (ev_ix g (Ev.loan (ev_var (i := 0) rfl rfl (.inl rfl) rfl rfl)) (Ev.lend ev_int) (fun _ _ => rfl)))))))) rfl (by decide +kernel) rfl))

theorem sc_ahead_by : FnScope ["table", "order", "mask", "last", "thing", "best", "many"] ["table", "order", "mask", "last", "thing"] (defScope (topS 18)) := ⟨rfl, rfl, rfl, by decide +kernel, rfl, by decide +kernel, by decide +kernel⟩
theorem w_ahead_by {P : Program} {w : World} {K : PySem.W.Frag} {mg : Str → Option Value} {base : Heap} {T : Tb} (bi : Bi mg) {f_cost_of : Addr} (F_cost_of : FD P w K mg base T 1 "cost_of" f_cost_of true [] 3 (pureM c_cost_of)) {f : Addr} {fd : FuncData} (hF : Fun K "ahead_by" "ahead_by" (topS 18) f fd) (hb : Binds K fd ["table", "order", "mask", "last", "thing"] []) (hg : mg "ahead_by" = some (.ref f)) :
    FD P w K mg base T 2 "ahead_by" f true [] 5 (pureM c_ahead_by) :=
  fd_pure (k := 1) (j := 2) (mm := ap5 b_ahead_by) (mkN := fun _ => [.un, .un, .un, .un, .un, .un, .un]) (mkB := fun e => nomatch e) hF sc_ahead_by rfl rfl hb hg bi fun cdv A outer s H E g tk ds hd => by
    obtain ⟨a0, a1, a2, a3, a4, rfl⟩ := len5 hd
    rw [ap5_eq]
    show Ss _ T _ _ [] _ _ [C.val a0, C.val a1, C.val a2, C.val a3, C.val a4, .un, .un] _ _
    unfold b_ahead_by
    exact (ss_un2 (i := 5) (j := 6) g ⟨rfl, (.inl rfl), (.inl rfl), rfl⟩ ⟨rfl, (.inl rfl), (.inl rfl), rfl⟩ (ev_ix g (Ev.loan (ev_var (i := 0) rfl rfl (.inl rfl) rfl rfl)) (Ev.lend (ev_tup (evA_cons (Ev.lasting (ev_bin op_or does_bor (Ev.loan (ev_var (i := 2) rfl rfl (.inl rfl) rfl rfl)) (Ev.lend (ev_bin op_shl does_shl (Ev.lend ev_int) (Ev.loan (ev_var (i := 4) rfl rfl (.inl rfl) rfl rfl)))))) (evA_cons (ev_var (i := 4) rfl rfl (.inl rfl) rfl rfl) evA_nil rfl) rfl) (by simp))) (fun _ _ => rfl)) rfl rfl (fun v1 v2 => (ss_ret rfl (ev_tup (evA_cons (Ev.lasting (ev_bin op_addR does_add (Ev.loan (ev_var (i := 5) rfl rfl (.inl rfl) rfl rfl)) (Ev.lend (ev_call (fr := true) g F_cost_of (by decide) tk rfl (evA_cons (ev_var (i := 1) rfl rfl (.inl rfl) rfl rfl) (evA_cons (ev_var (i := 3) rfl rfl (.inl rfl) rfl rfl) (evA_cons (ev_var (i := 4) rfl rfl (.inl rfl) rfl rfl) evA_nil rfl) rfl) rfl) rfl rfl rfl rfl)))) (evA_cons (ev_var (i := 6) rfl rfl (.inl rfl) rfl rfl) evA_nil rfl) rfl) (by simp)))))

theorem sc_fewest_table : FnScope ["order", "needs", "found", "mask", "last", "best", "many", "some", "ways", "thing", "way"] ["order"] (defScope (topS 17)) := ⟨rfl, rfl, rfl, by decide +kernel, rfl, by decide +kernel, by decide +kernel⟩
theorem w_fewest_table {P : Program} {w : World} {K : PySem.W.Frag} {mg : Str → Option Value} {base : Heap} {T : Tb} (bi : Bi mg) {f_waits : Addr} (F_waits : FD P w K mg base T 1 "waits" f_waits true [] 1 (pureM c_waits)) {f_stands_of : Addr} (F_stands_of : FD P w K mg base T 3 "stands_of" f_stands_of true [] 1 (pureM c_stands_of)) {f_free_by : Addr} (F_free_by : FD P w K mg base T 1 "free_by" f_free_by true [] 2 (pureM c_free_by)) {f_ahead_by : Addr} (F_ahead_by : FD P w K mg base T 2 "ahead_by" f_ahead_by true [] 5 (pureM c_ahead_by)) {f : Addr} {fd : FuncData} (hF : Fun K "fewest_table" "fewest_table" (topS 17) f fd) (hb : Binds K fd ["order"] []) (hg : mg "fewest_table" = some (.ref f)) :
    FD P w K mg base T 4 "fewest_table" f true [] 1 (pureM c_fewest_table) :=
  fd_pure (k := 3) (j := 10) (mm := ap1 b_fewest_table) (mkN := fun _ => [.un, .un, .un, .un, .un, .un, .un, .un, .un, .un, .un]) (mkB := fun e => nomatch e) hF sc_fewest_table rfl rfl hb hg bi fun cdv A outer s H E g tk ds hd => by
    obtain ⟨a0, rfl⟩ := len1 hd
    rw [ap1_eq]
    show Ss _ T _ _ [] _ _ [C.val a0, .un, .un, .un, .un, .un, .un, .un, .un, .un, .un] _ _
    unfold b_fewest_table
    exact (ss_asg (i := 1) g rfl (.inl rfl) (.inl rfl) rfl rfl (Ev.lasting (ev_call (fr := true) g F_waits (by decide) tk rfl (evA_cons (ev_var (i := 0) rfl rfl (.inr (.inl rfl)) rfl rfl) evA_nil rfl) rfl rfl rfl rfl)) (fun v1 => (ss_own (i := 2) g rfl (.inr rfl) (.inl rfl) rfl rfl ev_dnew1 (fun v2 => (ss_for2 (mk := (fun (s5 : D) => [C.val a0, C.val v1, C.own s5, .un, .un, .un, .un, .un, .un, .un, .un])) (s0 := v2) (i := 3) (j := 4) g (passes_of rfl) ⟨rfl, (.inr rfl), (.inl rfl), rfl⟩ ⟨rfl, (.inr rfl), (.inl rfl), rfl⟩ (evI_seq (Ev.lasting (ev_call (fr := true) g F_stands_of (by decide) tk rfl (evA_cons (ev_var (i := 0) rfl rfl (.inr (.inl rfl)) rfl rfl) evA_nil rfl) rfl rfl rfl rfl))) (.kp (.kp (.kp (.un (.un (.un (.un (.un (.un (.un (.un .nil))))))))))) rfl (fun d6 d7 s3 => (ss_un2 (i := 5) (j := 6) g ⟨rfl, (.inr rfl), (.inl rfl), rfl⟩ ⟨rfl, (.inl rfl), (.inl rfl), rfl⟩ (Ev.lasting (ev_tup (evA_cons (Ev.lasting ev_int) (evA_cons (Ev.lasting ev_int) evA_nil rfl) rfl) (by simp))) rfl rfl (fun v8 v9 => (ss_asg (i := 7) g rfl (.inl rfl) (.inl rfl) rfl rfl (Ev.lasting (ev_call (fr := true) g F_free_by (by decide) tk rfl (evA_cons (ev_var (i := 1) rfl rfl (.inl rfl) rfl rfl) (evA_cons (ev_var (i := 3) rfl rfl (.inr (.inl rfl)) rfl rfl) evA_nil rfl) rfl) rfl rfl rfl rfl)) (fun v10 => (ss_if (mk := (fun (s18 : D × D) => [C.val a0, C.val v1, C.own s3, C.val d6, C.val d7, C.val s18.1, C.val s18.2, C.val v10, .un, .un, .un])) (evT_cmp (op_neQ g) does_ne nx_ne rfl (Ev.loan (ev_var (i := 7) rfl rfl (.inl rfl) rfl rfl)) (Ev.lend (ev_lst evA_nil (by simp)))) (ss_asgC (i := 8) rfl rfl rfl rfl (Cm.lasting (cm_comp (i := 9) g ⟨rfl, (.inl rfl), (.inr rfl)⟩ (blkOk_by rfl) (EvI.w (evI_seq (ev_var (i := 7) rfl rfl (.inl rfl) rfl rfl))) (fun x12 _ _ _ _ _ => (Ev.lasting (ev_loan (i := 2) rfl (Ev.lasting (ev_call (fr := true) (Gd.blk g _ _ _ _ _) F_ahead_by (by decide) takesF rfl (evA_cons (ev_var (i := 2) rfl rfl (.inr (.inl rfl)) rfl rfl) (evA_cons (ev_var (i := 0) rfl rfl (.inr (.inl rfl)) rfl rfl) (evA_cons (ev_var (i := 3) rfl rfl (.inr (.inl rfl)) rfl rfl) (evA_cons (ev_var (i := 4) rfl rfl (.inr (.inl rfl)) rfl rfl) (evA_cons (ev_var (i := 9) rfl rfl (.inl rfl) rfl rfl) evA_nil rfl) rfl) rfl) rfl) rfl) rfl rfl rfl rfl))))))) (fun v11 => (ss_asg (i := 5) g rfl (.inr rfl) (.inl rfl) rfl rfl (Ev.lasting (ev_b1 (cr_min g.calm) does_min rfl g.bi.min (by decide +kernel) (Ev.lend (Cm.ev (cm_comp (i := 10) g ⟨rfl, (.inl rfl), (.inr rfl)⟩ (blkOk_by rfl) (EvI.w (evI_seq (ev_var (i := 8) rfl rfl (.inl rfl) rfl rfl))) (fun x14 _ _ _ _ _ => (ev_ix (Gd.blk g _ _ _ _ _) (Ev.loan (ev_var (i := 10) rfl rfl (.inl rfl) rfl rfl)) (Ev.lend ev_int) (fun _ _ => rfl)))))) rfl (by decide +kernel) rfl)) (fun v13 => (ss_asg (i := 6) g rfl (.inl rfl) (.inl rfl) rfl rfl (Ev.lasting (ev_b1 (cr_sum g.calm) does_sum rfl g.bi.sum (by decide +kernel) (Ev.lend (Cm.ev (cm_compF (i := 10) g ⟨rfl, (.inl rfl), (.inr rfl)⟩ (blkOk_by rfl) (EvI.w (evI_seq (ev_var (i := 8) rfl rfl (.inl rfl) rfl rfl))) (fun x16 _ _ _ _ _ => (evT_cmp (op_eqQ (Gd.blk g _ _ _ _ _)) does_eq nx_eq rfl (Ev.loan (ev_ix (Gd.blk g _ _ _ _ _) (Ev.loan (ev_var (i := 10) rfl rfl (.inl rfl) rfl rfl)) (Ev.lend ev_int) (fun _ _ => rfl))) (Ev.loan (ev_var (i := 5) rfl rfl (.inr (.inl rfl)) rfl rfl)))) (fun x16 _ _ _ _ _ => (ev_ix (Gd.blk g _ _ _ _ _) (Ev.loan (ev_var (i := 10) rfl rfl (.inl rfl) rfl rfl)) (Ev.lend ev_int) (fun _ _ => rfl)))))) rfl (by decide +kernel) rfl)) (fun v15 => (ss_nil (.kp (.kp (.kp (.kp (.kp (.kp (.kp (.kp (.un (.un (.un .nil))))))))))) rfl))))))) (ss_nil (.kp (.kp (.kp (.kp (.kp (.kp (.kp (.kp (.un (.un (.un .nil))))))))))) rfl) (fun s17 => (ss_set (i := 2) g rfl rfl (.inr (.inl rfl)) rfl rfl (Ev.lasting (ev_tup (evA_cons (ev_var (i := 5) rfl rfl (.inr (.inl rfl)) rfl rfl) (evA_cons (ev_var (i := 6) rfl rfl (.inl rfl) rfl rfl) evA_nil rfl) rfl) (by simp))) (Ev.lasting (ev_tup (evA_cons (ev_var (i := 3) rfl rfl (.inr (.inl rfl)) rfl rfl) (evA_cons (ev_var (i := 4) rfl rfl (.inr (.inl rfl)) rfl rfl) evA_nil rfl) rfl) (by simp))) rfl (fun _ => rfl) rfl rfl (fun v19 => (ss_nil (.kp (.kp (.kp (.un (.un (.un (.un (.un (.un (.un (.un .nil))))))))))) rfl)))))))))) (fun s4 => (ss_retOwn (i := 2) rfl rfl rfl (.inr (.inl rfl)) rfl rfl rfl)))))))

theorem sc_fewest_jumps : FnScope ["order"] ["order"] (defScope (topS 19)) := ⟨rfl, rfl, rfl, by decide +kernel, rfl, by decide +kernel, by decide +kernel⟩
theorem w_fewest_jumps {P : Program} {w : World} {K : PySem.W.Frag} {mg : Str → Option Value} {base : Heap} {T : Tb} (bi : Bi mg) {f_fewest_table : Addr} (F_fewest_table : FD P w K mg base T 4 "fewest_table" f_fewest_table true [] 1 (pureM c_fewest_table)) {f : Addr} {fd : FuncData} (hF : Fun K "fewest_jumps" "fewest_jumps" (topS 19) f fd) (hb : Binds K fd ["order"] []) (hg : mg "fewest_jumps" = some (.ref f)) :
    FD P w K mg base T 5 "fewest_jumps" f false [] 1 (pureM c_fewest_jumps) :=
  fd_pure (k := 4) (j := 0) (mm := ap1 b_fewest_jumps) (mkN := fun _ => [.un]) (mkB := fun e => nomatch e) hF sc_fewest_jumps rfl rfl hb hg bi fun cdv A outer s H E g tk ds hd => by
    obtain ⟨a0, rfl⟩ := len1 hd
    rw [ap1_eq]
    show Ss _ T _ _ [] _ _ [C.val a0] _ _
    unfold b_fewest_jumps
    exact (ss_ret rfl (ev_ix g (Ev.loan (ev_ix g (Ev.lend (ev_call (fr := true) g F_fewest_table (by decide) tk rfl (evA_cons (ev_var (i := 0) rfl rfl (.inl rfl) rfl rfl) evA_nil rfl) rfl rfl rfl rfl)) (Ev.lend (ev_tup (evA_cons (Ev.lasting ev_int) (evA_cons (Ev.lasting (does_un (Ev.lend ev_int))) evA_nil rfl) rfl) (by simp))) (fun _ _ => rfl))) (Ev.lend ev_int) (fun _ _ => rfl)))

theorem sc_on_by : FnScope ["order", "needs", "mask", "last", "thing"] ["order", "needs", "mask", "last"] (defScope (topS 27)) := ⟨rfl, rfl, rfl, by decide +kernel, rfl, by decide +kernel, by decide +kernel⟩
theorem w_on_by {P : Program} {w : World} {K : PySem.W.Frag} {mg : Str → Option Value} {base : Heap} {T : Tb} (bi : Bi mg) {f_free_by : Addr} (F_free_by : FD P w K mg base T 1 "free_by" f_free_by true [] 2 (pureM c_free_by)) {f : Addr} {fd : FuncData} (hF : Fun K "on_by" "on_by" (topS 27) f fd) (hb : Binds K fd ["order", "needs", "mask", "last"] []) (hg : mg "on_by" = some (.ref f)) :
    FD P w K mg base T 2 "on_by" f true [] 4 (pureM c_on_by) :=
  fd_pure (k := 1) (j := 1) (mm := ap4 b_on_by) (mkN := fun _ => [.un, .un, .un, .un, .un]) (mkB := fun e => nomatch e) hF sc_on_by rfl rfl hb hg bi fun cdv A outer s H E g tk ds hd => by
    obtain ⟨a0, a1, a2, a3, rfl⟩ := len4 hd
    rw [ap4_eq]
    show Ss _ T _ _ [] _ _ [C.val a0, C.val a1, C.val a2, C.val a3, .un] _ _
    unfold b_on_by
    exact (ss_ret rfl (Cm.ev (cm_compF (i := 4) g ⟨rfl, (.inl rfl), (.inr rfl)⟩ (blkOk_by rfl) (EvI.w (evI_seq (Ev.lasting (ev_call (fr := true) g F_free_by (by decide) tk rfl (evA_cons (ev_var (i := 1) rfl rfl (.inl rfl) rfl rfl) (evA_cons (ev_var (i := 2) rfl rfl (.inl rfl) rfl rfl) evA_nil rfl) rfl) rfl rfl rfl rfl)))) (fun x1 _ _ _ _ _ => (EvW.t (evW_and (evT_cmp op_ge does_ge nx_ge rfl (Ev.loan (ev_var (i := 3) rfl rfl (.inr (.inl rfl)) rfl rfl)) (Ev.lend ev_int)) (evW_and1 (evT_cmp (op_inQ (Gd.blk g _ _ _ _ _)) does_in nx_in rfl (Ev.lend (ev_tup (evA_cons (ev_var (i := 3) rfl rfl (.inr (.inl rfl)) rfl rfl) (evA_cons (ev_var (i := 4) rfl rfl (.inl rfl) rfl rfl) evA_nil rfl) rfl) (by simp))) (Ev.loan (ev_ix (Gd.blk g _ _ _ _ _) (Ev.loan (ev_var (i := 0) rfl rfl (.inr (.inl rfl)) rfl rfl)) (Ev.lend ev_int) (fun _ _ => rfl)))))))) (fun x1 _ _ _ _ _ => (ev_var (i := 4) rfl rfl (.inl rfl) rfl rfl)))))

theorem sc_greedy_next : FnScope ["order", "needs", "mask", "last", "found"] ["order", "needs", "mask", "last"] (defScope (topS 28)) := ⟨rfl, rfl, rfl, by decide +kernel, rfl, by decide +kernel, by decide +kernel⟩
theorem w_greedy_next {P : Program} {w : World} {K : PySem.W.Frag} {mg : Str → Option Value} {base : Heap} {T : Tb} (bi : Bi mg) {f_free_by : Addr} (F_free_by : FD P w K mg base T 1 "free_by" f_free_by true [] 2 (pureM c_free_by)) {f_on_by : Addr} (F_on_by : FD P w K mg base T 2 "on_by" f_on_by true [] 4 (pureM c_on_by)) {f : Addr} {fd : FuncData} (hF : Fun K "greedy_next" "greedy_next" (topS 28) f fd) (hb : Binds K fd ["order", "needs", "mask", "last"] []) (hg : mg "greedy_next" = some (.ref f)) :
    FD P w K mg base T 3 "greedy_next" f false [] 4 (pureM c_greedy_next) :=
  fd_pure (k := 2) (j := 1) (mm := ap4 b_greedy_next) (mkN := fun _ => [.un, .un, .un, .un, .un]) (mkB := fun e => nomatch e) hF sc_greedy_next rfl rfl hb hg bi fun cdv A outer s H E g tk ds hd => by
    obtain ⟨a0, a1, a2, a3, rfl⟩ := len4 hd
    rw [ap4_eq]
    show Ss _ T _ _ [] _ _ [C.val a0, C.val a1, C.val a2, C.val a3, .un] _ _
    unfold b_greedy_next
    exact (ss_asg (i := 4) g rfl (.inl rfl) (.inl rfl) rfl rfl (Ev.lasting (ev_call (fr := true) g F_on_by (by decide) tk rfl (evA_cons (ev_var (i := 0) rfl rfl (.inl rfl) rfl rfl) (evA_cons (ev_var (i := 1) rfl rfl (.inl rfl) rfl rfl) (evA_cons (ev_var (i := 2) rfl rfl (.inl rfl) rfl rfl) (evA_cons (ev_var (i := 3) rfl rfl (.inl rfl) rfl rfl) evA_nil rfl) rfl) rfl) rfl) rfl rfl rfl rfl)) (fun v1 => (ss_ifE (mk := fun e => nomatch e) (evT_cmp (op_eqQ g) does_eq nx_eq rfl (Ev.loan (ev_var (i := 4) rfl rfl (.inl rfl) rfl rfl)) (Ev.lend (ev_lst evA_nil (by simp)))) (ss_ret rfl (Ev.lasting (ev_call (fr := true) g F_free_by (by decide) tk rfl (evA_cons (ev_var (i := 1) rfl rfl (.inl rfl) rfl rfl) (evA_cons (ev_var (i := 2) rfl rfl (.inl rfl) rfl rfl) evA_nil rfl) rfl) rfl rfl rfl rfl))) (ss_ret rfl (ev_var (i := 4) rfl rfl (.inl rfl) rfl rfl)))))

theorem sc_greedy_table : FnScope ["order", "needs", "found", "mask", "last", "some", "ways", "thing", "costs", "least", "cost", "way", "most"] ["order"] (defScope (topS 33)) := ⟨rfl, rfl, rfl, by decide +kernel, rfl, by decide +kernel, by decide +kernel⟩
theorem w_greedy_table {P : Program} {w : World} {K : PySem.W.Frag} {mg : Str → Option Value} {base : Heap} {T : Tb} (bi : Bi mg) {f_waits : Addr} (F_waits : FD P w K mg base T 1 "waits" f_waits true [] 1 (pureM c_waits)) {f_stands_of : Addr} (F_stands_of : FD P w K mg base T 3 "stands_of" f_stands_of true [] 1 (pureM c_stands_of)) {f_cost_of : Addr} (F_cost_of : FD P w K mg base T 1 "cost_of" f_cost_of true [] 3 (pureM c_cost_of)) {f_greedy_next : Addr} (F_greedy_next : FD P w K mg base T 3 "greedy_next" f_greedy_next false [] 4 (pureM c_greedy_next)) {f : Addr} {fd : FuncData} (hF : Fun K "greedy_table" "greedy_table" (topS 33) f fd) (hb : Binds K fd ["order"] []) (hg : mg "greedy_table" = some (.ref f)) :
    FD P w K mg base T 4 "greedy_table" f true [] 1 (pureM c_greedy_table) :=
  fd_pure (k := 3) (j := 12) (mm := ap1 b_greedy_table) (mkN := fun _ => [.un, .un, .un, .un, .un, .un, .un, .un, .un, .un, .un, .un, .un]) (mkB := fun e => nomatch e) hF sc_greedy_table rfl rfl hb hg bi fun cdv A outer s H E g tk ds hd => by
    obtain ⟨a0, rfl⟩ := len1 hd
    rw [ap1_eq]
    show Ss _ T _ _ [] _ _ [C.val a0, .un, .un, .un, .un, .un, .un, .un, .un, .un, .un, .un, .un] _ _
    unfold b_greedy_table
    exact (ss_asg (i := 1) g rfl (.inl rfl) (.inl rfl) rfl rfl (Ev.lasting (ev_call (fr := true) g F_waits (by decide) tk rfl (evA_cons (ev_var (i := 0) rfl rfl (.inr (.inl rfl)) rfl rfl) evA_nil rfl) rfl rfl rfl rfl)) (fun v1 => (ss_own (i := 2) g rfl (.inr rfl) (.inl rfl) rfl rfl ev_dnew1 (fun v2 => (ss_for2 (mk := (fun (s5 : D) => [C.val a0, C.val v1, C.own s5, .un, .un, .un, .un, .un, .un, .un, .un, .un, .un])) (s0 := v2) (i := 3) (j := 4) g (passes_of rfl) ⟨rfl, (.inr rfl), (.inl rfl), rfl⟩ ⟨rfl, (.inr rfl), (.inl rfl), rfl⟩ (evI_seq (Ev.lasting (ev_call (fr := true) g F_stands_of (by decide) tk rfl (evA_cons (ev_var (i := 0) rfl rfl (.inr (.inl rfl)) rfl rfl) evA_nil rfl) rfl rfl rfl rfl))) (.kp (.kp (.kp (.un (.un (.un (.un (.un (.un (.un (.un (.un (.un .nil))))))))))))) rfl (fun d6 d7 s3 => (ss_asg (i := 5) g rfl (.inl rfl) (.inl rfl) rfl rfl (ev_call (fr := false) g F_greedy_next (by decide) tk rfl (evA_cons (ev_var (i := 0) rfl rfl (.inr (.inl rfl)) rfl rfl) (evA_cons (ev_var (i := 1) rfl rfl (.inl rfl) rfl rfl) (evA_cons (ev_var (i := 3) rfl rfl (.inr (.inl rfl)) rfl rfl) (evA_cons (ev_var (i := 4) rfl rfl (.inr (.inl rfl)) rfl rfl) evA_nil rfl) rfl) rfl) rfl) rfl rfl rfl rfl) (fun v8 => (ss_if (mk := (fun (s23 : D) => [C.val a0, C.val v1, C.own s23, C.val d6, C.val d7, C.val v8, .un, .un, .un, .un, .un, .un, .un])) (evT_cmp (op_eqQ g) does_eq nx_eq rfl (Ev.loan (ev_var (i := 5) rfl rfl (.inl rfl) rfl rfl)) (Ev.lend (ev_lst evA_nil (by simp)))) (ss_set (i := 2) g rfl rfl (.inr (.inl rfl)) rfl rfl (Ev.lasting (ev_tup (evA_cons (Ev.lasting ev_int) (evA_cons (Ev.lasting ev_int) (evA_cons (Ev.lasting ev_int) evA_nil rfl) rfl) rfl) (by simp))) (Ev.lasting (ev_tup (evA_cons (ev_var (i := 3) rfl rfl (.inr (.inl rfl)) rfl rfl) (evA_cons (ev_var (i := 4) rfl rfl (.inr (.inl rfl)) rfl rfl) evA_nil rfl) rfl) (by simp))) rfl (fun _ => rfl) rfl rfl (fun v9 => (ss_nil (.kp (.kp (.kp (.kp (.kp (.kp (.un (.un (.un (.un (.un (.un (.un .nil))))))))))))) rfl))) (ss_asgC (i := 6) rfl rfl rfl rfl (Cm.lasting (cm_comp (i := 7) g ⟨rfl, (.inl rfl), (.inr rfl)⟩ (blkOk_by rfl) (EvI.w (evI_seq (ev_var (i := 5) rfl rfl (.inl rfl) rfl rfl))) (fun x11 _ _ _ _ _ => (ev_ix (Gd.blk g _ _ _ _ _) (ev_own (i := 2) rfl rfl (.inr (.inl rfl)) rfl rfl) (Ev.lend (ev_tup (evA_cons (Ev.lasting (ev_bin op_or does_bor (Ev.loan (ev_var (i := 3) rfl rfl (.inr (.inl rfl)) rfl rfl)) (Ev.lend (ev_bin op_shl does_shl (Ev.lend ev_int) (Ev.loan (ev_var (i := 7) rfl rfl (.inl rfl) rfl rfl)))))) (evA_cons (ev_var (i := 7) rfl rfl (.inl rfl) rfl rfl) evA_nil rfl) rfl) (by simp))) (fun _ _ => rfl))))) (fun v10 => (ss_asgC (i := 8) rfl rfl rfl rfl (Cm.lasting (cm_comp (i := 7) g ⟨rfl, (.inl rfl), (.inr rfl)⟩ (blkOk_by rfl) (EvI.w (evI_seq (ev_var (i := 5) rfl rfl (.inl rfl) rfl rfl))) (fun x13 _ _ _ _ _ => (Ev.lasting (ev_call (fr := true) (Gd.blk g _ _ _ _ _) F_cost_of (by decide) takesF rfl (evA_cons (ev_var (i := 0) rfl rfl (.inr (.inl rfl)) rfl rfl) (evA_cons (ev_var (i := 4) rfl rfl (.inr (.inl rfl)) rfl rfl) (evA_cons (ev_var (i := 7) rfl rfl (.inl rfl) rfl rfl) evA_nil rfl) rfl) rfl) rfl rfl rfl rfl))))) (fun v12 => (ss_asg (i := 9) g rfl (.inl rfl) (.inl rfl) rfl rfl (Ev.lasting (ev_b1 (cr_min g.calm) does_min rfl g.bi.min (by decide +kernel) (Ev.lend (Cm.ev (cm_comp2 (i := 10) (j := 11) g (by decide) ⟨rfl, (.inl rfl), (.inr rfl)⟩ ⟨rfl, (.inl rfl), (.inr rfl)⟩ (blkOk_by rfl) (EvI.w (evI_zip g rfl (evA_cons (ev_var (i := 8) rfl rfl (.inl rfl) rfl rfl) (evA_cons (ev_var (i := 6) rfl rfl (.inl rfl) rfl rfl) evA_nil rfl) rfl) rfl rfl)) (fun x15 x16 _ _ _ _ _ => (Ev.lasting (ev_bin op_addR does_add (Ev.loan (ev_var (i := 10) rfl rfl (.inl rfl) rfl rfl)) (Ev.loan (ev_ix (Gd.blk g _ _ _ _ _) (Ev.loan (ev_var (i := 11) rfl rfl (.inl rfl) rfl rfl)) (Ev.lend ev_int) (fun _ _ => rfl))))))))) rfl (by decide +kernel) rfl)) (fun v14 => (ss_asg (i := 12) g rfl (.inl rfl) (.inl rfl) rfl rfl (Ev.lasting (ev_b1 (cr_max g.calm) does_maxQ rfl g.bi.max (by decide +kernel) (Ev.lend (Cm.ev (cm_comp2 (i := 10) (j := 11) g (by decide) ⟨rfl, (.inl rfl), (.inr rfl)⟩ ⟨rfl, (.inl rfl), (.inr rfl)⟩ (blkOk_by rfl) (EvI.w (evI_zip g rfl (evA_cons (ev_var (i := 8) rfl rfl (.inl rfl) rfl rfl) (evA_cons (ev_var (i := 6) rfl rfl (.inl rfl) rfl rfl) evA_nil rfl) rfl) rfl rfl)) (fun x18 x19 _ _ _ _ _ => (Ev.lasting (ev_bin op_addR does_add (Ev.loan (ev_var (i := 10) rfl rfl (.inl rfl) rfl rfl)) (Ev.loan (ev_ix (Gd.blk g _ _ _ _ _) (Ev.loan (ev_var (i := 11) rfl rfl (.inl rfl) rfl rfl)) (Ev.lend ev_int) (fun _ _ => rfl))))))))) rfl (by decide +kernel) rfl)) (fun v17 => (ss_set (i := 2) g rfl rfl (.inr (.inl rfl)) rfl rfl (Ev.lasting (ev_tup (evA_cons (Ev.lasting (ev_b1 (cr_sum g.calm) does_sum rfl g.bi.sum (by decide +kernel) (Ev.lend (Cm.ev (cm_comp (i := 11) g ⟨rfl, (.inl rfl), (.inr rfl)⟩ (blkOk_by rfl) (EvI.w (evI_seq (ev_var (i := 6) rfl rfl (.inl rfl) rfl rfl))) (fun x20 _ _ _ _ _ => (ev_ix (Gd.blk g _ _ _ _ _) (Ev.loan (ev_var (i := 11) rfl rfl (.inl rfl) rfl rfl)) (Ev.lend ev_int) (fun _ _ => rfl)))))) rfl (by decide +kernel) rfl)) (evA_cons (ev_var (i := 9) rfl rfl (.inl rfl) rfl rfl) (evA_cons (ev_var (i := 12) rfl rfl (.inl rfl) rfl rfl) evA_nil rfl) rfl) rfl) (by simp))) (Ev.lasting (ev_tup (evA_cons (ev_var (i := 3) rfl rfl (.inr (.inl rfl)) rfl rfl) (evA_cons (ev_var (i := 4) rfl rfl (.inr (.inl rfl)) rfl rfl) evA_nil rfl) rfl) (by simp))) rfl (fun _ => rfl) rfl rfl (fun v21 => (ss_nil (.kp (.kp (.kp (.kp (.kp (.kp (.un (.un (.un (.un (.un (.un (.un .nil))))))))))))) rfl))))))))))) (fun s22 => (ss_nil (.kp (.kp (.kp (.un (.un (.un (.un (.un (.un (.un (.un (.un (.un .nil))))))))))))) rfl)))))) (fun s4 => (ss_retOwn (i := 2) rfl rfl rfl (.inr (.inl rfl)) rfl rfl rfl)))))))

theorem sc_first_best : FnScope ["order", "table", "needs", "row", "mask", "last", "due", "some", "good", "one"] ["order"] (defScope (topS 38)) := ⟨rfl, rfl, rfl, by decide +kernel, rfl, by decide +kernel, by decide +kernel⟩
theorem w_first_best {P : Program} {w : World} {K : PySem.W.Frag} {mg : Str → Option Value} {base : Heap} {T : Tb} (bi : Bi mg) {f_waits : Addr} (F_waits : FD P w K mg base T 1 "waits" f_waits true [] 1 (pureM c_waits)) {f_cost_of : Addr} (F_cost_of : FD P w K mg base T 1 "cost_of" f_cost_of true [] 3 (pureM c_cost_of)) {f_greedy_next : Addr} (F_greedy_next : FD P w K mg base T 3 "greedy_next" f_greedy_next false [] 4 (pureM c_greedy_next)) {f_greedy_table : Addr} (F_greedy_table : FD P w K mg base T 4 "greedy_table" f_greedy_table true [] 1 (pureM c_greedy_table)) {f : Addr} {fd : FuncData} (hF : Fun K "first_best" "first_best" (topS 38) f fd) (hb : Binds K fd ["order"] []) (hg : mg "first_best" = some (.ref f)) :
    FD P w K mg base T 5 "first_best" f true [] 1 (pureM c_first_best) :=
  fd_pure (k := 4) (j := 9) (mm := ap1 b_first_best) (mkN := fun _ => [.un, .un, .un, .un, .un, .un, .un, .un, .un, .un]) (mkB := fun e => nomatch e) hF sc_first_best rfl rfl hb hg bi fun cdv A outer s H E g tk ds hd => by
    obtain ⟨a0, rfl⟩ := len1 hd
    rw [ap1_eq]
    show Ss _ T _ _ [] _ _ [C.val a0, .un, .un, .un, .un, .un, .un, .un, .un, .un] _ _
    unfold b_first_best
    exact (ss_asg (i := 1) g rfl (.inr rfl) (.inl rfl) rfl rfl (Ev.lasting (ev_call (fr := true) g F_greedy_table (by decide) tk rfl (evA_cons (ev_var (i := 0) rfl rfl (.inr (.inl rfl)) rfl rfl) evA_nil rfl) rfl rfl rfl rfl)) (fun v1 => (ss_asg (i := 2) g rfl (.inl rfl) (.inl rfl) rfl rfl (Ev.lasting (ev_call (fr := true) g F_waits (by decide) tk rfl (evA_cons (ev_var (i := 0) rfl rfl (.inr (.inl rfl)) rfl rfl) evA_nil rfl) rfl rfl rfl rfl)) (fun v2 => (ss_own (i := 3) g rfl (.inl rfl) (.inl rfl) rfl rfl (ev_lst evA_nil (by simp)) (fun v3 => (ss_un2 (i := 4) (j := 5) g ⟨rfl, (.inr rfl), (.inl rfl), rfl⟩ ⟨rfl, (.inr rfl), (.inl rfl), rfl⟩ (Ev.lasting (ev_tup (evA_cons (Ev.lasting ev_int) (evA_cons (Ev.lasting (does_un (Ev.lend ev_int))) evA_nil rfl) rfl) (by simp))) rfl rfl (fun v4 v5 => (ss_while (mk := (fun (s8 : D × D × D) => [C.val a0, C.val v1, C.val v2, C.own s8.1, C.val s8.2.1, C.val s8.2.2, .un, .un, .un, .un])) (s0 := (v3, v4, v5)) (n := 200) (passes_of rfl) (.kp (.kp (.kp (.kp (.kp (.kp (.un (.un (.un (.un .nil)))))))))) rfl (fun s6 => (evT_cmp (op_ltQ g) does_lt nx_lt rfl (Ev.lend (ev_b1 call_lenQ does_len rfl g.bi.len (by decide +kernel) (ev_own (i := 3) rfl rfl (.inl rfl) rfl rfl) rfl (by decide +kernel) rfl)) (Ev.loan (ev_ix g (Ev.loan (ev_var (i := 0) rfl rfl (.inr (.inl rfl)) rfl rfl)) (Ev.lend ev_int) (fun _ _ => rfl))))) (fun s6 => (ss_asg (i := 6) g rfl (.inr rfl) (.inl rfl) rfl rfl (ev_ix g (Ev.loan (ev_ix g (Ev.loan (ev_var (i := 1) rfl rfl (.inr (.inl rfl)) rfl rfl)) (Ev.lend (ev_tup (evA_cons (ev_var (i := 4) rfl rfl (.inr (.inl rfl)) rfl rfl) (evA_cons (ev_var (i := 5) rfl rfl (.inr (.inl rfl)) rfl rfl) evA_nil rfl) rfl) (by simp))) (fun _ _ => rfl))) (Ev.lend ev_int) (fun _ _ => rfl)) (fun v9 => (ss_asg (i := 7) g rfl (.inl rfl) (.inl rfl) rfl rfl (ev_call (fr := false) g F_greedy_next (by decide) tk rfl (evA_cons (ev_var (i := 0) rfl rfl (.inr (.inl rfl)) rfl rfl) (evA_cons (ev_var (i := 2) rfl rfl (.inl rfl) rfl rfl) (evA_cons (ev_var (i := 4) rfl rfl (.inr (.inl rfl)) rfl rfl) (evA_cons (ev_var (i := 5) rfl rfl (.inr (.inl rfl)) rfl rfl) evA_nil rfl) rfl) rfl) rfl) rfl rfl rfl rfl) (fun v10 => (ss_asgC (i := 8) rfl rfl rfl rfl (Cm.lasting (cm_compF (i := 9) g ⟨rfl, (.inl rfl), (.inr rfl)⟩ (blkOk_by rfl) (EvI.w (evI_seq (ev_var (i := 7) rfl rfl (.inl rfl) rfl rfl))) (fun x12 _ _ _ _ _ => (evT_cmp (op_eqQ (Gd.blk g _ _ _ _ _)) does_eq nx_eq rfl (Ev.lend (ev_bin op_addR does_add (Ev.lend (ev_call (fr := true) (Gd.blk g _ _ _ _ _) F_cost_of (by decide) takesF rfl (evA_cons (ev_var (i := 0) rfl rfl (.inr (.inl rfl)) rfl rfl) (evA_cons (ev_var (i := 5) rfl rfl (.inr (.inl rfl)) rfl rfl) (evA_cons (ev_var (i := 9) rfl rfl (.inl rfl) rfl rfl) evA_nil rfl) rfl) rfl) rfl rfl rfl rfl)) (Ev.loan (ev_ix (Gd.blk g _ _ _ _ _) (Ev.loan (ev_ix (Gd.blk g _ _ _ _ _) (Ev.loan (ev_var (i := 1) rfl rfl (.inr (.inl rfl)) rfl rfl)) (Ev.lend (ev_tup (evA_cons (Ev.lasting (ev_bin op_or does_bor (Ev.loan (ev_var (i := 4) rfl rfl (.inr (.inl rfl)) rfl rfl)) (Ev.lend (ev_bin op_shl does_shl (Ev.lend ev_int) (Ev.loan (ev_var (i := 9) rfl rfl (.inl rfl) rfl rfl)))))) (evA_cons (ev_var (i := 9) rfl rfl (.inl rfl) rfl rfl) evA_nil rfl) rfl) (by simp))) (fun _ _ => rfl))) (Ev.lend ev_int) (fun _ _ => rfl))))) (Ev.loan (ev_var (i := 6) rfl rfl (.inr (.inl rfl)) rfl rfl)))) (fun x12 _ _ _ _ _ => (ev_var (i := 9) rfl rfl (.inl rfl) rfl rfl)))) (fun v11 => (ss_asg (i := 5) g rfl (.inr rfl) (.inl rfl) rfl rfl (ev_ix g (Ev.loan (ev_var (i := 8) rfl rfl (.inl rfl) rfl rfl)) (Ev.lend ev_int) (fun _ _ => rfl)) (fun v13 => (ss_asg (i := 4) g rfl (.inr rfl) (.inl rfl) rfl rfl (Ev.lasting (ev_bin op_or does_bor (Ev.loan (ev_var (i := 4) rfl rfl (.inr (.inl rfl)) rfl rfl)) (Ev.lend (ev_bin op_shl does_shl (Ev.lend ev_int) (Ev.loan (ev_var (i := 5) rfl rfl (.inr (.inl rfl)) rfl rfl)))))) (fun v14 => (ss_append (i := 3) rfl rfl (.inl rfl) rfl rfl rfl (ev_var (i := 5) rfl rfl (.inr (.inl rfl)) rfl rfl) (pe_bm PySem.F.plainAttrs_list PySem.F.slot_list_append PySem.F.type_list_append mt_append (pe_var rfl (.inl rfl) rfl rfl) (pa_cons pw pa_nil rfl) rfl rfl rfl rfl rfl) (fun v15 => (ss_nil (.kp (.kp (.kp (.kp (.kp (.kp (.un (.un (.un (.un .nil)))))))))) rfl)))))))))))))) (fun s7 => (ss_freeze (i := 3) rfl rfl (ss_ret rfl (ev_t1 call_tuple_of does_tuple rfl g.bi.tuple (by decide +kernel) (Ev.loan (ev_var (i := 3) rfl rfl (.inl rfl) rfl rfl)) rfl (by decide +kernel) rfl)))))))))))))

theorem sc__law_cell_at : FnScope ["_law_script", "_law_k"] ["_law_script", "_law_k"] (defScope (topS 41)) := ⟨rfl, rfl, rfl, by decide +kernel, rfl, by decide +kernel, by decide +kernel⟩
theorem w__law_cell_at {P : Program} {w : World} {K : PySem.W.Frag} {mg : Str → Option Value} {base : Heap} {T : Tb} (bi : Bi mg) {f : Addr} {fd : FuncData} (hF : Fun K "_law_cell_at" "_law_cell_at" (topS 41) f fd) (hb : Binds K fd ["_law_script", "_law_k"] []) (hg : mg "_law_cell_at" = some (.ref f)) :
    FD P w K mg base T 1 "_law_cell_at" f false [] 2 (pureM c__law_cell_at) :=
  fd_pure (k := 0) (j := 0) (mm := ap2 b__law_cell_at) (mkN := fun _ => [.un, .un]) (mkB := fun e => nomatch e) hF sc__law_cell_at rfl rfl hb hg bi fun cdv A outer s H E g tk ds hd => by
    obtain ⟨a0, a1, rfl⟩ := len2 hd
    rw [ap2_eq]
    show Ss _ T _ _ [] _ _ [C.val a0, C.val a1] _ _
    unfold b__law_cell_at
    exact (ss_ifE (mk := fun e => nomatch e) (evT_cmp (op_ltQ g) does_lt nx_lt rfl (Ev.loan (ev_var (i := 1) rfl rfl (.inl rfl) rfl rfl)) (Ev.lend (ev_b1 call_lenQ does_len rfl g.bi.len (by decide +kernel) (Ev.loan (ev_var (i := 0) rfl rfl (.inl rfl) rfl rfl)) rfl (by decide +kernel) rfl))) (ss_ret rfl (ev_ix g (Ev.loan (ev_var (i := 0) rfl rfl (.inl rfl) rfl rfl)) (Ev.loan (ev_var (i := 1) rfl rfl (.inl rfl) rfl rfl)) (fun _ _ => rfl))) (ss_ret rfl (Ev.lasting ev_int)))

theorem sc_greedy_least : FnScope ["order"] ["order"] (defScope (topS 35)) := ⟨rfl, rfl, rfl, by decide +kernel, rfl, by decide +kernel, by decide +kernel⟩
theorem w_greedy_least {P : Program} {w : World} {K : PySem.W.Frag} {mg : Str → Option Value} {base : Heap} {T : Tb} (bi : Bi mg) {f_greedy_table : Addr} (F_greedy_table : FD P w K mg base T 4 "greedy_table" f_greedy_table true [] 1 (pureM c_greedy_table)) {f : Addr} {fd : FuncData} (hF : Fun K "greedy_least" "greedy_least" (topS 35) f fd) (hb : Binds K fd ["order"] []) (hg : mg "greedy_least" = some (.ref f)) :
    FD P w K mg base T 5 "greedy_least" f false [] 1 (pureM c_greedy_least) :=
  fd_pure (k := 4) (j := 0) (mm := ap1 b_greedy_least) (mkN := fun _ => [.un]) (mkB := fun e => nomatch e) hF sc_greedy_least rfl rfl hb hg bi fun cdv A outer s H E g tk ds hd => by
    obtain ⟨a0, rfl⟩ := len1 hd
    rw [ap1_eq]
    show Ss _ T _ _ [] _ _ [C.val a0] _ _
    unfold b_greedy_least
    exact (ss_ret rfl (ev_ix g (Ev.loan (ev_ix g (Ev.lend (ev_call (fr := true) g F_greedy_table (by decide) tk rfl (evA_cons (ev_var (i := 0) rfl rfl (.inl rfl) rfl rfl) evA_nil rfl) rfl rfl rfl rfl)) (Ev.lend (ev_tup (evA_cons (Ev.lasting ev_int) (evA_cons (Ev.lasting (does_un (Ev.lend ev_int))) evA_nil rfl) rfl) (by simp))) (fun _ _ => rfl))) (Ev.lend ev_int) (fun _ _ => rfl)))

theorem sc_is_whole : FnScope ["thing"] ["thing"] (defScope (topS 5)) := ⟨rfl, rfl, rfl, by decide +kernel, rfl, by decide +kernel, by decide +kernel⟩
theorem w_is_whole {P : Program} {w : World} {K : PySem.W.Frag} {mg : Str → Option Value} {base : Heap} {T : Tb} (bi : Bi mg) {f : Addr} {fd : FuncData} (hF : Fun K "is_whole" "is_whole" (topS 5) f fd) (hb : Binds K fd ["thing"] []) (hg : mg "is_whole" = some (.ref f)) :
    FD P w K mg base T 1 "is_whole" f false [] 1 (pureM c_is_whole) :=
  fd_pure (k := 0) (j := 0) (mm := ap1 b_is_whole) (mkN := fun _ => [.un]) (mkB := fun e => nomatch e) hF sc_is_whole rfl rfl hb hg bi fun cdv A outer s H E g tk ds hd => by
    obtain ⟨a0, rfl⟩ := len1 hd
    rw [ap1_eq]
    show Ss _ T _ _ [] _ _ [C.val a0] _ _
    unfold b_is_whole
    exact (ss_ret rfl (ev_and (Ev.lasting (ev_isa kit_int rfl g.bi.isinstance rfl g.bi.int (by decide +kernel) (Ev.loan (ev_var (i := 0) rfl rfl (.inl rfl) rfl rfl)) rfl (by decide +kernel) rfl)) (ev_one (Ev.lasting (ev_not (Ev.lend (ev_isa kit_bool rfl g.bi.isinstance rfl g.bi.bool (by decide +kernel) (Ev.loan (ev_var (i := 0) rfl rfl (.inl rfl) rfl rfl)) rfl (by decide +kernel) rfl)))))))

theorem sc_begins : FnScope ["order", "thing", "one", "needs", "mask"] ["order", "thing"] (defScope (topS 21)) := ⟨rfl, rfl, rfl, by decide +kernel, rfl, by decide +kernel, by decide +kernel⟩
theorem w_begins {P : Program} {w : World} {K : PySem.W.Frag} {mg : Str → Option Value} {base : Heap} {T : Tb} (bi : Bi mg) {f_waits : Addr} (F_waits : FD P w K mg base T 1 "waits" f_waits true [] 1 (pureM c_waits)) {f_free_by : Addr} (F_free_by : FD P w K mg base T 1 "free_by" f_free_by true [] 2 (pureM c_free_by)) {f_is_whole : Addr} (F_is_whole : FD P w K mg base T 1 "is_whole" f_is_whole false [] 1 (pureM c_is_whole)) {f : Addr} {fd : FuncData} (hF : Fun K "begins" "begins" (topS 21) f fd) (hb : Binds K fd ["order", "thing"] []) (hg : mg "begins" = some (.ref f)) :
    FD P w K mg base T 2 "begins" f true [] 2 (pureM c_begins) :=
  fd_pure (k := 1) (j := 3) (mm := ap2 b_begins) (mkN := fun _ => [.un, .un, .un, .un, .un]) (mkB := fun e => nomatch e) hF sc_begins rfl rfl hb hg bi fun cdv A outer s H E g tk ds hd => by
    obtain ⟨a0, a1, rfl⟩ := len2 hd
    rw [ap2_eq]
    show Ss _ T _ _ [] _ _ [C.val a0, C.val a1, .un, .un, .un] _ _
    unfold b_begins
    exact (ss_ifE (mk := fun e => nomatch e) (EvW.t (evW_or (evT_not (evT_val (Ev.lend (ev_isa kit_tuple rfl g.bi.isinstance rfl g.bi.tuple (by decide +kernel) (Ev.loan (ev_var (i := 1) rfl rfl (.inl rfl) rfl rfl)) rfl (by decide +kernel) rfl)) (fun _ => rfl))) (evW_or1 (evT_not (evT_val (Ev.lend (ev_b1 (cr_all g.calm) does_all rfl g.bi.all (by decide +kernel) (Ev.lend (Cm.ev (cm_comp (i := 2) g ⟨rfl, (.inl rfl), (.inr rfl)⟩ (blkOk_by rfl) (EvI.w (evI_seq (ev_var (i := 1) rfl rfl (.inl rfl) rfl rfl))) (fun x1 _ _ _ _ _ => (ev_call (fr := false) (Gd.blk g _ _ _ _ _) F_is_whole (by decide) takesF rfl (evA_cons (ev_var (i := 2) rfl rfl (.inl rfl) rfl rfl) evA_nil rfl) rfl rfl rfl rfl))))) rfl (by decide +kernel) rfl)) (fun _ => rfl)))))) (ss_ret rfl ev_bl) (ss_asg (i := 3) g rfl (.inl rfl) (.inl rfl) rfl rfl (Ev.lasting (ev_call (fr := true) g F_waits (by decide) tk rfl (evA_cons (ev_var (i := 0) rfl rfl (.inl rfl) rfl rfl) evA_nil rfl) rfl rfl rfl rfl)) (fun v3 => (ss_asg (i := 4) g rfl (.inl rfl) (.inl rfl) rfl rfl (Ev.lasting ev_int) (fun v4 => (ss_for (mk := (fun (s7 : D) => [C.val a0, C.val a1, .un, C.val v3, C.val s7])) (s0 := v4) (i := 2) g (passes_of rfl) rfl (.inl rfl) (.inl rfl) rfl (evI_seq (ev_var (i := 1) rfl rfl (.inl rfl) rfl rfl)) (.kp (.kp (.un (.kp (.kp .nil))))) rfl (fun d8 s5 => (ss_ifE (mk := fun e => nomatch e) (evT_cmp (op_notInQ g) does_notIn nx_notIn rfl (Ev.loan (ev_var (i := 2) rfl rfl (.inl rfl) rfl rfl)) (Ev.lend (ev_call (fr := true) g F_free_by (by decide) tk rfl (evA_cons (ev_var (i := 3) rfl rfl (.inl rfl) rfl rfl) (evA_cons (ev_var (i := 4) rfl rfl (.inl rfl) rfl rfl) evA_nil rfl) rfl) rfl rfl rfl rfl))) (ss_ret rfl ev_bl) (ss_asg (i := 4) g rfl (.inl rfl) (.inl rfl) rfl rfl (Ev.lasting (ev_bin op_or does_bor (Ev.loan (ev_var (i := 4) rfl rfl (.inl rfl) rfl rfl)) (Ev.lend (ev_bin op_shl does_shl (Ev.lend ev_int) (Ev.loan (ev_var (i := 2) rfl rfl (.inl rfl) rfl rfl)))))) (fun v10 => (ss_nil (.kp (.kp (.un (.kp (.kp .nil))))) rfl))))) (fun s6 => (ss_ret rfl ev_bl))))))))

theorem sc_is_row : FnScope ["order", "thing"] ["order", "thing"] (defScope (topS 22)) := ⟨rfl, rfl, rfl, by decide +kernel, rfl, by decide +kernel, by decide +kernel⟩
theorem w_is_row {P : Program} {w : World} {K : PySem.W.Frag} {mg : Str → Option Value} {base : Heap} {T : Tb} (bi : Bi mg) {f_begins : Addr} (F_begins : FD P w K mg base T 2 "begins" f_begins true [] 2 (pureM c_begins)) {f : Addr} {fd : FuncData} (hF : Fun K "is_row" "is_row" (topS 22) f fd) (hb : Binds K fd ["order", "thing"] []) (hg : mg "is_row" = some (.ref f)) :
    FD P w K mg base T 3 "is_row" f false [] 2 (pureM c_is_row) :=
  fd_pure (k := 2) (j := 0) (mm := ap2 b_is_row) (mkN := fun _ => [.un, .un]) (mkB := fun e => nomatch e) hF sc_is_row rfl rfl hb hg bi fun cdv A outer s H E g tk ds hd => by
    obtain ⟨a0, a1, rfl⟩ := len2 hd
    rw [ap2_eq]
    show Ss _ T _ _ [] _ _ [C.val a0, C.val a1] _ _
    unfold b_is_row
    exact (ss_ret rfl (ev_and (Ev.lasting (ev_call (fr := true) g F_begins (by decide) tk rfl (evA_cons (ev_var (i := 0) rfl rfl (.inl rfl) rfl rfl) (evA_cons (ev_var (i := 1) rfl rfl (.inl rfl) rfl rfl) evA_nil rfl) rfl) rfl rfl rfl rfl)) (ev_one (Ev.lasting (ev_cmp (op_eqQ g) does_eq nx_eq rfl (Ev.lend (ev_b1 call_lenQ does_len rfl g.bi.len (by decide +kernel) (Ev.loan (ev_var (i := 1) rfl rfl (.inl rfl) rfl rfl)) rfl (by decide +kernel) rfl)) (Ev.loan (ev_ix g (Ev.loan (ev_var (i := 0) rfl rfl (.inl rfl) rfl rfl)) (Ev.lend ev_int) (fun _ _ => rfl))))))))

theorem sc_mask_of : FnScope ["things", "found", "thing"] ["things"] (defScope (topS 8)) := ⟨rfl, rfl, rfl, by decide +kernel, rfl, by decide +kernel, by decide +kernel⟩
theorem w_mask_of {P : Program} {w : World} {K : PySem.W.Frag} {mg : Str → Option Value} {base : Heap} {T : Tb} (bi : Bi mg) {f : Addr} {fd : FuncData} (hF : Fun K "mask_of" "mask_of" (topS 8) f fd) (hb : Binds K fd ["things"] []) (hg : mg "mask_of" = some (.ref f)) :
    FD P w K mg base T 1 "mask_of" f false [] 1 (pureM c_mask_of) :=
  fd_pure (k := 0) (j := 2) (mm := ap1 b_mask_of) (mkN := fun _ => [.un, .un, .un]) (mkB := fun e => nomatch e) hF sc_mask_of rfl rfl hb hg bi fun cdv A outer s H E g tk ds hd => by
    obtain ⟨a0, rfl⟩ := len1 hd
    rw [ap1_eq]
    show Ss _ T _ _ [] _ _ [C.val a0, .un, .un] _ _
    unfold b_mask_of
    exact (ss_asg (i := 1) g rfl (.inl rfl) (.inl rfl) rfl rfl (Ev.lasting ev_int) (fun v1 => (ss_for (mk := (fun (s4 : D) => [C.val a0, C.val s4, .un])) (s0 := v1) (i := 2) g (passes_of rfl) rfl (.inl rfl) (.inl rfl) rfl (evI_seq (ev_var (i := 0) rfl rfl (.inl rfl) rfl rfl)) (.kp (.kp (.un .nil))) rfl (fun d5 s2 => (ss_asg (i := 1) g rfl (.inl rfl) (.inl rfl) rfl rfl (Ev.lasting (ev_bin op_or does_bor (Ev.loan (ev_var (i := 1) rfl rfl (.inl rfl) rfl rfl)) (Ev.lend (ev_bin op_shl does_shl (Ev.lend ev_int) (Ev.loan (ev_var (i := 2) rfl rfl (.inl rfl) rfl rfl)))))) (fun v6 => (ss_nil (.kp (.kp (.un .nil))) rfl)))) (fun s3 => (ss_ret rfl (ev_var (i := 1) rfl rfl (.inl rfl) rfl rfl))))))

theorem sc_slip_by : FnScope ["order", "row", "needs", "place", "some"] ["order", "row"] (defScope (topS 29)) := ⟨rfl, rfl, rfl, by decide +kernel, rfl, by decide +kernel, by decide +kernel⟩
theorem w_slip_by {P : Program} {w : World} {K : PySem.W.Frag} {mg : Str → Option Value} {base : Heap} {T : Tb} (bi : Bi mg) {f_waits : Addr} (F_waits : FD P w K mg base T 1 "waits" f_waits true [] 1 (pureM c_waits)) {f_cost_of : Addr} (F_cost_of : FD P w K mg base T 1 "cost_of" f_cost_of true [] 3 (pureM c_cost_of)) {f_on_by : Addr} (F_on_by : FD P w K mg base T 2 "on_by" f_on_by true [] 4 (pureM c_on_by)) {f_mask_of : Addr} (F_mask_of : FD P w K mg base T 1 "mask_of" f_mask_of false [] 1 (pureM c_mask_of)) {f : Addr} {fd : FuncData} (hF : Fun K "slip_by" "slip_by" (topS 29) f fd) (hb : Binds K fd ["order", "row"] []) (hg : mg "slip_by" = some (.ref f)) :
    FD P w K mg base T 3 "slip_by" f true [] 2 (pureM c_slip_by) :=
  fd_pure (k := 2) (j := 3) (mm := ap2 b_slip_by) (mkN := fun _ => [.un, .un, .un, .un, .un]) (mkB := fun e => nomatch e) hF sc_slip_by rfl rfl hb hg bi fun cdv A outer s H E g tk ds hd => by
    obtain ⟨a0, a1, rfl⟩ := len2 hd
    rw [ap2_eq]
    show Ss _ T _ _ [] _ _ [C.val a0, C.val a1, .un, .un, .un] _ _
    unfold b_slip_by
    exact (ss_asg (i := 2) g rfl (.inl rfl) (.inl rfl) rfl rfl (Ev.lasting (ev_call (fr := true) g F_waits (by decide) tk rfl (evA_cons (ev_var (i := 0) rfl rfl (.inl rfl) rfl rfl) evA_nil rfl) rfl rfl rfl rfl)) (fun v1 => (ss_for (mk := (fun (_ : Unit) => [C.val a0, C.val a1, C.val v1, .un, .un])) (s0 := ()) (i := 3) g (passes_of rfl) rfl (.inl rfl) (.inl rfl) rfl (evI_rg2 g rfl (evA_cons (Ev.lasting ev_int) (evA_cons (Ev.lasting (ev_b1 call_lenQ does_len rfl g.bi.len (by decide +kernel) (Ev.loan (ev_var (i := 1) rfl rfl (.inl rfl) rfl rfl)) rfl (by decide +kernel) rfl)) evA_nil rfl) rfl) rfl rfl) (.kp (.kp (.kp (.un (.un .nil))))) rfl (fun d5 _ => (ss_if (mk := (fun (_ : Unit) => [C.val a0, C.val a1, C.val v1, C.val d5, .un])) (evT_cmp (op_eqQ g) does_eq nx_eq rfl (Ev.lend (ev_call (fr := true) g F_cost_of (by decide) tk rfl (evA_cons (ev_var (i := 0) rfl rfl (.inl rfl) rfl rfl) (evA_cons (ev_ix g (Ev.loan (ev_var (i := 1) rfl rfl (.inl rfl) rfl rfl)) (Ev.lend (ev_bin op_sub does_sub (Ev.loan (ev_var (i := 3) rfl rfl (.inl rfl) rfl rfl)) (Ev.lend ev_int))) (fun _ _ => rfl)) (evA_cons (ev_ix g (Ev.loan (ev_var (i := 1) rfl rfl (.inl rfl) rfl rfl)) (Ev.loan (ev_var (i := 3) rfl rfl (.inl rfl) rfl rfl)) (fun _ _ => rfl)) evA_nil rfl) rfl) rfl) rfl rfl rfl rfl)) (Ev.lend ev_int)) (ss_asg (i := 4) g rfl (.inl rfl) (.inl rfl) rfl rfl (Ev.lasting (ev_call (fr := true) g F_on_by (by decide) tk rfl (evA_cons (ev_var (i := 0) rfl rfl (.inl rfl) rfl rfl) (evA_cons (ev_var (i := 2) rfl rfl (.inl rfl) rfl rfl) (evA_cons (ev_call (fr := false) g F_mask_of (by decide) tk rfl (evA_cons (Ev.lasting (ev_cut (Ev.loan (ev_var (i := 1) rfl rfl (.inl rfl) rfl rfl)) trivial (Ev.loan (ev_var (i := 3) rfl rfl (.inl rfl) rfl rfl)))) evA_nil rfl) rfl rfl rfl rfl) (evA_cons (ev_ix g (Ev.loan (ev_var (i := 1) rfl rfl (.inl rfl) rfl rfl)) (Ev.lend (ev_bin op_sub does_sub (Ev.loan (ev_var (i := 3) rfl rfl (.inl rfl) rfl rfl)) (Ev.lend ev_int))) (fun _ _ => rfl)) evA_nil rfl) rfl) rfl) rfl) rfl rfl rfl rfl)) (fun v6 => (ss_ifE (mk := fun e => nomatch e) (evT_cmp (op_neQ g) does_ne nx_ne rfl (Ev.loan (ev_var (i := 4) rfl rfl (.inl rfl) rfl rfl)) (Ev.lend (ev_lst evA_nil (by simp)))) (ss_ret rfl (ev_tup (evA_cons (ev_var (i := 3) rfl rfl (.inl rfl) rfl rfl) (evA_cons (ev_ix g (Ev.loan (ev_var (i := 4) rfl rfl (.inl rfl) rfl rfl)) (Ev.lend ev_int) (fun _ _ => rfl)) evA_nil rfl) rfl) (by simp))) (ss_nil (.kp (.kp (.kp (.kp (.un .nil))))) rfl)))) (ss_nil (.kp (.kp (.kp (.kp (.un .nil))))) rfl) (fun _ => (ss_nil (.kp (.kp (.kp (.un (.un .nil))))) rfl)))) (fun _ => (ss_ret rfl ev_non)))))

theorem sc_greedy_good : FnScope ["order", "thing"] ["order", "thing"] (defScope (topS 30)) := ⟨rfl, rfl, rfl, by decide +kernel, rfl, by decide +kernel, by decide +kernel⟩
theorem w_greedy_good {P : Program} {w : World} {K : PySem.W.Frag} {mg : Str → Option Value} {base : Heap} {T : Tb} (bi : Bi mg) {f_is_row : Addr} (F_is_row : FD P w K mg base T 3 "is_row" f_is_row false [] 2 (pureM c_is_row)) {f_slip_by : Addr} (F_slip_by : FD P w K mg base T 3 "slip_by" f_slip_by true [] 2 (pureM c_slip_by)) {f : Addr} {fd : FuncData} (hF : Fun K "greedy_good" "greedy_good" (topS 30) f fd) (hb : Binds K fd ["order", "thing"] []) (hg : mg "greedy_good" = some (.ref f)) :
    FD P w K mg base T 4 "greedy_good" f false [] 2 (pureM c_greedy_good) :=
  fd_pure (k := 3) (j := 0) (mm := ap2 b_greedy_good) (mkN := fun _ => [.un, .un]) (mkB := fun e => nomatch e) hF sc_greedy_good rfl rfl hb hg bi fun cdv A outer s H E g tk ds hd => by
    obtain ⟨a0, a1, rfl⟩ := len2 hd
    rw [ap2_eq]
    show Ss _ T _ _ [] _ _ [C.val a0, C.val a1] _ _
    unfold b_greedy_good
    exact (ss_ret rfl (ev_and (ev_call (fr := false) g F_is_row (by decide) tk rfl (evA_cons (ev_var (i := 0) rfl rfl (.inl rfl) rfl rfl) (evA_cons (ev_var (i := 1) rfl rfl (.inl rfl) rfl rfl) evA_nil rfl) rfl) rfl rfl rfl rfl) (ev_one (Ev.lasting (ev_isN (Ev.lend (ev_call (fr := true) g F_slip_by (by decide) tk rfl (evA_cons (ev_var (i := 0) rfl rfl (.inl rfl) rfl rfl) (evA_cons (ev_var (i := 1) rfl rfl (.inl rfl) rfl rfl) evA_nil rfl) rfl) rfl rfl rfl rfl)))))))

theorem sc_jumps_in : FnScope ["order", "begun", "at"] ["order", "begun"] (defScope (topS 23)) := ⟨rfl, rfl, rfl, by decide +kernel, rfl, by decide +kernel, by decide +kernel⟩
theorem w_jumps_in {P : Program} {w : World} {K : PySem.W.Frag} {mg : Str → Option Value} {base : Heap} {T : Tb} (bi : Bi mg) {f_cost_of : Addr} (F_cost_of : FD P w K mg base T 1 "cost_of" f_cost_of true [] 3 (pureM c_cost_of)) {f : Addr} {fd : FuncData} (hF : Fun K "jumps_in" "jumps_in" (topS 23) f fd) (hb : Binds K fd ["order", "begun"] []) (hg : mg "jumps_in" = some (.ref f)) :
    FD P w K mg base T 2 "jumps_in" f true [] 2 (pureM c_jumps_in) :=
  fd_pure (k := 1) (j := 1) (mm := ap2 b_jumps_in) (mkN := fun _ => [.un, .un, .un]) (mkB := fun e => nomatch e) hF sc_jumps_in rfl rfl hb hg bi fun cdv A outer s H E g tk ds hd => by
    obtain ⟨a0, a1, rfl⟩ := len2 hd
    rw [ap2_eq]
    show Ss _ T _ _ [] _ _ [C.val a0, C.val a1, .un] _ _
    unfold b_jumps_in
    exact (ss_ret rfl (ev_b1 (cr_sum g.calm) does_sum rfl g.bi.sum (by decide +kernel) (Ev.lend (Cm.ev (cm_comp (i := 2) g ⟨rfl, (.inl rfl), (.inr rfl)⟩ (blkOk_by rfl) (EvI.w (evI_rg2 g rfl (evA_cons (Ev.lasting ev_int) (evA_cons (Ev.lasting (ev_b1 call_lenQ does_len rfl g.bi.len (by decide +kernel) (Ev.loan (ev_var (i := 1) rfl rfl (.inr (.inl rfl)) rfl rfl)) rfl (by decide +kernel) rfl)) evA_nil rfl) rfl) rfl rfl)) (fun x1 _ _ _ _ _ => (Ev.lasting (ev_call (fr := true) (Gd.blk g _ _ _ _ _) F_cost_of (by decide) takesF rfl (evA_cons (ev_var (i := 0) rfl rfl (.inr (.inl rfl)) rfl rfl) (evA_cons (ev_ix (Gd.blk g _ _ _ _ _) (Ev.loan (ev_var (i := 1) rfl rfl (.inr (.inl rfl)) rfl rfl)) (Ev.lend (ev_bin op_sub does_sub (Ev.loan (ev_var (i := 2) rfl rfl (.inl rfl) rfl rfl)) (Ev.lend ev_int))) (fun _ _ => rfl)) (evA_cons (ev_ix (Gd.blk g _ _ _ _ _) (Ev.loan (ev_var (i := 1) rfl rfl (.inr (.inl rfl)) rfl rfl)) (Ev.loan (ev_var (i := 2) rfl rfl (.inl rfl) rfl rfl)) (fun _ _ => rfl)) evA_nil rfl) rfl) rfl) rfl rfl rfl rfl)))))) rfl (by decide +kernel) rfl))

theorem sc_fewest_from : FnScope ["order", "begun", "last"] ["order", "begun"] (defScope (topS 24)) := ⟨rfl, rfl, rfl, by decide +kernel, rfl, by decide +kernel, by decide +kernel⟩
theorem w_fewest_from {P : Program} {w : World} {K : PySem.W.Frag} {mg : Str → Option Value} {base : Heap} {T : Tb} (bi : Bi mg) {f_fewest_table : Addr} (F_fewest_table : FD P w K mg base T 4 "fewest_table" f_fewest_table true [] 1 (pureM c_fewest_table)) {f_begins : Addr} (F_begins : FD P w K mg base T 2 "begins" f_begins true [] 2 (pureM c_begins)) {f_mask_of : Addr} (F_mask_of : FD P w K mg base T 1 "mask_of" f_mask_of false [] 1 (pureM c_mask_of)) {f_jumps_in : Addr} (F_jumps_in : FD P w K mg base T 2 "jumps_in" f_jumps_in true [] 2 (pureM c_jumps_in)) {C_NoRow : Addr} (X_NoRow : ExCls K mg T 1 "NoRow" C_NoRow) {f : Addr} {fd : FuncData} (hF : Fun K "fewest_from" "fewest_from" (topS 24) f fd) (hb : Binds K fd ["order", "begun"] []) (hg : mg "fewest_from" = some (.ref f)) :
    FD P w K mg base T 5 "fewest_from" f true [] 2 (pureM c_fewest_from) :=
  fd_pure (k := 4) (j := 1) (mm := ap2 b_fewest_from) (mkN := fun _ => [.un, .un, .un]) (mkB := fun e => nomatch e) hF sc_fewest_from rfl rfl hb hg bi fun cdv A outer s H E g tk ds hd => by
    obtain ⟨a0, a1, rfl⟩ := len2 hd
    rw [ap2_eq]
    show Ss _ T _ _ [] _ _ [C.val a0, C.val a1, .un] _ _
    unfold b_fewest_from
    exact (ss_ifE (mk := fun e => nomatch e) (evT_not (evT_val (Ev.lend (ev_call (fr := true) g F_begins (by decide) tk rfl (evA_cons (ev_var (i := 0) rfl rfl (.inl rfl) rfl rfl) (evA_cons (ev_var (i := 1) rfl rfl (.inl rfl) rfl rfl) evA_nil rfl) rfl) rfl rfl rfl rfl)) (fun _ => rfl))) (ss_raise g tk X_NoRow rfl rfl) (ss_asg (i := 2) g rfl (.inl rfl) (.inl rfl) rfl rfl (Ev.lasting (does_un (Ev.lend ev_int))) (fun v1 => (ss_if (mk := (fun (s4 : D) => [C.val a0, C.val a1, C.val s4])) (evT_cmp (op_neQ g) does_ne nx_ne rfl (Ev.loan (ev_var (i := 1) rfl rfl (.inl rfl) rfl rfl)) (Ev.lend (ev_tup evA_nil (by simp)))) (ss_asg (i := 2) g rfl (.inl rfl) (.inl rfl) rfl rfl (ev_ix g (Ev.loan (ev_var (i := 1) rfl rfl (.inl rfl) rfl rfl)) (Ev.lend (does_un (Ev.lend ev_int))) (fun _ _ => rfl)) (fun v2 => (ss_nil (.kp (.kp (.kp .nil))) rfl))) (ss_nil (.kp (.kp (.kp .nil))) rfl) (fun s3 => (ss_ret rfl (ev_bin op_addR does_add (Ev.lend (ev_call (fr := true) g F_jumps_in (by decide) tk rfl (evA_cons (ev_var (i := 0) rfl rfl (.inl rfl) rfl rfl) (evA_cons (ev_var (i := 1) rfl rfl (.inl rfl) rfl rfl) evA_nil rfl) rfl) rfl rfl rfl rfl)) (Ev.loan (ev_ix g (Ev.loan (ev_ix g (Ev.lend (ev_call (fr := true) g F_fewest_table (by decide) tk rfl (evA_cons (ev_var (i := 0) rfl rfl (.inl rfl) rfl rfl) evA_nil rfl) rfl rfl rfl rfl)) (Ev.lend (ev_tup (evA_cons (ev_call (fr := false) g F_mask_of (by decide) tk rfl (evA_cons (ev_var (i := 1) rfl rfl (.inl rfl) rfl rfl) evA_nil rfl) rfl rfl rfl rfl) (evA_cons (ev_var (i := 2) rfl rfl (.inl rfl) rfl rfl) evA_nil rfl) rfl) (by simp))) (fun _ _ => rfl))) (Ev.lend ev_int) (fun _ _ => rfl))))))))))

theorem sc_first_fewest : FnScope ["order", "table", "needs", "row", "mask", "last", "due", "some", "one"] ["order"] (defScope (topS 20)) := ⟨rfl, rfl, rfl, by decide +kernel, rfl, by decide +kernel, by decide +kernel⟩
theorem w_first_fewest {P : Program} {w : World} {K : PySem.W.Frag} {mg : Str → Option Value} {base : Heap} {T : Tb} (bi : Bi mg) {f_waits : Addr} (F_waits : FD P w K mg base T 1 "waits" f_waits true [] 1 (pureM c_waits)) {f_free_by : Addr} (F_free_by : FD P w K mg base T 1 "free_by" f_free_by true [] 2 (pureM c_free_by)) {f_ahead_by : Addr} (F_ahead_by : FD P w K mg base T 2 "ahead_by" f_ahead_by true [] 5 (pureM c_ahead_by)) {f_fewest_table : Addr} (F_fewest_table : FD P w K mg base T 4 "fewest_table" f_fewest_table true [] 1 (pureM c_fewest_table)) {f : Addr} {fd : FuncData} (hF : Fun K "first_fewest" "first_fewest" (topS 20) f fd) (hb : Binds K fd ["order"] []) (hg : mg "first_fewest" = some (.ref f)) :
    FD P w K mg base T 5 "first_fewest" f true [] 1 (pureM c_first_fewest) :=
  fd_pure (k := 4) (j := 8) (mm := ap1 b_first_fewest) (mkN := fun _ => [.un, .un, .un, .un, .un, .un, .un, .un, .un]) (mkB := fun e => nomatch e) hF sc_first_fewest rfl rfl hb hg bi fun cdv A outer s H E g tk ds hd => by
    obtain ⟨a0, rfl⟩ := len1 hd
    rw [ap1_eq]
    show Ss _ T _ _ [] _ _ [C.val a0, .un, .un, .un, .un, .un, .un, .un, .un] _ _
    unfold b_first_fewest
    exact (ss_asg (i := 1) g rfl (.inr rfl) (.inl rfl) rfl rfl (Ev.lasting (ev_call (fr := true) g F_fewest_table (by decide) tk rfl (evA_cons (ev_var (i := 0) rfl rfl (.inr (.inl rfl)) rfl rfl) evA_nil rfl) rfl rfl rfl rfl)) (fun v1 => (ss_asg (i := 2) g rfl (.inl rfl) (.inl rfl) rfl rfl (Ev.lasting (ev_call (fr := true) g F_waits (by decide) tk rfl (evA_cons (ev_var (i := 0) rfl rfl (.inr (.inl rfl)) rfl rfl) evA_nil rfl) rfl rfl rfl rfl)) (fun v2 => (ss_own (i := 3) g rfl (.inl rfl) (.inl rfl) rfl rfl (ev_lst evA_nil (by simp)) (fun v3 => (ss_un2 (i := 4) (j := 5) g ⟨rfl, (.inr rfl), (.inl rfl), rfl⟩ ⟨rfl, (.inr rfl), (.inl rfl), rfl⟩ (Ev.lasting (ev_tup (evA_cons (Ev.lasting ev_int) (evA_cons (Ev.lasting (does_un (Ev.lend ev_int))) evA_nil rfl) rfl) (by simp))) rfl rfl (fun v4 v5 => (ss_while (mk := (fun (s8 : D × D × D) => [C.val a0, C.val v1, C.val v2, C.own s8.1, C.val s8.2.1, C.val s8.2.2, .un, .un, .un])) (s0 := (v3, v4, v5)) (n := 200) (passes_of rfl) (.kp (.kp (.kp (.kp (.kp (.kp (.un (.un (.un .nil))))))))) rfl (fun s6 => (evT_cmp (op_ltQ g) does_lt nx_lt rfl (Ev.lend (ev_b1 call_lenQ does_len rfl g.bi.len (by decide +kernel) (ev_own (i := 3) rfl rfl (.inl rfl) rfl rfl) rfl (by decide +kernel) rfl)) (Ev.loan (ev_ix g (Ev.loan (ev_var (i := 0) rfl rfl (.inr (.inl rfl)) rfl rfl)) (Ev.lend ev_int) (fun _ _ => rfl))))) (fun s6 => (ss_asg (i := 6) g rfl (.inr rfl) (.inl rfl) rfl rfl (ev_ix g (Ev.loan (ev_ix g (Ev.loan (ev_var (i := 1) rfl rfl (.inr (.inl rfl)) rfl rfl)) (Ev.lend (ev_tup (evA_cons (ev_var (i := 4) rfl rfl (.inr (.inl rfl)) rfl rfl) (evA_cons (ev_var (i := 5) rfl rfl (.inr (.inl rfl)) rfl rfl) evA_nil rfl) rfl) (by simp))) (fun _ _ => rfl))) (Ev.lend ev_int) (fun _ _ => rfl)) (fun v9 => (ss_asgC (i := 7) rfl rfl rfl rfl (Cm.lasting (cm_compF (i := 8) g ⟨rfl, (.inl rfl), (.inr rfl)⟩ (blkOk_by rfl) (EvI.w (evI_seq (Ev.lasting (ev_call (fr := true) g F_free_by (by decide) tk rfl (evA_cons (ev_var (i := 2) rfl rfl (.inl rfl) rfl rfl) (evA_cons (ev_var (i := 4) rfl rfl (.inr (.inl rfl)) rfl rfl) evA_nil rfl) rfl) rfl rfl rfl rfl)))) (fun x11 _ _ _ _ _ => (evT_cmp (op_eqQ (Gd.blk g _ _ _ _ _)) does_eq nx_eq rfl (Ev.loan (ev_ix (Gd.blk g _ _ _ _ _) (Ev.lend (ev_call (fr := true) (Gd.blk g _ _ _ _ _) F_ahead_by (by decide) takesF rfl (evA_cons (ev_var (i := 1) rfl rfl (.inr (.inl rfl)) rfl rfl) (evA_cons (ev_var (i := 0) rfl rfl (.inr (.inl rfl)) rfl rfl) (evA_cons (ev_var (i := 4) rfl rfl (.inr (.inl rfl)) rfl rfl) (evA_cons (ev_var (i := 5) rfl rfl (.inr (.inl rfl)) rfl rfl) (evA_cons (ev_var (i := 8) rfl rfl (.inl rfl) rfl rfl) evA_nil rfl) rfl) rfl) rfl) rfl) rfl rfl rfl rfl)) (Ev.lend ev_int) (fun _ _ => rfl))) (Ev.loan (ev_var (i := 6) rfl rfl (.inr (.inl rfl)) rfl rfl)))) (fun x11 _ _ _ _ _ => (ev_var (i := 8) rfl rfl (.inl rfl) rfl rfl)))) (fun v10 => (ss_asg (i := 5) g rfl (.inr rfl) (.inl rfl) rfl rfl (ev_ix g (Ev.loan (ev_var (i := 7) rfl rfl (.inl rfl) rfl rfl)) (Ev.lend ev_int) (fun _ _ => rfl)) (fun v12 => (ss_asg (i := 4) g rfl (.inr rfl) (.inl rfl) rfl rfl (Ev.lasting (ev_bin op_or does_bor (Ev.loan (ev_var (i := 4) rfl rfl (.inr (.inl rfl)) rfl rfl)) (Ev.lend (ev_bin op_shl does_shl (Ev.lend ev_int) (Ev.loan (ev_var (i := 5) rfl rfl (.inr (.inl rfl)) rfl rfl)))))) (fun v13 => (ss_append (i := 3) rfl rfl (.inl rfl) rfl rfl rfl (ev_var (i := 5) rfl rfl (.inr (.inl rfl)) rfl rfl) (pe_bm PySem.F.plainAttrs_list PySem.F.slot_list_append PySem.F.type_list_append mt_append (pe_var rfl (.inl rfl) rfl rfl) (pa_cons pw pa_nil rfl) rfl rfl rfl rfl rfl) (fun v14 => (ss_nil (.kp (.kp (.kp (.kp (.kp (.kp (.un (.un (.un .nil))))))))) rfl)))))))))))) (fun s7 => (ss_freeze (i := 3) rfl rfl (ss_ret rfl (ev_t1 call_tuple_of does_tuple rfl g.bi.tuple (by decide +kernel) (Ev.loan (ev_var (i := 3) rfl rfl (.inl rfl) rfl rfl)) rfl (by decide +kernel) rfl)))))))))))))

theorem sc_first_greedy : FnScope ["order", "needs", "row", "mask", "last"] ["order"] (defScope (topS 37)) := ⟨rfl, rfl, rfl, by decide +kernel, rfl, by decide +kernel, by decide +kernel⟩
theorem w_first_greedy {P : Program} {w : World} {K : PySem.W.Frag} {mg : Str → Option Value} {base : Heap} {T : Tb} (bi : Bi mg) {f_waits : Addr} (F_waits : FD P w K mg base T 1 "waits" f_waits true [] 1 (pureM c_waits)) {f_greedy_next : Addr} (F_greedy_next : FD P w K mg base T 3 "greedy_next" f_greedy_next false [] 4 (pureM c_greedy_next)) {f : Addr} {fd : FuncData} (hF : Fun K "first_greedy" "first_greedy" (topS 37) f fd) (hb : Binds K fd ["order"] []) (hg : mg "first_greedy" = some (.ref f)) :
    FD P w K mg base T 4 "first_greedy" f true [] 1 (pureM c_first_greedy) :=
  fd_pure (k := 3) (j := 4) (mm := ap1 b_first_greedy) (mkN := fun _ => [.un, .un, .un, .un, .un]) (mkB := fun e => nomatch e) hF sc_first_greedy rfl rfl hb hg bi fun cdv A outer s H E g tk ds hd => by
    obtain ⟨a0, rfl⟩ := len1 hd
    rw [ap1_eq]
    show Ss _ T _ _ [] _ _ [C.val a0, .un, .un, .un, .un] _ _
    unfold b_first_greedy
    exact (ss_asg (i := 1) g rfl (.inl rfl) (.inl rfl) rfl rfl (Ev.lasting (ev_call (fr := true) g F_waits (by decide) tk rfl (evA_cons (ev_var (i := 0) rfl rfl (.inl rfl) rfl rfl) evA_nil rfl) rfl rfl rfl rfl)) (fun v1 => (ss_own (i := 2) g rfl (.inl rfl) (.inl rfl) rfl rfl (ev_lst evA_nil (by simp)) (fun v2 => (ss_un2 (i := 3) (j := 4) g ⟨rfl, (.inl rfl), (.inl rfl), rfl⟩ ⟨rfl, (.inl rfl), (.inl rfl), rfl⟩ (Ev.lasting (ev_tup (evA_cons (Ev.lasting ev_int) (evA_cons (Ev.lasting (does_un (Ev.lend ev_int))) evA_nil rfl) rfl) (by simp))) rfl rfl (fun v3 v4 => (ss_while (mk := (fun (s7 : D × D × D) => [C.val a0, C.val v1, C.own s7.1, C.val s7.2.1, C.val s7.2.2])) (s0 := (v2, v3, v4)) (n := 200) (passes_of rfl) (.kp (.kp (.kp (.kp (.kp .nil))))) rfl (fun s5 => (evT_cmp (op_ltQ g) does_lt nx_lt rfl (Ev.lend (ev_b1 call_lenQ does_len rfl g.bi.len (by decide +kernel) (ev_own (i := 2) rfl rfl (.inl rfl) rfl rfl) rfl (by decide +kernel) rfl)) (Ev.loan (ev_ix g (Ev.loan (ev_var (i := 0) rfl rfl (.inl rfl) rfl rfl)) (Ev.lend ev_int) (fun _ _ => rfl))))) (fun s5 => (ss_asg (i := 4) g rfl (.inl rfl) (.inl rfl) rfl rfl (ev_ix g (Ev.loan (ev_call (fr := false) g F_greedy_next (by decide) tk rfl (evA_cons (ev_var (i := 0) rfl rfl (.inl rfl) rfl rfl) (evA_cons (ev_var (i := 1) rfl rfl (.inl rfl) rfl rfl) (evA_cons (ev_var (i := 3) rfl rfl (.inl rfl) rfl rfl) (evA_cons (ev_var (i := 4) rfl rfl (.inl rfl) rfl rfl) evA_nil rfl) rfl) rfl) rfl) rfl rfl rfl rfl)) (Ev.lend ev_int) (fun _ _ => rfl)) (fun v8 => (ss_asg (i := 3) g rfl (.inl rfl) (.inl rfl) rfl rfl (Ev.lasting (ev_bin op_or does_bor (Ev.loan (ev_var (i := 3) rfl rfl (.inl rfl) rfl rfl)) (Ev.lend (ev_bin op_shl does_shl (Ev.lend ev_int) (Ev.loan (ev_var (i := 4) rfl rfl (.inl rfl) rfl rfl)))))) (fun v9 => (ss_append (i := 2) rfl rfl (.inl rfl) rfl rfl rfl (ev_var (i := 4) rfl rfl (.inl rfl) rfl rfl) (pe_bm PySem.F.plainAttrs_list PySem.F.slot_list_append PySem.F.type_list_append mt_append (pe_var rfl (.inl rfl) rfl rfl) (pa_cons pw pa_nil rfl) rfl rfl rfl rfl rfl) (fun v10 => (ss_nil (.kp (.kp (.kp (.kp (.kp .nil))))) rfl)))))))) (fun s6 => (ss_freeze (i := 2) rfl rfl (ss_ret rfl (ev_t1 call_tuple_of does_tuple rfl g.bi.tuple (by decide +kernel) (Ev.loan (ev_var (i := 2) rfl rfl (.inl rfl) rfl rfl)) rfl (by decide +kernel) rfl)))))))))))

theorem sc_greedy_many : FnScope ["order"] ["order"] (defScope (topS 34)) := ⟨rfl, rfl, rfl, by decide +kernel, rfl, by decide +kernel, by decide +kernel⟩
theorem w_greedy_many {P : Program} {w : World} {K : PySem.W.Frag} {mg : Str → Option Value} {base : Heap} {T : Tb} (bi : Bi mg) {f_greedy_table : Addr} (F_greedy_table : FD P w K mg base T 4 "greedy_table" f_greedy_table true [] 1 (pureM c_greedy_table)) {f : Addr} {fd : FuncData} (hF : Fun K "greedy_many" "greedy_many" (topS 34) f fd) (hb : Binds K fd ["order"] []) (hg : mg "greedy_many" = some (.ref f)) :
    FD P w K mg base T 5 "greedy_many" f false [] 1 (pureM c_greedy_many) :=
  fd_pure (k := 4) (j := 0) (mm := ap1 b_greedy_many) (mkN := fun _ => [.un]) (mkB := fun e => nomatch e) hF sc_greedy_many rfl rfl hb hg bi fun cdv A outer s H E g tk ds hd => by
    obtain ⟨a0, rfl⟩ := len1 hd
    rw [ap1_eq]
    show Ss _ T _ _ [] _ _ [C.val a0] _ _
    unfold b_greedy_many
    exact (ss_ret rfl (ev_ix g (Ev.loan (ev_ix g (Ev.lend (ev_call (fr := true) g F_greedy_table (by decide) tk rfl (evA_cons (ev_var (i := 0) rfl rfl (.inl rfl) rfl rfl) evA_nil rfl) rfl rfl rfl rfl)) (Ev.lend (ev_tup (evA_cons (Ev.lasting ev_int) (evA_cons (Ev.lasting (does_un (Ev.lend ev_int))) evA_nil rfl) rfl) (by simp))) (fun _ _ => rfl))) (Ev.lend ev_int) (fun _ _ => rfl)))

theorem sc_rows_many : FnScope ["order", "needs", "found", "mask", "some", "thing"] ["order"] (defScope (topS 25)) := ⟨rfl, rfl, rfl, by decide +kernel, rfl, by decide +kernel, by decide +kernel⟩
theorem w_rows_many {P : Program} {w : World} {K : PySem.W.Frag} {mg : Str → Option Value} {base : Heap} {T : Tb} (bi : Bi mg) {f_waits : Addr} (F_waits : FD P w K mg base T 1 "waits" f_waits true [] 1 (pureM c_waits)) {f_is_lower : Addr} (F_is_lower : FD P w K mg base T 2 "is_lower" f_is_lower true [] 2 (pureM c_is_lower)) {f_free_by : Addr} (F_free_by : FD P w K mg base T 1 "free_by" f_free_by true [] 2 (pureM c_free_by)) {f : Addr} {fd : FuncData} (hF : Fun K "rows_many" "rows_many" (topS 25) f fd) (hb : Binds K fd ["order"] []) (hg : mg "rows_many" = some (.ref f)) :
    FD P w K mg base T 3 "rows_many" f false [] 1 (pureM c_rows_many) :=
  fd_pure (k := 2) (j := 5) (mm := ap1 b_rows_many) (mkN := fun _ => [.un, .un, .un, .un, .un, .un]) (mkB := fun e => nomatch e) hF sc_rows_many rfl rfl hb hg bi fun cdv A outer s H E g tk ds hd => by
    obtain ⟨a0, rfl⟩ := len1 hd
    rw [ap1_eq]
    show Ss _ T _ _ [] _ _ [C.val a0, .un, .un, .un, .un, .un] _ _
    unfold b_rows_many
    exact (ss_asg (i := 1) g rfl (.inl rfl) (.inl rfl) rfl rfl (Ev.lasting (ev_call (fr := true) g F_waits (by decide) tk rfl (evA_cons (ev_var (i := 0) rfl rfl (.inl rfl) rfl rfl) evA_nil rfl) rfl rfl rfl rfl)) (fun v1 => (ss_own (i := 2) g rfl (.inr rfl) (.inl rfl) rfl rfl ev_dnew0 (fun v2 => (ss_for (mk := (fun (s5 : D) => [C.val a0, C.val v1, C.own s5, .un, .un, .un])) (s0 := v2) (i := 3) g (passes_of rfl) rfl (.inr rfl) (.inl rfl) rfl (evI_rgD g rfl (evA_cons (Ev.lasting (ev_bin op_sub does_sub (Ev.lend (ev_bin op_shl does_shl (Ev.lend ev_int) (Ev.loan (ev_ix g (Ev.loan (ev_var (i := 0) rfl rfl (.inl rfl) rfl rfl)) (Ev.lend ev_int) (fun _ _ => rfl))))) (Ev.lend ev_int))) (evA_cons (Ev.lasting (does_un (Ev.lend ev_int))) (evA_cons (Ev.lasting (does_un (Ev.lend ev_int))) evA_nil rfl) rfl) rfl) rfl rfl) (.kp (.kp (.kp (.un (.un (.un .nil)))))) rfl (fun d6 s3 => (ss_if (mk := (fun (s11 : D) => [C.val a0, C.val v1, C.own s11, C.val d6, .un, .un])) (evT_val (Ev.lend (ev_call (fr := true) g F_is_lower (by decide) tk rfl (evA_cons (ev_var (i := 1) rfl rfl (.inl rfl) rfl rfl) (evA_cons (ev_var (i := 3) rfl rfl (.inr (.inl rfl)) rfl rfl) evA_nil rfl) rfl) rfl rfl rfl rfl)) (fun _ => rfl)) (ss_asg (i := 4) g rfl (.inl rfl) (.inl rfl) rfl rfl (Ev.lasting (ev_call (fr := true) g F_free_by (by decide) tk rfl (evA_cons (ev_var (i := 1) rfl rfl (.inl rfl) rfl rfl) (evA_cons (ev_var (i := 3) rfl rfl (.inr (.inl rfl)) rfl rfl) evA_nil rfl) rfl) rfl rfl rfl rfl)) (fun v7 => (ss_set (i := 2) g rfl rfl (.inr (.inl rfl)) rfl rfl (Ev.lasting (ev_ifE (evT_cmp (op_neQ g) does_ne nx_ne rfl (Ev.loan (ev_var (i := 4) rfl rfl (.inl rfl) rfl rfl)) (Ev.lend (ev_lst evA_nil (by simp)))) (ev_b1 (cr_sum g.calm) does_sum rfl g.bi.sum (by decide +kernel) (Ev.lend (Cm.ev (cm_comp (i := 5) g ⟨rfl, (.inl rfl), (.inr rfl)⟩ (blkOk_by rfl) (EvI.w (evI_seq (ev_var (i := 4) rfl rfl (.inl rfl) rfl rfl))) (fun x8 _ _ _ _ _ => (ev_ix (Gd.blk g _ _ _ _ _) (ev_own (i := 2) rfl rfl (.inr (.inl rfl)) rfl rfl) (Ev.lend (ev_bin op_or does_bor (Ev.loan (ev_var (i := 3) rfl rfl (.inr (.inl rfl)) rfl rfl)) (Ev.lend (ev_bin op_shl does_shl (Ev.lend ev_int) (Ev.loan (ev_var (i := 5) rfl rfl (.inl rfl) rfl rfl)))))) (fun _ _ => rfl)))))) rfl (by decide +kernel) rfl) ev_int)) (ev_var (i := 3) rfl rfl (.inr (.inl rfl)) rfl rfl) rfl (fun _ => rfl) rfl rfl (fun v9 => (ss_nil (.kp (.kp (.kp (.kp (.un (.un .nil)))))) rfl))))) (ss_nil (.kp (.kp (.kp (.kp (.un (.un .nil)))))) rfl) (fun s10 => (ss_nil (.kp (.kp (.kp (.un (.un (.un .nil)))))) rfl)))) (fun s4 => (ss_freeze (i := 2) rfl rfl (ss_ret rfl (ev_ix g (Ev.loan (ev_var (i := 2) rfl rfl (.inr (.inl rfl)) rfl rfl)) (Ev.lend ev_int) (fun _ _ => rfl))))))))))

theorem sc_check_row : FnScope ["order", "row"] ["order", "row"] (defScope (topS 31)) := ⟨rfl, rfl, rfl, by decide +kernel, rfl, by decide +kernel, by decide +kernel⟩
theorem w_check_row {P : Program} {w : World} {K : PySem.W.Frag} {mg : Str → Option Value} {base : Heap} {T : Tb} (bi : Bi mg) {f_is_row : Addr} (F_is_row : FD P w K mg base T 3 "is_row" f_is_row false [] 2 (pureM c_is_row)) {C_NoRow : Addr} (X_NoRow : ExCls K mg T 1 "NoRow" C_NoRow) {f : Addr} {fd : FuncData} (hF : Fun K "check_row" "check_row" (topS 31) f fd) (hb : Binds K fd ["order", "row"] []) (hg : mg "check_row" = some (.ref f)) :
    FD P w K mg base T 4 "check_row" f true [] 2 (pureM c_check_row) :=
  fd_pure (k := 3) (j := 0) (mm := ap2 b_check_row) (mkN := fun _ => [.un, .un]) (mkB := fun e => nomatch e) hF sc_check_row rfl rfl hb hg bi fun cdv A outer s H E g tk ds hd => by
    obtain ⟨a0, a1, rfl⟩ := len2 hd
    rw [ap2_eq]
    show Ss _ T _ _ [] _ _ [C.val a0, C.val a1] _ _
    unfold b_check_row
    exact (ss_ifE (mk := fun e => nomatch e) (evT_not (evT_val (Ev.loan (ev_call (fr := false) g F_is_row (by decide) tk rfl (evA_cons (ev_var (i := 0) rfl rfl (.inl rfl) rfl rfl) (evA_cons (ev_var (i := 1) rfl rfl (.inl rfl) rfl rfl) evA_nil rfl) rfl) rfl rfl rfl rfl)) (fun _ => rfl))) (ss_raise g tk X_NoRow rfl rfl) (ss_nil (.un (.un .nil)) rfl))

theorem sc_gone_on : FnScope ["order", "row", "slip", "place", "thing", "rest", "one"] ["order", "row"] (defScope (topS 39)) := ⟨rfl, rfl, rfl, by decide +kernel, rfl, by decide +kernel, by decide +kernel⟩
theorem w_gone_on {P : Program} {w : World} {K : PySem.W.Frag} {mg : Str → Option Value} {base : Heap} {T : Tb} (bi : Bi mg) {f_slip_by : Addr} (F_slip_by : FD P w K mg base T 3 "slip_by" f_slip_by true [] 2 (pureM c_slip_by)) {f_check_row : Addr} (F_check_row : FD P w K mg base T 4 "check_row" f_check_row true [] 2 (pureM c_check_row)) {f : Addr} {fd : FuncData} (hF : Fun K "gone_on" "gone_on" (topS 39) f fd) (hb : Binds K fd ["order", "row"] []) (hg : mg "gone_on" = some (.ref f)) :
    FD P w K mg base T 5 "gone_on" f false [] 2 (pureM c_gone_on) :=
  fd_pure (k := 4) (j := 5) (mm := ap2 b_gone_on) (mkN := fun _ => [.un, .un, .un, .un, .un, .un, .un]) (mkB := fun e => nomatch e) hF sc_gone_on rfl rfl hb hg bi fun cdv A outer s H E g tk ds hd => by
    obtain ⟨a0, a1, rfl⟩ := len2 hd
    rw [ap2_eq]
    show Ss _ T _ _ [] _ _ [C.val a0, C.val a1, .un, .un, .un, .un, .un] _ _
    unfold b_gone_on
    exact (ss_expr rfl (ev_call (fr := true) g F_check_row (by decide) tk rfl (evA_cons (ev_var (i := 0) rfl rfl (.inl rfl) rfl rfl) (evA_cons (ev_var (i := 1) rfl rfl (.inl rfl) rfl rfl) evA_nil rfl) rfl) rfl rfl rfl rfl) (fun _ => (ss_asg (i := 2) g rfl (.inl rfl) (.inl rfl) rfl rfl (Ev.lasting (ev_call (fr := true) g F_slip_by (by decide) tk rfl (evA_cons (ev_var (i := 0) rfl rfl (.inl rfl) rfl rfl) (evA_cons (ev_var (i := 1) rfl rfl (.inl rfl) rfl rfl) evA_nil rfl) rfl) rfl rfl rfl rfl)) (fun v1 => (ss_while (mk := (fun (s4 : D × D) => [C.val a0, C.val s4.1, C.val s4.2, .un, .un, .un, .un])) (s0 := (a1, v1)) (n := 200) (passes_of rfl) (.kp (.kp (.kp (.un (.un (.un (.un .nil))))))) rfl (fun s2 => (evT_notN (Ev.loan (ev_var (i := 2) rfl rfl (.inl rfl) rfl rfl)))) (fun s2 => (ss_un2 (i := 3) (j := 4) g ⟨rfl, (.inl rfl), (.inl rfl), rfl⟩ ⟨rfl, (.inr rfl), (.inl rfl), rfl⟩ (ev_var (i := 2) rfl rfl (.inl rfl) rfl rfl) rfl rfl (fun v5 v6 => (ss_asg (i := 5) g rfl (.inl rfl) (.inl rfl) rfl rfl (Ev.lasting (ev_t1 call_tuple_of does_tuple rfl g.bi.tuple (by decide +kernel) (Ev.lend (Cm.ev (cm_compF (i := 6) g ⟨rfl, (.inl rfl), (.inr rfl)⟩ (blkOk_by rfl) (EvI.w (evI_seq (Ev.lasting (ev_cut (Ev.loan (ev_var (i := 1) rfl rfl (.inl rfl) rfl rfl)) (Ev.loan (ev_var (i := 3) rfl rfl (.inl rfl) rfl rfl)) trivial)))) (fun x8 _ _ _ _ _ => (evT_cmp (op_neQ (Gd.blk g _ _ _ _ _)) does_ne nx_ne rfl (Ev.loan (ev_var (i := 6) rfl rfl (.inl rfl) rfl rfl)) (Ev.loan (ev_var (i := 4) rfl rfl (.inr (.inl rfl)) rfl rfl)))) (fun x8 _ _ _ _ _ => (ev_var (i := 6) rfl rfl (.inl rfl) rfl rfl))))) rfl (by decide +kernel) rfl)) (fun v7 => (ss_asg (i := 1) g rfl (.inl rfl) (.inl rfl) rfl rfl (Ev.lasting (ev_bin op_addR does_add (Ev.lend (ev_bin op_addR does_add (Ev.lend (ev_cut (Ev.loan (ev_var (i := 1) rfl rfl (.inl rfl) rfl rfl)) trivial (Ev.loan (ev_var (i := 3) rfl rfl (.inl rfl) rfl rfl)))) (Ev.lend (ev_tup (evA_cons (ev_var (i := 4) rfl rfl (.inr (.inl rfl)) rfl rfl) evA_nil rfl) (by simp))))) (Ev.loan (ev_var (i := 5) rfl rfl (.inl rfl) rfl rfl)))) (fun v9 => (ss_asg (i := 2) g rfl (.inl rfl) (.inl rfl) rfl rfl (Ev.lasting (ev_call (fr := true) g F_slip_by (by decide) tk rfl (evA_cons (ev_var (i := 0) rfl rfl (.inl rfl) rfl rfl) (evA_cons (ev_var (i := 1) rfl rfl (.inl rfl) rfl rfl) evA_nil rfl) rfl) rfl rfl rfl rfl)) (fun v10 => (ss_nil (.kp (.kp (.kp (.un (.un (.un (.un .nil))))))) rfl)))))))))) (fun s3 => (ss_ret rfl (ev_var (i := 1) rfl rfl (.inl rfl) rfl rfl))))))))

theorem sc_greedy_most : FnScope ["order"] ["order"] (defScope (topS 36)) := ⟨rfl, rfl, rfl, by decide +kernel, rfl, by decide +kernel, by decide +kernel⟩
theorem w_greedy_most {P : Program} {w : World} {K : PySem.W.Frag} {mg : Str → Option Value} {base : Heap} {T : Tb} (bi : Bi mg) {f_greedy_table : Addr} (F_greedy_table : FD P w K mg base T 4 "greedy_table" f_greedy_table true [] 1 (pureM c_greedy_table)) {f : Addr} {fd : FuncData} (hF : Fun K "greedy_most" "greedy_most" (topS 36) f fd) (hb : Binds K fd ["order"] []) (hg : mg "greedy_most" = some (.ref f)) :
    FD P w K mg base T 5 "greedy_most" f false [] 1 (pureM c_greedy_most) :=
  fd_pure (k := 4) (j := 0) (mm := ap1 b_greedy_most) (mkN := fun _ => [.un]) (mkB := fun e => nomatch e) hF sc_greedy_most rfl rfl hb hg bi fun cdv A outer s H E g tk ds hd => by
    obtain ⟨a0, rfl⟩ := len1 hd
    rw [ap1_eq]
    show Ss _ T _ _ [] _ _ [C.val a0] _ _
    unfold b_greedy_most
    exact (ss_ret rfl (ev_ix g (Ev.loan (ev_ix g (Ev.lend (ev_call (fr := true) g F_greedy_table (by decide) tk rfl (evA_cons (ev_var (i := 0) rfl rfl (.inl rfl) rfl rfl) evA_nil rfl) rfl rfl rfl rfl)) (Ev.lend (ev_tup (evA_cons (Ev.lasting ev_int) (evA_cons (Ev.lasting (does_un (Ev.lend ev_int))) evA_nil rfl) rfl) (by simp))) (fun _ _ => rfl))) (Ev.lend ev_int) (fun _ _ => rfl)))

theorem sc_slip_of : FnScope ["order", "row"] ["order", "row"] (defScope (topS 32)) := ⟨rfl, rfl, rfl, by decide +kernel, rfl, by decide +kernel, by decide +kernel⟩
theorem w_slip_of {P : Program} {w : World} {K : PySem.W.Frag} {mg : Str → Option Value} {base : Heap} {T : Tb} (bi : Bi mg) {f_slip_by : Addr} (F_slip_by : FD P w K mg base T 3 "slip_by" f_slip_by true [] 2 (pureM c_slip_by)) {f_check_row : Addr} (F_check_row : FD P w K mg base T 4 "check_row" f_check_row true [] 2 (pureM c_check_row)) {f : Addr} {fd : FuncData} (hF : Fun K "slip_of" "slip_of" (topS 32) f fd) (hb : Binds K fd ["order", "row"] []) (hg : mg "slip_of" = some (.ref f)) :
    FD P w K mg base T 5 "slip_of" f true [] 2 (pureM c_slip_of) :=
  fd_pure (k := 4) (j := 0) (mm := ap2 b_slip_of) (mkN := fun _ => [.un, .un]) (mkB := fun e => nomatch e) hF sc_slip_of rfl rfl hb hg bi fun cdv A outer s H E g tk ds hd => by
    obtain ⟨a0, a1, rfl⟩ := len2 hd
    rw [ap2_eq]
    show Ss _ T _ _ [] _ _ [C.val a0, C.val a1] _ _
    unfold b_slip_of
    exact (ss_expr rfl (ev_call (fr := true) g F_check_row (by decide) tk rfl (evA_cons (ev_var (i := 0) rfl rfl (.inl rfl) rfl rfl) (evA_cons (ev_var (i := 1) rfl rfl (.inl rfl) rfl rfl) evA_nil rfl) rfl) rfl rfl rfl rfl) (fun _ => (ss_ret rfl (ev_call (fr := true) g F_slip_by (by decide) tk rfl (evA_cons (ev_var (i := 0) rfl rfl (.inl rfl) rfl rfl) (evA_cons (ev_var (i := 1) rfl rfl (.inl rfl) rfl rfl) evA_nil rfl) rfl) rfl rfl rfl rfl))))

theorem sc__law_row_right : FnScope ["_law_order", "_law_row", "_law_own", "_law_gone"] ["_law_order", "_law_row"] (defScope (topS 49)) := ⟨rfl, rfl, rfl, by decide +kernel, rfl, by decide +kernel, by decide +kernel⟩
theorem w__law_row_right {P : Program} {w : World} {K : PySem.W.Frag} {mg : Str → Option Value} {base : Heap} {T : Tb} (bi : Bi mg) {f_greedy_least : Addr} (F_greedy_least : FD P w K mg base T 5 "greedy_least" f_greedy_least false [] 1 (pureM c_greedy_least)) {f_greedy_good : Addr} (F_greedy_good : FD P w K mg base T 4 "greedy_good" f_greedy_good false [] 2 (pureM c_greedy_good)) {f_fewest_from : Addr} (F_fewest_from : FD P w K mg base T 5 "fewest_from" f_fewest_from true [] 2 (pureM c_fewest_from)) {f_gone_on : Addr} (F_gone_on : FD P w K mg base T 5 "gone_on" f_gone_on false [] 2 (pureM c_gone_on)) {f_greedy_most : Addr} (F_greedy_most : FD P w K mg base T 5 "greedy_most" f_greedy_most false [] 1 (pureM c_greedy_most)) {f_slip_of : Addr} (F_slip_of : FD P w K mg base T 5 "slip_of" f_slip_of true [] 2 (pureM c_slip_of)) {f : Addr} {fd : FuncData} (hF : Fun K "_law_row_right" "_law_row_right" (topS 49) f fd) (hb : Binds K fd ["_law_order", "_law_row"] []) (hg : mg "_law_row_right" = some (.ref f)) :
    FD P w K mg base T 6 "_law_row_right" f true [] 2 (pureM c__law_row_right) :=
  fd_pure (k := 5) (j := 2) (mm := ap2 b__law_row_right) (mkN := fun _ => [.un, .un, .un, .un]) (mkB := fun e => nomatch e) hF sc__law_row_right rfl rfl hb hg bi fun cdv A outer s H E g tk ds hd => by
    obtain ⟨a0, a1, rfl⟩ := len2 hd
    rw [ap2_eq]
    show Ss _ T _ _ [] _ _ [C.val a0, C.val a1, .un, .un] _ _
    unfold b__law_row_right
    exact (ss_asg (i := 2) g rfl (.inl rfl) (.inl rfl) rfl rfl (Ev.lasting (ev_call (fr := true) g F_fewest_from (by decide) tk rfl (evA_cons (ev_var (i := 0) rfl rfl (.inl rfl) rfl rfl) (evA_cons (ev_var (i := 1) rfl rfl (.inl rfl) rfl rfl) evA_nil rfl) rfl) rfl rfl rfl rfl)) (fun v1 => (ss_asg (i := 3) g rfl (.inl rfl) (.inl rfl) rfl rfl (ev_call (fr := false) g F_gone_on (by decide) tk rfl (evA_cons (ev_var (i := 0) rfl rfl (.inl rfl) rfl rfl) (evA_cons (ev_var (i := 1) rfl rfl (.inl rfl) rfl rfl) evA_nil rfl) rfl) rfl rfl rfl rfl) (fun v2 => (ss_ifE (mk := fun e => nomatch e) (EvW.t (evW_or (evT_not (evT_val (Ev.loan (ev_call (fr := false) g F_greedy_good (by decide) tk rfl (evA_cons (ev_var (i := 0) rfl rfl (.inl rfl) rfl rfl) (evA_cons (ev_var (i := 3) rfl rfl (.inl rfl) rfl rfl) evA_nil rfl) rfl) rfl rfl rfl rfl)) (fun _ => rfl))) (evW_or (evT_cmp op_gt does_gt nx_gt rfl (Ev.lend (ev_call (fr := true) g F_fewest_from (by decide) tk rfl (evA_cons (ev_var (i := 0) rfl rfl (.inl rfl) rfl rfl) (evA_cons (ev_var (i := 3) rfl rfl (.inl rfl) rfl rfl) evA_nil rfl) rfl) rfl rfl rfl rfl)) (Ev.loan (ev_var (i := 2) rfl rfl (.inl rfl) rfl rfl))) (evW_or1 (evT_cmp (op_neQ g) does_ne nx_ne rfl (Ev.loan (ev_call (fr := false) g F_gone_on (by decide) tk rfl (evA_cons (ev_var (i := 0) rfl rfl (.inl rfl) rfl rfl) (evA_cons (ev_var (i := 3) rfl rfl (.inl rfl) rfl rfl) evA_nil rfl) rfl) rfl rfl rfl rfl)) (Ev.loan (ev_var (i := 3) rfl rfl (.inl rfl) rfl rfl))))))) (ss_ret rfl ev_bl) (ss_ifE (mk := fun e => nomatch e) (EvW.t (evW_or (evT_cmp (op_neQ g) does_ne nx_ne rfl (Ev.loan (ev_call (fr := false) g F_greedy_good (by decide) tk rfl (evA_cons (ev_var (i := 0) rfl rfl (.inl rfl) rfl rfl) (evA_cons (ev_var (i := 1) rfl rfl (.inl rfl) rfl rfl) evA_nil rfl) rfl) rfl rfl rfl rfl)) (Ev.lend (ev_isN (Ev.lend (ev_call (fr := true) g F_slip_of (by decide) tk rfl (evA_cons (ev_var (i := 0) rfl rfl (.inl rfl) rfl rfl) (evA_cons (ev_var (i := 1) rfl rfl (.inl rfl) rfl rfl) evA_nil rfl) rfl) rfl rfl rfl rfl))))) (evW_or1 (evT_cmp (op_neQ g) does_ne nx_ne rfl (Ev.lend (ev_cmp (op_eqQ g) does_eq nx_eq rfl (Ev.loan (ev_var (i := 3) rfl rfl (.inl rfl) rfl rfl)) (Ev.loan (ev_var (i := 1) rfl rfl (.inl rfl) rfl rfl)))) (Ev.loan (ev_call (fr := false) g F_greedy_good (by decide) tk rfl (evA_cons (ev_var (i := 0) rfl rfl (.inl rfl) rfl rfl) (evA_cons (ev_var (i := 1) rfl rfl (.inl rfl) rfl rfl) evA_nil rfl) rfl) rfl rfl rfl rfl)))))) (ss_ret rfl ev_bl) (ss_ret rfl (ev_chain op_le op_le does_le does_le nx_le nx_le (Ev.loan (ev_call (fr := false) g F_greedy_least (by decide) tk rfl (evA_cons (ev_var (i := 0) rfl rfl (.inl rfl) rfl rfl) evA_nil rfl) rfl rfl rfl rfl)) (Ev.lend (ev_call (fr := true) g F_fewest_from (by decide) tk rfl (evA_cons (ev_var (i := 0) rfl rfl (.inl rfl) rfl rfl) (evA_cons (ev_var (i := 3) rfl rfl (.inl rfl) rfl rfl) evA_nil rfl) rfl) rfl rfl rfl rfl)) (Ev.loan (ev_call (fr := false) g F_greedy_most (by decide) tk rfl (evA_cons (ev_var (i := 0) rfl rfl (.inl rfl) rfl rfl) evA_nil rfl) rfl rfl rfl rfl)) rfl))))))))

theorem sc_set_good : FnScope ["many", "thing", "one"] ["many", "thing"] (defScope (topS 11)) := ⟨rfl, rfl, rfl, by decide +kernel, rfl, by decide +kernel, by decide +kernel⟩
theorem w_set_good {P : Program} {w : World} {K : PySem.W.Frag} {mg : Str → Option Value} {base : Heap} {T : Tb} (bi : Bi mg) {f_is_whole : Addr} (F_is_whole : FD P w K mg base T 1 "is_whole" f_is_whole false [] 1 (pureM c_is_whole)) {f : Addr} {fd : FuncData} (hF : Fun K "set_good" "set_good" (topS 11) f fd) (hb : Binds K fd ["many", "thing"] []) (hg : mg "set_good" = some (.ref f)) :
    FD P w K mg base T 2 "set_good" f true [] 2 (pureM c_set_good) :=
  fd_pure (k := 1) (j := 1) (mm := ap2 b_set_good) (mkN := fun _ => [.un, .un, .un]) (mkB := fun e => nomatch e) hF sc_set_good rfl rfl hb hg bi fun cdv A outer s H E g tk ds hd => by
    obtain ⟨a0, a1, rfl⟩ := len2 hd
    rw [ap2_eq]
    show Ss _ T _ _ [] _ _ [C.val a0, C.val a1, .un] _ _
    unfold b_set_good
    exact (ss_ifE (mk := fun e => nomatch e) (EvW.t (evW_or (evT_not (evT_val (Ev.lend (ev_isa kit_tuple rfl g.bi.isinstance rfl g.bi.tuple (by decide +kernel) (Ev.loan (ev_var (i := 1) rfl rfl (.inr (.inl rfl)) rfl rfl)) rfl (by decide +kernel) rfl)) (fun _ => rfl))) (evW_or1 (evT_not (evT_val (Ev.lend (ev_b1 (cr_all g.calm) does_all rfl g.bi.all (by decide +kernel) (Ev.lend (Cm.ev (cm_comp (i := 2) g ⟨rfl, (.inl rfl), (.inr rfl)⟩ (blkOk_by rfl) (EvI.w (evI_seq (ev_var (i := 1) rfl rfl (.inr (.inl rfl)) rfl rfl))) (fun x1 _ _ _ _ _ => (ev_call (fr := false) (Gd.blk g _ _ _ _ _) F_is_whole (by decide) takesF rfl (evA_cons (ev_var (i := 2) rfl rfl (.inl rfl) rfl rfl) evA_nil rfl) rfl rfl rfl rfl))))) rfl (by decide +kernel) rfl)) (fun _ => rfl)))))) (ss_ret rfl ev_bl) (ss_ret rfl (ev_cmp (op_eqQ g) does_eq nx_eq rfl (Ev.lend (ev_t1 call_list_of does_list rfl g.bi.list (by decide +kernel) (Ev.loan (ev_var (i := 1) rfl rfl (.inr (.inl rfl)) rfl rfl)) rfl (by decide +kernel) rfl)) (Ev.lend (Cm.ev (cm_compF (i := 2) g ⟨rfl, (.inl rfl), (.inr rfl)⟩ (blkOk_by rfl) (EvI.w (evI_rg1 g rfl (evA_cons (ev_var (i := 0) rfl rfl (.inl rfl) rfl rfl) evA_nil rfl) rfl)) (fun x3 _ _ _ _ _ => (evT_cmp (op_inQ (Gd.blk g _ _ _ _ _)) does_in nx_in rfl (Ev.loan (ev_var (i := 2) rfl rfl (.inl rfl) rfl rfl)) (Ev.loan (ev_var (i := 1) rfl rfl (.inr (.inl rfl)) rfl rfl)))) (fun x3 _ _ _ _ _ => (ev_var (i := 2) rfl rfl (.inl rfl) rfl rfl))))))))

theorem sc_lower_good : FnScope ["order", "thing"] ["order", "thing"] (defScope (topS 12)) := ⟨rfl, rfl, rfl, by decide +kernel, rfl, by decide +kernel, by decide +kernel⟩
theorem w_lower_good {P : Program} {w : World} {K : PySem.W.Frag} {mg : Str → Option Value} {base : Heap} {T : Tb} (bi : Bi mg) {f_waits : Addr} (F_waits : FD P w K mg base T 1 "waits" f_waits true [] 1 (pureM c_waits)) {f_is_lower : Addr} (F_is_lower : FD P w K mg base T 2 "is_lower" f_is_lower true [] 2 (pureM c_is_lower)) {f_mask_of : Addr} (F_mask_of : FD P w K mg base T 1 "mask_of" f_mask_of false [] 1 (pureM c_mask_of)) {f_set_good : Addr} (F_set_good : FD P w K mg base T 2 "set_good" f_set_good true [] 2 (pureM c_set_good)) {f : Addr} {fd : FuncData} (hF : Fun K "lower_good" "lower_good" (topS 12) f fd) (hb : Binds K fd ["order", "thing"] []) (hg : mg "lower_good" = some (.ref f)) :
    FD P w K mg base T 3 "lower_good" f false [] 2 (pureM c_lower_good) :=
  fd_pure (k := 2) (j := 0) (mm := ap2 b_lower_good) (mkN := fun _ => [.un, .un]) (mkB := fun e => nomatch e) hF sc_lower_good rfl rfl hb hg bi fun cdv A outer s H E g tk ds hd => by
    obtain ⟨a0, a1, rfl⟩ := len2 hd
    rw [ap2_eq]
    show Ss _ T _ _ [] _ _ [C.val a0, C.val a1] _ _
    unfold b_lower_good
    exact (ss_ret rfl (ev_and (Ev.lasting (ev_call (fr := true) g F_set_good (by decide) tk rfl (evA_cons (ev_ix g (Ev.loan (ev_var (i := 0) rfl rfl (.inl rfl) rfl rfl)) (Ev.lend ev_int) (fun _ _ => rfl)) (evA_cons (ev_var (i := 1) rfl rfl (.inl rfl) rfl rfl) evA_nil rfl) rfl) rfl rfl rfl rfl)) (ev_one (Ev.lasting (ev_call (fr := true) g F_is_lower (by decide) tk rfl (evA_cons (Ev.lasting (ev_call (fr := true) g F_waits (by decide) tk rfl (evA_cons (ev_var (i := 0) rfl rfl (.inl rfl) rfl rfl) evA_nil rfl) rfl rfl rfl rfl)) (evA_cons (ev_call (fr := false) g F_mask_of (by decide) tk rfl (evA_cons (ev_var (i := 1) rfl rfl (.inl rfl) rfl rfl) evA_nil rfl) rfl rfl rfl rfl) evA_nil rfl) rfl) rfl rfl rfl rfl)))))

theorem sc_free_in : FnScope ["order", "some"] ["order", "some"] (defScope (topS 13)) := ⟨rfl, rfl, rfl, by decide +kernel, rfl, by decide +kernel, by decide +kernel⟩
theorem w_free_in {P : Program} {w : World} {K : PySem.W.Frag} {mg : Str → Option Value} {base : Heap} {T : Tb} (bi : Bi mg) {f_waits : Addr} (F_waits : FD P w K mg base T 1 "waits" f_waits true [] 1 (pureM c_waits)) {f_free_by : Addr} (F_free_by : FD P w K mg base T 1 "free_by" f_free_by true [] 2 (pureM c_free_by)) {f_mask_of : Addr} (F_mask_of : FD P w K mg base T 1 "mask_of" f_mask_of false [] 1 (pureM c_mask_of)) {f_lower_good : Addr} (F_lower_good : FD P w K mg base T 3 "lower_good" f_lower_good false [] 2 (pureM c_lower_good)) {C_NoNumber : Addr} (X_NoNumber : ExCls K mg T 2 "NoNumber" C_NoNumber) {f : Addr} {fd : FuncData} (hF : Fun K "free_in" "free_in" (topS 13) f fd) (hb : Binds K fd ["order", "some"] []) (hg : mg "free_in" = some (.ref f)) :
    FD P w K mg base T 4 "free_in" f true [] 2 (pureM c_free_in) :=
  fd_pure (k := 3) (j := 0) (mm := ap2 b_free_in) (mkN := fun _ => [.un, .un]) (mkB := fun e => nomatch e) hF sc_free_in rfl rfl hb hg bi fun cdv A outer s H E g tk ds hd => by
    obtain ⟨a0, a1, rfl⟩ := len2 hd
    rw [ap2_eq]
    show Ss _ T _ _ [] _ _ [C.val a0, C.val a1] _ _
    unfold b_free_in
    exact (ss_ifE (mk := fun e => nomatch e) (evT_not (evT_val (Ev.loan (ev_call (fr := false) g F_lower_good (by decide) tk rfl (evA_cons (ev_var (i := 0) rfl rfl (.inl rfl) rfl rfl) (evA_cons (ev_var (i := 1) rfl rfl (.inl rfl) rfl rfl) evA_nil rfl) rfl) rfl rfl rfl rfl)) (fun _ => rfl))) (ss_raise g tk X_NoNumber rfl rfl) (ss_ret rfl (ev_t1 call_tuple_of does_tuple rfl g.bi.tuple (by decide +kernel) (Ev.lend (ev_call (fr := true) g F_free_by (by decide) tk rfl (evA_cons (Ev.lasting (ev_call (fr := true) g F_waits (by decide) tk rfl (evA_cons (ev_var (i := 0) rfl rfl (.inl rfl) rfl rfl) evA_nil rfl) rfl rfl rfl rfl)) (evA_cons (ev_call (fr := false) g F_mask_of (by decide) tk rfl (evA_cons (ev_var (i := 1) rfl rfl (.inl rfl) rfl rfl) evA_nil rfl) rfl rfl rfl rfl) evA_nil rfl) rfl) rfl rfl rfl rfl)) rfl (by decide +kernel) rfl)))

theorem sc__law_row_by : FnScope ["_law_pen", "_law_order", "_law_row", "_law_free"] ["_law_pen", "_law_order"] (defScope (topS 48)) := ⟨rfl, rfl, rfl, by decide +kernel, rfl, by decide +kernel, by decide +kernel⟩
theorem w__law_row_by {P : Program} {w : World} {K : PySem.W.Frag} {mg : Str → Option Value} {base : Heap} {T : Tb} (bi : Bi mg) {f__law_draw : Addr} (F__law_draw : FD P w K mg base T 2 "_law_draw" f__law_draw false [0] 2 c__law_draw) {f_free_in : Addr} (F_free_in : FD P w K mg base T 4 "free_in" f_free_in true [] 2 (pureM c_free_in)) {f : Addr} {fd : FuncData} (hF : Fun K "_law_row_by" "_law_row_by" (topS 48) f fd) (hb : Binds K fd ["_law_pen", "_law_order"] []) (hg : mg "_law_row_by" = some (.ref f)) :
    FD P w K mg base T 5 "_law_row_by" f false [0] 2 c__law_row_by :=
  fd_io (k := 4) (j := 2) (mm := ap2 b__law_row_by) (mkN := fun _ => [.un, .un, .un, .un]) (mkB := fun e => nomatch e) hF sc__law_row_by rfl rfl hb hg bi (by decide) fun cdv A outer s H E g tk ds hd => by
    obtain ⟨a0, a1, rfl⟩ := len2 hd
    rw [ap2_eq]
    show Ss _ T _ _ [0] _ _ [C.own a0, C.val a1, .un, .un] _ _
    unfold b__law_row_by
    exact (ss_asg (i := 2) g rfl (.inl rfl) (.inl rfl) rfl rfl (Ev.lasting (ev_tup evA_nil (by simp))) (fun v1 => (ss_while (mk := (fun (s4 : D × D) => [C.own s4.1, C.val a1, C.val s4.2, .un])) (s0 := (a0, v1)) (n := 200) (passes_of rfl) (.kp (.kp (.kp (.un .nil)))) rfl (fun s2 => (evT_cmp (op_ltQ g) does_lt nx_lt rfl (Ev.lend (ev_b1 call_lenQ does_len rfl g.bi.len (by decide +kernel) (Ev.loan (ev_var (i := 2) rfl rfl (.inl rfl) rfl rfl)) rfl (by decide +kernel) rfl)) (Ev.loan (ev_ix g (Ev.loan (ev_var (i := 1) rfl rfl (.inl rfl) rfl rfl)) (Ev.lend ev_int) (fun _ _ => rfl))))) (fun s2 => (ss_asg (i := 3) g rfl (.inl rfl) (.inl rfl) rfl rfl (Ev.lasting (ev_call (fr := true) g F_free_in (by decide) tk rfl (evA_cons (ev_var (i := 1) rfl rfl (.inl rfl) rfl rfl) (evA_cons (Ev.lasting (ev_t1 call_tuple_of does_tuple rfl g.bi.tuple (by decide +kernel) (Ev.lend (ev_sort g rfl (Ev.loan (ev_var (i := 2) rfl rfl (.inl rfl) rfl rfl)) rfl)) rfl (by decide +kernel) rfl)) evA_nil rfl) rfl) rfl rfl rfl rfl)) (fun v5 => (ss_asgX (mk := (fun (s8 : D) => [C.own s8, C.val a1, C.val s2.2, C.val v5])) (s := s2.1) (i := 2) g ⟨rfl, (.inl rfl), (.inl rfl), rfl⟩ rfl (EvX.lasting (evx_bin op_addR does_add (evx_of (by decide) (ev_var (i := 2) rfl rfl (.inl rfl) rfl rfl)) (fun s9 => (EvX.lasting (evx_tup (n := 1) (evxA_cons (evx_ix g (evx_of (by decide) (ev_var (i := 3) rfl rfl (.inl rfl) rfl rfl)) (fun s12 => (evx_io (fr := false) (i := 0) (q := 0) (r := 1) (gt := (fun (s : D) => s)) (up := (fun (_ d : D) => d)) g F__law_draw (by decide) tk rfl ⟨fun _ => rfl, fun _ _ => rfl⟩ (evxA_own (i := 0) rfl rfl (.inl rfl) rfl rfl (evxA_cons (EvX.lasting (evx_of (by decide) (ev_b1 call_lenQ does_len rfl g.bi.len (by decide +kernel) (Ev.loan (ev_var (i := 3) rfl rfl (.inl rfl) rfl rfl)) rfl (by decide +kernel) rfl))) (fun s14 => evxA_nil) rfl) rfl) rfl rfl rfl)) (fun _ _ => rfl)) (fun s11 => evxA_nil) rfl) (by decide)))))) (fun v6 s7 => (ss_nil (.kp (.kp (.kp (.un .nil)))) rfl)))))) (fun s3 => (ss_ret rfl (ev_var (i := 2) rfl rfl (.inl rfl) rfl rfl))))))

theorem sc_law : FnScope ["_law_script", "_law_cell", "_law_pen", "_law_order", "_law_least", "_law_best", "_law_turn"] ["_law_script"] (defScope (topS 50)) := ⟨rfl, rfl, rfl, by decide +kernel, rfl, by decide +kernel, by decide +kernel⟩
theorem w_law {P : Program} {w : World} {K : PySem.W.Frag} {mg : Str → Option Value} {base : Heap} {T : Tb} (bi : Bi mg) {f__law_pen_of : Addr} (F__law_pen_of : FD P w K mg base T 1 "_law_pen_of" f__law_pen_of true [] 1 (pureM c__law_pen_of)) {f__law_order_by : Addr} (F__law_order_by : FD P w K mg base T 4 "_law_order_by" f__law_order_by true [0] 2 c__law_order_by) {f_fewest_jumps : Addr} (F_fewest_jumps : FD P w K mg base T 5 "fewest_jumps" f_fewest_jumps false [] 1 (pureM c_fewest_jumps)) {f_first_best : Addr} (F_first_best : FD P w K mg base T 5 "first_best" f_first_best true [] 1 (pureM c_first_best)) {f__law_cell_at : Addr} (F__law_cell_at : FD P w K mg base T 1 "_law_cell_at" f__law_cell_at false [] 2 (pureM c__law_cell_at)) {f_greedy_least : Addr} (F_greedy_least : FD P w K mg base T 5 "greedy_least" f_greedy_least false [] 1 (pureM c_greedy_least)) {f_greedy_good : Addr} (F_greedy_good : FD P w K mg base T 4 "greedy_good" f_greedy_good false [] 2 (pureM c_greedy_good)) {f_fewest_from : Addr} (F_fewest_from : FD P w K mg base T 5 "fewest_from" f_fewest_from true [] 2 (pureM c_fewest_from)) {f_first_fewest : Addr} (F_first_fewest : FD P w K mg base T 5 "first_fewest" f_first_fewest true [] 1 (pureM c_first_fewest)) {f_first_greedy : Addr} (F_first_greedy : FD P w K mg base T 4 "first_greedy" f_first_greedy true [] 1 (pureM c_first_greedy)) {f_greedy_many : Addr} (F_greedy_many : FD P w K mg base T 5 "greedy_many" f_greedy_many false [] 1 (pureM c_greedy_many)) {f_rows_many : Addr} (F_rows_many : FD P w K mg base T 3 "rows_many" f_rows_many false [] 1 (pureM c_rows_many)) {f__law_row_right : Addr} (F__law_row_right : FD P w K mg base T 6 "_law_row_right" f__law_row_right true [] 2 (pureM c__law_row_right)) {f__law_row_by : Addr} (F__law_row_by : FD P w K mg base T 5 "_law_row_by" f__law_row_by false [0] 2 c__law_row_by) {f : Addr} {fd : FuncData} (hF : Fun K "law" "law" (topS 50) f fd) :
    FnOk P w K mg base (CX P w) 7 f fd ["_law_script"] (spI K T true [] 1 (pureM c_law)) :=
  fn_pure (k := 6) (j := 6) (mm := ap1 b_law) (mkN := fun _ => [.un, .un, .un, .un, .un, .un, .un]) (mkB := fun e => nomatch e) hF sc_law rfl rfl bi fun cdv A outer s H E g tk ds hd => by
    obtain ⟨a0, rfl⟩ := len1 hd
    rw [ap1_eq]
    show Ss _ T _ _ [] _ _ [C.val a0, .un, .un, .un, .un, .un, .un] _ _
    unfold b_law
    exact (ss_for (mk := (fun (_ : Unit) => [C.val a0, .un, .un, .un, .un, .un, .un])) (s0 := ()) (i := 1) g (passes_of rfl) rfl (.inl rfl) (.inl rfl) rfl (evI_seq (Ev.lasting (ev_bin op_addR does_add (Ev.lend (ev_lst (evA_cons (ev_call (fr := false) g F__law_cell_at (by decide) tk rfl (evA_cons (ev_var (i := 0) rfl rfl (.inl rfl) rfl rfl) (evA_cons (Ev.lasting ev_int) evA_nil rfl) rfl) rfl rfl rfl rfl) evA_nil rfl) (by simp))) (Ev.lend (ev_cut (Ev.loan (ev_var (i := 0) rfl rfl (.inl rfl) rfl rfl)) (Ev.lend ev_int) (Ev.lend ev_int)))))) (.kp (.un (.un (.un (.un (.un (.un .nil))))))) rfl (fun d4 _ => (ss_own (i := 2) g rfl (.inl rfl) (.inl rfl) rfl rfl (ev_call (fr := true) g F__law_pen_of (by decide) tk rfl (evA_cons (ev_var (i := 1) rfl rfl (.inl rfl) rfl rfl) evA_nil rfl) rfl rfl rfl rfl) (fun v5 => (ss_asgX (mk := (fun (s8 : D) => [C.val a0, C.val d4, C.own s8, .un, .un, .un, .un])) (s := v5) (i := 3) g ⟨rfl, (.inl rfl), (.inl rfl), rfl⟩ rfl (EvX.lasting (evx_io (fr := true) (i := 2) (q := 0) (r := 1) (gt := (fun (s : D) => s)) (up := (fun (_ d : D) => d)) g F__law_order_by (by decide) tk rfl ⟨fun _ => rfl, fun _ _ => rfl⟩ (evxA_own (i := 2) rfl rfl (.inl rfl) rfl rfl (evxA_cons (EvX.lasting (evx_of (by decide) ev_int)) (fun s10 => evxA_nil) rfl) rfl) rfl rfl rfl)) (fun v6 s7 => (ss_asg (i := 4) g rfl (.inl rfl) (.inl rfl) rfl rfl (ev_call (fr := false) g F_fewest_jumps (by decide) tk rfl (evA_cons (ev_var (i := 3) rfl rfl (.inl rfl) rfl rfl) evA_nil rfl) rfl rfl rfl rfl) (fun v11 => (ss_asg (i := 5) g rfl (.inl rfl) (.inl rfl) rfl rfl (Ev.lasting (ev_call (fr := true) g F_first_best (by decide) tk rfl (evA_cons (ev_var (i := 3) rfl rfl (.inl rfl) rfl rfl) evA_nil rfl) rfl rfl rfl rfl)) (fun v12 => (ss_ifE (mk := fun e => nomatch e) (EvW.t (evW_or (evT_cmp (op_neQ g) does_ne nx_ne rfl (Ev.loan (ev_call (fr := false) g F_greedy_least (by decide) tk rfl (evA_cons (ev_var (i := 3) rfl rfl (.inl rfl) rfl rfl) evA_nil rfl) rfl rfl rfl rfl)) (Ev.loan (ev_var (i := 4) rfl rfl (.inl rfl) rfl rfl))) (evW_or (evT_not (evT_val (Ev.loan (ev_call (fr := false) g F_greedy_good (by decide) tk rfl (evA_cons (ev_var (i := 3) rfl rfl (.inl rfl) rfl rfl) (evA_cons (ev_var (i := 5) rfl rfl (.inl rfl) rfl rfl) evA_nil rfl) rfl) rfl rfl rfl rfl)) (fun _ => rfl))) (evW_or1 (evT_cmp (op_neQ g) does_ne nx_ne rfl (Ev.lend (ev_call (fr := true) g F_fewest_from (by decide) tk rfl (evA_cons (ev_var (i := 3) rfl rfl (.inl rfl) rfl rfl) (evA_cons (ev_var (i := 5) rfl rfl (.inl rfl) rfl rfl) evA_nil rfl) rfl) rfl rfl rfl rfl)) (Ev.loan (ev_var (i := 4) rfl rfl (.inl rfl) rfl rfl))))))) (ss_freeze (i := 2) rfl rfl (ss_ret rfl ev_bl)) (ss_ifE (mk := fun e => nomatch e) (EvW.t (evW_or (evT_cmp (op_ltQ g) does_lt nx_lt rfl (Ev.loan (ev_var (i := 5) rfl rfl (.inl rfl) rfl rfl)) (Ev.lend (ev_call (fr := true) g F_first_fewest (by decide) tk rfl (evA_cons (ev_var (i := 3) rfl rfl (.inl rfl) rfl rfl) evA_nil rfl) rfl rfl rfl rfl))) (evW_or (evT_cmp (op_ltQ g) does_lt nx_lt rfl (Ev.loan (ev_var (i := 5) rfl rfl (.inl rfl) rfl rfl)) (Ev.lend (ev_call (fr := true) g F_first_greedy (by decide) tk rfl (evA_cons (ev_var (i := 3) rfl rfl (.inl rfl) rfl rfl) evA_nil rfl) rfl rfl rfl rfl))) (evW_or1 (evT_not (evT_val (Ev.loan (ev_call (fr := false) g F_greedy_good (by decide) tk rfl (evA_cons (ev_var (i := 3) rfl rfl (.inl rfl) rfl rfl) (evA_cons (Ev.lasting (ev_call (fr := true) g F_first_greedy (by decide) tk rfl (evA_cons (ev_var (i := 3) rfl rfl (.inl rfl) rfl rfl) evA_nil rfl) rfl rfl rfl rfl)) evA_nil rfl) rfl) rfl rfl rfl rfl)) (fun _ => rfl))))))) (ss_freeze (i := 2) rfl rfl (ss_ret rfl ev_bl)) (ss_ifE (mk := fun e => nomatch e) (evT_not (evT_chain op_le op_le does_le does_le nx_le nx_le (Ev.lend ev_int) (Ev.loan (ev_call (fr := false) g F_greedy_many (by decide) tk rfl (evA_cons (ev_var (i := 3) rfl rfl (.inl rfl) rfl rfl) evA_nil rfl) rfl rfl rfl rfl)) (Ev.loan (ev_call (fr := false) g F_rows_many (by decide) tk rfl (evA_cons (ev_var (i := 3) rfl rfl (.inl rfl) rfl rfl) evA_nil rfl) rfl rfl rfl rfl)) rfl)) (ss_freeze (i := 2) rfl rfl (ss_ret rfl ev_bl)) (ss_for (mk := (fun (s18 : D) => [C.val a0, C.val d4, C.own s18, C.val v6, C.val v11, C.val v12, .un])) (s0 := s7) (i := 6) g (passes_of rfl) rfl (.inl rfl) (.inl rfl) rfl (evI_rg1 g rfl (evA_cons (Ev.lasting ev_int) evA_nil rfl) rfl) (.kp (.kp (.kp (.kp (.kp (.kp (.un .nil))))))) rfl (fun d19 s16 => (ss_ifEX (mk := (fun (s21 : D) => [C.val a0, C.val d4, C.own s21, C.val v6, C.val v11, C.val v12, C.val d19])) (s := s16) (mk2 := fun e => nomatch e) (evxT_not (evxT_val (EvX.lasting (evx_call (fr := true) (n := 2) g F__law_row_right (by decide) tk rfl (evxA_cons (evx_of (by decide) (ev_var (i := 3) rfl rfl (.inl rfl) rfl rfl)) (fun s25 => (evxA_cons (evx_io (fr := false) (i := 2) (q := 0) (r := 1) (gt := (fun (s : D) => s)) (up := (fun (_ d : D) => d)) g F__law_row_by (by decide) tk rfl ⟨fun _ => rfl, fun _ _ => rfl⟩ (evxA_own (i := 2) rfl rfl (.inl rfl) rfl rfl (evxA_cons (evx_of (by decide) (ev_var (i := 3) rfl rfl (.inl rfl) rfl rfl)) (fun s28 => evxA_nil) rfl) rfl) rfl rfl rfl) (fun s26 => evxA_nil) rfl)) rfl) rfl rfl rfl)) (fun _ => rfl))) (fun s20 => (ss_ret rfl ev_bl)) (fun s20 => (ss_nil (.kp (.kp (.kp (.kp (.kp (.kp (.un .nil))))))) rfl)))) (fun s17 => (ss_nil (.kp (.un (.un (.un (.un (.un (.un .nil))))))) rfl))))))))))))))) (fun _ => (ss_ret rfl ev_bl)))

/-! ### what the top has written; the law's own head -/
theorem all_mk {l : PySem.W.OpenLaw} {w : World} {K : PySem.W.Frag} {h : Heap} {mg : Str → Option Value} {fa f0 f1 f2 f3 f4 f5 f6 f7 f8 f9 f10 f11 f12 f13 f14 f15 f16 f17 f18 f19 f20 f21 f22 f23 f24 f25 f26 f27 f28 f29 f30 f31 f32 f33 f34 f35 f36 f37 f38 f39 f40 f41 f42 : Addr} (X : K.In h) (G : h.Ns mainGlobals mg) (hfa : mg "law" = some (.ref fa))
    {od0 an0 : Option Addr} {sl0 : Array (Option Value)} {oc0 kV0 dc0 pm0 cd0 ct0 : Value}
    (a0 : PySem.W.nsIn K mainGlobals "_law_pen_of" = some (some (.ref f0))) (l0 : K.lookup f0 = some ⟨oc0, od0, .func (PySem.W.fnOf "_law_pen_of" "_law_pen_of" (defArgs (topS 43)) (defBody (topS 43)) (defScope (topS 43)) .none kV0 dc0 pm0 an0 cd0 ct0), sl0⟩) (c0 : PySem.W.codeIn K cd0 "_law_pen_of" = true) (k0 : PySem.W.keepIn K (.ref f0) = true)
    {od1 an1 : Option Addr} {sl1 : Array (Option Value)} {oc1 kV1 dc1 pm1 cd1 ct1 : Value}
    (a1 : PySem.W.nsIn K mainGlobals "_law_next" = some (some (.ref f1))) (l1 : K.lookup f1 = some ⟨oc1, od1, .func (PySem.W.fnOf "_law_next" "_law_next" (defArgs (topS 42)) (defBody (topS 42)) (defScope (topS 42)) .none kV1 dc1 pm1 an1 cd1 ct1), sl1⟩) (c1 : PySem.W.codeIn K cd1 "_law_next" = true) (k1 : PySem.W.keepIn K (.ref f1) = true)
    {od2 an2 : Option Addr} {sl2 : Array (Option Value)} {oc2 kV2 dc2 pm2 cd2 ct2 : Value}
    (a2 : PySem.W.nsIn K mainGlobals "_law_draw" = some (some (.ref f2))) (l2 : K.lookup f2 = some ⟨oc2, od2, .func (PySem.W.fnOf "_law_draw" "_law_draw" (defArgs (topS 44)) (defBody (topS 44)) (defScope (topS 44)) .none kV2 dc2 pm2 an2 cd2 ct2), sl2⟩) (c2 : PySem.W.codeIn K cd2 "_law_draw" = true) (k2 : PySem.W.keepIn K (.ref f2) = true)
    {od3 an3 : Option Addr} {sl3 : Array (Option Value)} {oc3 kV3 dc3 pm3 cd3 ct3 : Value}
    (a3 : PySem.W.nsIn K mainGlobals "_law_names_by" = some (some (.ref f3))) (l3 : K.lookup f3 = some ⟨oc3, od3, .func (PySem.W.fnOf "_law_names_by" "_law_names_by" (defArgs (topS 46)) (defBody (topS 46)) (defScope (topS 46)) .none kV3 dc3 pm3 an3 cd3 ct3), sl3⟩) (c3 : PySem.W.codeIn K cd3 "_law_names_by" = true) (k3 : PySem.W.keepIn K (.ref f3) = true)
    {od4 an4 : Option Addr} {sl4 : Array (Option Value)} {oc4 kV4 dc4 pm4 cd4 ct4 : Value}
    (a4 : PySem.W.nsIn K mainGlobals "_law_closed" = some (some (.ref f4))) (l4 : K.lookup f4 = some ⟨oc4, od4, .func (PySem.W.fnOf "_law_closed" "_law_closed" (defArgs (topS 45)) (defBody (topS 45)) (defScope (topS 45)) .none kV4 dc4 pm4 an4 cd4 ct4), sl4⟩) (c4 : PySem.W.codeIn K cd4 "_law_closed" = true) (k4 : PySem.W.keepIn K (.ref f4) = true)
    {od5 an5 : Option Addr} {sl5 : Array (Option Value)} {oc5 kV5 dc5 pm5 cd5 ct5 : Value}
    (a5 : PySem.W.nsIn K mainGlobals "_law_order_by" = some (some (.ref f5))) (l5 : K.lookup f5 = some ⟨oc5, od5, .func (PySem.W.fnOf "_law_order_by" "_law_order_by" (defArgs (topS 47)) (defBody (topS 47)) (defScope (topS 47)) .none kV5 dc5 pm5 an5 cd5 ct5), sl5⟩) (c5 : PySem.W.codeIn K cd5 "_law_order_by" = true) (k5 : PySem.W.keepIn K (.ref f5) = true)
    {od6 an6 : Option Addr} {sl6 : Array (Option Value)} {oc6 kV6 dc6 pm6 cd6 ct6 : Value}
    (a6 : PySem.W.nsIn K mainGlobals "waits" = some (some (.ref f6))) (l6 : K.lookup f6 = some ⟨oc6, od6, .func (PySem.W.fnOf "waits" "waits" (defArgs (topS 6)) (defBody (topS 6)) (defScope (topS 6)) .none kV6 dc6 pm6 an6 cd6 ct6), sl6⟩) (c6 : PySem.W.codeIn K cd6 "waits" = true) (k6 : PySem.W.keepIn K (.ref f6) = true)
    {od7 an7 : Option Addr} {sl7 : Array (Option Value)} {oc7 kV7 dc7 pm7 cd7 ct7 : Value}
    (a7 : PySem.W.nsIn K mainGlobals "things_in" = some (some (.ref f7))) (l7 : K.lookup f7 = some ⟨oc7, od7, .func (PySem.W.fnOf "things_in" "things_in" (defArgs (topS 7)) (defBody (topS 7)) (defScope (topS 7)) .none kV7 dc7 pm7 an7 cd7 ct7), sl7⟩) (c7 : PySem.W.codeIn K cd7 "things_in" = true) (k7 : PySem.W.keepIn K (.ref f7) = true)
    {od8 an8 : Option Addr} {sl8 : Array (Option Value)} {oc8 kV8 dc8 pm8 cd8 ct8 : Value}
    (a8 : PySem.W.nsIn K mainGlobals "is_lower" = some (some (.ref f8))) (l8 : K.lookup f8 = some ⟨oc8, od8, .func (PySem.W.fnOf "is_lower" "is_lower" (defArgs (topS 10)) (defBody (topS 10)) (defScope (topS 10)) .none kV8 dc8 pm8 an8 cd8 ct8), sl8⟩) (c8 : PySem.W.codeIn K cd8 "is_lower" = true) (k8 : PySem.W.keepIn K (.ref f8) = true)
    {od9 an9 : Option Addr} {sl9 : Array (Option Value)} {oc9 kV9 dc9 pm9 cd9 ct9 : Value}
    (a9 : PySem.W.nsIn K mainGlobals "stands_of" = some (some (.ref f9))) (l9 : K.lookup f9 = some ⟨oc9, od9, .func (PySem.W.fnOf "stands_of" "stands_of" (defArgs (topS 16)) (defBody (topS 16)) (defScope (topS 16)) .none kV9 dc9 pm9 an9 cd9 ct9), sl9⟩) (c9 : PySem.W.codeIn K cd9 "stands_of" = true) (k9 : PySem.W.keepIn K (.ref f9) = true)
    {od10 an10 : Option Addr} {sl10 : Array (Option Value)} {oc10 kV10 dc10 pm10 cd10 ct10 : Value}
    (a10 : PySem.W.nsIn K mainGlobals "free_by" = some (some (.ref f10))) (l10 : K.lookup f10 = some ⟨oc10, od10, .func (PySem.W.fnOf "free_by" "free_by" (defArgs (topS 9)) (defBody (topS 9)) (defScope (topS 9)) .none kV10 dc10 pm10 an10 cd10 ct10), sl10⟩) (c10 : PySem.W.codeIn K cd10 "free_by" = true) (k10 : PySem.W.keepIn K (.ref f10) = true)
    {od11 an11 : Option Addr} {sl11 : Array (Option Value)} {oc11 kV11 dc11 pm11 cd11 ct11 : Value}
    (a11 : PySem.W.nsIn K mainGlobals "cost_of" = some (some (.ref f11))) (l11 : K.lookup f11 = some ⟨oc11, od11, .func (PySem.W.fnOf "cost_of" "cost_of" (defArgs (topS 15)) (defBody (topS 15)) (defScope (topS 15)) .none kV11 dc11 pm11 an11 cd11 ct11), sl11⟩) (c11 : PySem.W.codeIn K cd11 "cost_of" = true) (k11 : PySem.W.keepIn K (.ref f11) = true)
    {od12 an12 : Option Addr} {sl12 : Array (Option Value)} {oc12 kV12 dc12 pm12 cd12 ct12 : Value}
    (a12 : PySem.W.nsIn K mainGlobals "ahead_by" = some (some (.ref f12))) (l12 : K.lookup f12 = some ⟨oc12, od12, .func (PySem.W.fnOf "ahead_by" "ahead_by" (defArgs (topS 18)) (defBody (topS 18)) (defScope (topS 18)) .none kV12 dc12 pm12 an12 cd12 ct12), sl12⟩) (c12 : PySem.W.codeIn K cd12 "ahead_by" = true) (k12 : PySem.W.keepIn K (.ref f12) = true)
    {od13 an13 : Option Addr} {sl13 : Array (Option Value)} {oc13 kV13 dc13 pm13 cd13 ct13 : Value}
    (a13 : PySem.W.nsIn K mainGlobals "fewest_table" = some (some (.ref f13))) (l13 : K.lookup f13 = some ⟨oc13, od13, .func (PySem.W.fnOf "fewest_table" "fewest_table" (defArgs (topS 17)) (defBody (topS 17)) (defScope (topS 17)) .none kV13 dc13 pm13 an13 cd13 ct13), sl13⟩) (c13 : PySem.W.codeIn K cd13 "fewest_table" = true) (k13 : PySem.W.keepIn K (.ref f13) = true)
    {od14 an14 : Option Addr} {sl14 : Array (Option Value)} {oc14 kV14 dc14 pm14 cd14 ct14 : Value}
    (a14 : PySem.W.nsIn K mainGlobals "fewest_jumps" = some (some (.ref f14))) (l14 : K.lookup f14 = some ⟨oc14, od14, .func (PySem.W.fnOf "fewest_jumps" "fewest_jumps" (defArgs (topS 19)) (defBody (topS 19)) (defScope (topS 19)) .none kV14 dc14 pm14 an14 cd14 ct14), sl14⟩) (c14 : PySem.W.codeIn K cd14 "fewest_jumps" = true) (k14 : PySem.W.keepIn K (.ref f14) = true)
    {od15 an15 : Option Addr} {sl15 : Array (Option Value)} {oc15 kV15 dc15 pm15 cd15 ct15 : Value}
    (a15 : PySem.W.nsIn K mainGlobals "on_by" = some (some (.ref f15))) (l15 : K.lookup f15 = some ⟨oc15, od15, .func (PySem.W.fnOf "on_by" "on_by" (defArgs (topS 27)) (defBody (topS 27)) (defScope (topS 27)) .none kV15 dc15 pm15 an15 cd15 ct15), sl15⟩) (c15 : PySem.W.codeIn K cd15 "on_by" = true) (k15 : PySem.W.keepIn K (.ref f15) = true)
    {od16 an16 : Option Addr} {sl16 : Array (Option Value)} {oc16 kV16 dc16 pm16 cd16 ct16 : Value}
    (a16 : PySem.W.nsIn K mainGlobals "greedy_next" = some (some (.ref f16))) (l16 : K.lookup f16 = some ⟨oc16, od16, .func (PySem.W.fnOf "greedy_next" "greedy_next" (defArgs (topS 28)) (defBody (topS 28)) (defScope (topS 28)) .none kV16 dc16 pm16 an16 cd16 ct16), sl16⟩) (c16 : PySem.W.codeIn K cd16 "greedy_next" = true) (k16 : PySem.W.keepIn K (.ref f16) = true)
    {od17 an17 : Option Addr} {sl17 : Array (Option Value)} {oc17 kV17 dc17 pm17 cd17 ct17 : Value}
    (a17 : PySem.W.nsIn K mainGlobals "greedy_table" = some (some (.ref f17))) (l17 : K.lookup f17 = some ⟨oc17, od17, .func (PySem.W.fnOf "greedy_table" "greedy_table" (defArgs (topS 33)) (defBody (topS 33)) (defScope (topS 33)) .none kV17 dc17 pm17 an17 cd17 ct17), sl17⟩) (c17 : PySem.W.codeIn K cd17 "greedy_table" = true) (k17 : PySem.W.keepIn K (.ref f17) = true)
    {od18 an18 : Option Addr} {sl18 : Array (Option Value)} {oc18 kV18 dc18 pm18 cd18 ct18 : Value}
    (a18 : PySem.W.nsIn K mainGlobals "first_best" = some (some (.ref f18))) (l18 : K.lookup f18 = some ⟨oc18, od18, .func (PySem.W.fnOf "first_best" "first_best" (defArgs (topS 38)) (defBody (topS 38)) (defScope (topS 38)) .none kV18 dc18 pm18 an18 cd18 ct18), sl18⟩) (c18 : PySem.W.codeIn K cd18 "first_best" = true) (k18 : PySem.W.keepIn K (.ref f18) = true)
    {od19 an19 : Option Addr} {sl19 : Array (Option Value)} {oc19 kV19 dc19 pm19 cd19 ct19 : Value}
    (a19 : PySem.W.nsIn K mainGlobals "_law_cell_at" = some (some (.ref f19))) (l19 : K.lookup f19 = some ⟨oc19, od19, .func (PySem.W.fnOf "_law_cell_at" "_law_cell_at" (defArgs (topS 41)) (defBody (topS 41)) (defScope (topS 41)) .none kV19 dc19 pm19 an19 cd19 ct19), sl19⟩) (c19 : PySem.W.codeIn K cd19 "_law_cell_at" = true) (k19 : PySem.W.keepIn K (.ref f19) = true)
    {od20 an20 : Option Addr} {sl20 : Array (Option Value)} {oc20 kV20 dc20 pm20 cd20 ct20 : Value}
    (a20 : PySem.W.nsIn K mainGlobals "greedy_least" = some (some (.ref f20))) (l20 : K.lookup f20 = some ⟨oc20, od20, .func (PySem.W.fnOf "greedy_least" "greedy_least" (defArgs (topS 35)) (defBody (topS 35)) (defScope (topS 35)) .none kV20 dc20 pm20 an20 cd20 ct20), sl20⟩) (c20 : PySem.W.codeIn K cd20 "greedy_least" = true) (k20 : PySem.W.keepIn K (.ref f20) = true)
    {od21 an21 : Option Addr} {sl21 : Array (Option Value)} {oc21 kV21 dc21 pm21 cd21 ct21 : Value}
    (a21 : PySem.W.nsIn K mainGlobals "is_whole" = some (some (.ref f21))) (l21 : K.lookup f21 = some ⟨oc21, od21, .func (PySem.W.fnOf "is_whole" "is_whole" (defArgs (topS 5)) (defBody (topS 5)) (defScope (topS 5)) .none kV21 dc21 pm21 an21 cd21 ct21), sl21⟩) (c21 : PySem.W.codeIn K cd21 "is_whole" = true) (k21 : PySem.W.keepIn K (.ref f21) = true)
    {od22 an22 : Option Addr} {sl22 : Array (Option Value)} {oc22 kV22 dc22 pm22 cd22 ct22 : Value}
    (a22 : PySem.W.nsIn K mainGlobals "begins" = some (some (.ref f22))) (l22 : K.lookup f22 = some ⟨oc22, od22, .func (PySem.W.fnOf "begins" "begins" (defArgs (topS 21)) (defBody (topS 21)) (defScope (topS 21)) .none kV22 dc22 pm22 an22 cd22 ct22), sl22⟩) (c22 : PySem.W.codeIn K cd22 "begins" = true) (k22 : PySem.W.keepIn K (.ref f22) = true)
    {od23 an23 : Option Addr} {sl23 : Array (Option Value)} {oc23 kV23 dc23 pm23 cd23 ct23 : Value}
    (a23 : PySem.W.nsIn K mainGlobals "is_row" = some (some (.ref f23))) (l23 : K.lookup f23 = some ⟨oc23, od23, .func (PySem.W.fnOf "is_row" "is_row" (defArgs (topS 22)) (defBody (topS 22)) (defScope (topS 22)) .none kV23 dc23 pm23 an23 cd23 ct23), sl23⟩) (c23 : PySem.W.codeIn K cd23 "is_row" = true) (k23 : PySem.W.keepIn K (.ref f23) = true)
    {od24 an24 : Option Addr} {sl24 : Array (Option Value)} {oc24 kV24 dc24 pm24 cd24 ct24 : Value}
    (a24 : PySem.W.nsIn K mainGlobals "mask_of" = some (some (.ref f24))) (l24 : K.lookup f24 = some ⟨oc24, od24, .func (PySem.W.fnOf "mask_of" "mask_of" (defArgs (topS 8)) (defBody (topS 8)) (defScope (topS 8)) .none kV24 dc24 pm24 an24 cd24 ct24), sl24⟩) (c24 : PySem.W.codeIn K cd24 "mask_of" = true) (k24 : PySem.W.keepIn K (.ref f24) = true)
    {od25 an25 : Option Addr} {sl25 : Array (Option Value)} {oc25 kV25 dc25 pm25 cd25 ct25 : Value}
    (a25 : PySem.W.nsIn K mainGlobals "slip_by" = some (some (.ref f25))) (l25 : K.lookup f25 = some ⟨oc25, od25, .func (PySem.W.fnOf "slip_by" "slip_by" (defArgs (topS 29)) (defBody (topS 29)) (defScope (topS 29)) .none kV25 dc25 pm25 an25 cd25 ct25), sl25⟩) (c25 : PySem.W.codeIn K cd25 "slip_by" = true) (k25 : PySem.W.keepIn K (.ref f25) = true)
    {od26 an26 : Option Addr} {sl26 : Array (Option Value)} {oc26 kV26 dc26 pm26 cd26 ct26 : Value}
    (a26 : PySem.W.nsIn K mainGlobals "greedy_good" = some (some (.ref f26))) (l26 : K.lookup f26 = some ⟨oc26, od26, .func (PySem.W.fnOf "greedy_good" "greedy_good" (defArgs (topS 30)) (defBody (topS 30)) (defScope (topS 30)) .none kV26 dc26 pm26 an26 cd26 ct26), sl26⟩) (c26 : PySem.W.codeIn K cd26 "greedy_good" = true) (k26 : PySem.W.keepIn K (.ref f26) = true)
    {od27 an27 : Option Addr} {sl27 : Array (Option Value)} {oc27 kV27 dc27 pm27 cd27 ct27 : Value}
    (a27 : PySem.W.nsIn K mainGlobals "jumps_in" = some (some (.ref f27))) (l27 : K.lookup f27 = some ⟨oc27, od27, .func (PySem.W.fnOf "jumps_in" "jumps_in" (defArgs (topS 23)) (defBody (topS 23)) (defScope (topS 23)) .none kV27 dc27 pm27 an27 cd27 ct27), sl27⟩) (c27 : PySem.W.codeIn K cd27 "jumps_in" = true) (k27 : PySem.W.keepIn K (.ref f27) = true)
    {od28 an28 : Option Addr} {sl28 : Array (Option Value)} {oc28 kV28 dc28 pm28 cd28 ct28 : Value}
    (a28 : PySem.W.nsIn K mainGlobals "fewest_from" = some (some (.ref f28))) (l28 : K.lookup f28 = some ⟨oc28, od28, .func (PySem.W.fnOf "fewest_from" "fewest_from" (defArgs (topS 24)) (defBody (topS 24)) (defScope (topS 24)) .none kV28 dc28 pm28 an28 cd28 ct28), sl28⟩) (c28 : PySem.W.codeIn K cd28 "fewest_from" = true) (k28 : PySem.W.keepIn K (.ref f28) = true)
    {od29 an29 : Option Addr} {sl29 : Array (Option Value)} {oc29 kV29 dc29 pm29 cd29 ct29 : Value}
    (a29 : PySem.W.nsIn K mainGlobals "first_fewest" = some (some (.ref f29))) (l29 : K.lookup f29 = some ⟨oc29, od29, .func (PySem.W.fnOf "first_fewest" "first_fewest" (defArgs (topS 20)) (defBody (topS 20)) (defScope (topS 20)) .none kV29 dc29 pm29 an29 cd29 ct29), sl29⟩) (c29 : PySem.W.codeIn K cd29 "first_fewest" = true) (k29 : PySem.W.keepIn K (.ref f29) = true)
    {od30 an30 : Option Addr} {sl30 : Array (Option Value)} {oc30 kV30 dc30 pm30 cd30 ct30 : Value}
    (a30 : PySem.W.nsIn K mainGlobals "first_greedy" = some (some (.ref f30))) (l30 : K.lookup f30 = some ⟨oc30, od30, .func (PySem.W.fnOf "first_greedy" "first_greedy" (defArgs (topS 37)) (defBody (topS 37)) (defScope (topS 37)) .none kV30 dc30 pm30 an30 cd30 ct30), sl30⟩) (c30 : PySem.W.codeIn K cd30 "first_greedy" = true) (k30 : PySem.W.keepIn K (.ref f30) = true)
    {od31 an31 : Option Addr} {sl31 : Array (Option Value)} {oc31 kV31 dc31 pm31 cd31 ct31 : Value}
    (a31 : PySem.W.nsIn K mainGlobals "greedy_many" = some (some (.ref f31))) (l31 : K.lookup f31 = some ⟨oc31, od31, .func (PySem.W.fnOf "greedy_many" "greedy_many" (defArgs (topS 34)) (defBody (topS 34)) (defScope (topS 34)) .none kV31 dc31 pm31 an31 cd31 ct31), sl31⟩) (c31 : PySem.W.codeIn K cd31 "greedy_many" = true) (k31 : PySem.W.keepIn K (.ref f31) = true)
    {od32 an32 : Option Addr} {sl32 : Array (Option Value)} {oc32 kV32 dc32 pm32 cd32 ct32 : Value}
    (a32 : PySem.W.nsIn K mainGlobals "rows_many" = some (some (.ref f32))) (l32 : K.lookup f32 = some ⟨oc32, od32, .func (PySem.W.fnOf "rows_many" "rows_many" (defArgs (topS 25)) (defBody (topS 25)) (defScope (topS 25)) .none kV32 dc32 pm32 an32 cd32 ct32), sl32⟩) (c32 : PySem.W.codeIn K cd32 "rows_many" = true) (k32 : PySem.W.keepIn K (.ref f32) = true)
    {od33 an33 : Option Addr} {sl33 : Array (Option Value)} {oc33 kV33 dc33 pm33 cd33 ct33 : Value}
    (a33 : PySem.W.nsIn K mainGlobals "check_row" = some (some (.ref f33))) (l33 : K.lookup f33 = some ⟨oc33, od33, .func (PySem.W.fnOf "check_row" "check_row" (defArgs (topS 31)) (defBody (topS 31)) (defScope (topS 31)) .none kV33 dc33 pm33 an33 cd33 ct33), sl33⟩) (c33 : PySem.W.codeIn K cd33 "check_row" = true) (k33 : PySem.W.keepIn K (.ref f33) = true)
    {od34 an34 : Option Addr} {sl34 : Array (Option Value)} {oc34 kV34 dc34 pm34 cd34 ct34 : Value}
    (a34 : PySem.W.nsIn K mainGlobals "gone_on" = some (some (.ref f34))) (l34 : K.lookup f34 = some ⟨oc34, od34, .func (PySem.W.fnOf "gone_on" "gone_on" (defArgs (topS 39)) (defBody (topS 39)) (defScope (topS 39)) .none kV34 dc34 pm34 an34 cd34 ct34), sl34⟩) (c34 : PySem.W.codeIn K cd34 "gone_on" = true) (k34 : PySem.W.keepIn K (.ref f34) = true)
    {od35 an35 : Option Addr} {sl35 : Array (Option Value)} {oc35 kV35 dc35 pm35 cd35 ct35 : Value}
    (a35 : PySem.W.nsIn K mainGlobals "greedy_most" = some (some (.ref f35))) (l35 : K.lookup f35 = some ⟨oc35, od35, .func (PySem.W.fnOf "greedy_most" "greedy_most" (defArgs (topS 36)) (defBody (topS 36)) (defScope (topS 36)) .none kV35 dc35 pm35 an35 cd35 ct35), sl35⟩) (c35 : PySem.W.codeIn K cd35 "greedy_most" = true) (k35 : PySem.W.keepIn K (.ref f35) = true)
    {od36 an36 : Option Addr} {sl36 : Array (Option Value)} {oc36 kV36 dc36 pm36 cd36 ct36 : Value}
    (a36 : PySem.W.nsIn K mainGlobals "slip_of" = some (some (.ref f36))) (l36 : K.lookup f36 = some ⟨oc36, od36, .func (PySem.W.fnOf "slip_of" "slip_of" (defArgs (topS 32)) (defBody (topS 32)) (defScope (topS 32)) .none kV36 dc36 pm36 an36 cd36 ct36), sl36⟩) (c36 : PySem.W.codeIn K cd36 "slip_of" = true) (k36 : PySem.W.keepIn K (.ref f36) = true)
    {od37 an37 : Option Addr} {sl37 : Array (Option Value)} {oc37 kV37 dc37 pm37 cd37 ct37 : Value}
    (a37 : PySem.W.nsIn K mainGlobals "_law_row_right" = some (some (.ref f37))) (l37 : K.lookup f37 = some ⟨oc37, od37, .func (PySem.W.fnOf "_law_row_right" "_law_row_right" (defArgs (topS 49)) (defBody (topS 49)) (defScope (topS 49)) .none kV37 dc37 pm37 an37 cd37 ct37), sl37⟩) (c37 : PySem.W.codeIn K cd37 "_law_row_right" = true) (k37 : PySem.W.keepIn K (.ref f37) = true)
    {od38 an38 : Option Addr} {sl38 : Array (Option Value)} {oc38 kV38 dc38 pm38 cd38 ct38 : Value}
    (a38 : PySem.W.nsIn K mainGlobals "set_good" = some (some (.ref f38))) (l38 : K.lookup f38 = some ⟨oc38, od38, .func (PySem.W.fnOf "set_good" "set_good" (defArgs (topS 11)) (defBody (topS 11)) (defScope (topS 11)) .none kV38 dc38 pm38 an38 cd38 ct38), sl38⟩) (c38 : PySem.W.codeIn K cd38 "set_good" = true) (k38 : PySem.W.keepIn K (.ref f38) = true)
    {od39 an39 : Option Addr} {sl39 : Array (Option Value)} {oc39 kV39 dc39 pm39 cd39 ct39 : Value}
    (a39 : PySem.W.nsIn K mainGlobals "lower_good" = some (some (.ref f39))) (l39 : K.lookup f39 = some ⟨oc39, od39, .func (PySem.W.fnOf "lower_good" "lower_good" (defArgs (topS 12)) (defBody (topS 12)) (defScope (topS 12)) .none kV39 dc39 pm39 an39 cd39 ct39), sl39⟩) (c39 : PySem.W.codeIn K cd39 "lower_good" = true) (k39 : PySem.W.keepIn K (.ref f39) = true)
    {od40 an40 : Option Addr} {sl40 : Array (Option Value)} {oc40 kV40 dc40 pm40 cd40 ct40 : Value}
    (a40 : PySem.W.nsIn K mainGlobals "free_in" = some (some (.ref f40))) (l40 : K.lookup f40 = some ⟨oc40, od40, .func (PySem.W.fnOf "free_in" "free_in" (defArgs (topS 13)) (defBody (topS 13)) (defScope (topS 13)) .none kV40 dc40 pm40 an40 cd40 ct40), sl40⟩) (c40 : PySem.W.codeIn K cd40 "free_in" = true) (k40 : PySem.W.keepIn K (.ref f40) = true)
    {od41 an41 : Option Addr} {sl41 : Array (Option Value)} {oc41 kV41 dc41 pm41 cd41 ct41 : Value}
    (a41 : PySem.W.nsIn K mainGlobals "_law_row_by" = some (some (.ref f41))) (l41 : K.lookup f41 = some ⟨oc41, od41, .func (PySem.W.fnOf "_law_row_by" "_law_row_by" (defArgs (topS 48)) (defBody (topS 48)) (defScope (topS 48)) .none kV41 dc41 pm41 an41 cd41 ct41), sl41⟩) (c41 : PySem.W.codeIn K cd41 "_law_row_by" = true) (k41 : PySem.W.keepIn K (.ref f41) = true)
    {od42 an42 : Option Addr} {sl42 : Array (Option Value)} {oc42 kV42 dc42 pm42 cd42 ct42 : Value}
    (a42 : PySem.W.nsIn K mainGlobals "law" = some (some (.ref f42))) (l42 : K.lookup f42 = some ⟨oc42, od42, .func (PySem.W.fnOf "law" "law" (defArgs (topS 50)) (defBody (topS 50)) (defScope (topS 50)) .none kV42 dc42 pm42 an42 cd42 ct42), sl42⟩) (c42 : PySem.W.codeIn K cd42 "law" = true) (k42 : PySem.W.keepIn K (.ref f42) = true)
    (z0 : PySem.W.nsIn K mainGlobals "len" = some none)
    (z1 : PySem.W.nsIn K mainGlobals "isinstance" = some none)
    (z2 : PySem.W.nsIn K mainGlobals "int" = some none)
    (z3 : PySem.W.nsIn K mainGlobals "bool" = some none)
    (z4 : PySem.W.nsIn K mainGlobals "str" = some none)
    (z5 : PySem.W.nsIn K mainGlobals "tuple" = some none)
    (z6 : PySem.W.nsIn K mainGlobals "list" = some none)
    (z7 : PySem.W.nsIn K mainGlobals "dict" = some none)
    (z8 : PySem.W.nsIn K mainGlobals "set" = some none)
    (z9 : PySem.W.nsIn K mainGlobals "sorted" = some none)
    (z10 : PySem.W.nsIn K mainGlobals "range" = some none)
    (z11 : PySem.W.nsIn K mainGlobals "sum" = some none)
    (z12 : PySem.W.nsIn K mainGlobals "min" = some none)
    (z13 : PySem.W.nsIn K mainGlobals "max" = some none)
    (z14 : PySem.W.nsIn K mainGlobals "all" = some none)
    (z15 : PySem.W.nsIn K mainGlobals "any" = some none)
    (z16 : PySem.W.nsIn K mainGlobals "zip" = some none)
    (z17 : PySem.W.nsIn K mainGlobals "enumerate" = some none)
    {e1 : Addr} (qa1 : PySem.W.nsIn K mainGlobals "NoRow" = some (some (.ref e1))) (qt1 : PySem.W.typeIn K (.ref e1) = some (.type "type"))
    {e2 : Addr} (qa2 : PySem.W.nsIn K mainGlobals "NoNumber" = some (some (.ref e2))) (qt2 : PySem.W.typeIn K (.ref e2) = some (.type "type"))
    (qx1 : PySem.W.excIn K e1 bmVE "ValueError.__new__" = true) (qk1 : PySem.W.keepIn K (.ref e1) = true)
    (qx2 : PySem.W.excIn K e2 bmVE "ValueError.__new__" = true) (qk2 : PySem.W.keepIn K (.ref e2) = true)
    (qb1 : PySem.W.subIn K (.ref e1) (.type "BaseException") = some true)
    (qb2 : PySem.W.subIn K (.ref e2) (.type "BaseException") = some true) :
    ∃ fd : FuncData, (∀ (s : Shared) (v : Value), BindsTo s fd ⟨[v], []⟩ [("_law_script", v)]) ∧ ∀ base : Heap, K.In base → base.Ns mainGlobals mg → FnOk l.prog w K mg base (CX l.prog w) 7 fa fd ["_law_script"] (spE K true c_law) := by
  have e := hfa.symm.trans (PySem.W.mg_of X G a42)
  cases e
  have bi : Bi mg := ⟨PySem.W.mg_none_of X G z0, PySem.W.mg_none_of X G z1, PySem.W.mg_none_of X G z2, PySem.W.mg_none_of X G z3, PySem.W.mg_none_of X G z4, PySem.W.mg_none_of X G z5, PySem.W.mg_none_of X G z6, PySem.W.mg_none_of X G z7, PySem.W.mg_none_of X G z8, PySem.W.mg_none_of X G z9, PySem.W.mg_none_of X G z10, PySem.W.mg_none_of X G z11, PySem.W.mg_none_of X G z12, PySem.W.mg_none_of X G z13, PySem.W.mg_none_of X G z14, PySem.W.mg_none_of X G z15, PySem.W.mg_none_of X G z16, PySem.W.mg_none_of X G z17⟩
  have Y1 : ExCls K mg (⟨(fun k : Nat => ([] : List Addr)[k]?), clT (fun c : Nat => ([0, e1, e2, 0, 0, 0, 0] : List Addr).getD c 0), none⟩ : Tb) 1 "NoRow" e1 := ⟨rfl, PySem.W.mg_of X G qa1, qx1, qk1, qb1, qt1⟩
  have Y2 : ExCls K mg (⟨(fun k : Nat => ([] : List Addr)[k]?), clT (fun c : Nat => ([0, e1, e2, 0, 0, 0, 0] : List Addr).getD c 0), none⟩ : Tb) 2 "NoNumber" e2 := ⟨rfl, PySem.W.mg_of X G qa2, qx2, qk2, qb2, qt2⟩
  have F0 := fun_mk (st := topS 43) l0 c0 k0
  have b0 := F0.binds (ps := ["_law_cell"]) fun _ _ _ _ _ _ us hl => match us, hl with | [_], _ => rfl
  have F1 := fun_mk (st := topS 42) l1 c1 k1
  have b1 := F1.binds (ps := ["_law_seed"]) fun _ _ _ _ _ _ us hl => match us, hl with | [_], _ => rfl
  have F2 := fun_mk (st := topS 44) l2 c2 k2
  have b2 := F2.binds (ps := ["_law_pen", "_law_many"]) fun _ _ _ _ _ _ us hl => match us, hl with | [_, _], _ => rfl
  have F3 := fun_mk (st := topS 46) l3 c3 k3
  have b3 := F3.binds (ps := ["_law_pen", "_law_many"]) fun _ _ _ _ _ _ us hl => match us, hl with | [_, _], _ => rfl
  have F4 := fun_mk (st := topS 45) l4 c4 k4
  have b4 := F4.binds (ps := ["_law_pairs"]) fun _ _ _ _ _ _ us hl => match us, hl with | [_], _ => rfl
  have F5 := fun_mk (st := topS 47) l5 c5 k5
  have b5 := F5.binds (ps := ["_law_pen", "_law_most"]) fun _ _ _ _ _ _ us hl => match us, hl with | [_, _], _ => rfl
  have F6 := fun_mk (st := topS 6) l6 c6 k6
  have b6 := F6.binds (ps := ["order"]) fun _ _ _ _ _ _ us hl => match us, hl with | [_], _ => rfl
  have F7 := fun_mk (st := topS 7) l7 c7 k7
  have b7 := F7.binds (ps := ["mask", "many"]) fun _ _ _ _ _ _ us hl => match us, hl with | [_, _], _ => rfl
  have F8 := fun_mk (st := topS 10) l8 c8 k8
  have b8 := F8.binds (ps := ["needs", "mask"]) fun _ _ _ _ _ _ us hl => match us, hl with | [_, _], _ => rfl
  have F9 := fun_mk (st := topS 16) l9 c9 k9
  have b9 := F9.binds (ps := ["order"]) fun _ _ _ _ _ _ us hl => match us, hl with | [_], _ => rfl
  have F10 := fun_mk (st := topS 9) l10 c10 k10
  have b10 := F10.binds (ps := ["needs", "mask"]) fun _ _ _ _ _ _ us hl => match us, hl with | [_, _], _ => rfl
  have F11 := fun_mk (st := topS 15) l11 c11 k11
  have b11 := F11.binds (ps := ["order", "last", "thing"]) fun _ _ _ _ _ _ us hl => match us, hl with | [_, _, _], _ => rfl
  have F12 := fun_mk (st := topS 18) l12 c12 k12
  have b12 := F12.binds (ps := ["table", "order", "mask", "last", "thing"]) fun _ _ _ _ _ _ us hl => match us, hl with | [_, _, _, _, _], _ => rfl
  have F13 := fun_mk (st := topS 17) l13 c13 k13
  have b13 := F13.binds (ps := ["order"]) fun _ _ _ _ _ _ us hl => match us, hl with | [_], _ => rfl
  have F14 := fun_mk (st := topS 19) l14 c14 k14
  have b14 := F14.binds (ps := ["order"]) fun _ _ _ _ _ _ us hl => match us, hl with | [_], _ => rfl
  have F15 := fun_mk (st := topS 27) l15 c15 k15
  have b15 := F15.binds (ps := ["order", "needs", "mask", "last"]) fun _ _ _ _ _ _ us hl => match us, hl with | [_, _, _, _], _ => rfl
  have F16 := fun_mk (st := topS 28) l16 c16 k16
  have b16 := F16.binds (ps := ["order", "needs", "mask", "last"]) fun _ _ _ _ _ _ us hl => match us, hl with | [_, _, _, _], _ => rfl
  have F17 := fun_mk (st := topS 33) l17 c17 k17
  have b17 := F17.binds (ps := ["order"]) fun _ _ _ _ _ _ us hl => match us, hl with | [_], _ => rfl
  have F18 := fun_mk (st := topS 38) l18 c18 k18
  have b18 := F18.binds (ps := ["order"]) fun _ _ _ _ _ _ us hl => match us, hl with | [_], _ => rfl
  have F19 := fun_mk (st := topS 41) l19 c19 k19
  have b19 := F19.binds (ps := ["_law_script", "_law_k"]) fun _ _ _ _ _ _ us hl => match us, hl with | [_, _], _ => rfl
  have F20 := fun_mk (st := topS 35) l20 c20 k20
  have b20 := F20.binds (ps := ["order"]) fun _ _ _ _ _ _ us hl => match us, hl with | [_], _ => rfl
  have F21 := fun_mk (st := topS 5) l21 c21 k21
  have b21 := F21.binds (ps := ["thing"]) fun _ _ _ _ _ _ us hl => match us, hl with | [_], _ => rfl
  have F22 := fun_mk (st := topS 21) l22 c22 k22
  have b22 := F22.binds (ps := ["order", "thing"]) fun _ _ _ _ _ _ us hl => match us, hl with | [_, _], _ => rfl
  have F23 := fun_mk (st := topS 22) l23 c23 k23
  have b23 := F23.binds (ps := ["order", "thing"]) fun _ _ _ _ _ _ us hl => match us, hl with | [_, _], _ => rfl
  have F24 := fun_mk (st := topS 8) l24 c24 k24
  have b24 := F24.binds (ps := ["things"]) fun _ _ _ _ _ _ us hl => match us, hl with | [_], _ => rfl
  have F25 := fun_mk (st := topS 29) l25 c25 k25
  have b25 := F25.binds (ps := ["order", "row"]) fun _ _ _ _ _ _ us hl => match us, hl with | [_, _], _ => rfl
  have F26 := fun_mk (st := topS 30) l26 c26 k26
  have b26 := F26.binds (ps := ["order", "thing"]) fun _ _ _ _ _ _ us hl => match us, hl with | [_, _], _ => rfl
  have F27 := fun_mk (st := topS 23) l27 c27 k27
  have b27 := F27.binds (ps := ["order", "begun"]) fun _ _ _ _ _ _ us hl => match us, hl with | [_, _], _ => rfl
  have F28 := fun_mk (st := topS 24) l28 c28 k28
  have b28 := F28.binds (ps := ["order", "begun"]) fun _ _ _ _ _ _ us hl => match us, hl with | [_, _], _ => rfl
  have F29 := fun_mk (st := topS 20) l29 c29 k29
  have b29 := F29.binds (ps := ["order"]) fun _ _ _ _ _ _ us hl => match us, hl with | [_], _ => rfl
  have F30 := fun_mk (st := topS 37) l30 c30 k30
  have b30 := F30.binds (ps := ["order"]) fun _ _ _ _ _ _ us hl => match us, hl with | [_], _ => rfl
  have F31 := fun_mk (st := topS 34) l31 c31 k31
  have b31 := F31.binds (ps := ["order"]) fun _ _ _ _ _ _ us hl => match us, hl with | [_], _ => rfl
  have F32 := fun_mk (st := topS 25) l32 c32 k32
  have b32 := F32.binds (ps := ["order"]) fun _ _ _ _ _ _ us hl => match us, hl with | [_], _ => rfl
  have F33 := fun_mk (st := topS 31) l33 c33 k33
  have b33 := F33.binds (ps := ["order", "row"]) fun _ _ _ _ _ _ us hl => match us, hl with | [_, _], _ => rfl
  have F34 := fun_mk (st := topS 39) l34 c34 k34
  have b34 := F34.binds (ps := ["order", "row"]) fun _ _ _ _ _ _ us hl => match us, hl with | [_, _], _ => rfl
  have F35 := fun_mk (st := topS 36) l35 c35 k35
  have b35 := F35.binds (ps := ["order"]) fun _ _ _ _ _ _ us hl => match us, hl with | [_], _ => rfl
  have F36 := fun_mk (st := topS 32) l36 c36 k36
  have b36 := F36.binds (ps := ["order", "row"]) fun _ _ _ _ _ _ us hl => match us, hl with | [_, _], _ => rfl
  have F37 := fun_mk (st := topS 49) l37 c37 k37
  have b37 := F37.binds (ps := ["_law_order", "_law_row"]) fun _ _ _ _ _ _ us hl => match us, hl with | [_, _], _ => rfl
  have F38 := fun_mk (st := topS 11) l38 c38 k38
  have b38 := F38.binds (ps := ["many", "thing"]) fun _ _ _ _ _ _ us hl => match us, hl with | [_, _], _ => rfl
  have F39 := fun_mk (st := topS 12) l39 c39 k39
  have b39 := F39.binds (ps := ["order", "thing"]) fun _ _ _ _ _ _ us hl => match us, hl with | [_, _], _ => rfl
  have F40 := fun_mk (st := topS 13) l40 c40 k40
  have b40 := F40.binds (ps := ["order", "some"]) fun _ _ _ _ _ _ us hl => match us, hl with | [_, _], _ => rfl
  have F41 := fun_mk (st := topS 48) l41 c41 k41
  have b41 := F41.binds (ps := ["_law_pen", "_law_order"]) fun _ _ _ _ _ _ us hl => match us, hl with | [_, _], _ => rfl
  have F42 := fun_mk (st := topS 50) l42 c42 k42
  have b42 := F42.binds (ps := ["_law_script"]) fun _ _ _ _ _ _ us hl => match us, hl with | [_], _ => rfl
  refine ⟨PySem.W.fnOf "law" "law" (defArgs (topS 50)) (defBody (topS 50)) (defScope (topS 50)) .none kV42 dc42 pm42 an42 cd42 ct42, fun s v => .of_eq rfl, fun base _ _ => ?_⟩
  have W0 := w__law_pen_of (P := l.prog) (w := w) (base := base) (T := (⟨(fun k : Nat => ([] : List Addr)[k]?), clT (fun c : Nat => ([0, e1, e2, 0, 0, 0, 0] : List Addr).getD c 0), none⟩ : Tb)) bi  F0 b0 (PySem.W.mg_of X G a0)
  have W1 := w__law_next (P := l.prog) (w := w) (base := base) (T := (⟨(fun k : Nat => ([] : List Addr)[k]?), clT (fun c : Nat => ([0, e1, e2, 0, 0, 0, 0] : List Addr).getD c 0), none⟩ : Tb)) bi  F1 b1 (PySem.W.mg_of X G a1)
  have W2 := w__law_draw (P := l.prog) (w := w) (base := base) (T := (⟨(fun k : Nat => ([] : List Addr)[k]?), clT (fun c : Nat => ([0, e1, e2, 0, 0, 0, 0] : List Addr).getD c 0), none⟩ : Tb)) bi W1 F2 b2 (PySem.W.mg_of X G a2)
  have W3 := w__law_names_by (P := l.prog) (w := w) (base := base) (T := (⟨(fun k : Nat => ([] : List Addr)[k]?), clT (fun c : Nat => ([0, e1, e2, 0, 0, 0, 0] : List Addr).getD c 0), none⟩ : Tb)) bi W2 F3 b3 (PySem.W.mg_of X G a3)
  have W4 := w__law_closed (P := l.prog) (w := w) (base := base) (T := (⟨(fun k : Nat => ([] : List Addr)[k]?), clT (fun c : Nat => ([0, e1, e2, 0, 0, 0, 0] : List Addr).getD c 0), none⟩ : Tb)) bi  F4 b4 (PySem.W.mg_of X G a4)
  have W5 := w__law_order_by (P := l.prog) (w := w) (base := base) (T := (⟨(fun k : Nat => ([] : List Addr)[k]?), clT (fun c : Nat => ([0, e1, e2, 0, 0, 0, 0] : List Addr).getD c 0), none⟩ : Tb)) bi W2 W3 W4 F5 b5 (PySem.W.mg_of X G a5)
  have W6 := w_waits (P := l.prog) (w := w) (base := base) (T := (⟨(fun k : Nat => ([] : List Addr)[k]?), clT (fun c : Nat => ([0, e1, e2, 0, 0, 0, 0] : List Addr).getD c 0), none⟩ : Tb)) bi  F6 b6 (PySem.W.mg_of X G a6)
  have W7 := w_things_in (P := l.prog) (w := w) (base := base) (T := (⟨(fun k : Nat => ([] : List Addr)[k]?), clT (fun c : Nat => ([0, e1, e2, 0, 0, 0, 0] : List Addr).getD c 0), none⟩ : Tb)) bi  F7 b7 (PySem.W.mg_of X G a7)
  have W8 := w_is_lower (P := l.prog) (w := w) (base := base) (T := (⟨(fun k : Nat => ([] : List Addr)[k]?), clT (fun c : Nat => ([0, e1, e2, 0, 0, 0, 0] : List Addr).getD c 0), none⟩ : Tb)) bi W7 F8 b8 (PySem.W.mg_of X G a8)
  have W9 := w_stands_of (P := l.prog) (w := w) (base := base) (T := (⟨(fun k : Nat => ([] : List Addr)[k]?), clT (fun c : Nat => ([0, e1, e2, 0, 0, 0, 0] : List Addr).getD c 0), none⟩ : Tb)) bi W6 W7 W8 F9 b9 (PySem.W.mg_of X G a9)
  have W10 := w_free_by (P := l.prog) (w := w) (base := base) (T := (⟨(fun k : Nat => ([] : List Addr)[k]?), clT (fun c : Nat => ([0, e1, e2, 0, 0, 0, 0] : List Addr).getD c 0), none⟩ : Tb)) bi  F10 b10 (PySem.W.mg_of X G a10)
  have W11 := w_cost_of (P := l.prog) (w := w) (base := base) (T := (⟨(fun k : Nat => ([] : List Addr)[k]?), clT (fun c : Nat => ([0, e1, e2, 0, 0, 0, 0] : List Addr).getD c 0), none⟩ : Tb)) bi  F11 b11 (PySem.W.mg_of X G a11)
  have W12 := w_ahead_by (P := l.prog) (w := w) (base := base) (T := (⟨(fun k : Nat => ([] : List Addr)[k]?), clT (fun c : Nat => ([0, e1, e2, 0, 0, 0, 0] : List Addr).getD c 0), none⟩ : Tb)) bi W11 F12 b12 (PySem.W.mg_of X G a12)
  have W13 := w_fewest_table (P := l.prog) (w := w) (base := base) (T := (⟨(fun k : Nat => ([] : List Addr)[k]?), clT (fun c : Nat => ([0, e1, e2, 0, 0, 0, 0] : List Addr).getD c 0), none⟩ : Tb)) bi W6 W9 W10 W12 F13 b13 (PySem.W.mg_of X G a13)
  have W14 := w_fewest_jumps (P := l.prog) (w := w) (base := base) (T := (⟨(fun k : Nat => ([] : List Addr)[k]?), clT (fun c : Nat => ([0, e1, e2, 0, 0, 0, 0] : List Addr).getD c 0), none⟩ : Tb)) bi W13 F14 b14 (PySem.W.mg_of X G a14)
  have W15 := w_on_by (P := l.prog) (w := w) (base := base) (T := (⟨(fun k : Nat => ([] : List Addr)[k]?), clT (fun c : Nat => ([0, e1, e2, 0, 0, 0, 0] : List Addr).getD c 0), none⟩ : Tb)) bi W10 F15 b15 (PySem.W.mg_of X G a15)
  have W16 := w_greedy_next (P := l.prog) (w := w) (base := base) (T := (⟨(fun k : Nat => ([] : List Addr)[k]?), clT (fun c : Nat => ([0, e1, e2, 0, 0, 0, 0] : List Addr).getD c 0), none⟩ : Tb)) bi W10 W15 F16 b16 (PySem.W.mg_of X G a16)
  have W17 := w_greedy_table (P := l.prog) (w := w) (base := base) (T := (⟨(fun k : Nat => ([] : List Addr)[k]?), clT (fun c : Nat => ([0, e1, e2, 0, 0, 0, 0] : List Addr).getD c 0), none⟩ : Tb)) bi W6 W9 W11 W16 F17 b17 (PySem.W.mg_of X G a17)
  have W18 := w_first_best (P := l.prog) (w := w) (base := base) (T := (⟨(fun k : Nat => ([] : List Addr)[k]?), clT (fun c : Nat => ([0, e1, e2, 0, 0, 0, 0] : List Addr).getD c 0), none⟩ : Tb)) bi W6 W11 W16 W17 F18 b18 (PySem.W.mg_of X G a18)
  have W19 := w__law_cell_at (P := l.prog) (w := w) (base := base) (T := (⟨(fun k : Nat => ([] : List Addr)[k]?), clT (fun c : Nat => ([0, e1, e2, 0, 0, 0, 0] : List Addr).getD c 0), none⟩ : Tb)) bi  F19 b19 (PySem.W.mg_of X G a19)
  have W20 := w_greedy_least (P := l.prog) (w := w) (base := base) (T := (⟨(fun k : Nat => ([] : List Addr)[k]?), clT (fun c : Nat => ([0, e1, e2, 0, 0, 0, 0] : List Addr).getD c 0), none⟩ : Tb)) bi W17 F20 b20 (PySem.W.mg_of X G a20)
  have W21 := w_is_whole (P := l.prog) (w := w) (base := base) (T := (⟨(fun k : Nat => ([] : List Addr)[k]?), clT (fun c : Nat => ([0, e1, e2, 0, 0, 0, 0] : List Addr).getD c 0), none⟩ : Tb)) bi  F21 b21 (PySem.W.mg_of X G a21)
  have W22 := w_begins (P := l.prog) (w := w) (base := base) (T := (⟨(fun k : Nat => ([] : List Addr)[k]?), clT (fun c : Nat => ([0, e1, e2, 0, 0, 0, 0] : List Addr).getD c 0), none⟩ : Tb)) bi W6 W10 W21 F22 b22 (PySem.W.mg_of X G a22)
  have W23 := w_is_row (P := l.prog) (w := w) (base := base) (T := (⟨(fun k : Nat => ([] : List Addr)[k]?), clT (fun c : Nat => ([0, e1, e2, 0, 0, 0, 0] : List Addr).getD c 0), none⟩ : Tb)) bi W22 F23 b23 (PySem.W.mg_of X G a23)
  have W24 := w_mask_of (P := l.prog) (w := w) (base := base) (T := (⟨(fun k : Nat => ([] : List Addr)[k]?), clT (fun c : Nat => ([0, e1, e2, 0, 0, 0, 0] : List Addr).getD c 0), none⟩ : Tb)) bi  F24 b24 (PySem.W.mg_of X G a24)
  have W25 := w_slip_by (P := l.prog) (w := w) (base := base) (T := (⟨(fun k : Nat => ([] : List Addr)[k]?), clT (fun c : Nat => ([0, e1, e2, 0, 0, 0, 0] : List Addr).getD c 0), none⟩ : Tb)) bi W6 W11 W15 W24 F25 b25 (PySem.W.mg_of X G a25)
  have W26 := w_greedy_good (P := l.prog) (w := w) (base := base) (T := (⟨(fun k : Nat => ([] : List Addr)[k]?), clT (fun c : Nat => ([0, e1, e2, 0, 0, 0, 0] : List Addr).getD c 0), none⟩ : Tb)) bi W23 W25 F26 b26 (PySem.W.mg_of X G a26)
  have W27 := w_jumps_in (P := l.prog) (w := w) (base := base) (T := (⟨(fun k : Nat => ([] : List Addr)[k]?), clT (fun c : Nat => ([0, e1, e2, 0, 0, 0, 0] : List Addr).getD c 0), none⟩ : Tb)) bi W11 F27 b27 (PySem.W.mg_of X G a27)
  have W28 := w_fewest_from (P := l.prog) (w := w) (base := base) (T := (⟨(fun k : Nat => ([] : List Addr)[k]?), clT (fun c : Nat => ([0, e1, e2, 0, 0, 0, 0] : List Addr).getD c 0), none⟩ : Tb)) bi W13 W22 W24 W27 Y1 F28 b28 (PySem.W.mg_of X G a28)
  have W29 := w_first_fewest (P := l.prog) (w := w) (base := base) (T := (⟨(fun k : Nat => ([] : List Addr)[k]?), clT (fun c : Nat => ([0, e1, e2, 0, 0, 0, 0] : List Addr).getD c 0), none⟩ : Tb)) bi W6 W10 W12 W13 F29 b29 (PySem.W.mg_of X G a29)
  have W30 := w_first_greedy (P := l.prog) (w := w) (base := base) (T := (⟨(fun k : Nat => ([] : List Addr)[k]?), clT (fun c : Nat => ([0, e1, e2, 0, 0, 0, 0] : List Addr).getD c 0), none⟩ : Tb)) bi W6 W16 F30 b30 (PySem.W.mg_of X G a30)
  have W31 := w_greedy_many (P := l.prog) (w := w) (base := base) (T := (⟨(fun k : Nat => ([] : List Addr)[k]?), clT (fun c : Nat => ([0, e1, e2, 0, 0, 0, 0] : List Addr).getD c 0), none⟩ : Tb)) bi W17 F31 b31 (PySem.W.mg_of X G a31)
  have W32 := w_rows_many (P := l.prog) (w := w) (base := base) (T := (⟨(fun k : Nat => ([] : List Addr)[k]?), clT (fun c : Nat => ([0, e1, e2, 0, 0, 0, 0] : List Addr).getD c 0), none⟩ : Tb)) bi W6 W8 W10 F32 b32 (PySem.W.mg_of X G a32)
  have W33 := w_check_row (P := l.prog) (w := w) (base := base) (T := (⟨(fun k : Nat => ([] : List Addr)[k]?), clT (fun c : Nat => ([0, e1, e2, 0, 0, 0, 0] : List Addr).getD c 0), none⟩ : Tb)) bi W23 Y1 F33 b33 (PySem.W.mg_of X G a33)
  have W34 := w_gone_on (P := l.prog) (w := w) (base := base) (T := (⟨(fun k : Nat => ([] : List Addr)[k]?), clT (fun c : Nat => ([0, e1, e2, 0, 0, 0, 0] : List Addr).getD c 0), none⟩ : Tb)) bi W25 W33 F34 b34 (PySem.W.mg_of X G a34)
  have W35 := w_greedy_most (P := l.prog) (w := w) (base := base) (T := (⟨(fun k : Nat => ([] : List Addr)[k]?), clT (fun c : Nat => ([0, e1, e2, 0, 0, 0, 0] : List Addr).getD c 0), none⟩ : Tb)) bi W17 F35 b35 (PySem.W.mg_of X G a35)
  have W36 := w_slip_of (P := l.prog) (w := w) (base := base) (T := (⟨(fun k : Nat => ([] : List Addr)[k]?), clT (fun c : Nat => ([0, e1, e2, 0, 0, 0, 0] : List Addr).getD c 0), none⟩ : Tb)) bi W25 W33 F36 b36 (PySem.W.mg_of X G a36)
  have W37 := w__law_row_right (P := l.prog) (w := w) (base := base) (T := (⟨(fun k : Nat => ([] : List Addr)[k]?), clT (fun c : Nat => ([0, e1, e2, 0, 0, 0, 0] : List Addr).getD c 0), none⟩ : Tb)) bi W20 W26 W28 W34 W35 W36 F37 b37 (PySem.W.mg_of X G a37)
  have W38 := w_set_good (P := l.prog) (w := w) (base := base) (T := (⟨(fun k : Nat => ([] : List Addr)[k]?), clT (fun c : Nat => ([0, e1, e2, 0, 0, 0, 0] : List Addr).getD c 0), none⟩ : Tb)) bi W21 F38 b38 (PySem.W.mg_of X G a38)
  have W39 := w_lower_good (P := l.prog) (w := w) (base := base) (T := (⟨(fun k : Nat => ([] : List Addr)[k]?), clT (fun c : Nat => ([0, e1, e2, 0, 0, 0, 0] : List Addr).getD c 0), none⟩ : Tb)) bi W6 W8 W24 W38 F39 b39 (PySem.W.mg_of X G a39)
  have W40 := w_free_in (P := l.prog) (w := w) (base := base) (T := (⟨(fun k : Nat => ([] : List Addr)[k]?), clT (fun c : Nat => ([0, e1, e2, 0, 0, 0, 0] : List Addr).getD c 0), none⟩ : Tb)) bi W6 W10 W24 W39 Y2 F40 b40 (PySem.W.mg_of X G a40)
  have W41 := w__law_row_by (P := l.prog) (w := w) (base := base) (T := (⟨(fun k : Nat => ([] : List Addr)[k]?), clT (fun c : Nat => ([0, e1, e2, 0, 0, 0, 0] : List Addr).getD c 0), none⟩ : Tb)) bi W2 W40 F41 b41 (PySem.W.mg_of X G a41)
  exact (w_law (T := (⟨(fun k : Nat => ([] : List Addr)[k]?), clT (fun c : Nat => ([0, e1, e2, 0, 0, 0, 0] : List Addr).getD c 0), none⟩ : Tb)) bi W0 W5 W14 W18 W19 W20 W26 W28 W29 W30 W31 W32 W37 W41 F42).imp fun vs H Q E h => h _

end Fj.K36
open PySem PySem.W PyProof.Rows
set_option maxHeartbeats 0 in
theorem PySem.Challenge.cw_fewjumps_k36_whole_greedy_and_fewest_holds : PySem.Challenge.rw_fewjumps_k36_whole_greedy_and_fewest.Holds := by
  w_on; o_law; k_head; (case hw => w_witness2)
  k_fill
  refine L2.walk_of (l := PySem.Challenge.rw_fewjumps_k36_whole_greedy_and_fewest) (n := 63) (k := 7) (x := "_law_script") (CX := fun w => L2.CX (PySem.Challenge.rw_fewjumps_k36_whole_greedy_and_fewest).prog w) (sp := fun w => Fj.spE _ true Fj.K36.c_law) rfl (by decide) rfl ⟨rfl, by decide, by decide⟩ (fun w h Y => PySem.W.kIn_of Y) ?F (fun _ _ a ns hl _ hS => Fj.law_endE hS (Fj.K36.law_true ns hl)) (fun _ _ _ _ _ h => by
    obtain ⟨_, _, _, _, _, _, _, _, _, _, _, _, h⟩ := h
    exact h)
  case F =>
    intro w mg fa h KX G hmg
    refine' Fj.K36.all_mk KX G hmg ?a0 ?l0 ?c0 ?k0 ?a1 ?l1 ?c1 ?k1 ?a2 ?l2 ?c2 ?k2 ?a3 ?l3 ?c3 ?k3 ?a4 ?l4 ?c4 ?k4 ?a5 ?l5 ?c5 ?k5 ?a6 ?l6 ?c6 ?k6 ?a7 ?l7 ?c7 ?k7 ?a8 ?l8 ?c8 ?k8 ?a9 ?l9 ?c9 ?k9 ?a10 ?l10 ?c10 ?k10 ?a11 ?l11 ?c11 ?k11 ?a12 ?l12 ?c12 ?k12 ?a13 ?l13 ?c13 ?k13 ?a14 ?l14 ?c14 ?k14 ?a15 ?l15 ?c15 ?k15 ?a16 ?l16 ?c16 ?k16 ?a17 ?l17 ?c17 ?k17 ?a18 ?l18 ?c18 ?k18 ?a19 ?l19 ?c19 ?k19 ?a20 ?l20 ?c20 ?k20 ?a21 ?l21 ?c21 ?k21 ?a22 ?l22 ?c22 ?k22 ?a23 ?l23 ?c23 ?k23 ?a24 ?l24 ?c24 ?k24 ?a25 ?l25 ?c25 ?k25 ?a26 ?l26 ?c26 ?k26 ?a27 ?l27 ?c27 ?k27 ?a28 ?l28 ?c28 ?k28 ?a29 ?l29 ?c29 ?k29 ?a30 ?l30 ?c30 ?k30 ?a31 ?l31 ?c31 ?k31 ?a32 ?l32 ?c32 ?k32 ?a33 ?l33 ?c33 ?k33 ?a34 ?l34 ?c34 ?k34 ?a35 ?l35 ?c35 ?k35 ?a36 ?l36 ?c36 ?k36 ?a37 ?l37 ?c37 ?k37 ?a38 ?l38 ?c38 ?k38 ?a39 ?l39 ?c39 ?k39 ?a40 ?l40 ?c40 ?k40 ?a41 ?l41 ?c41 ?k41 ?a42 ?l42 ?c42 ?k42 ?z0 ?z1 ?z2 ?z3 ?z4 ?z5 ?z6 ?z7 ?z8 ?z9 ?z10 ?z11 ?z12 ?z13 ?z14 ?z15 ?z16 ?z17 ?qa1 ?qt1 ?qa2 ?qt2 ?qx1 ?qk1 ?qx2 ?qk2 ?qb1 ?qb2
    (case a0 => k_is); (case l0 => k_is); (case c0 => k_is); (case k0 => k_is); (case a1 => k_is); (case l1 => k_is); (case c1 => k_is); (case k1 => k_is); (case a2 => k_is); (case l2 => k_is); (case c2 => k_is); (case k2 => k_is); (case a3 => k_is); (case l3 => k_is); (case c3 => k_is); (case k3 => k_is); (case a4 => k_is); (case l4 => k_is); (case c4 => k_is); (case k4 => k_is); (case a5 => k_is); (case l5 => k_is); (case c5 => k_is); (case k5 => k_is); (case a6 => k_is); (case l6 => k_is); (case c6 => k_is); (case k6 => k_is); (case a7 => k_is); (case l7 => k_is); (case c7 => k_is); (case k7 => k_is); (case a8 => k_is); (case l8 => k_is); (case c8 => k_is); (case k8 => k_is); (case a9 => k_is); (case l9 => k_is); (case c9 => k_is); (case k9 => k_is); (case a10 => k_is); (case l10 => k_is); (case c10 => k_is); (case k10 => k_is); (case a11 => k_is); (case l11 => k_is); (case c11 => k_is); (case k11 => k_is); (case a12 => k_is); (case l12 => k_is); (case c12 => k_is); (case k12 => k_is); (case a13 => k_is); (case l13 => k_is); (case c13 => k_is); (case k13 => k_is); (case a14 => k_is); (case l14 => k_is); (case c14 => k_is); (case k14 => k_is); (case a15 => k_is); (case l15 => k_is); (case c15 => k_is); (case k15 => k_is); (case a16 => k_is); (case l16 => k_is); (case c16 => k_is); (case k16 => k_is); (case a17 => k_is); (case l17 => k_is); (case c17 => k_is); (case k17 => k_is); (case a18 => k_is); (case l18 => k_is); (case c18 => k_is); (case k18 => k_is); (case a19 => k_is); (case l19 => k_is); (case c19 => k_is); (case k19 => k_is); (case a20 => k_is); (case l20 => k_is); (case c20 => k_is); (case k20 => k_is); (case a21 => k_is); (case l21 => k_is); (case c21 => k_is); (case k21 => k_is); (case a22 => k_is); (case l22 => k_is); (case c22 => k_is); (case k22 => k_is); (case a23 => k_is); (case l23 => k_is); (case c23 => k_is); (case k23 => k_is); (case a24 => k_is); (case l24 => k_is); (case c24 => k_is); (case k24 => k_is); (case a25 => k_is); (case l25 => k_is); (case c25 => k_is); (case k25 => k_is); (case a26 => k_is); (case l26 => k_is); (case c26 => k_is); (case k26 => k_is); (case a27 => k_is); (case l27 => k_is); (case c27 => k_is); (case k27 => k_is); (case a28 => k_is); (case l28 => k_is); (case c28 => k_is); (case k28 => k_is); (case a29 => k_is); (case l29 => k_is); (case c29 => k_is); (case k29 => k_is); (case a30 => k_is); (case l30 => k_is); (case c30 => k_is); (case k30 => k_is); (case a31 => k_is); (case l31 => k_is); (case c31 => k_is); (case k31 => k_is); (case a32 => k_is); (case l32 => k_is); (case c32 => k_is); (case k32 => k_is); (case a33 => k_is); (case l33 => k_is); (case c33 => k_is); (case k33 => k_is); (case a34 => k_is); (case l34 => k_is); (case c34 => k_is); (case k34 => k_is); (case a35 => k_is); (case l35 => k_is); (case c35 => k_is); (case k35 => k_is); (case a36 => k_is); (case l36 => k_is); (case c36 => k_is); (case k36 => k_is); (case a37 => k_is); (case l37 => k_is); (case c37 => k_is); (case k37 => k_is); (case a38 => k_is); (case l38 => k_is); (case c38 => k_is); (case k38 => k_is); (case a39 => k_is); (case l39 => k_is); (case c39 => k_is); (case k39 => k_is); (case a40 => k_is); (case l40 => k_is); (case c40 => k_is); (case k40 => k_is); (case a41 => k_is); (case l41 => k_is); (case c41 => k_is); (case k41 => k_is); (case a42 => k_is); (case l42 => k_is); (case c42 => k_is); (case k42 => k_is); (case z0 => k_is); (case z1 => k_is); (case z2 => k_is); (case z3 => k_is); (case z4 => k_is); (case z5 => k_is); (case z6 => k_is); (case z7 => k_is); (case z8 => k_is); (case z9 => k_is); (case z10 => k_is); (case z11 => k_is); (case z12 => k_is); (case z13 => k_is); (case z14 => k_is); (case z15 => k_is); (case z16 => k_is); (case z17 => k_is); (case qa1 => k_is); (case qt1 => k_is); (case qa2 => k_is); (case qt2 => k_is); (case qx1 => k_exc); (case qk1 => k_is); (case qx2 => k_exc); (case qk2 => k_is); (case qb1 => k_is); (case qb2 => k_is)
