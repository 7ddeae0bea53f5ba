import PyProof.Rows.All
import PySem.Challenge.RW_fewjumps_k55_pairs_put_and_steps_left
import Wide.All
import OpenK.AllK
import Wide.FinOn
import HandS.ForMost
import HandS.ForExc
import HandS.Flow
import HandS.Deep
import HandS.TupSets
import HandS.Wide
import HandS.WideMore
import HandS.IsInst
import HandS.CallLocal
import HandS.TupLen
import HandS.TupAny
import HandS.TupLe
import HandS.Style
import HandS.Conv
import HandS.WordsExc
import HandS.ExcInit
import HandS.ExcIs
import HandS.HotCalls
import HandS.Zip
import HandS.RevRange
import HandS.ListItems
import HandS.DictTup
import HandS.SortKw
import HandS.SortOrd
import HandS.EndBits
import HandS.CallSlots
import HandS.ExcOwn
set_option Elab.async false
set_option linter.all false
set_option maxRecDepth 100000
/-! ## Sem -/
/-! Values by value, results, and what Python's operations come to on them. Core Lean alone. -/
namespace Fj

inductive D where
  | non | bl (b : Bool) | int (i : Int) | str (s : List Nat) | tup (xs : List D) | lst (xs : List D)
  /-- a dict; t: its keys are tuples (1), plain numbers and texts (0) -/
  | dct (t : Nat) (kvs : List (D × D)) | fn (k : Nat) | exc (c : Nat) (fs : List D) | scr (ns : List Int)
  deriving Inhabited

/-- a result: a value; an exception; nothing is said -/
inductive R (α : Type) where
  | ok (a : α) | ex (e : D) | bad

namespace R
variable {α β γ : Type}
def bind : R α → (α → R β) → R β
  | ok a, f => f a
  | ex e, _ => ex e
  | bad, _ => bad
@[simp] theorem ok_bind (a : α) (f : α → R β) : (ok a).bind f = f a := id rfl
@[simp] theorem ex_bind (e : D) (f : α → R β) : (ex e : R α).bind f = ex e := id rfl
@[simp] theorem bad_bind (f : α → R β) : (bad : R α).bind f = bad := id rfl
@[simp] theorem bind_ok (m : R α) : m.bind ok = m := by cases m <;> rfl
theorem bind_assoc (m : R α) (f : α → R β) (g : β → R γ) : (m.bind f).bind g = m.bind fun a => (f a).bind g := by cases m <;> rfl
/-- an exception here is not served -/
def nox : R α → R α
  | ok a => ok a
  | _ => bad
@[simp] theorem nox_ok (a : α) : (ok a).nox = ok a := id rfl
@[simp] theorem nox_bad : (bad : R α).nox = bad := id rfl
end R

/-- how statements end: on to the next, out of the loop, out of the def -/
inductive Fl (S B : Type) where
  | nx (s : S) | bk (b : B) | rt (d : D) (os : List D)

section
variable {S S' B : Type}
def seqR (r : R (Fl S' B)) (k : S' → R (Fl S B)) : R (Fl S B) := r.bind fun
  | .nx s => k s
  | .bk b => .ok (.bk b)
  | .rt d os => .ok (.rt d os)
@[simp] theorem seqR_nx (s : S') (k : S' → R (Fl S B)) : seqR (.ok (.nx s)) k = k s := id rfl
@[simp] theorem seqR_bk (b : B) (k : S' → R (Fl S B)) : seqR (.ok (.bk b)) k = .ok (.bk b) := id rfl
@[simp] theorem seqR_rt (d : D) (os : List D) (k : S' → R (Fl S B)) : seqR (.ok (.rt d os)) k = .ok (.rt d os) := id rfl
@[simp] theorem seqR_ex (e : D) (k : S' → R (Fl S B)) : seqR (.ex e) k = .ex e := id rfl
@[simp] theorem seqR_bad (k : S' → R (Fl S B)) : seqR .bad k = .bad := id rfl
/-- what never goes on to the next -/
def endR (r : R (Fl Empty B)) : R (Fl S B) := r.bind fun
  | .nx s => nomatch s
  | .bk b => .ok (.bk b)
  | .rt d os => .ok (.rt d os)
@[simp] theorem endR_bk (b : B) : (endR (.ok (.bk b)) : R (Fl S B)) = .ok (.bk b) := id rfl
@[simp] theorem endR_rt (d : D) (os : List D) : (endR (.ok (.rt d os)) : R (Fl S B)) = .ok (.rt d os) := id rfl
@[simp] theorem endR_ex (e : D) : (endR (.ex e) : R (Fl S B)) = .ex e := id rfl
@[simp] theorem endR_bad : (endR .bad : R (Fl S B)) = .bad := id rfl
theorem endR_bind {α : Type} (m : R α) (f : α → R (Fl Empty B)) : (endR (m.bind f) : R (Fl S B)) = m.bind fun a => endR (f a) := by cases m <;> rfl
/-- for: the state ahead of each turn -/
def forR : List D → S → (D → S → R (Fl S S)) → R (Fl S S)
  | [], s, _ => .ok (.nx s)
  | x :: xs, s, f => (f x s).bind fun
    | .nx s' => forR xs s' f
    | .bk s' => .ok (.bk s')
    | .rt d os => .ok (.rt d os)
/-- behind a loop -/
def aftR (r : R (Fl S S)) (k : S → R (Fl S' B)) : R (Fl S' B) := r.bind fun
  | .nx s => k s
  | .bk s => k s
  | .rt d os => .ok (.rt d os)
@[simp] theorem aftR_nx (s : S) (k : S → R (Fl S' B)) : aftR (.ok (.nx s)) k = k s := id rfl
@[simp] theorem aftR_bk (s : S) (k : S → R (Fl S' B)) : aftR (.ok (.bk s)) k = k s := id rfl
@[simp] theorem aftR_rt (d : D) (os : List D) (k : S → R (Fl S' B)) : aftR (.ok (.rt d os)) k = .ok (.rt d os) := id rfl
@[simp] theorem aftR_bad (k : S → R (Fl S' B)) : aftR .bad k = .bad := id rfl
@[simp] theorem aftR_ex (e : D) (k : S → R (Fl S' B)) : aftR (.ex e) k = .ex e := id rfl
/-- while, with fuel -/
def whileR : Nat → S → (S → R Bool) → (S → R (Fl S S)) → R (Fl S S)
  | 0, _, _, _ => .bad
  | n + 1, s, c, f => (c s).bind fun b => if b = true then (f s).bind fun
      | .nx s' => whileR n s' c f
      | .bk s' => .ok (.bk s')
      | .rt d os => .ok (.rt d os)
    else .ok (.nx s)
end
/-- a def's end: its value and what its own (in and out) arguments hold -/
def finR : R (Fl Unit Empty) → R (D × List D)
  | .ok (.rt d os) => .ok (d, os)
  | .ex e => .ex e
  | _ => .bad
/-- .. a def without such: falling off the end gives None -/
def finP : R (Fl Unit Empty) → R D
  | .ok (.rt d _) => .ok d
  | .ok (.nx _) => .ok .non
  | .ex e => .ex e
  | _ => .bad
@[simp] theorem finR_rt (d : D) (os : List D) : finR (.ok (.rt d os)) = .ok (d, os) := id rfl
@[simp] theorem finP_rt (d : D) (os : List D) : finP (.ok (.rt d os)) = .ok d := id rfl
@[simp] theorem finP_nx (u : Unit) : finP (.ok (.nx u)) = .ok .non := id rfl
@[simp] theorem finP_ex (e : D) : finP (.ex e) = .ex e := id rfl
@[simp] theorem finR_ex (e : D) : finR (.ex e) = .ex e := id rfl
@[simp] theorem finP_bad : finP .bad = .bad := id rfl
@[simp] theorem finR_bad : finR .bad = .bad := id rfl

/-! ### operations -/
/-- lists and tuples have at most so many things (a bound of the model is far above) -/
def most : Nat := 100000
def op1 {α β : Type} (f : α → R β) (a : R α) : R β := a.bind f
def op2 {α β γ : Type} (f : α → β → R γ) (a : R α) (b : R β) : R γ := a.bind fun x => b.bind fun y => f x y
def op3 {α β γ δ : Type} (f : α → β → γ → R δ) (a : R α) (b : R β) (c : R γ) : R δ := a.bind fun x => b.bind fun y => c.bind fun z => f x y z
@[simp] theorem op1_ok {α β : Type} (f : α → R β) (a : α) : op1 f (.ok a) = f a := id rfl
@[simp] theorem op2_ok {α β γ : Type} (f : α → β → R γ) (a : α) (b : β) : op2 f (.ok a) (.ok b) = f a b := id rfl
@[simp] theorem op3_ok {α β γ δ : Type} (f : α → β → γ → R δ) (a : α) (b : β) (c : γ) : op3 f (.ok a) (.ok b) (.ok c) = f a b c := id rfl
/-- some results, from the left -/
def allR : List (R D) → R (List D)
  | [] => .ok []
  | a :: r => a.bind fun x => (allR r).bind fun xs => .ok (x :: xs)
@[simp] theorem allR_nil : allR [] = .ok [] := id rfl
@[simp] theorem allR_ok (a : D) (r : List (R D)) : allR (.ok a :: r) = (allR r).bind fun xs => .ok (a :: xs) := id rfl
def tupE (es : List (R D)) : R D := (allR es).bind fun xs => .ok (.tup xs)
def lstE (es : List (R D)) : R D := (allR es).bind fun xs => .ok (.lst xs)

def truD : D → R Bool
  | .non => .ok false
  | .bl b => .ok b
  | .int i => .ok (i != 0)
  | .str s => .ok (!s.isEmpty)
  | .tup xs => .ok (!xs.isEmpty)
  | .lst xs => .ok (!xs.isEmpty)
  | _ => .bad
@[simp] theorem truD_bl (b : Bool) : truD (.bl b) = .ok b := id rfl
/-- a text too long to be served -/
def longD : D → Bool
  | .str s => !decide (s.length ≤ most)
  | _ => false
/-- the truth of a value -/
def truT (d : D) : R Bool := if longD d = true then .bad else truD d
@[simp] theorem truT_bl (b : Bool) : truT (.bl b) = .ok b := id rfl
@[simp] theorem truT_int (i : Int) : truT (.int i) = .ok (i != 0) := id rfl
@[simp] theorem truT_non : truT .non = .ok false := id rfl
@[simp] theorem truT_lst (xs : List D) : truT (.lst xs) = .ok (!xs.isEmpty) := id rfl
@[simp] theorem truT_tup (xs : List D) : truT (.tup xs) = .ok (!xs.isEmpty) := id rfl
def blE (c : R Bool) : R D := c.bind fun b => .ok (.bl b)
@[simp] theorem blE_ok (b : Bool) : blE (.ok b) = .ok (.bl b) := id rfl
def andT (a b : R Bool) : R Bool := a.bind fun c => if c = true then b else .ok false
def orT (a b : R Bool) : R Bool := a.bind fun c => if c = true then .ok true else b
def notT (a : R Bool) : R Bool := a.bind fun c => .ok (!c)
@[simp] theorem andT_ok (a b : Bool) : andT (.ok a) (.ok b) = .ok (a && b) := by cases a <;> rfl
@[simp] theorem andT_true (b : R Bool) : andT (.ok true) b = b := id rfl
@[simp] theorem andT_false (b : R Bool) : andT (.ok false) b = .ok false := id rfl
@[simp] theorem orT_ok (a b : Bool) : orT (.ok a) (.ok b) = .ok (a || b) := by cases a <;> rfl
@[simp] theorem orT_true (b : R Bool) : orT (.ok true) b = .ok true := id rfl
@[simp] theorem orT_false (b : R Bool) : orT (.ok false) b = b := id rfl
@[simp] theorem notT_ok (a : Bool) : notT (.ok a) = .ok (!a) := id rfl
/-- x and y, x or y as values -/
def andV (a b : R D) : R D := a.bind fun x => (truT x).bind fun c => if c = true then b else .ok x
def orV (a b : R D) : R D := a.bind fun x => (truT x).bind fun c => if c = true then .ok x else b
def ifE {α : Type} (c : R Bool) (a b : R α) : R α := c.bind fun k => if k = true then a else b
@[simp] theorem ifE_ok {α : Type} (c : Bool) (a b : R α) : ifE (.ok c) a b = if c = true then a else b := id rfl
@[simp] theorem ifE_true {α : Type} (a b : R α) : ifE (.ok true) a b = a := id rfl
@[simp] theorem ifE_false {α : Type} (a b : R α) : ifE (.ok false) a b = b := id rfl

mutual
/-- made of None, truths, numbers, texts, tuples, lists -/
def plainD : D → Bool
  | .non | .bl _ | .int _ => true
  | .str s => s.all fun c => decide (c < 1114112)
  | .tup xs | .lst xs => plainDs xs
  | _ => false
def plainDs : List D → Bool
  | [] => true
  | x :: xs => plainD x && plainDs xs
end
mutual
def depD : D → Nat
  | .tup xs | .lst xs => depDs xs + 1
  | _ => 0
def depDs : List D → Nat
  | [] => 0
  | x :: xs => max (depD x) (depDs xs)
end
def b2 (b : Bool) : Int := if b then 1 else 0
mutual
/-- == -/
def eqD : D → D → Bool
  | .non, .non => true
  | .bl a, .bl b => a == b
  | .bl a, .int j => b2 a == j
  | .int i, .bl b => i == b2 b
  | .int i, .int j => i == j
  | .str x, .str y => x == y
  | .tup xs, .tup ys => eqDs xs ys
  | .lst xs, .lst ys => eqDs xs ys
  | _, _ => false
def eqDs : List D → List D → Bool
  | [], [] => true
  | x :: xs, y :: ys => eqD x y && eqDs xs ys
  | _, _ => false
end
/-- fit for == -/
def fitD (d : D) : Bool := plainD d && decide (depD d ≤ 60)
def eqR (x y : D) : R Bool := if fitD x && fitD y then .ok (eqD x y) else .bad
def neR (x y : D) : R Bool := if fitD x && fitD y then .ok (!eqD x y) else .bad
def isNon : D → Bool
  | .non => true
  | _ => false
def isR (x : D) : R Bool := .ok (isNon x)
def isNotR (x : D) : R Bool := .ok (!isNon x)

/-- the order of tuples of whole numbers -/
def lexLt : List Int → List Int → Bool
  | [], [] => false
  | [], _ :: _ => true
  | _ :: _, [] => false
  | x :: xs, y :: ys => if x = y then lexLt xs ys else decide (x < y)
def intsD : List D → Option (List Int)
  | [] => some []
  | .int i :: r => (intsD r).map (i :: ·)
  | _ :: _ => none
def ltR : D → D → R Bool
  | .int i, .int j => .ok (decide (i < j))
  | .tup xs, .tup ys => match intsD xs, intsD ys with
    | some a, some b => .ok (lexLt a b)
    | _, _ => .bad
  | _, _ => .bad
def leR : D → D → R Bool
  | .int i, .int j => .ok (decide (i ≤ j))
  | _, _ => .bad
def gtR : D → D → R Bool
  | .int i, .int j => .ok (decide (j < i))
  | _, _ => .bad
def geR : D → D → R Bool
  | .int i, .int j => .ok (decide (j ≤ i))
  | _, _ => .bad
@[simp] theorem ltR_int (i j : Int) : ltR (.int i) (.int j) = .ok (decide (i < j)) := id rfl
@[simp] theorem leR_int (i j : Int) : leR (.int i) (.int j) = .ok (decide (i ≤ j)) := id rfl
@[simp] theorem gtR_int (i j : Int) : gtR (.int i) (.int j) = .ok (decide (j < i)) := id rfl
@[simp] theorem geR_int (i j : Int) : geR (.int i) (.int j) = .ok (decide (j ≤ i)) := id rfl
/-- a < b < c: two comparisons, b asked once -/
def chainR (f g : D → D → R Bool) (a b c : R D) : R Bool := a.bind fun x => b.bind fun y => (f x y).bind fun k => if k = true then c.bind fun z => g y z else .ok false

def okLen (n : Nat) (d : D) : R D := if n ≤ most then .ok d else .bad
/-- numbers of less than 2 ^ 64 in size -/
def small (i : Int) : Bool := decide (-(2 ^ 64) < i) && decide (i < 2 ^ 64)
def addR : D → D → R D
  | .int i, .int j => .ok (.int (i + j))
  | .str a, .str b => if a.length + b.length ≤ most then .ok (.str (a ++ b)) else .bad
  | .lst a, .lst b => if a.length + b.length ≤ most then .ok (.lst (a ++ b)) else .bad
  | .tup a, .tup b => if a.length + b.length ≤ most then .ok (.tup (a ++ b)) else .bad
  | _, _ => .bad
def subR : D → D → R D
  | .int i, .int j => .ok (.int (i - j))
  | _, _ => .bad
def mulR : D → D → R D
  | .int i, .int j => if small i || small j then .ok (.int (i * j)) else .bad
  | .lst a, .int k => if small k && decide (a.length * k.toNat ≤ most) && decide (k < 2 ^ 60) && decide (-(2 ^ 60) < k) then .ok (.lst (List.replicate k.toNat a).flatten) else .bad
  | _, _ => .bad
@[simp] theorem addR_int (i j : Int) : addR (.int i) (.int j) = .ok (.int (i + j)) := id rfl
@[simp] theorem subR_int (i j : Int) : subR (.int i) (.int j) = .ok (.int (i - j)) := id rfl
/-- // and % by a number from 1 on, below 2 ^ 9000 (%: any) -/
def fdivR : D → D → R D
  | .int i, .int j => if 0 < j && decide (j < 2 ^ 30) then .ok (.int (i / j)) else .bad
  | _, _ => .bad
def modR : D → D → R D
  | .int i, .int j => if 0 < j then .ok (.int (i % j)) else .bad
  | _, _ => .bad
def powR : D → D → R D
  | .int i, .int j => if small i && decide (0 ≤ j) && decide (j ≤ 1000) then .ok (.int (i ^ j.toNat)) else .bad
  | _, _ => .bad
def shlR : D → D → R D
  | .int i, .int j => if small i && decide (0 ≤ j) && decide (j ≤ 1000) then .ok (.int (i * 2 ^ j.toNat)) else .bad
  | _, _ => .bad
def shrR : D → D → R D
  | .int i, .int j => if 0 ≤ j then .ok (.int (i / 2 ^ j.toNat)) else .bad
  | _, _ => .bad
/-- bits of numbers from 0 on -/
def bitR (f : Nat → Nat → Nat) : D → D → R D
  | .int i, .int j => if 0 ≤ i && decide (0 ≤ j) then .ok (.int (f i.toNat j.toNat : Nat)) else .bad
  | _, _ => .bad
def bandR : D → D → R D := bitR (· &&& ·)
def borR : D → D → R D := bitR (· ||| ·)
def bxorR : D → D → R D := bitR (· ^^^ ·)
def negR : D → R D
  | .int i => .ok (.int (-i))
  | _ => .bad
@[simp] theorem negR_int (i : Int) : negR (.int i) = .ok (.int (-i)) := id rfl

/-! ### places, cuts -/
def ixN (n : Nat) (i : Int) : Option Nat := if 0 ≤ i then (if i < n then some i.toNat else none) else if -(n : Int) ≤ i then some (i + n).toNat else none
def atI {α : Type} (xs : List α) (i : Int) : Option α := (ixN xs.length i).bind fun j => xs[j]?
def ofO {α : Type} : Option α → R α
  | some a => .ok a
  | none => .bad
@[simp] theorem ofO_some {α : Type} (a : α) : ofO (some a) = .ok a := id rfl
@[simp] theorem ofO_none {α : Type} : ofO (none : Option α) = .bad := id rfl
/-- a dict's key: a number, a text, a tuple of such -/
def flatK : D → Bool
  | .int _ => true
  | .str _ => true
  | _ => false
def keyOk : D → Bool
  | .int _ => true
  | .str _ => true
  | .tup xs => xs.all flatK
  | _ => false
mutual
/-- the same datum -/
def sameD : D → D → Bool
  | .non, .non => true
  | .bl a, .bl b => a == b
  | .int i, .int j => i == j
  | .str x, .str y => x == y
  | .tup xs, .tup ys => sameDs xs ys
  | .lst xs, .lst ys => sameDs xs ys
  | _, _ => false
def sameDs : List D → List D → Bool
  | [], [] => true
  | x :: xs, y :: ys => sameD x y && sameDs xs ys
  | _, _ => false
end
def lookD (k : D) : List (D × D) → Option D
  | [] => none
  | (a, v) :: r => if sameD a k then some v else lookD k r
def putD (k v : D) (kvs : List (D × D)) : List (D × D) := if kvs.any (fun p => sameD p.1 k) = true then kvs.map (fun p => if sameD p.1 k = true then (p.1, v) else p) else kvs ++ [(k, v)]
def isTupD : D → Bool
  | .tup _ => true
  | _ => false
/-- a key of the dict's kind -/
def kindOk (k : D) (t : Nat) : Bool := keyOk k && ((t == 0 && !isTupD k) || (t == 1 && isTupD k))
def idxR0 : D → D → R D
  | .lst xs, .int i => ofO (atI xs i)
  | .tup xs, .int i => ofO (atI xs i)
  | .scr ns, .int i => (ofO (atI ns i)).bind fun n => .ok (.int n)
  | .str s, .int i => if s.length ≤ most then (ofO (atI s i)).bind fun c => .ok (.str [c]) else .bad
  | _, _ => .bad
/-- d[k], d a dict -/
def getR : D → D → R D
  | .dct t kvs, k => if kindOk k t then ofO (lookD k kvs) else .bad
  | _, _ => .bad
/-- a[b] -/
def idxR (a b : D) : R D := match a with
  | .dct _ _ => getR a b
  | _ => idxR0 a b
/-- where a bound of a cut lies -/
def sIx (n d : Nat) : Option Int → Nat
  | none => d
  | some i => if i < 0 then (i + n).toNat else min i.toNat n
def cutL {α : Type} (xs : List α) (lo hi : Option Int) : List α := (xs.drop (sIx xs.length 0 lo)).take (sIx xs.length xs.length hi - sIx xs.length 0 lo)
def boundR : Option D → R (Option Int)
  | none => .ok none
  | some (.int i) => .ok (some i)
  | some _ => .bad
def cutI (d : D) (l h : Option Int) : R D := match d with
  | .lst xs => .ok (.lst (cutL xs l h))
  | .tup xs => .ok (.tup (cutL xs l h))
  | .scr ns => .ok (.lst ((cutL ns l h).map .int))
  | .str s => if s.length ≤ most then .ok (.str (cutL s l h)) else .bad
  | _ => .bad
def optR : Option (R D) → R (Option D)
  | none => .ok none
  | some r => r.bind fun x => .ok (some x)
def cutE (d : R D) (lo hi : Option (R D)) : R D := d.bind fun x => ((optR lo).bind boundR).bind fun l => ((optR hi).bind boundR).bind fun h => cutI x l h
@[simp] theorem optR_none : optR none = .ok none := id rfl
@[simp] theorem optR_ok (x : D) : optR (some (.ok x)) = .ok (some x) := id rfl
/-- [::-1] -/
def revR : D → R D
  | .lst xs => .ok (.lst xs.reverse)
  | .tup xs => .ok (.tup xs.reverse)
  | _ => .bad
def setR (d i v : D) : R D := match d, i with
  | .lst xs, .int k => (ofO (ixN xs.length k)).bind fun j => .ok (.lst (xs.set j v))
  | .dct t kvs, k => if kindOk k t && decide (kvs.length < most) then .ok (.dct t (putD k v kvs)) else .bad
  | _, _ => .bad

def setE (d : D) (i v : R D) : R D := v.bind fun x => i.bind fun j => setR d j x
@[simp] theorem setE_ok (d i v : D) : setE d (.ok i) (.ok v) = setR d i v := id rfl
/-! ### what is walked -/
def itemsR : D → R (List D)
  | .lst xs => .ok xs
  | .tup xs => .ok xs
  | .str s => if s.length ≤ most then .ok (s.map fun c => .str [c]) else .bad
  | _ => .bad
def seqsR : D → R (List D)
  | .lst xs => .ok xs
  | .tup xs => .ok xs
  | _ => .bad
/-- lo, lo + 1, .., n of them -/
def upI (lo : Int) (n : Nat) : List D := (List.range n).map fun (k : Nat) => .int (lo + k)
def big62 (i : Int) : Bool := decide (-(2 ^ 62) ≤ i) && decide (i < 2 ^ 62)
def range1R : D → R (List D)
  | .int j => if big62 j then .ok (upI 0 j.toNat) else .bad
  | _ => .bad
def range2R : D → D → R (List D)
  | .int i, .int j => if big62 i && big62 j then .ok (upI i (j - i).toNat) else .bad
  | _, _ => .bad
/-- down from hi, above lo -/
def downI (hi : Int) (n : Nat) : List D := (List.range n).map fun (k : Nat) => .int (hi - k)
def rangeDR : D → D → R (List D)
  | .int i, .int j => if big62 i && big62 j then .ok (downI i (i - j).toNat) else .bad
  | _, _ => .bad
def zipL : List D → List D → List D
  | x :: xs, y :: ys => .tup [x, y] :: zipL xs ys
  | _, _ => []
def enumL (k : Nat) : List D → List D
  | [] => []
  | x :: xs => .tup [.int k, x] :: enumL (k + 1) xs
/-- a list comprehension: its test, its element -/
def compL (t : D → R Bool) (f : D → R D) : List D → R (List D)
  | [] => .ok []
  | x :: xs => (t x).nox.bind fun c => if c = true then (f x).nox.bind fun y => (compL t f xs).bind fun ys => .ok (y :: ys) else compL t f xs
def compE (it : R (List D)) (t : D → R Bool) (f : D → R D) : R D := it.bind fun xs => if xs.length ≤ most then (compL t f xs).bind fun ys => .ok (.lst ys) else .bad
def yesT : D → R Bool := fun _ => .ok true
/-- .. that changes a state on its way -/
def compS {S : Type} (f : D → S → R (Option D × S)) : List D → S → R (List D × S)
  | [], s => .ok ([], s)
  | x :: xs, s => (f x s).nox.bind fun p => (compS f xs p.2).bind fun q => .ok ((match p.1 with | some y => y :: q.1 | none => q.1), q.2)
/-- a tuple taken apart -/
def un2 {α : Type} (f : D → D → R α) : D → R α
  | .tup [a, b] => f a b
  | _ => .bad
def un3 {α : Type} (f : D → D → D → R α) : D → R α
  | .tup [a, b, c] => f a b c
  | _ => .bad
@[simp] theorem un2_tup {α : Type} (f : D → D → R α) (a b : D) : un2 f (.tup [a, b]) = f a b := id rfl
@[simp] theorem un3_tup {α : Type} (f : D → D → D → R α) (a b c : D) : un3 f (.tup [a, b, c]) = f a b c := id rfl

/-! ### built-ins -/
def lenR : D → R D
  | .lst xs => .ok (.int xs.length)
  | .tup xs => .ok (.int xs.length)
  | .scr ns => .ok (.int ns.length)
  | .str s => if s.length ≤ most then .ok (.int s.length) else .bad
  | .dct _ kvs => .ok (.int kvs.length)
  | _ => .bad
def listR (d : D) : R D := (seqsR d).bind fun xs => .ok (.lst xs)
def tupleR (d : D) : R D := (seqsR d).bind fun xs => .ok (.tup xs)
def intR : D → R D
  | .int i => .ok (.int i)
  | .bl b => .ok (.int (b2 b))
  | _ => .bad
def max2R : D → D → R D
  | .int i, .int j => .ok (.int (if j > i then j else i))
  | _, _ => .bad
def min2R : D → D → R D
  | .int i, .int j => .ok (.int (if j < i then j else i))
  | _, _ => .bad
def sumR : D → R D
  | .lst xs => (ofO (intsD xs)).bind fun ns => .ok (.int ns.sum)
  | _ => .bad
def minI : List Int → Int
  | [] => 0
  | [x] => x
  | x :: xs => min x (minI xs)
def maxI : List Int → Int
  | [] => 0
  | [x] => x
  | x :: xs => max x (maxI xs)
def minR : D → R D
  | .lst xs => (ofO (intsD xs)).bind fun ns => if ns.isEmpty then .bad else .ok (.int (minI ns))
  | _ => .bad
def maxR : D → R D
  | .lst xs => (ofO (intsD xs)).bind fun ns => if ns.isEmpty then .bad else .ok (.int (maxI ns))
  | _ => .bad
def blsD : List D → Option (List Bool)
  | [] => some []
  | .bl b :: r => (blsD r).map (b :: ·)
  | _ :: _ => none
def allQ : D → R D
  | .lst xs => (ofO (blsD xs)).bind fun bs => .ok (.bl (bs.all id))
  | _ => .bad
def anyQ : D → R D
  | .lst xs => (ofO (blsD xs)).bind fun bs => .ok (.bl (bs.any id))
  | _ => .bad
/-- x in a list, in a tuple, in a dict -/
def inR (x c : D) : R Bool := match c with
  | .lst xs => if fitD x && fitD (.lst xs) then .ok (xs.any fun y => eqD y x) else .bad
  | .tup xs => if fitD x && fitD (.tup xs) then .ok (xs.any fun y => eqD y x) else .bad
  | .dct t kvs => if kindOk x t then .ok (lookD x kvs).isSome else .bad
  | _ => .bad
def notInR (x c : D) : R Bool := (inR x c).bind fun b => .ok (!b)
/-- x in range(..), x a whole number -/
def inRange (x lo hi : D) : R Bool := match x, lo, hi with
  | .int i, .int a, .int b => if big62 a && big62 b then .ok (decide (a ≤ i) && decide (i < b)) else .bad
  | _, _, _ => .bad
def indexL (x : D) : List D → Option Nat
  | [] => none
  | y :: ys => if eqD y x then some 0 else (indexL x ys).map (· + 1)
def indexR (c x : D) : R D := match c with
  | .lst xs => if fitD x && fitD (.lst xs) then (ofO (indexL x xs)).bind fun j => .ok (.int j) else .bad
  | .tup xs => if fitD x && fitD (.tup xs) then (ofO (indexL x xs)).bind fun j => .ok (.int j) else .bad
  | _ => .bad
def isInt : D → Bool
  | .int _ => true
  | .bl _ => true
  | _ => false
def isBool : D → Bool
  | .bl _ => true
  | _ => false
def isTuple : D → Bool
  | .tup _ => true
  | _ => false
def isList : D → Bool
  | .lst _ => true
  | _ => false
def isStr : D → Bool
  | .str _ => true
  | _ => false
def isDict : D → Bool
  | .dct _ _ => true
  | _ => false
def isaOk : D → Bool
  | .fn _ => false
  | .exc _ _ => false
  | .scr _ => false
  | _ => true
def isaR (p : D → Bool) (d : D) : R Bool := if isaOk d then .ok (p d) else .bad

/-! ### sorting: tuples of whole numbers, all of one length -/
def tupI : D → Option (List Int)
  | .tup xs => intsD xs
  | _ => none
def tupsI : List D → Option (List (List Int))
  | [] => some []
  | x :: xs => (tupI x).bind fun a => (tupsI xs).map (a :: ·)
def lexLe (a b : List Int) : Bool := !lexLt b a
def insLex (x : List Int) : List (List Int) → List (List Int)
  | [] => [x]
  | y :: ys => if lexLt x y then x :: y :: ys else if x = y then y :: ys else y :: insLex x ys
/-- rising, nothing twice -/
def setLex (xs : List (List Int)) : List (List Int) := xs.foldr insLex []
/-- sorted(set(..)) -/
def sortSetR : D → R D
  | .lst xs => (ofO (tupsI xs)).bind fun ks => if ks.length < 64 && ks.all (fun k => decide (k.length = (ks.headD [0]).length) && k.all fun i => decide (0 ≤ i)) && decide (1 ≤ (ks.headD [0]).length) then .ok (.lst ((setLex ks).map fun k => .tup (k.map .int))) else .bad
  | _ => .bad

/-- list(..), tuple(..) of a range -/
def lstOf (r : R (List D)) : R D := r.bind fun xs => if xs.length ≤ most then .ok (.lst xs) else .bad
def tupOf (r : R (List D)) : R D := r.bind fun xs => if xs.length ≤ most then .ok (.tup xs) else .bad
/-! ### lists changed in place -/
def appendR (d v : D) : R D := match d with
  | .lst xs => if xs.length < most then .ok (.lst (xs ++ [v])) else .bad
  | _ => .bad
def extendR (d v : D) : R D := match d, v with
  | .lst xs, .lst ys => if xs.length + ys.length ≤ most then .ok (.lst (xs ++ ys)) else .bad
  | _, _ => .bad
/-- pop at a place: the thing, and what is left -/
def popAtR (d i : D) : R (D × D) := match d, i with
  | .lst xs, .int k => if big62 k then (ofO (ixN xs.length k)).bind fun j => (ofO xs[j]?).bind fun y => .ok (y, .lst (xs.eraseIdx j)) else .bad
  | _, _ => .bad
def appendE (d : D) (r : R D) : R D := match d with
  | .lst _ => r.bind (appendR d)
  | _ => .bad
@[simp] theorem appendE_lst (xs : List D) (r : R D) : appendE (.lst xs) r = r.bind (appendR (.lst xs)) := id rfl
def extendE (d : D) (r : R D) : R D := match d with
  | .lst _ => r.bind (extendR d)
  | _ => .bad
@[simp] theorem extendE_lst (xs : List D) (r : R D) : extendE (.lst xs) r = r.bind (extendR (.lst xs)) := id rfl
def contD : D → Bool
  | .lst _ => true
  | .dct _ _ => true
  | _ => false
/-- a value that is an own list or dict from here on -/
def ownR {α : Type} (d : R D) (F : D → R α) : R α := d.bind fun v => if contD v = true then F v else .bad
@[simp] theorem ownR_lst {α : Type} (xs : List D) (F : D → R α) : ownR (.ok (.lst xs)) F = F (.lst xs) := id rfl
@[simp] theorem ownR_dct {α : Type} (t : Nat) (xs : List (D × D)) (F : D → R α) : ownR (.ok (.dct t xs)) F = F (.dct t xs) := id rfl
@[simp] theorem ownR_bad {α : Type} (F : D → R α) : ownR .bad F = .bad := id rfl
@[simp] theorem ownR_ex {α : Type} (e : D) (F : D → R α) : ownR (.ex e) F = .ex e := id rfl
/-- one in-and-out argument -/
def io1 {β : Type} (m : R (D × List D)) (k : D → D → R β) : R β := m.bind fun p => match p.2 with
  | [o] => k p.1 o
  | _ => .bad
@[simp] theorem io1_ok {β : Type} (d o : D) (k : D → D → R β) : io1 (.ok (d, [o])) k = k d o := id rfl

/-! ### about the order of lists of numbers -/
theorem lexLt_irrefl : ∀ a : List Int, lexLt a a = false
  | [] => rfl
  | x :: xs => by simp [lexLt, lexLt_irrefl xs]
theorem lexLt_trans : ∀ {a b c : List Int}, lexLt a b = true → lexLt b c = true → lexLt a c = true
  | [], [], _, h, _ => by cases h
  | [], _ :: _, [], _, h => by cases h
  | [], _ :: _, _ :: _, _, _ => rfl
  | _ :: _, [], _, h, _ => by cases h
  | _ :: _, _ :: _, [], _, h => by cases h
  | x :: xs, y :: ys, z :: zs, h1, h2 => by
    unfold lexLt at h1 h2 ⊢
    split at h1
    · rename_i e
      subst e
      split at h2
      · rename_i e; subst e; rw [if_pos rfl]; exact lexLt_trans h1 h2
      · rename_i e; rw [if_neg e]; exact h2
    · rename_i e
      have h1 := of_decide_eq_true h1
      split at h2
      · rename_i e2; subst e2; rw [if_neg e]; exact decide_eq_true h1
      · have h2 := of_decide_eq_true h2
        rw [if_neg (by omega)]; exact decide_eq_true (by omega)
theorem lexLt_total : ∀ a b : List Int, lexLt a b = true ∨ a = b ∨ lexLt b a = true
  | [], [] => .inr (.inl rfl)
  | [], _ :: _ => .inl rfl
  | _ :: _, [] => .inr (.inr rfl)
  | x :: xs, y :: ys => by
    unfold lexLt
    by_cases e : x = y
    · subst e
      rw [if_pos rfl, if_pos rfl]
      rcases lexLt_total xs ys with h | h | h
      · exact .inl h
      · exact .inr (.inl (by rw [h]))
      · exact .inr (.inr h)
    · rw [if_neg e, if_neg (fun h => e h.symm)]
      by_cases h : x < y
      · exact .inl (decide_eq_true h)
      · exact .inr (.inr (decide_eq_true (by omega)))
/-- strictly rising -/
def SS (l : List (List Int)) : Prop := l.Pairwise fun a b => lexLt a b = true
theorem SS.nodup {l : List (List Int)} (h : SS l) : l.Nodup := List.Pairwise.imp (fun {a b} h e => by subst e; rw [lexLt_irrefl] at h; cases h) h
theorem mem_insLex {x y : List Int} : ∀ {l : List (List Int)}, y ∈ insLex x l ↔ y = x ∨ y ∈ l
  | [] => by simp [insLex]
  | z :: l => by
    unfold insLex
    split
    · simp
    · split
      · rename_i e; subst e; simp
      · simp [mem_insLex (l := l)]
        constructor
        · rintro (h | h | h) <;> simp [h]
        · rintro (h | h | h) <;> simp [h]
theorem insLex_ss {x : List Int} : ∀ {l : List (List Int)}, SS l → SS (insLex x l)
  | [], _ => by simp [insLex, SS]
  | z :: l, h => by
    unfold insLex
    have h' := List.pairwise_cons.mp h
    split
    · rename_i e
      exact List.pairwise_cons.mpr ⟨fun a ha => by
        rcases List.mem_cons.mp ha with rfl | ha
        · exact e
        · exact lexLt_trans e (h'.1 a ha), h⟩
    · split
      · exact h
      · rename_i e1 e2
        refine List.pairwise_cons.mpr ⟨fun a ha => ?_, insLex_ss h'.2⟩
        rcases mem_insLex.mp ha with rfl | ha
        · rcases lexLt_total a z with w | w | w
          · exact absurd w e1
          · exact absurd w e2
          · exact w
        · exact h'.1 a ha
theorem mem_setLex {y : List Int} : ∀ {l : List (List Int)}, y ∈ setLex l ↔ y ∈ l
  | [] => by simp [setLex]
  | x :: l => by
    show y ∈ insLex x (setLex l) ↔ _
    rw [mem_insLex, mem_setLex (l := l), List.mem_cons]
theorem setLex_ss : ∀ {l : List (List Int)}, SS (setLex l)
  | [] => by simp [setLex, SS]
  | x :: l => insLex_ss setLex_ss
theorem ss_eq {l l' : List (List Int)} (h : SS l) (h' : SS l') (hm : ∀ a, a ∈ l ↔ a ∈ l') : l = l' := by
  refine List.Perm.eq_of_pairwise (le := fun a b => lexLt a b = true) (fun a b _ _ h1 h2 => ?_) h h' ((List.perm_ext_iff_of_nodup h.nodup h'.nodup).mpr hm)
  have := lexLt_trans h1 h2
  rw [lexLt_irrefl] at this; cases this
theorem setLex_congr {l l' : List (List Int)} (hm : ∀ a, a ∈ l ↔ a ∈ l') : setLex l = setLex l' := ss_eq setLex_ss setLex_ss fun a => by rw [mem_setLex, mem_setLex, hm]
end Fj

/-! ## Lay1 -/
namespace Fj
open PySem PySem.Spec PyProof.Rows L2

/-! ### values by value, in a heap -/
/-- where the text's defs and classes stand -/
structure Tb where
  fn : Nat → Option Addr
  cl : Nat → Option Addr
  /-- the exception that a def is handed -/
  xe : Option (Addr × Nat)
def ksD : Key → D
  | .inl i => .int i
  | .inr x => .str x.cps.toList
def strV (s : List Nat) : V := .str ⟨s.toArray⟩
variable (K : PySem.W.Frag) (T : Tb) (P : Hp)
mutual
def Rep : D → V → Prop
  | .non, v => v = .non
  | .bl b, v => v = .bl b
  | .int i, v => v = .int i
  | .str s, v => v = strV s
  | .tup ds, v => ∃ a vs, v = .ref a ∧ P a = some (.tup vs) ∧ RepAll ds vs
  | .lst ds, v => ∃ a vs, v = .ref a ∧ P a = some (.lst vs) ∧ RepAll ds vs
  | .dct t kvs, v => ∃ a, v = .ref a ∧ ((t = 0 ∧ ∃ l, P a = some (.dK l) ∧ kvs.map (·.1) = l.map (fun p => ksD p.1) ∧ RepVs kvs (l.map (·.2))) ∨
      (t = 1 ∧ ∃ l, P a = some (.dT l) ∧ kvs.map (·.1) = l.map (fun p => D.tup (p.1.map ksD)) ∧ RepVs kvs (l.map (·.2))))
  | .fn k, v => ∃ a, T.fn k = some a ∧ v = .ref a
  | .exc c _, v => ∃ a, T.xe = some (a, c) ∧ v = .ref a
  | .scr ns, v => ∃ a, v = .ref a ∧ SqL K P a (ns.map V.int)
def RepAll : List D → List V → Prop
  | [], vs => vs = []
  | d :: ds, vs => ∃ v r, vs = v :: r ∧ Rep d v ∧ RepAll ds r
def RepVs : List (D × D) → List V → Prop
  | [], vs => vs = []
  | p :: ps, vs => ∃ v r, vs = v :: r ∧ RepP p v ∧ RepVs ps r
def RepP : D × D → V → Prop
  | (_, d), v => Rep d v
end
/-- what stands at the address of a list or a dict -/
def Own : D → HO → Prop
  | .lst ds, o => ∃ vs, o = .lst vs ∧ RepAll K T P ds vs
  | .dct t kvs, o => (t = 0 ∧ ∃ l, o = .dK l ∧ kvs.map (·.1) = l.map (fun p => ksD p.1) ∧ RepVs K T P kvs (l.map (·.2))) ∨
      (t = 1 ∧ ∃ l, o = .dT l ∧ kvs.map (·.1) = l.map (fun p => D.tup (p.1.map ksD)) ∧ RepVs K T P kvs (l.map (·.2)))
  | _, _ => False
abbrev cont : D → Bool := contD
variable {K T P}
theorem rep_own {d : D} {v : V} (hc : cont d = true) : Rep K T P d v ↔ ∃ a o, v = .ref a ∧ P a = some o ∧ Own K T P d o := by
  cases d with
  | lst ds =>
    constructor
    · intro h
      unfold Rep at h
      obtain ⟨a, vs, rfl, h1, h2⟩ := h
      exact ⟨a, _, rfl, h1, vs, rfl, h2⟩
    · rintro ⟨a, o, rfl, h1, vs, rfl, h2⟩
      unfold Rep
      exact ⟨a, vs, rfl, h1, h2⟩
  | dct t kvs =>
    constructor
    · intro h
      unfold Rep at h
      obtain ⟨a, rfl, ⟨t0, l, h1, h2⟩ | ⟨t0, l, h1, h2⟩⟩ := h
      · exact ⟨a, _, rfl, h1, .inl ⟨t0, l, rfl, h2⟩⟩
      · exact ⟨a, _, rfl, h1, .inr ⟨t0, l, rfl, h2⟩⟩
    · rintro ⟨a, o, rfl, h1, ⟨t0, l, rfl, h2⟩ | ⟨t0, l, rfl, h2⟩⟩
      · unfold Rep; exact ⟨a, rfl, .inl ⟨t0, l, h1, h2⟩⟩
      · unfold Rep; exact ⟨a, rfl, .inr ⟨t0, l, h1, h2⟩⟩
  | _ => cases hc
variable {P' : Hp}
theorem sql_mono (e : Same P P') {a : Addr} {xs : List V} (h : SqL K P a xs) : SqL K P' a xs := e.seq h
mutual
theorem Rep.mono (e : Same P P') : ∀ (d : D) (v : V), Rep K T P d v → Rep K T P' d v
  | .non, _, h => by unfold Rep at h ⊢; exact h
  | .bl _, _, h => by unfold Rep at h ⊢; exact h
  | .int _, _, h => by unfold Rep at h ⊢; exact h
  | .str _, _, h => by unfold Rep at h ⊢; exact h
  | .tup ds, _, h => by
    unfold Rep at h ⊢
    obtain ⟨a, vs, h1, h2, h3⟩ := h
    exact ⟨a, vs, h1, e _ _ h2, RepAll.mono e ds vs h3⟩
  | .lst ds, _, h => by
    unfold Rep at h ⊢
    obtain ⟨a, vs, h1, h2, h3⟩ := h
    exact ⟨a, vs, h1, e _ _ h2, RepAll.mono e ds vs h3⟩
  | .dct t kvs, _, h => by
    unfold Rep at h ⊢
    obtain ⟨a, h1, ⟨t0, l, h2, h3, h4⟩ | ⟨t0, l, h2, h3, h4⟩⟩ := h
    · exact ⟨a, h1, .inl ⟨t0, l, e _ _ h2, h3, RepVs.mono e kvs _ h4⟩⟩
    · exact ⟨a, h1, .inr ⟨t0, l, e _ _ h2, h3, RepVs.mono e kvs _ h4⟩⟩
  | .fn _, _, h => by unfold Rep at h ⊢; exact h
  | .exc _ _, _, h => by unfold Rep at h ⊢; exact h
  | .scr _, _, h => by
    unfold Rep at h ⊢
    obtain ⟨a, h1, h2⟩ := h
    exact ⟨a, h1, sql_mono e h2⟩
theorem RepAll.mono (e : Same P P') : ∀ (ds : List D) (vs : List V), RepAll K T P ds vs → RepAll K T P' ds vs
  | [], _, h => by unfold RepAll at h ⊢; exact h
  | d :: ds, _, h => by
    unfold RepAll at h ⊢
    obtain ⟨v, r, h1, h2, h3⟩ := h
    exact ⟨v, r, h1, Rep.mono e d v h2, RepAll.mono e ds r h3⟩
theorem RepVs.mono (e : Same P P') : ∀ (ps : List (D × D)) (vs : List V), RepVs K T P ps vs → RepVs K T P' ps vs
  | [], _, h => by unfold RepVs at h ⊢; exact h
  | p :: ps, _, h => by
    unfold RepVs at h ⊢
    obtain ⟨v, r, h1, h2, h3⟩ := h
    exact ⟨v, r, h1, RepP.mono e p v h2, RepVs.mono e ps r h3⟩
theorem RepP.mono (e : Same P P') : ∀ (p : D × D) (v : V), RepP K T P p v → RepP K T P' p v
  | (_, d), v, h => by unfold RepP at h ⊢; exact Rep.mono e d v h
end
theorem Own.mono (e : Same P P') {d : D} {o : HO} (h : Own K T P d o) : Own K T P' d o := by
  cases d with
  | lst ds => obtain ⟨vs, h1, h2⟩ := h; exact ⟨vs, h1, RepAll.mono e ds vs h2⟩
  | dct t kvs =>
    obtain ⟨t0, l, h1, h2, h3⟩ | ⟨t0, l, h1, h2, h3⟩ := h
    · exact .inl ⟨t0, l, h1, h2, RepVs.mono e kvs _ h3⟩
    · exact .inr ⟨t0, l, h1, h2, RepVs.mono e kvs _ h3⟩
  | _ => exact h.elim
theorem RepAll.length : ∀ {ds : List D} {vs : List V}, RepAll K T P ds vs → vs.length = ds.length
  | [], _, h => by unfold RepAll at h; subst h; rfl
  | d :: ds, _, h => by
    unfold RepAll at h
    obtain ⟨v, r, rfl, _, h3⟩ := h
    simp [RepAll.length h3]
theorem RepAll.get : ∀ {ds : List D} {vs : List V} {i : Nat} {d : D}, RepAll K T P ds vs → ds[i]? = some d → ∃ v, vs[i]? = some v ∧ Rep K T P d v
  | [], _, _, _, _, e => by simp at e
  | d :: ds, _, 0, _, h, e => by
    unfold RepAll at h
    obtain ⟨v, r, rfl, h2, _⟩ := h
    simp at e; subst e
    exact ⟨v, rfl, h2⟩
  | d :: ds, _, i + 1, _, h, e => by
    unfold RepAll at h
    obtain ⟨v, r, rfl, _, h3⟩ := h
    obtain ⟨w, h4, h5⟩ := RepAll.get h3 (by simpa using e)
    exact ⟨w, by simpa using h4, h5⟩
theorem RepAll.cons {d : D} {ds : List D} {v : V} {vs : List V} (h : Rep K T P d v) (r : RepAll K T P ds vs) : RepAll K T P (d :: ds) (v :: vs) := by
  unfold RepAll; exact ⟨v, vs, rfl, h, r⟩
theorem RepAll.nil : RepAll K T P [] [] := by unfold RepAll; rfl
theorem RepAll.append : ∀ {ds es : List D} {vs ws : List V}, RepAll K T P ds vs → RepAll K T P es ws → RepAll K T P (ds ++ es) (vs ++ ws)
  | [], _, _, _, h, r => by unfold RepAll at h; subst h; exact r
  | d :: ds, _, _, _, h, r => by
    unfold RepAll at h
    obtain ⟨v, t, rfl, h2, h3⟩ := h
    exact RepAll.cons h2 (RepAll.append h3 r)
theorem RepAll.set {d : D} {v : V} (hd : Rep K T P d v) : ∀ {ds : List D} {vs : List V} (i : Nat), RepAll K T P ds vs → RepAll K T P (ds.set i d) (vs.set i v)
  | [], _, _, h => by unfold RepAll at h; subst h; exact RepAll.nil
  | _ :: _, _, 0, h => by
    unfold RepAll at h
    obtain ⟨_, r, rfl, _, h3⟩ := h
    exact RepAll.cons hd h3
  | _ :: _, _, i + 1, h => by
    unfold RepAll at h
    obtain ⟨_, r, rfl, h2, h3⟩ := h
    exact RepAll.cons h2 (RepAll.set hd i h3)
theorem RepAll.take : ∀ {ds : List D} {vs : List V} (n : Nat), RepAll K T P ds vs → RepAll K T P (ds.take n) (vs.take n)
  | _, _, 0, _ => RepAll.nil
  | [], _, _ + 1, h => by unfold RepAll at h; subst h; exact RepAll.nil
  | _ :: _, _, n + 1, h => by
    unfold RepAll at h
    obtain ⟨_, r, rfl, h2, h3⟩ := h
    exact RepAll.cons h2 (RepAll.take n h3)
theorem RepAll.drop : ∀ {ds : List D} {vs : List V} (n : Nat), RepAll K T P ds vs → RepAll K T P (ds.drop n) (vs.drop n)
  | _, _, 0, h => h
  | [], _, _ + 1, h => by unfold RepAll at h; subst h; exact RepAll.nil
  | _ :: _, _, n + 1, h => by
    unfold RepAll at h
    obtain ⟨_, r, rfl, _, h3⟩ := h
    exact RepAll.drop n h3
theorem RepAll.reverse : ∀ {ds : List D} {vs : List V}, RepAll K T P ds vs → RepAll K T P ds.reverse vs.reverse
  | [], _, h => by unfold RepAll at h; subst h; exact RepAll.nil
  | _ :: _, _, h => by
    unfold RepAll at h
    obtain ⟨_, r, rfl, h2, h3⟩ := h
    rw [List.reverse_cons, List.reverse_cons]
    exact RepAll.append (RepAll.reverse h3) (RepAll.cons h2 RepAll.nil)
theorem RepAll.eraseIdx : ∀ {ds : List D} {vs : List V} (n : Nat), RepAll K T P ds vs → RepAll K T P (ds.eraseIdx n) (vs.eraseIdx n)
  | [], _, _, h => by unfold RepAll at h; subst h; exact RepAll.nil
  | _ :: _, _, 0, h => by
    unfold RepAll at h
    obtain ⟨_, r, rfl, _, h3⟩ := h
    exact h3
  | _ :: _, _, n + 1, h => by
    unfold RepAll at h
    obtain ⟨_, r, rfl, h2, h3⟩ := h
    exact RepAll.cons h2 (RepAll.eraseIdx n h3)
theorem RepAll.rep {ds : List D} {vs : List V} (h : RepAll K T P ds vs) : ∀ k : Nat, RepAll K T P (List.replicate k ds).flatten (List.replicate k vs).flatten
  | 0 => RepAll.nil
  | k + 1 => by
    rw [List.replicate_succ, List.replicate_succ, List.flatten_cons, List.flatten_cons]
    exact RepAll.append h (RepAll.rep h k)
theorem rep_int {i : Int} {v : V} : Rep K T P (.int i) v ↔ v = .int i := by unfold Rep; exact Iff.rfl
theorem rep_bl {b : Bool} {v : V} : Rep K T P (.bl b) v ↔ v = .bl b := by unfold Rep; exact Iff.rfl
theorem rep_non {v : V} : Rep K T P .non v ↔ v = .non := by unfold Rep; exact Iff.rfl
theorem rep_str {s : List Nat} {v : V} : Rep K T P (.str s) v ↔ v = strV s := by unfold Rep; exact Iff.rfl
theorem rep_tup {ds : List D} {v : V} : Rep K T P (.tup ds) v ↔ ∃ a vs, v = .ref a ∧ P a = some (.tup vs) ∧ RepAll K T P ds vs := by
  constructor <;> intro h
  · unfold Rep at h; exact h
  · unfold Rep; exact h
theorem rep_lst {ds : List D} {v : V} : Rep K T P (.lst ds) v ↔ ∃ a vs, v = .ref a ∧ P a = some (.lst vs) ∧ RepAll K T P ds vs := by
  constructor <;> intro h
  · unfold Rep at h; exact h
  · unfold Rep; exact h
theorem rep_scr {ns : List Int} {v : V} : Rep K T P (.scr ns) v ↔ ∃ a, v = .ref a ∧ SqL K P a (ns.map V.int) := by
  constructor <;> intro h
  · unfold Rep at h; exact h
  · unfold Rep; exact h
theorem rep_fn {k : Nat} {v : V} : Rep K T P (.fn k) v ↔ ∃ a, T.fn k = some a ∧ v = .ref a := by
  constructor <;> intro h
  · unfold Rep at h; exact h
  · unfold Rep; exact h
theorem repAll_ints : ∀ (ns : List Int), RepAll K T P (ns.map .int) (ns.map V.int)
  | [] => RepAll.nil
  | n :: r => RepAll.cons (rep_int.mpr rfl) (repAll_ints r)
theorem repAll_intsD : ∀ {ds : List D} {ns : List Int} {vs : List V}, intsD ds = some ns → RepAll K T P ds vs → vs = ns.map V.int
  | [], _, _, e, h => by
    cases e
    unfold RepAll at h; exact h
  | d :: ds, _, _, e, h => by
    unfold RepAll at h
    obtain ⟨v, r, rfl, h2, h3⟩ := h
    cases d with
    | int i =>
      unfold intsD at e
      cases q : intsD ds with
      | none => rw [q] at e; cases e
      | some ms =>
        rw [q] at e
        cases e
        rw [rep_int.mp h2, repAll_intsD q h3]
        rfl
    | _ => cases e
theorem repAll_blsD : ∀ {ds : List D} {ns : List Bool} {vs : List V}, blsD ds = some ns → RepAll K T P ds vs → vs = ns.map V.bl
  | [], _, _, e, h => by
    cases e
    unfold RepAll at h; exact h
  | d :: ds, _, _, e, h => by
    unfold RepAll at h
    obtain ⟨v, r, rfl, h2, h3⟩ := h
    cases d with
    | bl i =>
      unfold blsD at e
      cases q : blsD ds with
      | none => rw [q] at e; cases e
      | some ms =>
        rw [q] at e
        cases e
        rw [rep_bl.mp h2, repAll_blsD q h3]
        rfl
    | _ => cases e

/-! ### cells, states -/
/-- a name's cell: not told; a value that stays; a list or dict that is the def's own -/
inductive C where
  | un | val (d : D) | own (d : D)
def CellOk (K : PySem.W.Frag) (T : Tb) (P H : Hp) : C → Option V → Prop
  | .un, _ => True
  | .val d, v => ∃ w, v = some w ∧ Rep K T P d w
  | .own d, v => ∃ a o, v = some (.ref a) ∧ P a = none ∧ H a = some o ∧ Own K T P d o
structure Sim (K : PySem.W.Frag) (T : Tb) (P H : Hp) (σ : L2.St) (ρ : List C) : Prop where
  sub : Same P H
  len : ρ.length = σ.length
  cell : ∀ (i : Nat) (c : C) (v : Option V), ρ[i]? = some c → σ[i]? = some v → CellOk K T P H c v
  apart : ∀ (i j : Nat) (d e : D) (a : Addr), ρ[i]? = some (C.own d) → ρ[j]? = some (C.own e) → σ[i]? = some (some (.ref a)) → σ[j]? = some (some (.ref a)) → i = j
/-- the heap has grown: what stood stands, and is no more lasting than it was -/
structure Ext (P H P' H' : Hp) : Prop where
  pp : Same P P'
  hh : Same H H'
  ph : Same P' H'
  nw : ∀ a, H a ≠ none → P a = none → P' a = none
theorem Ext.refl {P H : Hp} (h : Same P H) : Ext P H P H := ⟨Same.refl _, Same.refl _, h, fun _ _ h => h⟩
theorem ne_of_same {H H' : Hp} (e : Same H H') {a : Addr} (h : H a ≠ none) : H' a ≠ none := by
  cases q : H a with
  | none => exact absurd q h
  | some o => rw [e _ _ q]; simp
theorem Ext.trans {P H P1 H1 P2 H2 : Hp} (a : Ext P H P1 H1) (b : Ext P1 H1 P2 H2) : Ext P H P2 H2 :=
  ⟨a.pp.trans b.pp, a.hh.trans b.hh, b.ph, fun x h1 h2 => b.nw x (ne_of_same a.hh h1) (a.nw x h1 h2)⟩
theorem Sim.ext {K : PySem.W.Frag} {T : Tb} {P H P' H' : Hp} {σ : L2.St} {ρ : List C} (S : Sim K T P H σ ρ) (e : Ext P H P' H') : Sim K T P' H' σ ρ := by
  refine ⟨e.ph, S.len, fun i c v h1 h2 => ?_, S.apart⟩
  have q := S.cell i c v h1 h2
  cases c with
  | un => trivial
  | val d =>
    obtain ⟨w, h3, h4⟩ := q
    exact ⟨w, h3, Rep.mono e.pp _ _ h4⟩
  | own d =>
    obtain ⟨a, o, h3, h4, h5, h6⟩ := q
    exact ⟨a, o, h3, e.nw a (by rw [h5]; simp) h4, e.hh _ _ h5, Own.mono e.pp h6⟩
theorem same_upd' {H : Hp} {p : Addr} {o : HO} (h : H p = none) : Same H (upd H p o) := fun b x e => by
  rw [upd_ne (ne_of_none e h)]
  exact e
/-- a new lasting object -/
theorem Ext.new {P H : Hp} (h : Same P H) {p : Addr} {o : HO} (hp : H p = none) : Ext P H (upd P p o) (upd H p o) := by
  have pp : P p = none := h.free hp
  refine ⟨same_upd' pp, same_upd' hp, fun b x e => ?_, fun a h1 h2 => ?_⟩
  · by_cases q : b = p
    · subst q; rw [upd_same] at e ⊢; exact e
    · rw [upd_ne q] at e ⊢; exact h _ _ e
  · have q : a ≠ p := fun z => h1 (by rw [z]; exact hp)
    rw [upd_ne q]; exact h2
/-- a new object that is not lasting -/
theorem Ext.fresh {P H : Hp} (h : Same P H) {p : Addr} {o : HO} (hp : H p = none) : Ext P H P (upd H p o) :=
  ⟨Same.refl _, same_upd' hp, h.trans (same_upd' hp), fun _ _ h => h⟩
end Fj

/-! ## Lay2 -/
namespace Fj
open PySem PySem.Spec PyProof.Rows L2

/-! ### judgements -/
inductive Md where
  | B | P | F
  deriving DecidableEq
def RepM (K : PySem.W.Frag) (T : Tb) (m : Md) (H P' H' : Hp) (d : D) (w : V) : Prop := match m with
  | .B => Rep K T P' d w ∨ ∃ a o, w = .ref a ∧ P' a = none ∧ H' a = some o ∧ Own K T P' d o
  | .P => Rep K T P' d w
  | .F => if cont d = true then ∃ a o, w = .ref a ∧ H a = none ∧ P' a = none ∧ H' a = some o ∧ Own K T P' d o else Rep K T P' d w
/-- an exception of one's own: its class, its dict -/
def ExR (T : Tb) (e : D) (cls : Value) (dd : Option Addr) (H : Hp) : Prop := match e with
  | .exc c fs => ∃ a, T.cl c = some a ∧ cls = .ref a ∧ ((fs = [] ∧ dd = none) ∨ fs ≠ [] ∧ ∃ (dx : Addr) (l : List (Str × V)) (ns : List Int), dd = some dx ∧ H dx = some (.xd l) ∧ fs = ns.map D.int ∧ l.map (·.2) = ns.map V.int)
  | _ => False
def Post (K : PySem.W.Frag) (T : Tb) (W : WX) (m : Md) (P H : Hp) (σ : L2.St) (d : R D) (Q : VK) : Prop := match d with
  | .ok v => ∀ w P' H', Ext P H P' H' → RepM K T m H P' H' v w → Q w H'
  | .ex e => ∀ cls dd H', Same H H' → ExR T e cls dd H' → W cls dd σ H'
  | .bad => False
def PostT (T : Tb) (W : WX) (P H : Hp) (σ : L2.St) (d : R Bool) (Q : Bool → Hp → Prop) : Prop := match d with
  | .ok b => ∀ P' H', Ext P H P' H' → Q b H'
  | .ex e => ∀ cls dd H', Same H H' → ExR T e cls dd H' → W cls dd σ H'
  | .bad => False
def RepMs (K : PySem.W.Frag) (T : Tb) (P' : Hp) (ds : List D) (ws : List V) : Prop := RepAll K T P' ds ws
def PostA (K : PySem.W.Frag) (T : Tb) (W : WX) (P H : Hp) (σ : L2.St) (d : R (List D)) (Q : List V → Hp → Prop) : Prop := match d with
  | .ok vs => ∀ ws P' H', Ext P H P' H' → RepAll K T P' vs ws → Q ws H'
  | .ex e => ∀ cls dd H', Same H H' → ExR T e cls dd H' → W cls dd σ H'
  | .bad => False

def wpE (X : Cx) (e : Expr) : TE := fun σ H Q => ∀ pins s, Inv X pins σ H s → wpAny (model X.prog X.w) X.A (eval e X.env) (EP X pins σ Q) X.xe s
def wpT (X : Cx) (e : Expr) : TT := fun σ H Q => ∀ pins s, Inv X pins σ H s → wpAny (model X.prog X.w) X.A (isTrue e X.env (eval e X.env)) (TP X pins σ Q) X.xe s
def wpW (X : Cx) (e : Expr) : TT := fun σ H Q => ∀ whole pins s, Inv X pins σ H s → wpAny (model X.prog X.w) X.A (isTrue e X.env whole) (TP X pins σ Q) X.xe s
def wpA (X : Cx) (es : List Expr) : TA := fun σ H Q => ∀ pos pins s, Inv X pins σ H s → wpAny (model X.prog X.w) X.A (spliced (backTo pos (starEach es X.env))) (AP X pins σ Q) X.xe s
section
variable {X : Cx} {e : Expr} {es : List Expr} {σ : L2.St} {H : Hp}
theorem pw : PE X e (wpE X e) := ⟨fun pins s σ H Q I h => h pins s I⟩
theorem tw : PT X e (wpT X e) := ⟨fun pins s σ H Q I h => h pins s I⟩
theorem ww : PW X e (wpW X e) := ⟨fun whole pins s σ H Q I h => h whole pins s I⟩
theorem aw : PA X es (wpA X es) := ⟨fun pos pins s σ H Q I h => h pos pins s I⟩
theorem wpE_of {t : TE} {Q : VK} (p : PE X e t) (h : t σ H Q) : wpE X e σ H Q := fun pins s I => p.run pins s σ H Q I h
theorem wpT_of {t : TT} {Q : Bool → Hp → Prop} (p : PT X e t) (h : t σ H Q) : wpT X e σ H Q := fun pins s I => p.run pins s σ H Q I h
theorem wpW_of {t : TT} {Q : Bool → Hp → Prop} (p : PW X e t) (h : t σ H Q) : wpW X e σ H Q := fun whole pins s I => p.run whole pins s σ H Q I h
theorem wpA_of {t : TA} {Q : List V → Hp → Prop} (p : PA X es t) (h : t σ H Q) : wpA X es σ H Q := fun pos pins s I => p.run pos pins s σ H Q I h
end

def Ev (X : Cx) (T : Tb) (W : WX) (m : Md) (ρ : List C) (e : Expr) (d : R D) : Prop := ∀ P H σ Q, Sim X.K T P H σ ρ → Post X.K T W m P H σ d Q → wpE X e σ H Q
def EvT (X : Cx) (T : Tb) (W : WX) (ρ : List C) (e : Expr) (c : R Bool) : Prop := ∀ P H σ Q, Sim X.K T P H σ ρ → PostT T W P H σ c Q → wpT X e σ H Q
def EvW (X : Cx) (T : Tb) (W : WX) (ρ : List C) (e : Expr) (c : R Bool) : Prop := ∀ P H σ Q, Sim X.K T P H σ ρ → PostT T W P H σ c Q → wpW X e σ H Q
def EvA (X : Cx) (T : Tb) (W : WX) (ρ : List C) (es : List Expr) (d : R (List D)) : Prop := ∀ P H σ Q, Sim X.K T P H σ ρ → PostA X.K T W P H σ d Q → wpA X es σ H Q
/-- the built-in names are not the text's -/
structure Bi (mg : Str → Option Value) : Prop where
  len : mg "len" = none
  isinstance : mg "isinstance" = none
  int : mg "int" = none
  bool : mg "bool" = none
  str : mg "str" = none
  tuple : mg "tuple" = none
  list : mg "list" = none
  dict : mg "dict" = none
  set : mg "set" = none
  sorted : mg "sorted" = none
  range : mg "range" = none
  sum : mg "sum" = none
  min : mg "min" = none
  max : mg "max" = none
  all : mg "all" = none
  any : mg "any" = none
  zip : mg "zip" = none
  enumerate : mg "enumerate" = none
structure Gd (X : Cx) (k : Nat) : Prop where
  calm : X.calm = true
  nd : X.N.Nodup
  room : Room k X.A
  bi : Bi X.mg
theorem Gd.blk {X : Cx} {k : Nat} (g : Gd X k) (s : Shared) (H : Hp) (scope : Scope) (cenv : Env) (fp : List Addr) : Gd (X.blk s H scope cenv fp) k := ⟨g.calm, g.nd, g.room, g.bi⟩
def W0 : WX := fun _ _ _ _ => False

section
variable {K : PySem.W.Frag} {T : Tb} {W : WX} {m : Md} {P H P' H' P1 H1 : Hp} {σ : L2.St} {v : D} {w : V}
theorem RepM.of_P (h : Rep K T P' v w) : RepM K T .B H P' H' v w := .inl h
theorem RepM.shift (e : Ext P1 H1 P' H') (e0 : ∀ a, H1 a = none → H a = none) (h : RepM K T m H P1 H1 v w) : RepM K T m H P' H' v w := by
  cases m with
  | B =>
    rcases h with h | ⟨a, o, h1, h2, h3, h4⟩
    · exact .inl (Rep.mono e.pp _ _ h)
    · exact .inr ⟨a, o, h1, e.nw a (by rw [h3]; simp) h2, e.hh _ _ h3, Own.mono e.pp h4⟩
  | P => exact Rep.mono e.pp _ _ h
  | F =>
    unfold RepM at h ⊢
    dsimp only at h ⊢
    by_cases c : cont v = true
    · rw [if_pos c] at h ⊢
      obtain ⟨a, o, h1, h0, h2, h3, h4⟩ := h
      exact ⟨a, o, h1, h0, e.nw a (by rw [h3]; simp) h2, e.hh _ _ h3, Own.mono e.pp h4⟩
    · rw [if_neg c] at h ⊢
      exact Rep.mono e.pp _ _ h
theorem RepM.to (e : Ext P1 H1 P' H') (h : RepM K T m H P1 H1 v w) (hm : m ≠ .F) : RepM K T m H P' H' v w := by
  cases m with
  | B =>
    rcases h with h | ⟨a, o, h1, h2, h3, h4⟩
    · exact .inl (Rep.mono e.pp _ _ h)
    · exact .inr ⟨a, o, h1, e.nw a (by rw [h3]; simp) h2, e.hh _ _ h3, Own.mono e.pp h4⟩
  | P => exact Rep.mono e.pp _ _ h
  | F => exact absurd rfl hm
/-- fresh for a later heap is fresh for an earlier one -/
theorem RepM.back (hs : Same H H1) (h : RepM K T m H1 P' H' v w) : RepM K T m H P' H' v w := by
  cases m with
  | B => exact h
  | P => exact h
  | F =>
    unfold RepM at h ⊢
    dsimp only at h ⊢
    by_cases c : cont v = true
    · rw [if_pos c] at h ⊢
      obtain ⟨a, o, h1, h0, h2, h3, h4⟩ := h
      exact ⟨a, o, h1, hs.free h0, h2, h3, h4⟩
    · rw [if_neg c] at h ⊢
      exact h
theorem Post.shift {d : R D} {Q : VK} (e : Ext P H P1 H1) (h : Post K T W m P H σ d Q) : Post K T W m P1 H1 σ d Q := by
  cases d with
  | ok v => exact fun w P' H' e' r => h w P' H' (e.trans e') (r.back e.hh)
  | ex x => exact fun cls dd H' s' r => h cls dd H' (e.hh.trans s') r
  | bad => exact h
theorem PostT.shift {d : R Bool} {Q : Bool → Hp → Prop} (e : Ext P H P1 H1) (h : PostT T W P H σ d Q) : PostT T W P1 H1 σ d Q := by
  cases d with
  | ok v => exact fun P' H' e' => h P' H' (e.trans e')
  | ex x => exact fun cls dd H' s' r => h cls dd H' (e.hh.trans s') r
  | bad => exact h
theorem PostA.shift {d : R (List D)} {Q : List V → Hp → Prop} (e : Ext P H P1 H1) (h : PostA K T W P H σ d Q) : PostA K T W P1 H1 σ d Q := by
  cases d with
  | ok v => exact fun w P' H' e' r => h w P' H' (e.trans e') r
  | ex x => exact fun cls dd H' s' r => h cls dd H' (e.hh.trans s') r
  | bad => exact h
theorem plainF (hc : cont v = false) (h : Rep K T P' v w) : RepM K T .F H P' H' v w := by
  unfold RepM
  dsimp only
  rw [if_neg (by rw [hc]; decide)]
  exact h
theorem postI {Q : VK} {i : Int} (hs : Same P H) (h : Post K T W .F P H σ (.ok (.int i)) Q) : Q (.int i) H := h _ P H (Ext.refl hs) (plainF rfl (rep_int.mpr rfl))
theorem postB {Q : VK} {b : Bool} (hs : Same P H) (h : Post K T W .F P H σ (.ok (.bl b)) Q) : Q (.bl b) H := h _ P H (Ext.refl hs) (plainF rfl (rep_bl.mpr rfl))
theorem postS {Q : VK} {s : List Nat} (hs : Same P H) (h : Post K T W .F P H σ (.ok (.str s)) Q) : Q (strV s) H := h _ P H (Ext.refl hs) (plainF rfl (rep_str.mpr rfl))
theorem postN {Q : VK} (hs : Same P H) (h : Post K T W .F P H σ (.ok .non) Q) : Q .non H := h _ P H (Ext.refl hs) (plainF rfl (rep_non.mpr rfl))
/-- a new list, a new tuple -/
theorem postL {Q : VK} {ds : List D} {vs : List V} {p : Addr} (hs : Same P H) (r : RepAll K T P ds vs) (hp : H p = none) (h : Post K T W .F P H σ (.ok (.lst ds)) Q) : Q (.ref p) (upd H p (.lst vs)) := by
  refine h _ P _ (Ext.fresh hs hp) ?_
  unfold RepM
  dsimp only
  rw [if_pos (show cont (D.lst ds) = true from rfl)]
  exact ⟨p, .lst vs, rfl, hp, hs.free hp, upd_same, vs, rfl, r⟩
theorem postU {Q : VK} {ds : List D} {vs : List V} {p : Addr} (hs : Same P H) (r : RepAll K T P ds vs) (hp : H p = none) (h : Post K T W .F P H σ (.ok (.tup ds)) Q) : Q (.ref p) (upd H p (.tup vs)) := by
  refine h _ _ _ (Ext.new hs hp (o := .tup vs)) (plainF rfl (rep_tup.mpr ⟨p, vs, rfl, upd_same, RepAll.mono (same_upd' (hs.free hp)) _ _ r⟩))
/-- what stands already -/
theorem postR {Q : VK} {d : D} (hs : Same P H) (hc : cont d = false) (r : Rep K T P d w) (h : Post K T W .F P H σ (.ok d) Q) : Q w H := h _ P H (Ext.refl hs) (plainF hc r)
theorem B_int {i : Int} (h : RepM K T .B H P' H' (.int i) w) : w = .int i := by
  rcases h with h | ⟨_, _, _, _, _, h⟩
  · exact rep_int.mp h
  · exact h.elim
theorem B_bl {i : Bool} (h : RepM K T .B H P' H' (.bl i) w) : w = .bl i := by
  rcases h with h | ⟨_, _, _, _, _, h⟩
  · exact rep_bl.mp h
  · exact h.elim
theorem B_non (h : RepM K T .B H P' H' .non w) : w = .non := by
  rcases h with h | ⟨_, _, _, _, _, h⟩
  · exact rep_non.mp h
  · exact h.elim
theorem B_str {s : List Nat} (h : RepM K T .B H P' H' (.str s) w) : w = strV s := by
  rcases h with h | ⟨_, _, _, _, _, h⟩
  · exact rep_str.mp h
  · exact h.elim
theorem B_tup {ds : List D} (hs : Same P' H') (h : RepM K T .B H P' H' (.tup ds) w) : ∃ a vs, w = .ref a ∧ P' a = some (.tup vs) ∧ H' a = some (.tup vs) ∧ RepAll K T P' ds vs := by
  rcases h with h | ⟨_, _, _, _, _, h⟩
  · obtain ⟨a, vs, h1, h2, h3⟩ := rep_tup.mp h
    exact ⟨a, vs, h1, h2, hs _ _ h2, h3⟩
  · exact h.elim
theorem B_lst {ds : List D} (hs : Same P' H') (h : RepM K T .B H P' H' (.lst ds) w) : ∃ a vs, w = .ref a ∧ H' a = some (.lst vs) ∧ RepAll K T P' ds vs := by
  rcases h with h | ⟨a, o, h1, _, h2, vs, rfl, h3⟩
  · obtain ⟨a, vs, h1, h2, h3⟩ := rep_lst.mp h
    exact ⟨a, vs, h1, hs _ _ h2, h3⟩
  · exact ⟨a, vs, h1, h2, h3⟩
theorem B_scr {ns : List Int} (hs : Same P' H') (h : RepM K T .B H P' H' (.scr ns) w) : ∃ a, w = .ref a ∧ SqL K H' a (ns.map V.int) := by
  rcases h with h | ⟨_, _, _, _, _, h⟩
  · obtain ⟨a, h1, h2⟩ := rep_scr.mp h
    exact ⟨a, h1, sql_mono hs h2⟩
  · exact h.elim
theorem B_dct {t : Nat} {kvs : List (D × D)} (hs : Same P' H') (h : RepM K T .B H P' H' (.dct t kvs) w) : ∃ a o, w = .ref a ∧ H' a = some o ∧ Own K T P' (.dct t kvs) o := by
  rcases h with h | ⟨a, o, h1, _, h2, h3⟩
  · obtain ⟨a, o, h1, h2, h3⟩ := (rep_own rfl).mp h
    exact ⟨a, o, h1, hs _ _ h2, h3⟩
  · exact ⟨a, o, h1, h2, h3⟩
/-- what is fresh can be made lasting -/
theorem freeze (hs : Same P H) {Q : V → Hp → Prop} (e : Ext P H P' H') (h : RepM K T .F H P' H' v w) (q : ∀ P2, Ext P H P2 H' → Rep K T P2 v w → Q w H') : Q w H' := by
  unfold RepM at h
  dsimp only at h
  by_cases c : cont v = true
  · rw [if_pos c] at h
    obtain ⟨a, o, rfl, h0, h2, h3, h4⟩ := h
    have pp : Same P' (upd P' a o) := same_upd' h2
    refine q (upd P' a o) ⟨e.pp.trans pp, e.hh, fun b x z => ?_, fun b z1 z2 => ?_⟩ ((rep_own c).mpr ⟨a, o, rfl, upd_same, Own.mono pp h4⟩)
    · by_cases hb : b = a
      · subst hb; rw [upd_same] at z; cases z; exact h3
      · rw [upd_ne hb] at z; exact e.ph _ _ z
    · have hb : b ≠ a := fun z => z1 (by rw [z]; exact h0)
      rw [upd_ne hb]; exact e.nw b z1 z2
  · rw [if_neg c] at h
    exact q P' e h
end

section
variable {X : Cx} {T : Tb} {W : WX} {m m' : Md} {ρ : List C} {a b c e : Expr} {es : List Expr} {da db dc : R D} {ca cb : R Bool} {pos : Pos} {k : Nat}
/-- a part, then the rest -/
theorem ev_bind {P H : Hp} {σ : L2.St} {Q : VK} {f : D → R D} {Q1 : VK} (ha : Ev X T W m ρ a da) (S : Sim X.K T P H σ ρ) (h : Post X.K T W m' P H σ (da.bind f) Q)
    (kk : ∀ v w P1 H1, Ext P H P1 H1 → Sim X.K T P1 H1 σ ρ → RepM X.K T m H P1 H1 v w → Post X.K T W m' P1 H1 σ (f v) Q → Q1 w H1) : wpE X a σ H Q1 := by
  refine ha P H σ Q1 S ?_
  cases da with
  | ok v => exact fun w P' H' e' r => kk v w P' H' e' (S.ext e') r (h.shift e')
  | ex x => exact fun cls dd H' s' r => h cls dd H' s' r
  | bad => exact h
theorem ev_bindT {P H : Hp} {σ : L2.St} {Q : Bool → Hp → Prop} {f : D → R Bool} {Q1 : VK} (ha : Ev X T W m ρ a da) (S : Sim X.K T P H σ ρ) (h : PostT T W P H σ (da.bind f) Q)
    (kk : ∀ v w P1 H1, Ext P H P1 H1 → Sim X.K T P1 H1 σ ρ → RepM X.K T m H P1 H1 v w → PostT T W P1 H1 σ (f v) Q → Q1 w H1) : wpE X a σ H Q1 := by
  refine ha P H σ Q1 S ?_
  cases da with
  | ok v => exact fun w P' H' e' r => kk v w P' H' e' (S.ext e') r (h.shift e')
  | ex x => exact fun cls dd H' s' r => h cls dd H' s' r
  | bad => exact h
theorem evT_bind {P H : Hp} {σ : L2.St} {Q : VK} {f : Bool → R D} {Q1 : Bool → Hp → Prop} (ha : EvT X T W ρ a ca) (S : Sim X.K T P H σ ρ) (h : Post X.K T W m' P H σ (ca.bind f) Q)
    (kk : ∀ v P1 H1, Ext P H P1 H1 → Sim X.K T P1 H1 σ ρ → Post X.K T W m' P1 H1 σ (f v) Q → Q1 v H1) : wpT X a σ H Q1 := by
  refine ha P H σ Q1 S ?_
  cases ca with
  | ok v => exact fun P' H' e' => kk v P' H' e' (S.ext e') (h.shift e')
  | ex x => exact fun cls dd H' s' r => h cls dd H' s' r
  | bad => exact h
theorem evT_bindT {P H : Hp} {σ : L2.St} {Q : Bool → Hp → Prop} {f : Bool → R Bool} {Q1 : Bool → Hp → Prop} (ha : EvT X T W ρ a ca) (S : Sim X.K T P H σ ρ) (h : PostT T W P H σ (ca.bind f) Q)
    (kk : ∀ v P1 H1, Ext P H P1 H1 → Sim X.K T P1 H1 σ ρ → PostT T W P1 H1 σ (f v) Q → Q1 v H1) : wpT X a σ H Q1 := by
  refine ha P H σ Q1 S ?_
  cases ca with
  | ok v => exact fun P' H' e' => kk v P' H' e' (S.ext e') (h.shift e')
  | ex x => exact fun cls dd H' s' r => h cls dd H' s' r
  | bad => exact h
/-! ### from mode to mode -/
theorem Ev.lasting (h : Ev X T W .F ρ a da) : Ev X T W .P ρ a da := fun P H σ Q S q => h P H σ Q S (by
  cases da with
  | ok v => exact fun w P' H' e' r => freeze (Q := Q) S.sub e' r fun P2 e2 r2 => q w P2 H' e2 r2
  | ex x => exact q
  | bad => exact q)
theorem Ev.loan (h : Ev X T W .P ρ a da) : Ev X T W .B ρ a da := fun P H σ Q S q => h P H σ Q S (by
  cases da with
  | ok v => exact fun w P' H' e' r => q w P' H' e' (.inl r)
  | ex x => exact q
  | bad => exact q)
theorem Ev.lend (h : Ev X T W .F ρ a da) : Ev X T W .B ρ a da := h.lasting.loan

/-! ### names, constants -/
theorem cell_at {K : PySem.W.Frag} {P H : Hp} {σ : L2.St} {i : Nat} {x : C} (S : Sim K T P H σ ρ) (hi : ρ[i]? = some x) : ∃ v, σ[i]? = some v ∧ CellOk K T P H x v := by
  have hl : i < σ.length := by rw [← S.len]; exact (List.getElem?_eq_some_iff.mp hi).1
  exact ⟨σ[i], List.getElem?_eq_getElem hl, S.cell i x _ hi (List.getElem?_eq_getElem hl)⟩
theorem ev_var {i : Nat} {x : Str} {d : D} (hi : ρ[i]? = some (.val d)) (hN : X.N[i]? = some x) (hv : Vis X.env.scope x) (hd : (x == ("__debug__" : Str)) = false) (hcd : (x == ("__classdict__" : Str)) = false) :
    Ev X T W .P ρ (.Name x pos) (.ok d) := fun P H σ Q S q => by
  obtain ⟨v, h1, w, rfl, h2⟩ := cell_at S hi
  exact wpE_of (pe_var hN hv hd hcd) ⟨w, h1, q w P H (Ext.refl S.sub) h2⟩
theorem ev_own {i : Nat} {x : Str} {d : D} (hi : ρ[i]? = some (.own d)) (hN : X.N[i]? = some x) (hv : Vis X.env.scope x) (hd : (x == ("__debug__" : Str)) = false) (hcd : (x == ("__classdict__" : Str)) = false) :
    Ev X T W .B ρ (.Name x pos) (.ok d) := fun P H σ Q S q => by
  obtain ⟨v, h1, a, o, rfl, h2, h3, h4⟩ := cell_at S hi
  exact wpE_of (pe_var hN hv hd hcd) ⟨_, h1, q _ P H (Ext.refl S.sub) (.inr ⟨a, o, rfl, h2, h3, h4⟩)⟩
theorem ev_int {i : Int} {j} : Ev X T W .F ρ (.Constant (.int i) j pos) (.ok (.int i)) := fun P H σ Q S q => wpE_of pe_int (postI S.sub q)
theorem ev_bl {b : Bool} {j} : Ev X T W .F ρ (.Constant (.bool b) j pos) (.ok (.bl b)) := fun P H σ Q S q => wpE_of pe_bl (postB S.sub q)
theorem ev_non {j} : Ev X T W .F ρ (.Constant .none j pos) (.ok .non) := fun P H σ Q S q => wpE_of pe_non (postN S.sub q)
theorem ev_str {s : List Nat} {x : Str} {j} (hx : x = ⟨s.toArray⟩) : Ev X T W .F ρ (.Constant (.str x) j pos) (.ok (.str s)) := fun P H σ Q S q => by subst hx; exact wpE_of pe_str (postS S.sub q)
/-- a whole number of the module -/
theorem ev_const {x : Str} {i : Int} {t : Tok} (hg : Gl X x) (hm : X.mg x = some (.int i t)) (hd : (x == ("__debug__" : Str)) = false) : Ev X T W .F ρ (.Name x pos) (.ok (.int i)) :=
  fun P H σ Q S q => wpE_of (pe_glob hg hm (v := .int i) ⟨t, rfl⟩ hd) (postI S.sub q)
/-- a def as a value -/
theorem ev_fn {x : Str} {f : Addr} {n : Nat} (hg : Gl X x) (hm : X.mg x = some (.ref f)) (hf : T.fn n = some f) (hd : (x == ("__debug__" : Str)) = false) : Ev X T W .F ρ (.Name x pos) (.ok (.fn n)) :=
  fun P H σ Q S q => wpE_of (pe_glob hg hm (v := .ref f) rfl hd) (postR S.sub rfl (rep_fn.mpr ⟨f, hf, rfl⟩) q)

/-! ### operators of two -/
/-- what an operator's rule wants, from what the operation comes to -/
def Does2 (X : Cx) (T : Tb) (W : WX) (r : R2) (f : D → D → R D) : Prop := ∀ P H σ x y v w Q, Same P H → RepM X.K T .B H P H x v → RepM X.K T .B H P H y w → Post X.K T W .F P H σ (f x y) Q → r v w H Q
theorem ev_bin {op : Operator} {r : R2} {f : D → D → R D} (ho : OpR X (binaryOp op) r) (hf : Does2 X T W r f) (ha : Ev X T W .B ρ a da) (hb : Ev X T W .B ρ b db) :
    Ev X T W .F ρ (.BinOp a op b pos) (op2 f da db) := fun P H σ Q S q => by
  refine wpE_of (pe_op ho pw pw) ?_
  refine ev_bind ha S q fun x v P1 H1 e1 S1 r1 q1 => ?_
  refine ev_bind hb S1 q1 fun y w P2 H2 e2 S2 r2 q2 => ?_
  exact hf P2 H2 σ x y v w Q S2.sub (r1.to e2 (by simp)) r2 q2
def DoesC (X : Cx) (T : Tb) (r : R2) (f : D → D → R Bool) : Prop := ∀ P H x y v w Q, Same P H → RepM X.K T .B H P H x v → RepM X.K T .B H P H y w → (∀ b, f x y = .ok b → ∀ P' H', Ext P H P' H' → Q (.bl b) H') → (∃ b, f x y = .ok b) → r v w H Q
theorem ok_of {W : WX} {P H : Hp} {σ : L2.St} {c : R Bool} {Q : Bool → Hp → Prop} (h : PostT T W P H σ c Q) (hn : ∀ e, c ≠ .ex e) : (∃ b, c = .ok b) ∧ ∀ b, c = .ok b → ∀ P' H', Ext P H P' H' → Q b H' := by
  cases c with
  | ok b => exact ⟨⟨b, rfl⟩, fun b' e => by cases e; exact h⟩
  | ex e => exact absurd rfl (hn e)
  | bad => exact h.elim
theorem evT_cmp {op : CmpOp} {r : R2} {f : D → D → R Bool} (ho : OpR X (compareOp op) r) (hf : DoesC X T r f) (hn : ∀ x y e, f x y ≠ .ex e) (hm : behindInMarks op b = false) (ha : Ev X T W .B ρ a da) (hb : Ev X T W .B ρ b db) :
    EvT X T W ρ (.Compare a [op] [b] pos) (op2 f da db) := fun P H σ Q S q => by
  refine wpT_of (pt_cmpR ho pw pw hm) ?_
  refine ev_bindT ha S q fun x v P1 H1 e1 S1 r1 q1 => ?_
  refine ev_bindT hb S1 q1 fun y w P2 H2 e2 S2 r2 q2 => ?_
  obtain ⟨h1, h2⟩ := ok_of q2 (hn x y)
  exact hf P2 H2 x y v w _ S2.sub (r1.to e2 (by simp)) r2 (fun b hb P' H' e' => ⟨b, rfl, h2 b hb P' H' e'⟩) h1
theorem okD_of {W : WX} {P H : Hp} {σ : L2.St} {c : R Bool} {Q : VK} (h : Post X.K T W .F P H σ (blE c) Q) (hn : ∀ e, c ≠ .ex e) : (∃ b, c = .ok b) ∧ ∀ b, c = .ok b → ∀ P' H', Ext P H P' H' → Q (.bl b) H' := by
  cases c with
  | ok b => exact ⟨⟨b, rfl⟩, fun b' e => by cases e; exact fun P' H' e' => h _ P' H' e' (plainF rfl (rep_bl.mpr rfl))⟩
  | ex e => exact absurd rfl (hn e)
  | bad => exact h.elim
theorem blE_bind {f : D → R Bool} : blE (da.bind f) = da.bind fun x => blE (f x) := by cases da <;> rfl
theorem ev_cmp {op : CmpOp} {r : R2} {f : D → D → R Bool} (ho : OpR X (compareOp op) r) (hf : DoesC X T r f) (hn : ∀ x y e, f x y ≠ .ex e) (hm : behindInMarks op b = false) (ha : Ev X T W .B ρ a da) (hb : Ev X T W .B ρ b db) :
    Ev X T W .F ρ (.Compare a [op] [b] pos) (blE (op2 f da db)) := fun P H σ Q S q => by
  refine wpE_of (pe_cmpR ho pw pw hm) ?_
  unfold op2 at q
  rw [blE_bind] at q
  refine ev_bind ha S q fun x v P1 H1 e1 S1 r1 q1 => ?_
  rw [blE_bind] at q1
  refine ev_bind hb S1 q1 fun y w P2 H2 e2 S2 r2 q2 => ?_
  obtain ⟨h1, h2⟩ := okD_of q2 (hn x y)
  exact hf P2 H2 x y v w _ S2.sub (r1.to e2 (by simp)) r2 h2 h1
/-- a < b < c -/
theorem ev_chain {op op' : CmpOp} {r r' : R2} {f g : D → D → R Bool} (ho : OpR X (compareOp op) r) (ho' : OpR X (compareOp op') r') (hf : DoesC X T r f) (hg : DoesC X T r' g) (hn : ∀ x y e, f x y ≠ .ex e) (hn' : ∀ x y e, g x y ≠ .ex e)
    (ha : Ev X T W .B ρ a da) (hb : Ev X T W .B ρ b db) (hc : Ev X T W .B ρ c dc)
    (hl : lastMarks [op, op'] [b, c] = false) : Ev X T W .F ρ (.Compare a [op, op'] [b, c] pos) (blE (chainR f g da db dc)) := fun P H σ Q S q => by
  refine wpE_of (pe_chain ho ho' pw pw pw hl) ?_
  unfold chainR at q
  rw [blE_bind] at q
  refine ev_bind ha S q fun x v P1 H1 e1 S1 r1 q1 => ?_
  rw [blE_bind] at q1
  refine ev_bind hb S1 q1 fun y w P2 H2 e2 S2 r2 q2 => ?_
  cases hk : f x y with
  | ex e => exact absurd hk (hn x y e)
  | bad => rw [hk] at q2; exact q2.elim
  | ok k =>
    rw [hk] at q2
    refine hf P2 H2 x y v w _ S2.sub (r1.to e2 (by simp)) r2 (fun b hb P3 H3 e3 => ⟨b, rfl, ?_⟩) ⟨k, hk⟩
    have ek : k = b := by rw [hk] at hb; cases hb; rfl
    subst ek
    have q3 := q2.shift e3
    have S3 := S2.ext e3
    cases k with
    | false =>
      rw [if_neg (by decide)]
      exact postB S3.sub q3
    | true =>
      rw [if_pos rfl]
      have q3' : Post X.K T W .F P3 H3 σ (blE (dc.bind fun z => g y z)) Q := q3
      rw [blE_bind] at q3'
      refine ev_bind hc S3 q3' fun z u P4 H4 e4 S4 r4 q4 => ?_
      obtain ⟨h1, h2⟩ := okD_of q4 (hn' y z)
      exact hg P4 H4 y z w u _ S4.sub ((r2.to e3 (by simp)).to e4 (by simp)) r4 h2 h1
theorem evT_chain {op op' : CmpOp} {r r' : R2} {f g : D → D → R Bool} (ho : OpR X (compareOp op) r) (ho' : OpR X (compareOp op') r') (hf : DoesC X T r f) (hg : DoesC X T r' g) (hn : ∀ x y e, f x y ≠ .ex e) (hn' : ∀ x y e, g x y ≠ .ex e)
    (ha : Ev X T W .B ρ a da) (hb : Ev X T W .B ρ b db) (hc : Ev X T W .B ρ c dc)
    (hl : lastMarks [op, op'] [b, c] = false) : EvT X T W ρ (.Compare a [op, op'] [b, c] pos) (chainR f g da db dc) := fun P H σ Q S q => by
  refine wpT_of (pt_chain ho ho' pw pw pw hl) ?_
  refine ev_bindT ha S q fun x v P1 H1 e1 S1 r1 q1 => ?_
  refine ev_bindT hb S1 q1 fun y w P2 H2 e2 S2 r2 q2 => ?_
  cases hk : f x y with
  | ex e => exact absurd hk (hn x y e)
  | bad => rw [hk] at q2; exact q2.elim
  | ok k =>
    rw [hk] at q2
    refine hf P2 H2 x y v w _ S2.sub (r1.to e2 (by simp)) r2 (fun b hb P3 H3 e3 => ⟨b, rfl, ?_⟩) ⟨k, hk⟩
    have ek : k = b := by rw [hk] at hb; cases hb; rfl
    subst ek
    have q3 := q2.shift e3
    have S3 := S2.ext e3
    cases k with
    | false =>
      rw [if_neg (by decide)]
      exact ⟨false, rfl, q3 P3 H3 (Ext.refl S3.sub)⟩
    | true =>
      rw [if_pos rfl]
      refine ev_bindT hc S3 q3 fun z u P4 H4 e4 S4 r4 q4 => ?_
      obtain ⟨h1, h2⟩ := ok_of q4 (hn' y z)
      exact hg P4 H4 y z w u _ S4.sub ((r2.to e3 (by simp)).to e4 (by simp)) r4 (fun b hb P' H' e' => ⟨b, rfl, h2 b hb P' H' e'⟩) h1
end
end Fj

/-! ## Lay3 -/
namespace Fj
open PySem PySem.Spec PyProof.Rows L2

theorem most_le {n : Nat} (h : n ≤ most) : n ≤ sizeLine := Nat.le_trans h (by rw [sizeLine_eq]; decide)
theorem most_lt {n : Nat} (h : n ≤ most) : n < sizeLine := Nat.lt_of_le_of_lt h (by rw [sizeLine_eq]; decide)
theorem str_len (s : List Nat) : (⟨s.toArray⟩ : Str).length = s.length := by simp [Str.length]

section
variable {X : Cx} {T : Tb} {W : WX} {k : Nat}
/-! ### + - * and the others -/
theorem op_addR : OpR X (binaryOp .Add) (fun x y H Q => (rI0 fun i j => .int (i + j)) x y H Q ∨ ((fun x y H Q => ∃ i j, x = .str i ∧ y = .str j ∧ i.length + j.length ≤ sizeLine ∧ Q (.str (i ++ j)) H) x y H Q ∨ (rCat x y H Q ∨ rCatA X.K x y H Q))) :=
  op_add.or (op_add_str.or (op_cat.or op_catA))
theorem str_app (a b : List Nat) : (⟨a.toArray⟩ : Str) ++ (⟨b.toArray⟩ : Str) = ⟨(a ++ b).toArray⟩ := by
  show (Str.mk _) = _
  simp
theorem does_add : Does2 X T W (fun x y H Q => (rI0 fun i j => .int (i + j)) x y H Q ∨ ((fun x y H Q => ∃ i j, x = .str i ∧ y = .str j ∧ i.length + j.length ≤ sizeLine ∧ Q (.str (i ++ j)) H) x y H Q ∨ (rCat x y H Q ∨ rCatA X.K x y H Q))) addR := fun P H σ x y v w Q hs rx ry h => by
  show (rI0 fun i j => .int (i + j)) v w H Q ∨ ((fun x y H Q => ∃ i j, x = .str i ∧ y = .str j ∧ i.length + j.length ≤ sizeLine ∧ Q (.str (i ++ j)) H) v w H Q ∨ (rCat v w H Q ∨ rCatA X.K v w H Q))
  unfold addR at h
  split at h
  · obtain rfl := B_int rx
    obtain rfl := B_int ry
    exact .inl ⟨_, _, rfl, rfl, postI hs h⟩
  · obtain rfl := B_str rx
    obtain rfl := B_str ry
    split at h
    · rename_i hl
      refine .inr (.inl ⟨_, _, rfl, rfl, by rw [str_len, str_len]; exact most_le hl, ?_⟩)
      rw [str_app]
      exact postS hs h
    · exact h.elim
  · obtain ⟨a, vs, rfl, h1, h2⟩ := B_lst hs rx
    obtain ⟨b, ws, rfl, h3, h4⟩ := B_lst hs ry
    split at h
    · rename_i hl
      exact .inr (.inr (.inl ⟨a, b, vs, ws, rfl, rfl, h1, h3, by rw [h2.length, h4.length]; exact most_le hl, fun p hp => postL hs (h2.append h4) hp h⟩))
    · exact h.elim
  · obtain ⟨a, vs, rfl, h1, h1', h2⟩ := B_tup hs rx
    obtain ⟨b, ws, rfl, h3, h3', h4⟩ := B_tup hs ry
    split at h
    · rename_i hl
      refine .inr (.inr (.inr ⟨a, b, vs, ws, rfl, rfl, SqT.of h1', SqT.of h3', by rw [h2.length, h4.length]; exact most_le hl, fun e => ?_, fun e e' => ?_, fun e e' p hp => postU hs (h2.append h4) hp h⟩))
      · refine postR hs rfl ?_ h
        have := h2.length; rw [e] at this
        have e2 := List.eq_nil_of_length_eq_zero this.symm
        subst e2
        exact rep_tup.mpr ⟨b, ws, rfl, h3, h4⟩
      · refine postR hs rfl ?_ h
        have := h4.length; rw [e'] at this
        have e2 := List.eq_nil_of_length_eq_zero this.symm
        subst e2
        rw [List.append_nil]
        exact rep_tup.mpr ⟨a, vs, rfl, h1, h2⟩
    · exact h.elim
  · exact h.elim
theorem does_sub : Does2 X T W (rI0 fun i j => .int (i - j)) subR := fun P H σ x y v w Q hs rx ry h => by
  unfold subR at h
  split at h
  · obtain rfl := B_int rx
    obtain rfl := B_int ry
    exact ⟨_, _, rfl, rfl, postI hs h⟩
  · exact h.elim
theorem small_iff {i : Int} (h : small i = true) : -(2 ^ 64) < i ∧ i < 2 ^ 64 := by
  unfold small at h
  simpa using h
theorem small_abs {i : Int} (h : small i = true) : i.natAbs < 2 ^ 64 := by
  have := small_iff h; omega
theorem op_mulR : OpR X (binaryOp .Mult) (fun x y H Q => rI CMul (fun i j => .int (i * j)) x y H Q ∨ rRep x y H Q) := op_mul.or op_rep
theorem does_mul : Does2 X T W (fun x y H Q => rI CMul (fun i j => .int (i * j)) x y H Q ∨ rRep x y H Q) mulR := fun P H σ x y v w Q hs rx ry h => by
  unfold mulR at h
  split at h
  · obtain rfl := B_int rx
    obtain rfl := B_int ry
    split at h
    · rename_i hc
      refine .inl ⟨_, _, rfl, rfl, ?_, postI hs h⟩
      rcases Bool.or_eq_true_iff.mp hc with c | c
      · exact .inl (small_iff c)
      · exact .inr (small_iff c)
    · exact h.elim
  · obtain ⟨a, vs, rfl, h1, h2⟩ := B_lst hs rx
    obtain rfl := B_int ry
    split at h
    · rename_i hc
      simp only [Bool.and_eq_true, decide_eq_true_eq] at hc
      exact .inr ⟨a, _, vs, rfl, rfl, h1, by omega, by omega, by rw [h2.length]; exact most_le hc.1.1.2, fun p hp => postL hs (h2.rep _) hp h⟩
    · exact h.elim
  · exact h.elim
theorem does_fdiv : Does2 X T W (rI CDiv fun i j => .int (i / j)) fdivR := fun P H σ x y v w Q hs rx ry h => by
  unfold fdivR at h
  split at h
  · obtain rfl := B_int rx
    obtain rfl := B_int ry
    split at h
    · rename_i hc
      simp only [Bool.and_eq_true, decide_eq_true_eq] at hc
      exact ⟨_, _, rfl, rfl, ⟨hc.1, by omega⟩, postI hs h⟩
    · exact h.elim
  · exact h.elim
theorem does_mod : Does2 X T W (rI (fun _ j => 0 < j) fun i j => .int (i % j)) modR := fun P H σ x y v w Q hs rx ry h => by
  unfold modR at h
  split at h
  · obtain rfl := B_int rx
    obtain rfl := B_int ry
    split at h
    · rename_i hc
      exact ⟨_, _, rfl, rfl, hc, postI hs h⟩
    · exact h.elim
  · exact h.elim
theorem does_pow : Does2 X T W (rI CPow fun i j => .int (i ^ j.toNat)) powR := fun P H σ x y v w Q hs rx ry h => by
  unfold powR at h
  split at h
  · obtain rfl := B_int rx
    obtain rfl := B_int ry
    split at h
    · rename_i hc
      simp only [Bool.and_eq_true, decide_eq_true_eq] at hc
      exact ⟨_, _, rfl, rfl, ⟨hc.1.2, by omega, small_abs hc.1.1⟩, postI hs h⟩
    · exact h.elim
  · exact h.elim
theorem does_shl : Does2 X T W (rI CPow fun i j => .int (i * 2 ^ j.toNat)) shlR := fun P H σ x y v w Q hs rx ry h => by
  unfold shlR at h
  split at h
  · obtain rfl := B_int rx
    obtain rfl := B_int ry
    split at h
    · rename_i hc
      simp only [Bool.and_eq_true, decide_eq_true_eq] at hc
      exact ⟨_, _, rfl, rfl, ⟨hc.1.2, by omega, small_abs hc.1.1⟩, postI hs h⟩
    · exact h.elim
  · exact h.elim
theorem does_shr : Does2 X T W (rI (fun _ j => 0 ≤ j) fun i j => .int (i / 2 ^ j.toNat)) shrR := fun P H σ x y v w Q hs rx ry h => by
  unfold shrR at h
  split at h
  · obtain rfl := B_int rx
    obtain rfl := B_int ry
    split at h
    · rename_i hc
      exact ⟨_, _, rfl, rfl, hc, postI hs h⟩
    · exact h.elim
  · exact h.elim
theorem does_bit {g : Int → Int → Int} {f : Nat → Nat → Nat} (e : ∀ i j : Int, 0 ≤ i → 0 ≤ j → g i j = (f i.toNat j.toNat : Nat)) : Does2 X T W (rI0 fun i j => .int (g i j)) (bitR f) := fun P H σ x y v w Q hs rx ry h => by
  unfold bitR at h
  split at h
  · obtain rfl := B_int rx
    obtain rfl := B_int ry
    split at h
    · rename_i hc
      simp only [Bool.and_eq_true, decide_eq_true_eq] at hc
      refine ⟨_, _, rfl, rfl, ?_⟩
      show Q (.int (g _ _)) H
      rw [e _ _ hc.1 hc.2]
      exact postI hs h
    · exact h.elim
  · exact h.elim
theorem does_band : Does2 X T W (rI0 fun i j => .int (Builtin.bitAnd i j)) bandR := does_bit fun i j h1 h2 => bitAnd_pp h1 h2
theorem does_bor : Does2 X T W (rI0 fun i j => .int (Builtin.bitOr i j)) borR := does_bit fun i j h1 h2 => Bits.bitOr_pp h1 h2
theorem does_bxor : Does2 X T W (rI0 fun i j => .int (Builtin.bitXor i j)) bxorR := does_bit fun i j h1 h2 => Bits.bitXor_pp h1 h2

theorem does_un {a : Expr} {ρ : List C} {da : R D} {pos : Pos} (ha : Ev X T W .B ρ a da) : Ev X T W .F ρ (.UnaryOp .USub a pos) (op1 negR da) := fun P H σ Q S q => by
  refine wpE_of (pe_un un_neg pw) ?_
  refine ev_bind ha S q fun x v P1 H1 e1 S1 r1 q1 => ?_
  unfold negR at q1
  split at q1
  · obtain rfl := B_int r1
    exact ⟨_, rfl, postI S1.sub q1⟩
  · exact q1.elim

/-! ### data, == -/
mutual
def toPy : D → PyData
  | .non => .none
  | .bl b => .bool b
  | .int i => .int i
  | .str s => .str ⟨s.toArray⟩
  | .tup xs => .tuple (toPys xs)
  | .lst xs => .list (toPys xs)
  | _ => .none
def toPys : List D → List PyData
  | [] => []
  | x :: xs => toPy x :: toPys xs
end
mutual
theorem dp_of {K : PySem.W.Frag} {P H : Hp} (hs : Same P H) : ∀ (d : D) (w : V), plainD d = true → Rep K T P d w → Dp K H w (toPy d)
  | .non, _, _, r => by rw [rep_non.mp r]; exact .non
  | .bl b, _, _, r => by rw [rep_bl.mp r]; exact .bl b
  | .int i, _, _, r => by rw [rep_int.mp r]; exact .int i
  | .str s, _, _, r => by rw [rep_str.mp r]; exact .str _
  | .tup xs, _, h, r => by
    obtain ⟨a, vs, rfl, h1, h2⟩ := rep_tup.mp r
    exact .tup (SqT.of (hs _ _ h1)) (dpAll_of hs xs vs (by simpa [plainD] using h) h2)
  | .lst xs, _, h, r => by
    obtain ⟨a, vs, rfl, h1, h2⟩ := rep_lst.mp r
    exact .lst (SqL.of (hs _ _ h1)) (dpAll_of hs xs vs (by simpa [plainD] using h) h2)
  | .dct _ _, _, h, _ => by simp [plainD] at h
  | .fn _, _, h, _ => by simp [plainD] at h
  | .exc _ _, _, h, _ => by simp [plainD] at h
  | .scr _, _, h, _ => by simp [plainD] at h
theorem dpAll_of {K : PySem.W.Frag} {P H : Hp} (hs : Same P H) : ∀ (ds : List D) (ws : List V), plainDs ds = true → RepAll K T P ds ws → DpAll K H ws (toPys ds)
  | [], _, _, r => by unfold RepAll at r; subst r; exact .nil
  | d :: ds, _, h, r => by
    unfold RepAll at r
    obtain ⟨v, t, rfl, h1, h2⟩ := r
    have h' : plainD d = true ∧ plainDs ds = true := by simpa [plainDs] using h
    exact .cons (dp_of hs d v h'.1 h1) (dpAll_of hs ds t h'.2 h2)
end
theorem dpB_of {K : PySem.W.Frag} {P H H0 : Hp} (hs : Same P H) {d : D} {w : V} (h : plainD d = true) (r : RepM K T .B H0 P H d w) : Dp K H w (toPy d) := by
  rcases r with r | ⟨a, o, rfl, _, h2, h3⟩
  · exact dp_of hs d w h r
  · cases d with
    | lst ds =>
      obtain ⟨vs, rfl, h4⟩ := h3
      exact .lst (SqL.of h2) (dpAll_of hs ds vs (by simpa [plainD] using h) h4)
    | dct t kvs => simp [plainD] at h
    | _ => exact h3.elim
mutual
theorem eqv_of : ∀ (x y : D), plainD x = true → plainD y = true → PyData.eqv (toPy x) (toPy y) = eqD x y
  | .non, y, _, hy => by cases y <;> first | rfl | (simp [plainD] at hy; done) | simp [toPy, PyData.eqv, eqD]
  | .bl a, y, _, hy => by cases y <;> first | (simp [plainD] at hy; done) | simp [toPy, PyData.eqv, eqD, b2]
  | .int a, y, _, hy => by cases y <;> first | (simp [plainD] at hy; done) | simp [toPy, PyData.eqv, eqD, b2]
  | .str a, y, _, hy => by
    cases y <;> first
      | (simp [plainD] at hy; done)
      | (simp [toPy, PyData.eqv, eqD]; done)
      | (simp only [toPy, PyData.eqv, eqD]
         rw [Bool.eq_iff_iff]
         simp)
  | .tup xs, y, hx, hy => by
    cases y <;> first
      | (simp [plainD] at hy; done)
      | (simp [toPy, PyData.eqv, eqD]; done)
      | (simp only [toPy, PyData.eqv, eqD]
         exact eqvs_of xs _ (by simpa [plainD] using hx) (by simpa [plainD] using hy))
  | .lst xs, y, hx, hy => by
    cases y <;> first
      | (simp [plainD] at hy; done)
      | (simp [toPy, PyData.eqv, eqD]; done)
      | (simp only [toPy, PyData.eqv, eqD]
         exact eqvs_of xs _ (by simpa [plainD] using hx) (by simpa [plainD] using hy))
  | .dct _ _, _, h, _ => by simp [plainD] at h
  | .fn _, _, h, _ => by simp [plainD] at h
  | .exc _ _, _, h, _ => by simp [plainD] at h
  | .scr _, _, h, _ => by simp [plainD] at h
theorem eqvs_of : ∀ (xs ys : List D), plainDs xs = true → plainDs ys = true → PyData.eqvAll (toPys xs) (toPys ys) = eqDs xs ys
  | [], [], _, _ => rfl
  | [], _ :: _, _, _ => rfl
  | _ :: _, [], _, _ => rfl
  | x :: xs, y :: ys, hx, hy => by
    have h1 : plainD x = true ∧ plainDs xs = true := by simpa [plainDs] using hx
    have h2 : plainD y = true ∧ plainDs ys = true := by simpa [plainDs] using hy
    simp only [toPys, PyData.eqvAll, eqDs]
    rw [eqv_of x y h1.1 h2.1, eqvs_of xs ys h1.2 h2.2]
end
mutual
theorem lay_of : ∀ d : D, plainD d = true → (toPy d).canLay0 = true
  | .non, _ => rfl
  | .bl _, _ => rfl
  | .int _, _ => rfl
  | .str s, h => by
    show PyData.strOk _ = true
    unfold PyData.strOk
    simpa [plainD] using h
  | .tup xs, h => by
    simp only [toPy, PyData.canLay0]
    exact lays_of xs (by simpa [plainD] using h)
  | .lst xs, h => by
    simp only [toPy, PyData.canLay0]
    exact lays_of xs (by simpa [plainD] using h)
  | .dct _ _, h => by simp [plainD] at h
  | .fn _, h => by simp [plainD] at h
  | .exc _ _, h => by simp [plainD] at h
  | .scr _, h => by simp [plainD] at h
theorem lays_of : ∀ ds : List D, plainDs ds = true → PyData.canLayAll0 (toPys ds) = true
  | [], _ => rfl
  | d :: ds, h => by
    have h1 : plainD d = true ∧ plainDs ds = true := by simpa [plainDs] using h
    simp only [toPys, PyData.canLayAll0]
    rw [lay_of d h1.1, lays_of ds h1.2]
    rfl
end
mutual
theorem dep_of : ∀ d : D, (toPy d).depth ≤ depD d
  | .non => Nat.le_refl _
  | .bl _ => Nat.le_refl _
  | .int _ => Nat.le_refl _
  | .str _ => Nat.le_refl _
  | .tup xs => by
    simp only [toPy, PyData.depth, depD]
    exact Nat.succ_le_succ (deps_of xs)
  | .lst xs => by
    simp only [toPy, PyData.depth, depD]
    exact Nat.succ_le_succ (deps_of xs)
  | .dct _ _ => by simp [toPy, PyData.depth]
  | .fn _ => by simp [toPy, PyData.depth]
  | .exc _ _ => by simp [toPy, PyData.depth]
  | .scr _ => by simp [toPy, PyData.depth]
theorem deps_of : ∀ ds : List D, PyData.depthAll (toPys ds) ≤ depDs ds
  | [] => Nat.le_refl _
  | d :: ds => by
    simp only [toPys, PyData.depthAll, depDs]
    have h1 := dep_of d
    have h2 := deps_of ds
    omega
end
theorem fit_plain {d : D} (h : fitD d = true) : plainD d = true := by unfold fitD at h; exact (Bool.and_eq_true_iff.mp h).1
theorem fit_shaped {d : D} (h : fitD d = true) : SeqAt.shaped (toPy d) = true := by
  have h1 := fit_plain h
  unfold fitD at h
  have h2 : depD d ≤ 60 := of_decide_eq_true (Bool.and_eq_true_iff.mp h).2
  unfold SeqAt.shaped
  rw [lay_of d h1, Bool.true_and]
  exact decide_eq_true (by have := dep_of d; omega)
theorem op_eqQ (g : Gd X k) : OpR X (compareOp .Eq) (rEqD X.K) := op_eqD g.room.units
theorem op_neQ (g : Gd X k) : OpR X (compareOp .NotEq) (rNeD X.K) := op_neD g.room.units
theorem does_eq : DoesC X T (rEqD X.K) eqR := fun P H x y v w Q hs rx ry h he => by
  obtain ⟨b, hb⟩ := he
  unfold eqR at hb h
  split at hb
  · rename_i hc
    rw [if_pos hc] at h
    obtain ⟨h1, h2⟩ := Bool.and_eq_true_iff.mp hc
    refine ⟨toPy x, toPy y, dpB_of hs (fit_plain h1) rx, dpB_of hs (fit_plain h2) ry, fit_shaped h1, fit_shaped h2, ?_⟩
    rw [eqv_of x y (fit_plain h1) (fit_plain h2)]
    exact h _ rfl P H (Ext.refl hs)
  · cases hb
theorem does_ne : DoesC X T (rNeD X.K) neR := fun P H x y v w Q hs rx ry h he => by
  obtain ⟨b, hb⟩ := he
  unfold neR at hb h
  split at hb
  · rename_i hc
    rw [if_pos hc] at h
    obtain ⟨h1, h2⟩ := Bool.and_eq_true_iff.mp hc
    refine ⟨toPy x, toPy y, dpB_of hs (fit_plain h1) rx, dpB_of hs (fit_plain h2) ry, fit_shaped h1, fit_shaped h2, ?_⟩
    rw [eqv_of x y (fit_plain h1) (fit_plain h2)]
    exact h _ rfl P H (Ext.refl hs)
  · cases hb
theorem nx_eq (x y e : D) : eqR x y ≠ .ex e := by unfold eqR; split <;> simp
theorem nx_ne (x y e : D) : neR x y ≠ .ex e := by unfold neR; split <;> simp
/-! ### < <= > >= -/
theorem op_ltQ (g : Gd X k) : OpR X (compareOp .Lt) (fun x y H Q => (rI0 fun i j => .bl (decide (i < j))) x y H Q ∨ rLtT X.K x y H Q) := op_lt.or (op_ltT g.room.units0)
theorem lexLt_eq : ∀ a b : List Int, HT.lexLt a b = lexLt a b
  | [], [] => rfl
  | [], _ :: _ => rfl
  | _ :: _, [] => rfl
  | x :: xs, y :: ys => by rw [HT.lexLt_cons, lexLt, lexLt_eq xs ys]
theorem does_lt : DoesC X T (fun x y H Q => (rI0 fun i j => .bl (decide (i < j))) x y H Q ∨ rLtT X.K x y H Q) ltR := fun P H x y v w Q hs rx ry h he => by
  obtain ⟨b, hb⟩ := he
  unfold ltR at hb
  split at hb
  · obtain rfl := B_int rx
    obtain rfl := B_int ry
    exact .inl ⟨_, _, rfl, rfl, h _ rfl P H (Ext.refl hs)⟩
  · split at hb
    · rename_i xs ys c d ea eb
      obtain ⟨a, vs, rfl, h1, h1', h2⟩ := B_tup hs rx
      obtain ⟨b', ws, rfl, h3, h3', h4⟩ := B_tup hs ry
      have e1 := repAll_intsD ea h2
      have e2 := repAll_intsD eb h4
      subst e1 e2
      refine .inr ⟨a, b', _, _, rfl, rfl, SqT.of h1', SqT.of h3', ?_⟩
      rw [lexLt_eq]
      refine h _ ?_ P H (Ext.refl hs)
      unfold ltR
      simp only [ea, eb]
    · cases hb
  · cases hb
theorem does_le : DoesC X T (rI0 fun i j => .bl (decide (i ≤ j))) leR := fun P H x y v w Q hs rx ry h he => by
  obtain ⟨b, hb⟩ := he
  unfold leR at hb
  split at hb
  · obtain rfl := B_int rx
    obtain rfl := B_int ry
    exact ⟨_, _, rfl, rfl, h _ rfl P H (Ext.refl hs)⟩
  · cases hb
theorem does_gt : DoesC X T (rI0 fun i j => .bl (decide (j < i))) gtR := fun P H x y v w Q hs rx ry h he => by
  obtain ⟨b, hb⟩ := he
  unfold gtR at hb
  split at hb
  · obtain rfl := B_int rx
    obtain rfl := B_int ry
    exact ⟨_, _, rfl, rfl, h _ rfl P H (Ext.refl hs)⟩
  · cases hb
theorem does_ge : DoesC X T (rI0 fun i j => .bl (decide (j ≤ i))) geR := fun P H x y v w Q hs rx ry h he => by
  obtain ⟨b, hb⟩ := he
  unfold geR at hb
  split at hb
  · obtain rfl := B_int rx
    obtain rfl := B_int ry
    exact ⟨_, _, rfl, rfl, h _ rfl P H (Ext.refl hs)⟩
  · cases hb
theorem nx_lt (x y e : D) : ltR x y ≠ .ex e := by unfold ltR; split <;> (try split) <;> simp
theorem nx_le (x y e : D) : leR x y ≠ .ex e := by unfold leR; split <;> simp
theorem nx_gt (x y e : D) : gtR x y ≠ .ex e := by unfold gtR; split <;> simp
theorem nx_ge (x y e : D) : geR x y ≠ .ex e := by unfold geR; split <;> simp
/-! ### is None -/
theorem isNon_of {K : PySem.W.Frag} {P H H0 : Hp} {x : D} {v : V} (r : RepM K T .B H0 P H x v) : decide (v = V.non) = isNon x := by
  rcases r with r | ⟨a, o, rfl, _, _, h3⟩
  · cases x with
    | non => rw [rep_non.mp r]; rfl
    | bl b => rw [rep_bl.mp r]; rfl
    | int b => rw [rep_int.mp r]; rfl
    | str b => rw [rep_str.mp r]; rfl
    | tup b => obtain ⟨_, _, rfl, _⟩ := rep_tup.mp r; rfl
    | lst b => obtain ⟨_, _, rfl, _⟩ := rep_lst.mp r; rfl
    | dct t b => obtain ⟨_, _, rfl, _⟩ := (rep_own rfl).mp r; rfl
    | fn b => obtain ⟨_, _, rfl⟩ := rep_fn.mp r; rfl
    | exc b c => unfold Rep at r; obtain ⟨_, _, rfl⟩ := r; rfl
    | scr b => obtain ⟨_, rfl, _⟩ := rep_scr.mp r; rfl
  · cases x with
    | lst b => rfl
    | dct t b => rfl
    | _ => exact h3.elim
theorem evT_isN {a : Expr} {ρ : List C} {da : R D} {pos pos' : Pos} {j} (ha : Ev X T W .B ρ a da) : EvT X T W ρ (.Compare a [.Is] [.Constant .none j pos'] pos) (op1 isR da) := fun P H σ Q S q => by
  refine wpT_of (pt_cmp (pc_isN pw)) ?_
  refine ev_bindT ha S q fun x v P1 H1 e1 S1 r1 q1 => ⟨_, rfl, ?_⟩
  rw [isNon_of r1]
  exact q1 P1 H1 (Ext.refl S1.sub)
theorem evT_notN {a : Expr} {ρ : List C} {da : R D} {pos pos' : Pos} {j} (ha : Ev X T W .B ρ a da) : EvT X T W ρ (.Compare a [.IsNot] [.Constant .none j pos'] pos) (op1 isNotR da) := fun P H σ Q S q => by
  refine wpT_of (pt_cmp (pc_notN pw)) ?_
  refine ev_bindT ha S q fun x v P1 H1 e1 S1 r1 q1 => ⟨_, rfl, ?_⟩
  rw [isNon_of r1]
  exact q1 P1 H1 (Ext.refl S1.sub)
theorem ev_isN {a : Expr} {ρ : List C} {da : R D} {pos pos' : Pos} {j} (ha : Ev X T W .B ρ a da) : Ev X T W .F ρ (.Compare a [.Is] [.Constant .none j pos'] pos) (blE (op1 isR da)) := fun P H σ Q S q => by
  refine wpE_of (pe_cmp (pc_isN pw)) ?_
  unfold op1 at q
  rw [blE_bind] at q
  refine ev_bind ha S q fun x v P1 H1 e1 S1 r1 q1 => ?_
  rw [isNon_of r1]
  exact postB S1.sub q1
theorem ev_notN {a : Expr} {ρ : List C} {da : R D} {pos pos' : Pos} {j} (ha : Ev X T W .B ρ a da) : Ev X T W .F ρ (.Compare a [.IsNot] [.Constant .none j pos'] pos) (blE (op1 isNotR da)) := fun P H σ Q S q => by
  refine wpE_of (pe_cmp (pc_notN pw)) ?_
  unfold op1 at q
  rw [blE_bind] at q
  refine ev_bind ha S q fun x v P1 H1 e1 S1 r1 q1 => ?_
  rw [isNon_of r1]
  exact postB S1.sub q1
end
end Fj

/-! ## Lay4 -/
namespace Fj
open PySem PySem.Spec PyProof.Rows L2
section
variable {X : Cx} {T : Tb} {W : WX} {k : Nat} {ρ : List C} {a b c e : Expr} {es rest : List Expr} {da db : R D} {ca cb : R Bool} {pos : Pos} {m : Md}
/-! ### truth -/
theorem postPI {K : PySem.W.Frag} {P H : Hp} {σ : L2.St} {Q : VK} {i : Int} (hs : Same P H) (h : Post K T W .P P H σ (.ok (.int i)) Q) : Q (.int i) H := h (.int i) P H (Ext.refl hs) (show Rep K T P (.int i) (.int i) from rep_int.mpr rfl)
theorem postPS {K : PySem.W.Frag} {P H : Hp} {σ : L2.St} {Q : VK} {s : List Nat} (hs : Same P H) (h : Post K T W .P P H σ (.ok (.str s)) Q) : Q (strV s) H := h (strV s) P H (Ext.refl hs) (show Rep K T P (.str s) (strV s) from rep_str.mpr rfl)

theorem tru_of {K : PySem.W.Frag} {P H H0 : Hp} {x : D} {v : V} {t : Bool} (hs : Same P H) (r : RepM K T .B H0 P H x v) (h : truD x = .ok t) (hl : ∀ s, x = .str s → s.length ≤ most) : TruV K v H t := by
  cases x with
  | non => rw [B_non r]; cases h; rfl
  | bl b => rw [B_bl r]; cases h; rfl
  | int b => rw [B_int r]; cases h; rfl
  | str s =>
    rw [B_str r]; cases h
    refine ⟨by rw [str_len]; exact most_le (hl s rfl), ?_⟩
    rw [str_len]
    cases s <;> simp <;> omega
  | tup xs =>
    obtain ⟨a, vs, rfl, _, h1, h2⟩ := B_tup hs r
    cases h
    refine .inr (.inl ⟨vs, SqT.of h1, ?_⟩)
    have := h2.length
    cases vs <;> cases xs <;> simp_all
  | lst xs =>
    obtain ⟨a, vs, rfl, h1, h2⟩ := B_lst hs r
    cases h
    refine .inl ⟨vs, SqL.of h1, ?_⟩
    have := h2.length
    cases vs <;> cases xs <;> simp_all
  | dct t kvs => cases h
  | fn b => cases h
  | exc b c => cases h
  | scr b => cases h
theorem evT_val (ha : Ev X T W .B ρ a da) (he : ∀ whole, isTrue a X.env whole = (do let v ← whole; standAt a.pos; holding [v] (truthy v))) : EvT X T W ρ a (op1 truT da) := fun P H σ Q S q => by
  refine wpT_of (pt_truth pw he) ?_
  refine ev_bindT ha S q fun x v P1 H1 e1 S1 r1 q1 => ?_
  unfold truT at q1
  split at q1
  · exact q1.elim
  · rename_i hl
    cases ht : truD x with
    | ok t =>
      rw [ht] at q1
      refine ⟨t, tru_of S1.sub r1 ht (fun s es => ?_), q1 P1 H1 (Ext.refl S1.sub)⟩
      subst es
      simpa [longD] using hl
    | ex e => cases x <;> cases ht
    | bad => rw [ht] at q1; exact q1.elim
theorem evT_not (ha : EvT X T W ρ a ca) : EvT X T W ρ (.UnaryOp .Not a pos) (notT ca) := fun P H σ Q S q => by
  refine wpT_of (pt_not tw) ?_
  exact evT_bindT ha S q fun x P1 H1 e1 S1 q1 => q1 P1 H1 (Ext.refl S1.sub)
theorem EvW.t (h : EvW X T W ρ a ca) : EvT X T W ρ a ca := fun P H σ Q S q pins s I => h P H σ Q S q _ pins s I
theorem evW_and1 (ha : EvT X T W ρ a ca) : EvW X T W ρ (.BoolOp .And [a] pos) ca := fun P H σ Q S q => wpW_of (pw_and1 tw) (ha P H σ Q S q)
theorem evW_or1 (ha : EvT X T W ρ a ca) : EvW X T W ρ (.BoolOp .Or [a] pos) ca := fun P H σ Q S q => wpW_of (pw_or1 tw) (ha P H σ Q S q)
theorem evW_and (ha : EvT X T W ρ a ca) (hb : EvW X T W ρ (.BoolOp .And (b :: rest) pos) cb) : EvW X T W ρ (.BoolOp .And (a :: b :: rest) pos) (andT ca cb) := fun P H σ Q S q => by
  refine wpW_of (pw_and tw ww) ?_
  refine evT_bindT ha S q fun x P1 H1 e1 S1 q1 => ?_
  cases x with
  | true => exact hb P1 H1 σ Q S1 q1
  | false => exact q1 P1 H1 (Ext.refl S1.sub)
theorem evW_or (ha : EvT X T W ρ a ca) (hb : EvW X T W ρ (.BoolOp .Or (b :: rest) pos) cb) : EvW X T W ρ (.BoolOp .Or (a :: b :: rest) pos) (orT ca cb) := fun P H σ Q S q => by
  refine wpW_of (pw_or tw ww) ?_
  refine evT_bindT ha S q fun x P1 H1 e1 S1 q1 => ?_
  cases x with
  | false => exact hb P1 H1 σ Q S1 q1
  | true => exact q1 P1 H1 (Ext.refl S1.sub)
/-- as values: each part but the last a truth -/
theorem ev_one {op} (ha : Ev X T W m ρ a da) : Ev X T W m ρ (.BoolOp op [a] pos) da := fun P H σ Q S q => wpE_of (pe_one pw) (ha P H σ Q S q)
theorem ev_and (ha : Ev X T W .P ρ a da) (hb : Ev X T W .P ρ (.BoolOp .And (b :: rest) pos) db) : Ev X T W .P ρ (.BoolOp .And (a :: b :: rest) pos) (andV da db) := fun P H σ Q S q => by
  refine wpE_of (pe_andT pw pw) ?_
  refine ev_bind ha S q fun x v P1 H1 e1 S1 r1 q1 => ?_
  unfold truT at q1
  split at q1
  · exact q1.elim
  rename_i hl
  cases ht : truD x with
  | ex e => cases x <;> cases ht
  | bad => rw [ht] at q1; exact q1.elim
  | ok t =>
    rw [ht] at q1
    refine ⟨t, tru_of S1.sub (RepM.of_P (H := H1) r1) ht (fun s es => by subst es; simpa [longD] using hl), ?_⟩
    cases t with
    | true => exact hb P1 H1 σ Q S1 q1
    | false => exact q1 v P1 H1 (Ext.refl S1.sub) r1
theorem ev_or (ha : Ev X T W .P ρ a da) (hb : Ev X T W .P ρ (.BoolOp .Or (b :: rest) pos) db) : Ev X T W .P ρ (.BoolOp .Or (a :: b :: rest) pos) (orV da db) := fun P H σ Q S q => by
  refine wpE_of (pe_orT pw pw) ?_
  refine ev_bind ha S q fun x v P1 H1 e1 S1 r1 q1 => ?_
  unfold truT at q1
  split at q1
  · exact q1.elim
  rename_i hl
  cases ht : truD x with
  | ex e => cases x <;> cases ht
  | bad => rw [ht] at q1; exact q1.elim
  | ok t =>
    rw [ht] at q1
    refine ⟨t, tru_of S1.sub (RepM.of_P (H := H1) r1) ht (fun s es => by subst es; simpa [longD] using hl), ?_⟩
    cases t with
    | false => exact hb P1 H1 σ Q S1 q1
    | true => exact q1 v P1 H1 (Ext.refl S1.sub) r1
/-- not as a value -/
theorem ev_not (ha : Ev X T W .B ρ a da) : Ev X T W .F ρ (.UnaryOp .Not a pos) (blE (notT (op1 truT da))) := fun P H σ Q S q => by
  refine wpE_of (pe_notT pw) ?_
  have q' : Post X.K T W .F P H σ (da.bind fun x => blE (notT (truT x))) Q := by cases da <;> exact q
  refine ev_bind ha S q' fun x v P1 H1 e1 S1 r1 q1 => ?_
  unfold truT at q1
  split at q1
  · exact q1.elim
  rename_i hl
  cases ht : truD x with
  | ex e => cases x <;> cases ht
  | bad => rw [ht] at q1; exact q1.elim
  | ok t =>
    rw [ht] at q1
    exact ⟨t, tru_of S1.sub r1 ht (fun s es => by subst es; simpa [longD] using hl), postB S1.sub q1⟩
theorem ev_ifE (hc : EvT X T W ρ c ca) (ha : Ev X T W m ρ a da) (hb : Ev X T W m ρ b db) : Ev X T W m ρ (.IfExp c a b pos) (ifE ca da db) := fun P H σ Q S q => by
  refine wpE_of (pe_ifExp tw pw pw) ?_
  refine evT_bind hc S q fun x P1 H1 e1 S1 q1 => ?_
  cases x with
  | true => exact ha P1 H1 σ Q S1 q1
  | false => exact hb P1 H1 σ Q S1 q1

/-! ### lists of expressions, displays -/
theorem evA_nil : EvA X T W ρ [] (.ok []) := fun P H σ Q S q => wpA_of pa_nil (q _ P H (Ext.refl S.sub) RepAll.nil)
theorem evA_cons {da : R D} {ds : List (R D)} (ha : Ev X T W .P ρ a da) (hr : EvA X T W ρ es (allR ds)) (hs : starEach (a :: es) X.env = (false, eval a X.env) :: starEach es X.env) : EvA X T W ρ (a :: es) (allR (da :: ds)) := fun P H σ Q S q => by
  refine wpA_of (pa_cons pw aw hs) ?_
  refine ha P H σ _ S ?_
  cases da with
  | ex x => exact fun cls dd H' s' r => q cls dd H' s' r
  | bad => exact q
  | ok v =>
    intro w P1 H1 e1 r1
    refine hr P1 H1 σ _ (S.ext e1) ?_
    have q' : PostA X.K T W P1 H1 σ ((allR ds).bind fun xs => .ok (v :: xs)) Q := PostA.shift e1 q
    cases h : allR ds with
    | ex x => rw [h] at q'; exact fun cls dd H' s' r => q' cls dd H' s' r
    | bad => rw [h] at q'; exact q'
    | ok vs =>
      rw [h] at q'
      exact fun ws P2 H2 e2 r2 => q' (w :: ws) P2 H2 e2 (RepAll.cons (Rep.mono e2.pp _ _ r1) r2)
theorem evA_bind {P H : Hp} {σ : L2.St} {Q : VK} {f : List D → R D} {dl : R (List D)} {Q1 : List V → Hp → Prop} (ha : EvA X T W ρ es dl) (S : Sim X.K T P H σ ρ) (h : Post X.K T W m P H σ (dl.bind f) Q)
    (kk : ∀ vs ws P1 H1, Ext P H P1 H1 → Sim X.K T P1 H1 σ ρ → RepAll X.K T P1 vs ws → Post X.K T W m P1 H1 σ (f vs) Q → Q1 ws H1) : wpA X es σ H Q1 := by
  refine ha P H σ Q1 S ?_
  cases dl with
  | ok v => exact fun w P' H' e' r => kk v w P' H' e' (S.ext e') r (h.shift e')
  | ex x => exact fun cls dd H' s' r => h cls dd H' s' r
  | bad => exact h
theorem allR_len : ∀ {ds : List (R D)} {vs : List D}, allR ds = .ok vs → vs.length = ds.length
  | [], _, h => by cases h; rfl
  | d :: ds, vs, h => by
    cases d with
    | ex x => cases h
    | bad => cases h
    | ok v =>
      cases q : allR ds with
      | ex x => rw [allR_ok, q] at h; cases h
      | bad => rw [allR_ok, q] at h; cases h
      | ok us =>
        rw [allR_ok, q] at h
        cases h
        simp [allR_len q]
theorem ev_tup {ds : List (R D)} {kx} (h : EvA X T W ρ es (allR ds)) (hl : ds.length ≤ 1000) : Ev X T W .F ρ (.Tuple es kx pos) (tupE ds) := fun P H σ Q S q => by
  refine wpE_of (pe_tup aw) ?_
  have q' : Post X.K T W .F P H σ ((allR ds).bind fun xs => if xs.length ≤ most then .ok (.tup xs) else .bad) Q := by
    unfold tupE at q
    cases hq : allR ds with
    | ok vs =>
      rw [hq] at q
      show Post X.K T W .F P H σ (if vs.length ≤ most then _ else _) Q
      rw [if_pos (by rw [allR_len hq]; exact Nat.le_trans hl (by decide))]
      exact q
    | ex x => rw [hq] at q; exact q
    | bad => rw [hq] at q; exact q
  refine evA_bind h S q' fun vs ws P1 H1 e1 S1 r1 q1 => ?_
  split at q1
  · rename_i hz
    exact ⟨by rw [r1.length]; exact most_le hz, fun p hp => postU S1.sub r1 hp q1⟩
  · exact q1.elim
theorem ev_lst {ds : List (R D)} (h : EvA X T W ρ es (allR ds)) (hl : ds.length ≤ 1000) : Ev X T W .F ρ (.List es pos) (lstE ds) := fun P H σ Q S q => by
  refine wpE_of (pe_lst aw) ?_
  have q' : Post X.K T W .F P H σ ((allR ds).bind fun xs => if xs.length ≤ most then .ok (.lst xs) else .bad) Q := by
    unfold lstE at q
    cases hq : allR ds with
    | ok vs =>
      rw [hq] at q
      show Post X.K T W .F P H σ (if vs.length ≤ most then _ else _) Q
      rw [if_pos (by rw [allR_len hq]; exact Nat.le_trans hl (by decide))]
      exact q
    | ex x => rw [hq] at q; exact q
    | bad => rw [hq] at q; exact q
  refine evA_bind h S q' fun vs ws P1 H1 e1 S1 r1 q1 => ?_
  split at q1
  · rename_i hz
    exact ⟨by rw [r1.length]; exact most_le hz, fun p hp => postL S1.sub r1 hp q1⟩
  · exact q1.elim

/-! ### subscripts, cuts -/
theorem ixN_eq (n : Nat) (i : Int) : L2.ixN n i = ixN n i := rfl
theorem atI_rep {K : PySem.W.Frag} {P : Hp} {ds : List D} {vs : List V} {i : Int} {d : D} (r : RepAll K T P ds vs) (h : atI ds i = some d) : ∃ v, L2.atI vs i = some v ∧ Rep K T P d v := by
  unfold atI at h
  cases q : ixN ds.length i with
  | none => rw [q] at h; cases h
  | some j =>
    rw [q] at h
    obtain ⟨v, h1, h2⟩ := r.get (i := j) h
    refine ⟨v, ?_, h2⟩
    unfold L2.atI
    rw [r.length, ixN_eq, q]
    exact h1
/-- what an item's rule wants -/
def rIxD (K : PySem.W.Frag) : R2 := fun x y H Q => (rIxL K x y H Q ∨ rIxT K x y H Q ∨ rIxS x y H Q)
theorem idx0_of {P2 H2 H H1 : Hp} {σ : L2.St} {Q : VK} {x y : D} {v w : V} (hs2 : Same P2 H2) (r1' : RepM X.K T .B H P2 H2 x v) (r2 : RepM X.K T .B H1 P2 H2 y w) (q2 : Post X.K T W .P P2 H2 σ (idxR0 x y) Q) : rIx X.K v w H2 Q := by
  unfold idxR0 at q2
  split at q2
  · rename_i xs i
    obtain rfl := B_int r2
    obtain ⟨p, vs, rfl, h1, h2⟩ := B_lst hs2 r1'
    cases hq : atI xs i with
    | none => rw [hq] at q2; exact q2.elim
    | some d =>
      rw [hq] at q2
      obtain ⟨v, h3, h4⟩ := atI_rep h2 hq
      exact .inl ⟨p, vs, i, v, rfl, rfl, SqL.of h1, h3, q2 v P2 H2 (Ext.refl hs2) h4⟩
  · rename_i xs i
    obtain rfl := B_int r2
    obtain ⟨p, vs, rfl, h1, h1', h2⟩ := B_tup hs2 r1'
    cases hq : atI xs i with
    | none => rw [hq] at q2; exact q2.elim
    | some d =>
      rw [hq] at q2
      obtain ⟨v, h3, h4⟩ := atI_rep h2 hq
      exact .inr (.inl ⟨p, vs, i, v, rfl, rfl, SqT.of h1', h3, q2 v P2 H2 (Ext.refl hs2) h4⟩)
  · rename_i ns i
    obtain rfl := B_int r2
    obtain ⟨p, rfl, h1⟩ := B_scr hs2 r1'
    cases hq : atI ns i with
    | none => rw [hq] at q2; exact q2.elim
    | some n =>
      rw [hq] at q2
      refine .inl ⟨p, _, i, .int n, rfl, rfl, h1, ?_, postPI hs2 q2⟩
      unfold atI at hq
      unfold L2.atI
      rw [List.length_map, ixN_eq]
      cases hj : ixN ns.length i with
      | none => rw [hj] at hq; cases hq
      | some j =>
        rw [hj] at hq
        show (ns.map V.int)[j]? = _
        rw [List.getElem?_map, show ns[j]? = some n from hq]
        rfl
  · rename_i s i
    split at q2
    · rename_i hl
      obtain rfl := B_int r2
      obtain rfl := B_str r1'
      cases hq : atI s i with
      | none => rw [hq] at q2; exact q2.elim
      | some n =>
        rw [hq] at q2
        exact .inr (.inr ⟨_, i, n, rfl, rfl, by rw [str_len]; exact most_le hl, hq, postPS hs2 q2⟩)
    · exact q2.elim
  · exact q2.elim
end
end Fj

/-! ## Lay5 -/
namespace Fj
open PySem PySem.Spec PyProof.Rows L2
section
variable {X : Cx} {T : Tb} {W : WX} {k : Nat} {ρ : List C} {a b c e : Expr} {es rest : List Expr} {da db : R D} {ca cb : R Bool} {pos p p2 : Pos} {m : Md}
/-! ### dicts: items, in -/
/-- a dict's key, as the layer has it -/
theorem key_flat {K : PySem.W.Frag} {P : Hp} {d : D} {w : V} (h : flatK d = true) (r : Rep K T P d w) : ∃ q : Key, ksD q = d ∧ w = kV q := by
  cases d with
  | int i => exact ⟨.inl i, rfl, rep_int.mp r⟩
  | str s => exact ⟨.inr ⟨s.toArray⟩, rfl, rep_str.mp r⟩
  | _ => cases h
theorem key_flats {K : PySem.W.Frag} {P : Hp} : ∀ {ds : List D} {vs : List V}, ds.all flatK = true → RepAll K T P ds vs → ∃ qs : List Key, qs.map ksD = ds ∧ vs = qs.map kV
  | [], _, _, r => by unfold RepAll at r; subst r; exact ⟨[], rfl, rfl⟩
  | d :: ds, _, h, r => by
    unfold RepAll at r
    obtain ⟨v, t, rfl, h1, h2⟩ := r
    simp only [List.all_cons, Bool.and_eq_true] at h
    obtain ⟨q, e1, e2⟩ := key_flat h.1 h1
    obtain ⟨qs, e3, e4⟩ := key_flats h.2 h2
    exact ⟨q :: qs, by rw [List.map_cons, e1, e3], by rw [List.map_cons, ← e2, ← e4]⟩
theorem ksD_inj : ∀ {q q' : Key}, ksD q = ksD q' → q = q'
  | .inl i, .inl j, h => by cases h; rfl
  | .inr x, .inr y, h => by
    obtain ⟨x⟩ := x
    obtain ⟨y⟩ := y
    have : x.toList = y.toList := by injection h
    rw [Array.toList_inj.mp this]
  | .inl i, .inr y, h => nomatch h
  | .inr x, .inl j, h => nomatch h
theorem map_ksD_inj : ∀ {q q' : List Key}, q.map ksD = q'.map ksD → q = q'
  | [], [], _ => rfl
  | [], _ :: _, h => nomatch h
  | _ :: _, [], h => nomatch h
  | a :: l, b :: r, h => by
    rw [List.map_cons, List.map_cons] at h
    injection h with h1 h2
    rw [ksD_inj h1, map_ksD_inj h2]
mutual
theorem same_eq : ∀ (x y : D), (sameD x y = true → x = y)
  | .non, y, h => by cases y <;> first | rfl | (simp [sameD] at h)
  | .bl a, y, h => by cases y <;> simp [sameD] at h; rw [h]
  | .int a, y, h => by cases y <;> simp [sameD] at h; rw [h]
  | .str a, y, h => by cases y <;> simp [sameD] at h; rw [h]
  | .tup xs, y, h => by
    cases y with
    | tup ys => rw [sames_eq xs ys (by simpa [sameD] using h)]
    | _ => simp [sameD] at h
  | .lst xs, y, h => by
    cases y with
    | lst ys => rw [sames_eq xs ys (by simpa [sameD] using h)]
    | _ => simp [sameD] at h
  | .dct _ _, y, h => by cases y <;> simp [sameD] at h
  | .fn _, y, h => by cases y <;> simp [sameD] at h
  | .exc _ _, y, h => by cases y <;> simp [sameD] at h
  | .scr _, y, h => by cases y <;> simp [sameD] at h
theorem sames_eq : ∀ (xs ys : List D), (sameDs xs ys = true → xs = ys)
  | [], [], _ => rfl
  | [], _ :: _, h => by simp [sameDs] at h
  | _ :: _, [], h => by simp [sameDs] at h
  | x :: xs, y :: ys, h => by
    have h' : sameD x y = true ∧ sameDs xs ys = true := by simpa [sameDs] using h
    rw [same_eq x y h'.1, sames_eq xs ys h'.2]
end
mutual
theorem same_refl : ∀ (x : D), keyOk x = true ∨ flatK x = true → sameD x x = true
  | .int a, _ => by simp [sameD]
  | .str a, _ => by simp [sameD]
  | .tup xs, h => by
    simp only [sameD]
    rcases h with h | h
    · exact sames_refl xs (by simpa [keyOk] using h)
    · cases h
  | .non, h => by rcases h with h | h <;> cases h
  | .bl _, h => by rcases h with h | h <;> cases h
  | .lst _, h => by rcases h with h | h <;> cases h
  | .dct _ _, h => by rcases h with h | h <;> cases h
  | .fn _, h => by rcases h with h | h <;> cases h
  | .exc _ _, h => by rcases h with h | h <;> cases h
  | .scr _, h => by rcases h with h | h <;> cases h
theorem sames_refl : ∀ (xs : List D), (∀ x ∈ xs, flatK x = true) → sameDs xs xs = true
  | [], _ => rfl
  | x :: xs, h => by
    simp only [sameDs, Bool.and_eq_true]
    exact ⟨same_refl x (.inr (h x List.mem_cons_self)), sames_refl xs fun y hy => h y (List.mem_cons_of_mem _ hy)⟩
end
theorem sameK (q q' : Key) : sameD (ksD q) (ksD q') = decide (q = q') := by
  by_cases h : q = q'
  · subst h
    rw [decide_eq_true rfl]
    exact same_refl _ (.inr (by cases q <;> rfl))
  · rw [decide_eq_false h, Bool.eq_false_iff]
    exact fun z => h (ksD_inj (same_eq _ _ z))
theorem sameT (q q' : List Key) : sameD (.tup (q.map ksD)) (.tup (q'.map ksD)) = decide (q = q') := by
  by_cases h : q = q'
  · subst h
    rw [decide_eq_true rfl]
    refine same_refl _ (.inl ?_)
    show (q.map ksD).all flatK = true
    rw [List.all_map, List.all_eq_true]
    intro x _
    cases x <;> rfl
  · rw [decide_eq_false h, Bool.eq_false_iff]
    intro z
    have := same_eq _ _ z
    injection this with this
    exact h (map_ksD_inj this)
/-- what a look-up gives -/
theorem look_rep {K : PySem.W.Frag} {P : Hp} {κ : Type} [DecidableEq κ] (g : κ → D) (hg : ∀ q q', sameD (g q) (g q') = decide (q = q')) (q : κ) : ∀ {kvs : List (D × D)} {l : List (κ × V)}, kvs.map (·.1) = l.map (fun p => g p.1) → RepVs K T P kvs (l.map (·.2)) →
    (lookD (g q) kvs = none ∧ valV l q = none) ∨ ∃ d v, lookD (g q) kvs = some d ∧ valV l q = some v ∧ Rep K T P d v
  | [], [], _, _ => .inl ⟨rfl, rfl⟩
  | [], _ :: _, h, _ => nomatch h
  | _ :: _, [], h, _ => nomatch h
  | (a, d) :: r, (q', v) :: l, h, hv => by
    rw [List.map_cons, List.map_cons] at h
    injection h with h1 h2
    have h1 : a = g q' := h1
    subst h1
    unfold RepVs at hv
    obtain ⟨v', t, e, hv1, hv2⟩ := hv
    rw [List.map_cons] at e
    injection e with e1 e2
    subst e1 e2
    unfold RepP at hv1
    unfold lookD
    rw [hg]
    by_cases c : q' = q
    · rw [decide_eq_true c, if_pos rfl, valV_pos c]
      exact .inr ⟨d, v, rfl, rfl, hv1⟩
    · rw [decide_eq_false c, if_neg (by decide), valV_neg c]
      exact look_rep g hg q h2 hv2
theorem dget_of {K : PySem.W.Frag} {P H : Hp} {t : Nat} {kvs : List (D × D)} {o : HO} {y : D} {w : V} {p : Addr} (hs : Same P H) (hk : kindOk y t = true) (hp : H p = some o) (ho : Own K T P (.dct t kvs) o) (r : Rep K T P y w) :
    ∃ ov, DGet H p w ov ∧ ((lookD y kvs = none ∧ ov = none) ∨ ∃ d v, lookD y kvs = some d ∧ ov = some v ∧ Rep K T P d v) := by
  unfold kindOk at hk
  obtain ⟨k1, k2⟩ := Bool.and_eq_true_iff.mp hk
  rcases ho with ⟨rfl, l, rfl, h1, h2⟩ | ⟨rfl, l, rfl, h1, h2⟩
  · have hf : flatK y = true := by cases y <;> first | rfl | cases k1 | cases k2
    obtain ⟨q, e1, e2⟩ := key_flat hf r
    subst e1 e2
    refine ⟨valV l q, DGet.k hp, ?_⟩
    rcases look_rep ksD sameK q h1 h2 with ⟨e1, e2⟩ | ⟨d, v, e1, e2, e3⟩
    · exact .inl ⟨e1, e2⟩
    · exact .inr ⟨d, v, e1, e2, e3⟩
  · cases y with
    | tup ds =>
      obtain ⟨b, vs, rfl, r1, r2⟩ := rep_tup.mp r
      obtain ⟨qs, e1, e2⟩ := key_flats (show ds.all flatK = true from k1) r2
      subst e1 e2
      refine ⟨valV l qs, DGet.t hp (hs _ _ r1), ?_⟩
      rcases look_rep (fun q : List Key => D.tup (q.map ksD)) sameT qs h1 h2 with ⟨e1, e2⟩ | ⟨d, v, e1, e2, e3⟩
      · exact .inl ⟨e1, e2⟩
      · exact .inr ⟨d, v, e1, e2, e3⟩
    | int i => cases k2
    | str i => cases k2
    | _ => cases k1
end
end Fj

/-! ## Lay6 -/
namespace Fj
open PySem PySem.Spec PyProof.Rows L2
section
variable {X : Cx} {T : Tb} {W : WX} {k : Nat} {ρ : List C} {a b c e : Expr} {es rest : List Expr} {da db : R D} {ca cb : R Bool} {pos p p2 : Pos} {m : Md} {x : Str}
/-! ### a[b] of whatever -/
def rIxDc : R2 := fun x y H Q => ∃ a v, x = .ref a ∧ DGet H a y (some v) ∧ Q v H
theorem ix_dict (hu : X.A.units + 1 < cLine) : IxR X rIxDc := by
  intro value slice pins s σ H x y v u Q I rx ry h hs
  obtain ⟨a, z, rfl, g, q⟩ := h
  obtain rfl : v = Value.ref a := rx
  exact tail_any (ops := [.ref a, u]) (dict_typeIs I g) PySem.F.slot_dict_getitem.lookup (d_getItem hu I g ry fun w' s3 I3 rw' => ⟨z, H, I3, rw', q⟩) hs
theorem rep_key {K : PySem.W.Frag} {P H H0 : Hp} {y : D} {w : V} {t : Nat} (hk : kindOk y t = true) (r : RepM K T .B H0 P H y w) : Rep K T P y w := by
  rcases r with r | ⟨_, _, _, _, _, h⟩
  · exact r
  · cases y <;> first | exact h.elim | (simp [kindOk, keyOk] at hk)
theorem units1 (g : Gd X k) : X.A.units + 1 < cLine := by have := g.room.un; omega
theorem units65 (g : Gd X k) : X.A.units + 65 < cLine := by have := g.room.un; omega
theorem ev_ix (g : Gd X k) (ha : Ev X T W .B ρ a da) (hb : Ev X T W .B ρ b db) (hs : PlainIx b) : Ev X T W .P ρ (.Subscript a b pos) (op2 idxR da db) := fun P H σ Q S q => by
  refine wpE_of (pe_ix ((ix_seq (X := X)).or (ix_dict (units1 g))) pw pw hs) ?_
  refine ev_bind ha S q fun x v P1 H1 e1 S1 r1 q1 => ?_
  refine ev_bind hb S1 q1 fun y w P2 H2 e2 S2 r2 q2 => ?_
  have r1' := r1.to e2 (by simp)
  unfold idxR at q2
  split at q2
  · rename_i t kvs
    obtain ⟨p, o, rfl, h1, h2⟩ := B_dct S2.sub r1'
    have q2 : Post X.K T W .P P2 H2 σ (if kindOk y t then ofO (lookD y kvs) else .bad) Q := q2
    split at q2
    · rename_i hk
      obtain ⟨ov, g1, g2⟩ := dget_of S2.sub hk h1 h2 (rep_key hk r2)
      rcases g2 with ⟨e3, e4⟩ | ⟨d, v, e3, e4, e5⟩
      · rw [e3] at q2; exact q2.elim
      · rw [e3] at q2
        subst e4
        exact .inr ⟨p, v, rfl, g1, q2 v P2 H2 (Ext.refl S2.sub) e5⟩
    · exact q2.elim
  · exact .inl (idx0_of S2.sub r1' r2 q2)
/-! ### in -/
def rInTup (K : PySem.W.Frag) (neg : Bool) : R2 := fun x y H Q => ∃ d ds, Dp K H x d ∧ Dp K H y (.tuple ds) ∧ SeqAt.shaped d = true ∧ SeqAt.shaped (.tuple ds) = true ∧ Q (.bl (if neg then !ds.any fun z => PyData.eqv z d else ds.any fun z => PyData.eqv z d)) H
theorem op_inTup (hu : X.A.units + 65 < cLine) : OpR X (compareOp .In) (rInTup X.K false) := by
  intro pins s σ H x y v u Q I rx ry h
  obtain ⟨d, ds, hd, he, sd, se, q⟩ := h
  obtain ⟨as, r1⟩ := Dp.reads I d x v hd rx
  obtain ⟨bs, r2⟩ := Dp.reads I (.tuple ds) y u he ry
  exact SeqAt.in_tuple_reads r2 r1 (SeqAt.canLay_of_shaped se) (SeqAt.canLay_of_shaped sd) (room_in_shaped sd hu) ⟨.bl _, H, I, rfl, q⟩
theorem op_notInTup (hu : X.A.units + 65 < cLine) : OpR X (compareOp .NotIn) (rInTup X.K true) := by
  intro pins s σ H x y v u Q I rx ry h
  obtain ⟨d, ds, hd, he, sd, se, q⟩ := h
  obtain ⟨as, r1⟩ := Dp.reads I d x v hd rx
  obtain ⟨bs, r2⟩ := Dp.reads I (.tuple ds) y u he ry
  exact SeqAt.notIn_tuple_reads r2 r1 (SeqAt.canLay_of_shaped se) (SeqAt.canLay_of_shaped sd) (room_in_shaped sd hu) ⟨.bl _, H, I, rfl, q⟩
def rInDc (neg : Bool) : R2 := fun y x H Q => ∃ a o, x = .ref a ∧ DGet H a y o ∧ Q (.bl (if neg then !o.isSome else o.isSome)) H
theorem op_inDc (hu : X.A.units + 1 < cLine) : OpR X (compareOp .In) (rInDc false) := by
  intro pins s σ H y x u v Q I ry rx h
  obtain ⟨a, o, rfl, g, q⟩ := h
  obtain rfl : v = Value.ref a := rx
  exact d_in hu I g ry fun s3 I3 => ⟨.bl o.isSome, H, I3, rfl, q⟩
theorem op_notInDc (hu : X.A.units + 1 < cLine) : OpR X (compareOp .NotIn) (rInDc true) := by
  intro pins s σ H y x u v Q I ry rx h
  obtain ⟨a, o, rfl, g, q⟩ := h
  obtain rfl : v = Value.ref a := rx
  exact d_notIn hu I g ry fun s3 I3 => ⟨.bl (!o.isSome), H, I3, rfl, q⟩
def rInQ (K : PySem.W.Frag) : R2 := fun x y H Q => rInD K x y H Q ∨ (rInTup K false x y H Q ∨ rInDc false x y H Q)
def rNotInQ (K : PySem.W.Frag) : R2 := fun x y H Q => rNotInD K x y H Q ∨ (rInTup K true x y H Q ∨ rInDc true x y H Q)
theorem op_inQ (g : Gd X k) : OpR X (compareOp .In) (rInQ X.K) := (op_inD (units65 g)).or ((op_inTup (units65 g)).or (op_inDc (units1 g)))
theorem op_notInQ (g : Gd X k) : OpR X (compareOp .NotIn) (rNotInQ X.K) := (op_notInD (units65 g)).or ((op_notInTup (units65 g)).or (op_notInDc (units1 g)))
theorem any_eqv {d : D} (hd : plainD d = true) : ∀ {ds : List D}, plainDs ds = true → ((toPys ds).any fun z => PyData.eqv z (toPy d)) = ds.any fun y => eqD y d
  | [], _ => rfl
  | y :: ds, h => by
    have h' : plainD y = true ∧ plainDs ds = true := by simpa [plainDs] using h
    simp only [toPys, List.any_cons]
    rw [eqv_of y d h'.1 hd, any_eqv hd h'.2]
theorem does_in : DoesC X T (rInQ X.K) inR := fun P H x y v w Q hs rx ry h he => by
  obtain ⟨t, ht⟩ := he
  have h := h t ht P H (Ext.refl hs)
  unfold inR at ht
  split at ht
  · split at ht
    · rename_i xs hc
      obtain ⟨h1, h2⟩ := Bool.and_eq_true_iff.mp hc
      have p2 := fit_plain h2
      cases ht
      refine .inl ⟨toPy x, toPys xs, dpB_of hs (fit_plain h1) rx, dpB_of hs p2 ry, fit_shaped h1, fit_shaped h2, ?_⟩
      rw [any_eqv (fit_plain h1) (by simpa [plainD] using p2)]
      exact h
    · cases ht
  · split at ht
    · rename_i xs hc
      obtain ⟨h1, h2⟩ := Bool.and_eq_true_iff.mp hc
      have p2 := fit_plain h2
      cases ht
      refine .inr (.inl ⟨toPy x, toPys xs, dpB_of hs (fit_plain h1) rx, dpB_of hs p2 ry, fit_shaped h1, fit_shaped h2, ?_⟩)
      rw [any_eqv (fit_plain h1) (by simpa [plainD] using p2)]
      exact h
    · cases ht
  · split at ht
    · rename_i t0 kvs hk
      cases ht
      obtain ⟨p, o, rfl, h1, h2⟩ := B_dct hs ry
      obtain ⟨ov, g1, g2⟩ := dget_of hs hk h1 h2 (rep_key hk rx)
      refine .inr (.inr ⟨p, ov, rfl, g1, ?_⟩)
      rcases g2 with ⟨e3, e4⟩ | ⟨d, v, e3, e4, e5⟩
      · rw [e3] at h; subst e4; exact h
      · rw [e3] at h; subst e4; exact h
    · cases ht
  · cases ht
theorem does_notIn : DoesC X T (rNotInQ X.K) notInR := fun P H x y v w Q hs rx ry h he => by
  obtain ⟨t, ht⟩ := he
  have h := h t ht P H (Ext.refl hs)
  unfold notInR at ht
  cases hi : inR x y with
  | ex z => rw [hi] at ht; cases ht
  | bad => rw [hi] at ht; cases ht
  | ok u =>
  rw [hi] at ht
  cases ht
  unfold inR at hi
  split at hi
  · split at hi
    · rename_i xs hc
      obtain ⟨h1, h2⟩ := Bool.and_eq_true_iff.mp hc
      have p2 := fit_plain h2
      cases hi
      refine .inl ⟨toPy x, toPys xs, dpB_of hs (fit_plain h1) rx, dpB_of hs p2 ry, fit_shaped h1, fit_shaped h2, ?_⟩
      rw [any_eqv (fit_plain h1) (by simpa [plainD] using p2)]
      exact h
    · cases hi
  · split at hi
    · rename_i xs hc
      obtain ⟨h1, h2⟩ := Bool.and_eq_true_iff.mp hc
      have p2 := fit_plain h2
      cases hi
      refine .inr (.inl ⟨toPy x, toPys xs, dpB_of hs (fit_plain h1) rx, dpB_of hs p2 ry, fit_shaped h1, fit_shaped h2, ?_⟩)
      rw [any_eqv (fit_plain h1) (by simpa [plainD] using p2)]
      exact h
    · cases hi
  · split at hi
    · rename_i t0 kvs hk
      cases hi
      obtain ⟨p, o, rfl, h1, h2⟩ := B_dct hs ry
      obtain ⟨ov, g1, g2⟩ := dget_of hs hk h1 h2 (rep_key hk rx)
      refine .inr (.inr ⟨p, ov, rfl, g1, ?_⟩)
      rcases g2 with ⟨e3, e4⟩ | ⟨d, v, e3, e4, e5⟩
      · rw [e3] at h; subst e4; exact h
      · rw [e3] at h; subst e4; exact h
    · cases hi
  · cases hi
theorem nx_in (x y e : D) : inR x y ≠ .ex e := by unfold inR; split <;> (try split) <;> simp
theorem nx_notIn (x y e : D) : notInR x y ≠ .ex e := by
  unfold notInR
  cases h : inR x y with
  | ok b => simp
  | ex z => exact absurd h (nx_in x y z)
  | bad => simp

/-! ### cuts -/
def PoX (X : Cx) (T : Tb) (W : WX) (ρ : List C) : Option Expr → Option (R D) → Prop
  | none, none => True
  | some e, some d => Ev X T W .B ρ e d
  | _, _ => False
theorem op_cut : SlR X (fun x lo hi H Q => rSlL X.K x lo hi H Q ∨ (rSlA X.K x lo hi H Q ∨ (fun x lo hi H Q => ∃ z, x = .str z ∧ z.length ≤ sizeLine ∧ Q (.str (cutS z lo hi)) H) x lo hi H Q)) := sl_list.or (sl_tupA.or sl_str)
theorem cutL_all {α : Type} {xs : List α} {lo hi : Option Int} (h : HT.sIx xs.length 0 lo = 0 ∧ HT.sIx xs.length xs.length hi = xs.length) : cutL xs lo hi = xs := by
  show (xs.drop (HT.sIx xs.length 0 lo)).take (HT.sIx xs.length xs.length hi - HT.sIx xs.length 0 lo) = xs
  rw [h.1, h.2]
  simp
theorem cutV_rep {K : PySem.W.Frag} {P : Hp} {ds : List D} {vs : List V} (r : RepAll K T P ds vs) (lo hi : Option Int) : RepAll K T P (cutL ds lo hi) (cutV vs lo hi) := by
  show RepAll K T P ((ds.drop (HT.sIx ds.length 0 lo)).take (HT.sIx ds.length ds.length hi - HT.sIx ds.length 0 lo)) ((vs.drop (HT.sIx vs.length 0 lo)).take (HT.sIx vs.length vs.length hi - HT.sIx vs.length 0 lo))
  rw [r.length]
  exact (r.drop _).take _
theorem cut_of {P H H0 : Hp} {σ : L2.St} {Q : VK} {x : D} {v : V} {lo hi : Option Int} (hs : Same P H) (r : RepM X.K T .B H0 P H x v) (q : Post X.K T W .F P H σ (cutI x lo hi) Q) :
    rSlL X.K v lo hi H Q ∨ (rSlA X.K v lo hi H Q ∨ (fun x lo hi H Q => ∃ z, x = .str z ∧ z.length ≤ sizeLine ∧ Q (.str (cutS z lo hi)) H) v lo hi H Q) := by
  unfold cutI at q
  split at q
  · obtain ⟨a, vs, rfl, h1, h2⟩ := B_lst hs r
    exact .inl ⟨a, vs, rfl, SqL.of h1, fun p hp => postL hs (cutV_rep h2 lo hi) hp q⟩
  · obtain ⟨a, vs, rfl, h1, h1', h2⟩ := B_tup hs r
    rename_i xs
    refine .inr (.inl ⟨a, vs, rfl, SqT.of h1', fun hw => ?_, fun hw p hp => postU hs (cutV_rep h2 lo hi) hp q⟩)
    rw [h2.length] at hw
    refine postR hs rfl ?_ q
    rw [cutL_all hw]
    exact rep_tup.mpr ⟨a, vs, rfl, h1, h2⟩
  · obtain ⟨a, rfl, h1⟩ := B_scr hs r
    rename_i ns
    refine .inl ⟨a, _, rfl, h1, fun p hp => postL hs ?_ hp q⟩
    have e : cutV (ns.map V.int) lo hi = (cutL ns lo hi).map V.int := by
      show ((ns.map V.int).drop (HT.sIx (ns.map V.int).length 0 lo)).take (HT.sIx (ns.map V.int).length (ns.map V.int).length hi - HT.sIx (ns.map V.int).length 0 lo) = ((ns.drop (HT.sIx ns.length 0 lo)).take (HT.sIx ns.length ns.length hi - HT.sIx ns.length 0 lo)).map V.int
      rw [List.length_map, List.map_take, List.map_drop]
    rw [e]
    exact repAll_ints _
  · split at q
    · rename_i s hl
      obtain rfl := B_str r
      refine .inr (.inr ⟨_, rfl, by rw [str_len]; exact most_le hl, ?_⟩)
      have e : cutS ⟨s.toArray⟩ lo hi = ⟨(cutL s lo hi).toArray⟩ := by
        show (⟨((s.toArray.toList.drop (HT.sIx (Str.length ⟨s.toArray⟩) 0 lo)).take (HT.sIx (Str.length ⟨s.toArray⟩) (Str.length ⟨s.toArray⟩) hi - HT.sIx (Str.length ⟨s.toArray⟩) 0 lo)).toArray⟩ : Str) = _
        rw [str_len]
        rfl
      rw [e]
      exact postS hs q
    · exact q.elim
  · exact q.elim
theorem bound_int {P H H0 : Hp} {σ : L2.St} {Q : VK} {f : Option Int → R D} {d : D} {w : V} (r : RepM X.K T .B H0 P H d w) (q : Post X.K T W .F P H σ ((boundR (some d)).bind f) Q) : ∃ i, w = .int i ∧ Post X.K T W .F P H σ (f (some i)) Q := by
  cases d with
  | int i => exact ⟨i, B_int r, q⟩
  | _ => exact q.elim
theorem ev_cut {lo hi : Option Expr} {dl dh : Option (R D)} {sp : Pos} (ha : Ev X T W .B ρ a da) (hl : PoX X T W ρ lo dl) (hh : PoX X T W ρ hi dh) : Ev X T W .F ρ (.Subscript a (.Slice lo hi none sp) pos) (cutE da dl dh) := fun P H σ Q S q => by
  unfold cutE at q
  cases lo with
  | none =>
    cases dl with
    | some _ => exact hl.elim
    | none =>
      cases hi with
      | none =>
        cases dh with
        | some _ => exact hh.elim
        | none =>
          refine wpE_of (pe_slice op_cut pw po_none po_none) ?_
          refine ev_bind ha S q fun x v P1 H1 e1 S1 r1 q1 => ?_
          exact cut_of S1.sub r1 q1
      | some h =>
        cases dh with
        | none => exact hh.elim
        | some dh =>
          refine wpE_of (pe_slice op_cut pw po_none (po_some pw)) ?_
          refine ev_bind ha S q fun x v P1 H1 e1 S1 r1 q1 => ?_
          have q1' : Post X.K T W .F P1 H1 σ (dh.bind fun y => (boundR (some y)).bind fun h => cutI x none h) Q := by cases dh <;> exact q1
          refine ev_bind (show Ev X T W .B ρ h dh from hh) S1 q1' fun y w P2 H2 e2 S2 r2 q2 => ?_
          obtain ⟨i, e, q3⟩ := bound_int r2 q2
          exact ⟨i, e, cut_of S2.sub (r1.to e2 (by simp)) q3⟩
  | some l =>
    cases dl with
    | none => exact hl.elim
    | some dl =>
      cases hi with
      | none =>
        cases dh with
        | some _ => exact hh.elim
        | none =>
          refine wpE_of (pe_slice op_cut pw (po_some pw) po_none) ?_
          refine ev_bind ha S q fun x v P1 H1 e1 S1 r1 q1 => ?_
          have q1' : Post X.K T W .F P1 H1 σ (dl.bind fun y => (boundR (some y)).bind fun l => cutI x l none) Q := by cases dl <;> exact q1
          refine ev_bind (show Ev X T W .B ρ l dl from hl) S1 q1' fun y w P2 H2 e2 S2 r2 q2 => ?_
          obtain ⟨i, e, q3⟩ := bound_int (f := fun l => cutI x l none) r2 q2
          exact ⟨i, e, cut_of S2.sub (r1.to e2 (by simp)) q3⟩
      | some h =>
        cases dh with
        | none => exact hh.elim
        | some dh =>
          refine wpE_of (pe_slice op_cut pw (po_some pw) (po_some pw)) ?_
          refine ev_bind ha S q fun x v P1 H1 e1 S1 r1 q1 => ?_
          have q1' : Post X.K T W .F P1 H1 σ (dl.bind fun y => (boundR (some y)).bind fun l => ((optR (some dh)).bind boundR).bind fun h => cutI x l h) Q := by cases dl <;> exact q1
          refine ev_bind (show Ev X T W .B ρ l dl from hl) S1 q1' fun y w P2 H2 e2 S2 r2 q2 => ?_
          obtain ⟨i, e, q3⟩ := bound_int (f := fun l => ((optR (some dh)).bind boundR).bind fun h => cutI x l h) r2 q2
          refine ⟨i, e, ?_⟩
          have q3' : Post X.K T W .F P2 H2 σ (dh.bind fun z => (boundR (some z)).bind fun h => cutI x (some i) h) Q := by cases dh <;> exact q3
          refine ev_bind (show Ev X T W .B ρ h dh from hh) S2 q3' fun z u P3 H3 e3 S3 r3 q4 => ?_
          obtain ⟨j, e', q5⟩ := bound_int (f := fun h => cutI x (some i) h) r3 q4
          exact ⟨j, e', cut_of S3.sub ((r1.to e2 (by simp)).to e3 (by simp)) q5⟩
end
end Fj

/-! ## Lay7 -/
namespace Fj
open PySem PySem.Spec PyProof.Rows L2
section
variable {X : Cx} {T : Tb} {W : WX} {k : Nat} {ρ : List C} {a b c e : Expr} {es rest : List Expr} {da db : R D} {ca cb : R Bool} {pos p p2 p3 : Pos} {m : Md} {x : Str}
/-! ### calls of built-ins -/
def Does1 (X : Cx) (T : Tb) (W : WX) (r : List V → Hp → VK → Prop) (f : D → R D) : Prop := ∀ P H σ y v Q, Same P H → RepM X.K T .B H P H y v → Post X.K T W .F P H σ (f y) Q → r [v] H Q
def DoesA (X : Cx) (T : Tb) (W : WX) (r : List V → Hp → VK → Prop) (f : D → D → R D) : Prop := ∀ P H σ y z v w Q, Same P H → RepM X.K T .B H P H y v → RepM X.K T .B H P H z w → Post X.K T W .F P H σ (f y z) Q → r [v, w] H Q
theorem ev_b1 {id : String} {r : List V → Hp → VK → Prop} {f : D → R D} (hc : CallR X (.builtin id) r) (hf : Does1 X T W r f) (hg : Gl X x) (hm : X.mg x = none) (hv : bootBuiltins x = some (.builtin id)) (ha : Ev X T W .B ρ a da)
    (hs : starEach [a] X.env = (false, eval a X.env) :: starEach [] X.env) (hn : x ≠ "__name__") (hdb : (x == ("__debug__" : Str)) = false) : Ev X T W .F ρ (.Call (.Name x p) [a] [] pos) (op1 f da) := fun P H σ Q S q => by
  refine wpE_of (pe_callB hc hg hm hv (pa_cons pw pa_nil hs) hn hdb hs rfl) ?_
  refine ev_bind ha S q fun y v P1 H1 e1 S1 r1 q1 => ?_
  exact hf P1 H1 σ y v Q S1.sub r1 q1
theorem ev_b2 {id : String} {r : List V → Hp → VK → Prop} {f : D → D → R D} (hc : CallR X (.builtin id) r) (hf : DoesA X T W r f) (hg : Gl X x) (hm : X.mg x = none) (hv : bootBuiltins x = some (.builtin id)) (ha : Ev X T W .B ρ a da) (hb : Ev X T W .B ρ b db)
    (hs : starEach [a, b] X.env = (false, eval a X.env) :: starEach [b] X.env) (hs' : starEach [b] X.env = (false, eval b X.env) :: starEach [] X.env) (hn : x ≠ "__name__") (hdb : (x == ("__debug__" : Str)) = false) (hp : (backTo pos (starEach [b] X.env)).any (·.1) = false) : Ev X T W .F ρ (.Call (.Name x p) [a, b] [] pos) (op2 f da db) := fun P H σ Q S q => by
  refine wpE_of (pe_callB hc hg hm hv (pa_cons pw (pa_cons pw pa_nil hs') hs) hn hdb hs hp) ?_
  refine ev_bind ha S q fun y v P1 H1 e1 S1 r1 q1 => ?_
  refine ev_bind hb S1 q1 fun z w P2 H2 e2 S2 r2 q2 => ?_
  exact hf P2 H2 σ y z v w Q S2.sub (r1.to e2 (by simp)) r2 q2
theorem ev_t1 {id : String} {r : List V → Hp → VK → Prop} {f : D → R D} (hc : CallR X (.type id) r) (hf : Does1 X T W r f) (hg : Gl X x) (hm : X.mg x = none) (hv : bootBuiltins x = some (.type id)) (ha : Ev X T W .B ρ a da)
    (hs : starEach [a] X.env = (false, eval a X.env) :: starEach [] X.env) (hn : x ≠ "__name__") (hdb : (x == ("__debug__" : Str)) = false) : Ev X T W .F ρ (.Call (.Name x p) [a] [] pos) (op1 f da) := fun P H σ Q S q => by
  refine wpE_of (pe_callTy hc hg hm hv (pa_cons pw pa_nil hs) hn hdb hs rfl) ?_
  refine ev_bind ha S q fun y v P1 H1 e1 S1 r1 q1 => ?_
  exact hf P1 H1 σ y v Q S1.sub r1 q1
/-! ### len, list, tuple, int, max, min, sum, all, any -/
theorem call_lenQ : CallR X (.builtin "len") (fun xs H Q => (fun xs H Q => ∃ x n, xs = [x] ∧ LenV X.K x H n ∧ Q (.int n) H) xs H Q ∨ ((fun xs H Q => ∃ a kvs, xs = [V.ref a] ∧ H a = some (.dK kvs) ∧ Q (.int kvs.length) H) xs H Q ∨ rLenT xs H Q)) := call_len.or (call_lenD.or call_len_dT)
theorem does_len : Does1 X T W (fun xs H Q => (fun xs H Q => ∃ x n, xs = [x] ∧ LenV X.K x H n ∧ Q (.int n) H) xs H Q ∨ ((fun xs H Q => ∃ a kvs, xs = [V.ref a] ∧ H a = some (.dK kvs) ∧ Q (.int kvs.length) H) xs H Q ∨ rLenT xs H Q)) lenR := fun P H σ y v Q hs r q => by
  unfold lenR at q
  split at q
  · obtain ⟨a, vs, rfl, h1, h2⟩ := B_lst hs r
    refine .inl ⟨_, vs.length, rfl, .inl ⟨vs, SqL.of h1, rfl⟩, ?_⟩
    rw [h2.length]
    exact postI hs q
  · obtain ⟨a, vs, rfl, h1, h1', h2⟩ := B_tup hs r
    refine .inl ⟨_, vs.length, rfl, .inr ⟨vs, SqT.of h1', rfl⟩, ?_⟩
    rw [h2.length]
    exact postI hs q
  · obtain ⟨a, rfl, h1⟩ := B_scr hs r
    rename_i ns
    refine .inl ⟨_, ns.length, rfl, .inl ⟨_, h1, by rw [List.length_map]⟩, postI hs q⟩
  · split at q
    · rename_i s hl
      obtain rfl := B_str r
      refine .inl ⟨_, s.length, rfl, ⟨by rw [str_len]; exact most_le hl, (str_len s).symm⟩, postI hs q⟩
    · exact q.elim
  · rename_i t kvs
    obtain ⟨p, o, rfl, h1, h2⟩ := B_dct hs r
    rcases h2 with ⟨_, l, rfl, h3, _⟩ | ⟨_, l, rfl, h3, _⟩
    · have e : kvs.length = l.length := by have := congrArg List.length h3; simpa using this
      exact .inr (.inl ⟨p, l, rfl, h1, by rw [← e]; exact postI hs q⟩)
    · have e : kvs.length = l.length := by have := congrArg List.length h3; simpa using this
      exact .inr (.inr ⟨p, l, rfl, h1, by rw [← e]; exact postI hs q⟩)
  · exact q.elim
theorem does_list : Does1 X T W (fun xs H Q => ∃ p ys, xs = [.ref p] ∧ (SqL X.K H p ys ∨ SqT X.K H p ys) ∧ ∀ l, H l = none → Q (.ref l) (upd H l (.lst ys))) listR := fun P H σ y v Q hs r q => by
  cases y with
  | lst xs =>
    obtain ⟨a, vs, rfl, h1, h2⟩ := B_lst hs r
    exact ⟨a, vs, rfl, .inl (SqL.of h1), fun l hl => postL hs h2 hl q⟩
  | tup xs =>
    obtain ⟨a, vs, rfl, h1, h1', h2⟩ := B_tup hs r
    exact ⟨a, vs, rfl, .inr (SqT.of h1'), fun l hl => postL hs h2 hl q⟩
  | _ => exact q.elim
theorem does_tuple : Does1 X T W (fun xs H Q => ∃ p ys, xs = [.ref p] ∧ ((SqL X.K H p ys ∧ ∀ l, H l = none → Q (.ref l) (upd H l (.tup ys))) ∨ (SqT X.K H p ys ∧ Q (.ref p) H))) tupleR := fun P H σ y v Q hs r q => by
  cases y with
  | lst xs =>
    obtain ⟨a, vs, rfl, h1, h2⟩ := B_lst hs r
    exact ⟨a, vs, rfl, .inl ⟨SqL.of h1, fun l hl => postU hs h2 hl q⟩⟩
  | tup xs =>
    obtain ⟨a, vs, rfl, h1, h1', h2⟩ := B_tup hs r
    exact ⟨a, vs, rfl, .inr ⟨SqT.of h1', postR hs rfl (rep_tup.mpr ⟨a, vs, rfl, h1, h2⟩) q⟩⟩
  | _ => exact q.elim
theorem does_int : Does1 X T W (fun xs H Q => (∃ i, xs = [.int i] ∧ Q (.int i) H) ∨ ∃ k, xs = [.bl k] ∧ Q (.int (if k then 1 else 0)) H) intR := fun P H σ y v Q hs r q => by
  cases y with
  | int i => rw [B_int r]; exact .inl ⟨i, rfl, postI hs q⟩
  | bl i => rw [B_bl r]; exact .inr ⟨i, rfl, postI hs q⟩
  | _ => exact q.elim
theorem does_max2 : DoesA X T W (fun xs H Q => ∃ i j, xs = [.int i, .int j] ∧ Q (.int (if j > i then j else i)) H) max2R := fun P H σ y z v w Q hs r r' q => by
  unfold max2R at q
  split at q
  · rw [B_int r, B_int r']; exact ⟨_, _, rfl, postI hs q⟩
  · exact q.elim
theorem does_min2 : DoesA X T W (fun xs H Q => ∃ i j, xs = [.int i, .int j] ∧ Q (.int (if j < i then j else i)) H) min2R := fun P H σ y z v w Q hs r r' q => by
  unfold min2R at q
  split at q
  · rw [B_int r, B_int r']; exact ⟨_, _, rfl, postI hs q⟩
  · exact q.elim
theorem does_sum : Does1 X T W (rSum X.K) sumR := fun P H σ y v Q hs r q => by
  unfold sumR at q
  split at q
  · rename_i xs
    obtain ⟨a, vs, rfl, h1, h2⟩ := B_lst hs r
    cases e : intsD xs with
    | none => rw [e] at q; exact q.elim
    | some ns =>
      rw [e] at q
      rw [repAll_intsD e h2] at h1
      exact ⟨a, ns, rfl, SqL.of h1, postI hs q⟩
  · exact q.elim
theorem minI_le : ∀ {ns : List Int} {y : Int}, y ∈ ns → minI ns ≤ y
  | [x], y, h => by rw [List.mem_singleton.mp h]; exact Int.le_refl _
  | x :: z :: r, y, h => by
    unfold minI
    rcases List.mem_cons.mp h with rfl | h
    · omega
    · have := minI_le (ns := z :: r) h; omega
theorem minI_mem : ∀ {ns : List Int}, ns ≠ [] → minI ns ∈ ns
  | [x], _ => by simp [minI]
  | x :: z :: r, _ => by
    have := minI_mem (ns := z :: r) (by simp)
    unfold minI
    by_cases h : x ≤ minI (z :: r)
    · rw [show min x (minI (z :: r)) = x by omega]; simp
    · rw [show min x (minI (z :: r)) = minI (z :: r) by omega]; exact List.mem_cons_of_mem _ this
theorem maxI_le : ∀ {ns : List Int} {y : Int}, y ∈ ns → y ≤ maxI ns
  | [x], y, h => by rw [List.mem_singleton.mp h]; exact Int.le_refl _
  | x :: z :: r, y, h => by
    unfold maxI
    rcases List.mem_cons.mp h with rfl | h
    · omega
    · have := maxI_le (ns := z :: r) h; omega
theorem maxI_mem : ∀ {ns : List Int}, ns ≠ [] → maxI ns ∈ ns
  | [x], _ => by simp [maxI]
  | x :: z :: r, _ => by
    have := maxI_mem (ns := z :: r) (by simp)
    unfold maxI
    by_cases h : maxI (z :: r) ≤ x
    · rw [show max x (maxI (z :: r)) = x by omega]; simp
    · rw [show max x (maxI (z :: r)) = maxI (z :: r) by omega]; exact List.mem_cons_of_mem _ this
theorem does_min : Does1 X T W (rMin X.K) minR := fun P H σ y v Q hs r q => by
  unfold minR at q
  split at q
  · rename_i xs
    obtain ⟨a, vs, rfl, h1, h2⟩ := B_lst hs r
    cases e : intsD xs with
    | none => rw [e] at q; exact q.elim
    | some ns =>
      rw [e] at q
      rw [repAll_intsD e h2] at h1
      cases ns with
      | nil => exact q.elim
      | cons n ns =>
        refine ⟨a, n :: ns, rfl, SqL.of h1, by simp, fun m hm hl => ?_⟩
        have e1 := minI_le hm
        have e2 := hl _ (minI_mem (ns := n :: ns) (by simp))
        rw [show m = minI (n :: ns) by omega]
        exact postI hs q
  · exact q.elim
theorem does_maxQ : Does1 X T W (rMax X.K) maxR := fun P H σ y v Q hs r q => by
  unfold maxR at q
  split at q
  · rename_i xs
    obtain ⟨a, vs, rfl, h1, h2⟩ := B_lst hs r
    cases e : intsD xs with
    | none => rw [e] at q; exact q.elim
    | some ns =>
      rw [e] at q
      rw [repAll_intsD e h2] at h1
      cases ns with
      | nil => exact q.elim
      | cons n ns =>
        refine ⟨a, n :: ns, rfl, SqL.of h1, by simp, fun m hm hl => ?_⟩
        have e1 := maxI_le hm
        have e2 := hl _ (maxI_mem (ns := n :: ns) (by simp))
        rw [show m = maxI (n :: ns) by omega]
        exact postI hs q
  · exact q.elim
theorem does_all : Does1 X T W (rAll X.K) allQ := fun P H σ y v Q hs r q => by
  unfold allQ at q
  split at q
  · rename_i xs
    obtain ⟨a, vs, rfl, h1, h2⟩ := B_lst hs r
    cases e : blsD xs with
    | none => rw [e] at q; exact q.elim
    | some ns =>
      rw [e] at q
      rw [repAll_blsD e h2] at h1
      exact ⟨a, ns, rfl, SqL.of h1, postB hs q⟩
  · exact q.elim
theorem does_any : Does1 X T W (rAny X.K) anyQ := fun P H σ y v Q hs r q => by
  unfold anyQ at q
  split at q
  · rename_i xs
    obtain ⟨a, vs, rfl, h1, h2⟩ := B_lst hs r
    cases e : blsD xs with
    | none => rw [e] at q; exact q.elim
    | some ns =>
      rw [e] at q
      rw [repAll_blsD e h2] at h1
      exact ⟨a, ns, rfl, SqL.of h1, postB hs q⟩
  · exact q.elim
/-! ### isinstance of a built-in class -/
def tyN : D → String
  | .non => "NoneType"
  | .bl _ => "bool"
  | .int _ => "int"
  | .str _ => "str"
  | .tup _ => "tuple"
  | .lst _ => "list"
  | .dct _ _ => "dict"
  | _ => ""
theorem tyX_of {K : PySem.W.Frag} {P H H0 : Hp} {d : D} {v : V} (hs : Same P H) (ho : isaOk d = true) (r : RepM K T .B H0 P H d v) : TyX K H v (.type (tyN d)) := by
  cases d with
  | non => rw [B_non r]; exact .base .non
  | bl b => rw [B_bl r]; exact .base (.bl b)
  | int b => rw [B_int r]; exact .base (.int b)
  | str s => rw [B_str r]; exact .base (.str _)
  | tup xs => obtain ⟨a, vs, rfl, _, h, _⟩ := B_tup hs r; exact .base (.tup h)
  | lst xs => obtain ⟨a, vs, rfl, h, _⟩ := B_lst hs r; exact .base (.lst h)
  | dct t kvs =>
    obtain ⟨a, o, rfl, h, h2⟩ := B_dct hs r
    rcases h2 with ⟨_, l, rfl, _⟩ | ⟨_, l, rfl, _⟩
    · exact .base (.dK h)
    · exact .base (.dT h)
  | fn _ => cases ho
  | exc _ _ => cases ho
  | scr _ => cases ho
theorem ev_isa {n : String} {q : D → Bool} {y : Str} (hq : ∀ d, isaOk d = true → kitB (tyN d) n = some (q d)) (hg : Gl X "isinstance") (hm : X.mg "isinstance" = none) (hgy : Gl X y) (hmy : X.mg y = none) (hv : bootBuiltins y = some (.type n)) (ha : Ev X T W .B ρ a da)
    (hs : starEach [a, .Name y p2] X.env = (false, eval a X.env) :: starEach [.Name y p2] X.env) (hn : y ≠ "__name__") (hdb : (y == ("__debug__" : Str)) = false) : Ev X T W .F ρ (.Call (.Name "isinstance" p) [a, .Name y p2] [] pos) (blE (op1 (isaR q) da)) := fun P H σ Q S w => by
  refine wpE_of (pe_callB call_isi hg hm boot_isinstance (pa_cons pw (pa_cons (pe_bltn hgy hmy hv (v := .ty n) rfl hn hdb) pa_nil rfl) hs) (by decide) (by decide) hs rfl) ?_
  unfold op1 at w
  rw [blE_bind] at w
  refine ev_bind ha S w fun y v P1 H1 e1 S1 r1 q1 => ?_
  unfold isaR at q1
  split at q1
  · rename_i ho
    exact ⟨v, .ty n, _, _, q y, rfl, .ty n, tyX_of S1.sub ho r1, kit_ty (hq y ho), postB S1.sub q1⟩
  · exact q1.elim
theorem kit_int : ∀ d, isaOk d = true → kitB (tyN d) "int" = some (isInt d)
  | .non, _ => (by decide +kernel : kitB "NoneType" "int" = some false)
  | .bl _, _ => (by decide +kernel : kitB "bool" "int" = some true)
  | .int _, _ => (by decide +kernel : kitB "int" "int" = some true)
  | .str _, _ => (by decide +kernel : kitB "str" "int" = some false)
  | .tup _, _ => (by decide +kernel : kitB "tuple" "int" = some false)
  | .lst _, _ => (by decide +kernel : kitB "list" "int" = some false)
  | .dct _ _, _ => (by decide +kernel : kitB "dict" "int" = some false)
  | .fn _, h => nomatch h
  | .exc _ _, h => nomatch h
  | .scr _, h => nomatch h
theorem kit_bool : ∀ d, isaOk d = true → kitB (tyN d) "bool" = some (isBool d)
  | .non, _ => (by decide +kernel : kitB "NoneType" "bool" = some false)
  | .bl _, _ => (by decide +kernel : kitB "bool" "bool" = some true)
  | .int _, _ => (by decide +kernel : kitB "int" "bool" = some false)
  | .str _, _ => (by decide +kernel : kitB "str" "bool" = some false)
  | .tup _, _ => (by decide +kernel : kitB "tuple" "bool" = some false)
  | .lst _, _ => (by decide +kernel : kitB "list" "bool" = some false)
  | .dct _ _, _ => (by decide +kernel : kitB "dict" "bool" = some false)
  | .fn _, h => nomatch h
  | .exc _ _, h => nomatch h
  | .scr _, h => nomatch h
theorem kit_tuple : ∀ d, isaOk d = true → kitB (tyN d) "tuple" = some (isTuple d)
  | .non, _ => (by decide +kernel : kitB "NoneType" "tuple" = some false)
  | .bl _, _ => (by decide +kernel : kitB "bool" "tuple" = some false)
  | .int _, _ => (by decide +kernel : kitB "int" "tuple" = some false)
  | .str _, _ => (by decide +kernel : kitB "str" "tuple" = some false)
  | .tup _, _ => (by decide +kernel : kitB "tuple" "tuple" = some true)
  | .lst _, _ => (by decide +kernel : kitB "list" "tuple" = some false)
  | .dct _ _, _ => (by decide +kernel : kitB "dict" "tuple" = some false)
  | .fn _, h => nomatch h
  | .exc _ _, h => nomatch h
  | .scr _, h => nomatch h
theorem kit_list : ∀ d, isaOk d = true → kitB (tyN d) "list" = some (isList d)
  | .non, _ => (by decide +kernel : kitB "NoneType" "list" = some false)
  | .bl _, _ => (by decide +kernel : kitB "bool" "list" = some false)
  | .int _, _ => (by decide +kernel : kitB "int" "list" = some false)
  | .str _, _ => (by decide +kernel : kitB "str" "list" = some false)
  | .tup _, _ => (by decide +kernel : kitB "tuple" "list" = some false)
  | .lst _, _ => (by decide +kernel : kitB "list" "list" = some true)
  | .dct _ _, _ => (by decide +kernel : kitB "dict" "list" = some false)
  | .fn _, h => nomatch h
  | .exc _ _, h => nomatch h
  | .scr _, h => nomatch h
theorem kit_str : ∀ d, isaOk d = true → kitB (tyN d) "str" = some (isStr d)
  | .non, _ => (by decide +kernel : kitB "NoneType" "str" = some false)
  | .bl _, _ => (by decide +kernel : kitB "bool" "str" = some false)
  | .int _, _ => (by decide +kernel : kitB "int" "str" = some false)
  | .str _, _ => (by decide +kernel : kitB "str" "str" = some true)
  | .tup _, _ => (by decide +kernel : kitB "tuple" "str" = some false)
  | .lst _, _ => (by decide +kernel : kitB "list" "str" = some false)
  | .dct _ _, _ => (by decide +kernel : kitB "dict" "str" = some false)
  | .fn _, h => nomatch h
  | .exc _ _, h => nomatch h
  | .scr _, h => nomatch h
theorem kit_dict : ∀ d, isaOk d = true → kitB (tyN d) "dict" = some (isDict d)
  | .non, _ => (by decide +kernel : kitB "NoneType" "dict" = some false)
  | .bl _, _ => (by decide +kernel : kitB "bool" "dict" = some false)
  | .int _, _ => (by decide +kernel : kitB "int" "dict" = some false)
  | .str _, _ => (by decide +kernel : kitB "str" "dict" = some false)
  | .tup _, _ => (by decide +kernel : kitB "tuple" "dict" = some false)
  | .lst _, _ => (by decide +kernel : kitB "list" "dict" = some false)
  | .dct _ _, _ => (by decide +kernel : kitB "dict" "dict" = some true)
  | .fn _, h => nomatch h
  | .exc _ _, h => nomatch h
  | .scr _, h => nomatch h
/-! ### ranges as arguments -/
theorem rg_rep {K : PySem.W.Frag} {P : Hp} {lo : Int} {n : Nat} : RepAll K T P (upI lo n) ((List.range n).map fun i => V.int (lo + (i : Nat))) := by
  unfold upI
  have : ∀ l : List Nat, RepAll K T P (l.map fun (k : Nat) => D.int (lo + k)) (l.map fun i => V.int (lo + (i : Nat))) := fun l => by
    induction l with
    | nil => exact RepAll.nil
    | cons a r ih => exact RepAll.cons (rep_int.mpr rfl) ih
  exact this _
theorem upI_len (lo : Int) (n : Nat) : (upI lo n).length = n := by simp [upI]
theorem big62_iff {i : Int} (h : big62 i = true) : -(2 ^ 62) ≤ i ∧ i < 2 ^ 62 := by unfold big62 at h; simpa using h
theorem ev_listRg1 (g : Gd X k) (hgl : Gl X "list") (hg : Gl X "range") (ha : Ev X T W .B ρ a da) (hs : starEach [a] X.env = (false, eval a X.env) :: starEach [] X.env) (hs2 : starEach [.Call (.Name "range" p) [a] [] p2] X.env = (false, eval (.Call (.Name "range" p) [a] [] p2) X.env) :: starEach [] X.env) :
    Ev X T W .F ρ (.Call (.Name "list" p3) [.Call (.Name "range" p) [a] [] p2] [] pos) (lstOf (op1 range1R da)) := fun P H σ Q S q => by
  refine wpE_of (pe_listRg g.calm hgl g.bi.list (prg_1 hg g.bi.range pw hs) hs2) ?_
  have q' : Post X.K T W .F P H σ (da.bind fun x => lstOf (range1R x)) Q := by cases da <;> exact q
  refine ev_bind ha S q' fun y v P1 H1 e1 S1 r1 q1 => ?_
  unfold range1R at q1
  split at q1
  · rename_i j
    split at q1
    · rename_i hb
      have q2 : Post X.K T W .F P1 H1 σ (if (upI 0 j.toNat).length ≤ most then .ok (.lst (upI 0 j.toNat)) else .bad) Q := q1
      rw [upI_len] at q2
      split at q2
      · rename_i hl
        have hb' := big62_iff hb
        refine ⟨j, B_int r1, ⟨by omega, by omega, hb'.1, hb'.2, ?_⟩, fun l hl' => ?_⟩
        · rw [Int.sub_zero]; exact Nat.le_trans hl (by decide)
        · have := rg_rep (K := X.K) (T := T) (P := P1) (lo := 0) (n := j.toNat)
          unfold rgV
          rw [Int.sub_zero]
          exact postL S1.sub this hl' q2
      · exact q2.elim
    · exact q1.elim
  · exact q1.elim
theorem ev_tupRg1 (g : Gd X k) (hgl : Gl X "tuple") (hg : Gl X "range") (ha : Ev X T W .B ρ a da) (hs : starEach [a] X.env = (false, eval a X.env) :: starEach [] X.env) (hs2 : starEach [.Call (.Name "range" p) [a] [] p2] X.env = (false, eval (.Call (.Name "range" p) [a] [] p2) X.env) :: starEach [] X.env) :
    Ev X T W .F ρ (.Call (.Name "tuple" p3) [.Call (.Name "range" p) [a] [] p2] [] pos) (tupOf (op1 range1R da)) := fun P H σ Q S q => by
  refine wpE_of (pe_tupRg g.calm hgl g.bi.tuple (prg_1 hg g.bi.range pw hs) hs2) ?_
  have q' : Post X.K T W .F P H σ (da.bind fun x => tupOf (range1R x)) Q := by cases da <;> exact q
  refine ev_bind ha S q' fun y v P1 H1 e1 S1 r1 q1 => ?_
  unfold range1R at q1
  split at q1
  · rename_i j
    split at q1
    · rename_i hb
      have q2 : Post X.K T W .F P1 H1 σ (if (upI 0 j.toNat).length ≤ most then .ok (.tup (upI 0 j.toNat)) else .bad) Q := q1
      rw [upI_len] at q2
      split at q2
      · rename_i hl
        have hb' := big62_iff hb
        refine ⟨j, B_int r1, ⟨by omega, by omega, hb'.1, hb'.2, ?_⟩, fun l hl' => ?_⟩
        · rw [Int.sub_zero]; exact Nat.le_trans hl (by decide)
        · have := rg_rep (K := X.K) (T := T) (P := P1) (lo := 0) (n := j.toNat)
          unfold rgV
          rw [Int.sub_zero]
          exact postU S1.sub this hl' q2
      · exact q2.elim
    · exact q1.elim
  · exact q1.elim
end
end Fj

/-! ## Lay8 -/
namespace Fj
open PySem PySem.Spec PyProof.Rows L2

/-! ### a def's run: what stood at its entry; which slots hold what the caller lent it -/
structure Zn where
  P0 : Hp
  H0 : Hp
  io : List (Nat × Addr)
structure SimZ (K : PySem.W.Frag) (T : Tb) (z : Zn) (P H : Hp) (σ : L2.St) (ρ : List C) : Prop where
  sim : Sim K T P H σ ρ
  frame : ∀ a o, z.H0 a = some o → (∀ p ∈ z.io, p.2 ≠ a) → H a = some o
  pp : Same z.P0 P
  nw : ∀ a, z.H0 a ≠ none → z.P0 a = none → P a = none
  loc : ∀ (i : Nat) (d : D) (a : Addr), ρ[i]? = some (C.own d) → σ[i]? = some (some (.ref a)) → z.H0 a = none ∨ (i, a) ∈ z.io
  ios : ∀ p ∈ z.io, σ[p.1]? = some (some (.ref p.2)) ∧ ∃ d, ρ[p.1]? = some (C.own d)
def FrZ (z : Zn) (H : Hp) : Prop := ∀ a o, z.H0 a = some o → (∀ p ∈ z.io, p.2 ≠ a) → H a = some o
def md (fr : Bool) : Md := if fr then .F else .P
/-- what a def hands back, and what the lent objects hold then -/
structure RetZ (K : PySem.W.Frag) (T : Tb) (fr : Bool) (z : Zn) (P H : Hp) (w : V) (d : D) (os : List D) : Prop where
  sub : Same P H
  frame : FrZ z H
  pp : Same z.P0 P
  nw : ∀ a, z.H0 a ≠ none → z.P0 a = none → P a = none
  rep : RepM K T (md fr) z.H0 P H d w
  outs : Paired (fun (p : Nat × Addr) (x : D) => P p.2 = none ∧ ∃ o, H p.2 = some o ∧ Own K T P x o) z.io os
section
variable {K : PySem.W.Frag} {T : Tb} {z : Zn} {P H P' H' : Hp} {σ : L2.St} {ρ : List C}
theorem SimZ.ext (S : SimZ K T z P H σ ρ) (e : Ext P H P' H') : SimZ K T z P' H' σ ρ := by
  refine ⟨S.sim.ext e, fun a o h1 h2 => e.hh _ _ (S.frame a o h1 h2), S.pp.trans e.pp, fun a h1 h2 => ?_, S.loc, S.ios⟩
  by_cases hio : ∀ p ∈ z.io, p.2 ≠ a
  · refine e.nw a ?_ (S.nw a h1 h2)
    cases q : z.H0 a with
    | none => exact absurd q h1
    | some o => rw [S.frame a o q hio]; simp
  · have : ∃ p, p ∈ z.io ∧ p.2 = a := Classical.byContradiction fun n => hio fun p hp he => n ⟨p, hp, he⟩
    obtain ⟨p, hp, rfl⟩ := this
    obtain ⟨h3, d, h4⟩ := S.ios p hp
    obtain ⟨v, h5, a', o, h6, h7, h8, h9⟩ := cell_at S.sim h4
    rw [h3] at h5
    cases h5
    cases h6
    exact e.nw _ (by rw [h8]; simp) h7
/-- a value stored in a slot of the def's own -/
theorem SimZ.set (S : SimZ K T z P H σ ρ) {i : Nat} {w : V} {d : D} (hi : ∀ p ∈ z.io, p.1 ≠ i) (r : Rep K T P d w) : SimZ K T z P H (σ.set i (some w)) (ρ.set i (.val d)) := by
  refine ⟨⟨S.sim.sub, by simpa using S.sim.len, fun j c v h1 h2 => ?_, fun j l d' e' a h1 h2 h3 h4 => ?_⟩, S.frame, S.pp, S.nw, fun j d' a h1 h2 => ?_, fun p hp => ?_⟩
  · by_cases q : i = j
    · subst q
      have hl : i < ρ.length := by
        have := (List.getElem?_eq_some_iff.mp h1).1
        simpa using this
      rw [List.getElem?_set_self hl] at h1
      rw [List.getElem?_set_self (by rw [← S.sim.len]; exact hl)] at h2
      cases h1; cases h2
      exact ⟨w, rfl, r⟩
    · rw [List.getElem?_set_ne q] at h1 h2
      exact S.sim.cell j c v h1 h2
  · have q1 : i ≠ j := fun q => by
      subst q
      have hl : i < ρ.length := by have := (List.getElem?_eq_some_iff.mp h1).1; simpa using this
      rw [List.getElem?_set_self hl] at h1; cases h1
    have q2 : i ≠ l := fun q => by
      subst q
      have hl : i < ρ.length := by have := (List.getElem?_eq_some_iff.mp h2).1; simpa using this
      rw [List.getElem?_set_self hl] at h2; cases h2
    rw [List.getElem?_set_ne q1] at h1 h3
    rw [List.getElem?_set_ne q2] at h2 h4
    exact S.sim.apart j l d' e' a h1 h2 h3 h4
  · have q1 : i ≠ j := fun q => by
      subst q
      have hl : i < ρ.length := by have := (List.getElem?_eq_some_iff.mp h1).1; simpa using this
      rw [List.getElem?_set_self hl] at h1; cases h1
    rw [List.getElem?_set_ne q1] at h1 h2
    exact S.loc j d' a h1 h2
  · have q := hi p hp
    rw [List.getElem?_set_ne (Ne.symm q), List.getElem?_set_ne (Ne.symm q)]
    exact S.ios p hp
/-- a new object of the def's own stored in a slot -/
theorem SimZ.setOwn (S : SimZ K T z P H σ ρ) {i : Nat} {a : Addr} {o : HO} {d : D} (hi : ∀ p ∈ z.io, p.1 ≠ i) (hP : P a = none) (hH : H a = some o) (ho : Own K T P d o) (hz : z.H0 a = none)
    (hn : ∀ (j : Nat) (e : D), j ≠ i → ρ[j]? = some (C.own e) → σ[j]? ≠ some (some (.ref a))) : SimZ K T z P H (σ.set i (some (.ref a))) (ρ.set i (.own d)) := by
  have at_i : ∀ {j : Nat} {c : C} {v : Option V}, (ρ.set i (.own d))[j]? = some c → (σ.set i (some (.ref a)))[j]? = some v → j = i → c = .own d ∧ v = some (.ref a) := fun {j c v} h1 h2 e => by
    subst e
    have hl : j < ρ.length := by have := (List.getElem?_eq_some_iff.mp h1).1; simpa using this
    rw [List.getElem?_set_self hl] at h1
    rw [List.getElem?_set_self (by rw [← S.sim.len]; exact hl)] at h2
    cases h1; cases h2
    exact ⟨rfl, rfl⟩
  refine ⟨⟨S.sim.sub, by simpa using S.sim.len, fun j c v h1 h2 => ?_, fun j l d' e' b h1 h2 h3 h4 => ?_⟩, S.frame, S.pp, S.nw, fun j d' b h1 h2 => ?_, fun p hp => ?_⟩
  · by_cases q : j = i
    · obtain ⟨rfl, rfl⟩ := at_i h1 h2 q
      exact ⟨a, o, rfl, hP, hH, ho⟩
    · rw [List.getElem?_set_ne (Ne.symm q)] at h1 h2
      exact S.sim.cell j c v h1 h2
  · by_cases q1 : j = i
    · obtain ⟨_, e1⟩ := at_i h1 h3 q1
      cases e1
      by_cases q2 : l = i
      · rw [q1, q2]
      · rw [List.getElem?_set_ne (Ne.symm q2)] at h2 h4
        exact absurd h4 (hn l e' q2 h2)
    · by_cases q2 : l = i
      · obtain ⟨_, e1⟩ := at_i h2 h4 q2
        cases e1
        rw [List.getElem?_set_ne (Ne.symm q1)] at h1 h3
        exact absurd h3 (hn j d' q1 h1)
      · rw [List.getElem?_set_ne (Ne.symm q1)] at h1 h3
        rw [List.getElem?_set_ne (Ne.symm q2)] at h2 h4
        exact S.sim.apart j l d' e' b h1 h2 h3 h4
  · by_cases q : j = i
    · obtain ⟨_, e1⟩ := at_i h1 h2 q
      cases e1
      exact .inl hz
    · rw [List.getElem?_set_ne (Ne.symm q)] at h1 h2
      exact S.loc j d' b h1 h2
  · have q := hi p hp
    rw [List.getElem?_set_ne (Ne.symm q), List.getElem?_set_ne (Ne.symm q)]
    exact S.ios p hp
/-- the object of a slot changed in place -/
theorem SimZ.change (S : SimZ K T z P H σ ρ) {i : Nat} {a : Addr} {o' : HO} {d d' : D} (hi : ρ[i]? = some (C.own d)) (hs : σ[i]? = some (some (.ref a))) (ho : Own K T P d' o') : SimZ K T z P (upd H a o') σ (ρ.set i (.own d')) := by
  obtain ⟨v, h5, a', o, h6, hP, hH, _⟩ := cell_at S.sim hi
  rw [hs] at h5
  cases h5
  cases h6
  have hl : i < ρ.length := (List.getElem?_eq_some_iff.mp hi).1
  have own_ne : ∀ {b : Addr} {x : HO}, P b = some x → b ≠ a := fun {b x} e q => by rw [q, hP] at e; cases e
  refine ⟨⟨fun b x e => by rw [upd_ne (own_ne e)]; exact S.sim.sub _ _ e, by simpa using S.sim.len, fun j c v h1 h2 => ?_, fun j l d1 e1 b h1 h2 h3 h4 => ?_⟩, fun b x h1 h2 => ?_, S.pp, S.nw, fun j d1 b h1 h2 => ?_, fun p hp => ?_⟩
  · by_cases q : i = j
    · subst q
      rw [List.getElem?_set_self hl] at h1
      cases h1
      rw [hs] at h2
      cases h2
      exact ⟨a, o', rfl, hP, upd_same, ho⟩
    · rw [List.getElem?_set_ne q] at h1
      have hc := S.sim.cell j c v h1 h2
      cases c with
      | un => trivial
      | val e => exact hc
      | own e =>
        obtain ⟨b, x, rfl, h7, h8, h9⟩ := hc
        have hb : b ≠ a := fun eb => q (S.sim.apart i j d e a hi h1 hs (by rw [h2, eb]))
        exact ⟨b, x, rfl, h7, by rw [upd_ne hb]; exact h8, h9⟩
  · have f : ∀ {m : Nat} {x : D}, (ρ.set i (.own d'))[m]? = some (C.own x) → ∃ y, ρ[m]? = some (C.own y) := fun {m x} h => by
      by_cases q : i = m
      · subst q; exact ⟨d, hi⟩
      · rw [List.getElem?_set_ne q] at h; exact ⟨x, h⟩
    obtain ⟨y1, g1⟩ := f h1
    obtain ⟨y2, g2⟩ := f h2
    exact S.sim.apart j l y1 y2 b g1 g2 h3 h4
  · have hb : b ≠ a := fun e => by
      subst e
      rcases S.loc i d b hi hs with q | q
      · rw [q] at h1; cases h1
      · exact h2 _ q rfl
    rw [upd_ne hb]
    exact S.frame b x h1 h2
  · by_cases q : i = j
    · subst q; exact S.loc i d b hi h2
    · rw [List.getElem?_set_ne q] at h1; exact S.loc j d1 b h1 h2
  · obtain ⟨h1, e, h2⟩ := S.ios p hp
    refine ⟨h1, ?_⟩
    by_cases q : i = p.1
    · subst q; exact ⟨d', List.getElem?_set_self hl⟩
    · rw [List.getElem?_set_ne q]; exact ⟨e, h2⟩
/-- forgetting -/
inductive Weak : List C → List C → Prop
  | nil : Weak [] []
  | un {c : C} {a b : List C} : Weak a b → Weak (c :: a) (.un :: b)
  | kp {c : C} {a b : List C} : Weak a b → Weak (c :: a) (c :: b)
def ownAt (ρ : List C) (i : Nat) : Bool := match ρ[i]? with
  | some (.own _) => true
  | _ => false
theorem Weak.len {a b : List C} (h : Weak a b) : b.length = a.length := by induction h <;> simp [*]
theorem Weak.get {a b : List C} {i : Nat} {c : C} (h : Weak a b) (e : b[i]? = some c) : c = .un ∨ a[i]? = some c := by
  induction h generalizing i with
  | nil => simp at e
  | un h ih =>
    cases i with
    | zero => simp at e; exact .inl e.symm
    | succ i => simpa using ih (by simpa using e)
  | kp h ih =>
    cases i with
    | zero => exact .inr e
    | succ i => simpa using ih (by simpa using e)
theorem Sim.weak {ρ' : List C} (S : Sim K T P H σ ρ) (h : Weak ρ ρ') : Sim K T P H σ ρ' := by
  refine ⟨S.sub, by rw [h.len]; exact S.len, fun i c v h1 h2 => ?_, fun i j d e a h1 h2 h3 h4 => ?_⟩
  · rcases h.get h1 with rfl | q
    · trivial
    · exact S.cell i c v q h2
  · rcases h.get h1 with q | q1
    · cases q
    · rcases h.get h2 with q | q2
      · cases q
      · exact S.apart i j d e a q1 q2 h3 h4
theorem SimZ.weak {ρ' : List C} (S : SimZ K T z P H σ ρ) (h : Weak ρ ρ') (ho : (z.io.map (·.1)).all (ownAt ρ') = true) : SimZ K T z P H σ ρ' := by
  refine ⟨S.sim.weak h, S.frame, S.pp, S.nw, fun i d a h1 h2 => ?_, fun p hp => ⟨(S.ios p hp).1, ?_⟩⟩
  · rcases h.get h1 with q | q
    · cases q
    · exact S.loc i d a q h2
  · have := List.all_eq_true.mp ho p.1 (List.mem_map_of_mem hp)
    unfold ownAt at this
    split at this
    · rename_i d q; exact ⟨d, q⟩
    · cases this
end

/-! ### statements -/
def wpS (X : Cx) (st : Stmt) : TS := fun D σ H => ∀ pins s, Inv X pins σ H s → wpAny (model X.prog X.w) X.A (exec st X.env) (SP X pins D) X.xe s
def wpSs (X : Cx) (st : List Stmt) : TS := fun D σ H => ∀ pins s, Inv X pins σ H s → wpAny (model X.prog X.w) X.A (execs st X.env) (SP X pins D) X.xe s
theorem sw {X : Cx} {st : Stmt} : PS X st (wpS X st) := ⟨fun pins s σ H D I h => h pins s I⟩
theorem ssw {X : Cx} {st : List Stmt} : PSs X st (wpSs X st) := ⟨fun pins s σ H D I h => h pins s I⟩
theorem wpSs_of {X : Cx} {st : List Stmt} {σ : L2.St} {H : Hp} {D : Ends} {t : TS} (p : PSs X st t) (h : t D σ H) : wpSs X st D σ H := fun pins s I => p.run pins s σ H D I h
def PostS {S B : Type} (K : PySem.W.Frag) (T : Tb) (W : WX) (fr : Bool) (mkN : S → List C) (mkB : B → List C) (z : Zn) (r : R (Fl S B)) (D : Ends) : Prop := match r with
  | .ok (.nx s) => ∀ P H σ, SimZ K T z P H σ (mkN s) → D.nx σ H
  | .ok (.bk b) => ∀ P H σ, SimZ K T z P H σ (mkB b) → D.bk σ H
  | .ok (.rt d os) => ∀ P H w, RetZ K T fr z P H w d os → D.rt w H
  | .ex e => ∀ cls dd σ H, FrZ z H → ExR T e cls dd H → W cls dd σ H
  | .bad => False
def Ss {S B : Type} (X : Cx) (T : Tb) (W : WX) (fr : Bool) (ios : List Nat) (mkN : S → List C) (mkB : B → List C) (ρ : List C) (st : List Stmt) (r : R (Fl S B)) : Prop :=
  ∀ z P H σ (D : Ends), z.io.map (·.1) = ios → SimZ X.K T z P H σ ρ → PostS X.K T W fr mkN mkB z r D → wpSs X st D σ H

/-! ### what a def promises -/
def argC (io : List Nat) : Nat → List D → List C
  | _, [] => []
  | i, d :: ds => (if io.contains i then C.own d else C.val d) :: argC io (i + 1) ds
def PostI (K : PySem.W.Frag) (T : Tb) (fr : Bool) (z : Zn) (E : XK) (r : R (D × List D)) (Q : VK) : Prop := match r with
  | .ok (d, os) => ∀ P H w, RetZ K T fr z P H w d os → Q w H
  | .ex e => ∀ cls dd H, FrZ z H → ExR T e cls dd H → E cls dd H
  | .bad => False
/-- the addresses of what is lent -/
def ioAt (io : List Nat) (vs : List V) : List (Nat × Addr) := io.filterMap fun i => match (vs[i]? : Option V) with
  | some (V.ref a) => some (i, a)
  | _ => none
def spI (K : PySem.W.Frag) (T : Tb) (fr : Bool) (io : List Nat) (n : Nat) (m : List D → R (D × List D)) : Sp := fun vs H Q E => vs.length = n ∧ ∃ P ds, Sim K T P H (vs.map some) (argC io 0 ds) ∧ PostI K T fr ⟨P, H, ioAt io vs⟩ E (m ds) Q
/-- a def of the text that does m, called by its name x from level k on -/
structure FD (P : Program) (w : World) (K : PySem.W.Frag) (mg : Str → Option Value) (base : Heap) (T : Tb) (k : Nat) (x : Str) (f : Addr) (fr : Bool) (io : List Nat) (n : Nat) (m : List D → R (D × List D)) : Prop where
  ex : ∃ fd ps, FnOk P w K mg base (L2.CX P w) k f fd ps (spI K T fr io n m) ∧ Binds K fd ps []
  gl : mg x = some (.ref f)
  kp : PySem.W.keepIn K (.ref f) = true
/-- a def without lent arguments -/
def pureM (m : List D → R D) : List D → R (D × List D) := fun ds => (m ds).bind fun d => .ok (d, [])
end Fj

/-! ## Lay9 -/
namespace Fj
open PySem PySem.Spec PyProof.Rows L2
section
variable {X : Cx} {T : Tb} {W : WX} {k j : Nat} {ρ : List C} {a b c e : Expr} {es : List Expr} {da db : R D} {ca cb : R Bool} {pos p p2 p3 : Pos} {m : Md} {x : Str} {fr : Bool}
/-! ### calls of the text's own defs -/
theorem evA_bind' {P H : Hp} {σ : L2.St} {Q : VK} {f : List D → R D} {dl : R (List D)} {Q1 : List V → Hp → Prop} (ha : EvA X T W ρ es dl) (S : Sim X.K T P H σ ρ) (h : Post X.K T W m P H σ (dl.bind f) Q)
    (kk : ∀ vs ws P1 H1, dl = .ok vs → Ext P H P1 H1 → Sim X.K T P1 H1 σ ρ → RepAll X.K T P1 vs ws → Post X.K T W m P1 H1 σ (f vs) Q → Q1 ws H1) : wpA X es σ H Q1 := by
  refine ha P H σ Q1 S ?_
  cases dl with
  | ok v => exact fun w P' H' e' r => kk v w P' H' rfl e' (S.ext e') r (h.shift e')
  | ex x => exact fun cls dd H' s' r => h cls dd H' s' r
  | bad => exact h
theorem sim_args {K : PySem.W.Frag} {P H : Hp} (hs : Same P H) : ∀ {ds : List D} {vs : List V} (i : Nat), RepAll K T P ds vs → ∀ (n : Nat) (c : C) (v : Option V), (argC [] i ds)[n]? = some c → (vs.map some)[n]? = some v → CellOk K T P H c v
  | [], _, _, _, _, _, _, h, _ => by simp [argC] at h
  | d :: ds, _, i, r, n, c, v, h1, h2 => by
    unfold RepAll at r
    obtain ⟨w, t, rfl, r1, r2⟩ := r
    cases n with
    | zero =>
      simp [argC] at h1 h2
      subst h1 h2
      exact ⟨w, rfl, r1⟩
    | succ n => exact sim_args hs (i + 1) r2 n c v (by simpa [argC] using h1) (by simpa using h2)
theorem argC_len (io : List Nat) : ∀ (i : Nat) (ds : List D), (argC io i ds).length = ds.length
  | _, [] => rfl
  | i, _ :: ds => by simp [argC, argC_len io (i + 1) ds]
theorem argC_nil_own : ∀ (i n : Nat) (ds : List D) (d : D), (argC [] i ds)[n]? ≠ some (C.own d)
  | _, n, [], _, h => by simp [argC] at h
  | i, 0, _ :: ds, _, h => by simp [argC] at h
  | i, n + 1, _ :: ds, d, h => argC_nil_own (i + 1) n ds d (by simpa [argC] using h)
theorem ev_call {f : Addr} {n : Nat} {mm : List D → R D} {ds : List (R D)} (g : Gd X k) (F : FD X.prog X.w X.K X.mg X.base T j x f fr [] n (pureM mm)) (hj : j ≤ k) (tk : Takes X W) (hg : Gl X x) (ha : EvA X T W ρ (a :: es) (allR ds)) (hn : ds.length = n)
    (hdb : (x == ("__debug__" : Str)) = false) (he : starEach (a :: es) X.env = (false, eval a X.env) :: starEach es X.env) (hpl : (backTo pos (starEach es X.env)).any (·.1) = false) : Ev X T W (md fr) ρ (.Call (.Name x p) (a :: es) [] pos) ((allR ds).bind mm) := fun P H σ Q S q => by
  obtain ⟨fd, ps, F1, B1⟩ := F.ex
  refine wpE_of (pe_callSD F1 (g.room.mono hj) hg F.gl F.kp B1 .nil (fun σ => passAt tk σ) aw hdb he hpl) ?_
  refine evA_bind' ha S q fun vs ws P1 H1 hv e1 S1 r1 q1 => ?_
  show spI X.K T fr [] n (pureM mm) (ws ++ []) H1 Q (WE W σ)
  rw [List.append_nil]
  have hl : ws.length = n := by rw [r1.length, allR_len hv, hn]
  refine ⟨hl, P1, vs, ⟨S1.sub, by rw [argC_len, List.length_map, r1.length], fun i c v h1 h2 => sim_args S1.sub 0 r1 i c v h1 h2, fun i _ d _ _ h1 => absurd h1 (argC_nil_own 0 i vs d)⟩, ?_⟩
  unfold pureM
  cases hm : mm vs with
  | bad => rw [hm] at q1; exact q1
  | ex z =>
    rw [hm] at q1
    exact fun cls dd H2 h1 h2 => q1 cls dd H2 (fun b o e => h1 b o e fun p hp => nomatch hp) h2
  | ok d =>
    rw [hm] at q1
    exact fun P2 H2 w rz => q1 w P2 H2 ⟨rz.pp, fun b o e => rz.frame b o e (fun p hp => nomatch hp), rz.sub, rz.nw⟩ rz.rep

/-! ### statements -/
variable {S B : Type} {ios : List Nat} {mkN : S → List C} {mkB : B → List C} {rest body : List Stmt} {st : Stmt} {i : Nat}
theorem ss_bind {z : Zn} {P H : Hp} {σ : L2.St} {D1 : Ends} {F : D → R (Fl S B)} {Q1 : VK} (ha : Ev X T W m ρ e da) (Z : SimZ X.K T z P H σ ρ) (h : PostS X.K T W fr mkN mkB z (da.bind F) D1)
    (kk : ∀ v w P1 H1, Ext P H P1 H1 → SimZ X.K T z P1 H1 σ ρ → RepM X.K T m H P1 H1 v w → PostS X.K T W fr mkN mkB z (F v) D1 → Q1 w H1) : wpE X e σ H Q1 := by
  refine ha P H σ Q1 Z.sim ?_
  cases da with
  | ok v => exact fun w P' H' e' r => kk v w P' H' e' (Z.ext e') r h
  | ex x => exact fun cls dd H' s' r => h cls dd σ H' (fun b o e1 e2 => s' _ _ (Z.frame b o e1 e2)) r
  | bad => exact h
theorem ss_bindT {z : Zn} {P H : Hp} {σ : L2.St} {D1 : Ends} {F : Bool → R (Fl S B)} {Q1 : Bool → Hp → Prop} (ha : EvT X T W ρ e ca) (Z : SimZ X.K T z P H σ ρ) (h : PostS X.K T W fr mkN mkB z (ca.bind F) D1)
    (kk : ∀ v P1 H1, Ext P H P1 H1 → SimZ X.K T z P1 H1 σ ρ → PostS X.K T W fr mkN mkB z (F v) D1 → Q1 v H1) : wpT X e σ H Q1 := by
  refine ha P H σ Q1 Z.sim ?_
  cases ca with
  | ok v => exact fun P' H' e' => kk v P' H' e' (Z.ext e') h
  | ex x => exact fun cls dd H' s' r => h cls dd σ H' (fun b o e1 e2 => s' _ _ (Z.frame b o e1 e2)) r
  | bad => exact h
theorem io_ne {z : Zn} (hz : z.io.map (·.1) = ios) (hi : ios.contains i = false) : ∀ q ∈ z.io, q.1 ≠ i := fun q hq e => by
  have : i ∈ ios := by rw [← hz, ← e]; exact List.mem_map_of_mem hq
  rw [List.contains_eq_mem, decide_eq_true this] at hi
  cases hi
theorem ss_nil {s : S} (hw : Weak ρ (mkN s)) (ho : ios.all (ownAt (mkN s)) = true) : Ss X T W fr ios mkN mkB ρ [] (.ok (.nx s)) := fun z P H σ D1 hz Z h =>
  wpSs_of pss_nil (h P H σ (Z.weak hw (by rw [hz]; exact ho)))
/-- x = e -/
theorem ss_asg {pos' : Pos} {F : D → R (Fl S B)} (g : Gd X k) (hi : X.N[i]? = some x) (hx : Loc X.env.scope x) (hf : X.fn x = true ∨ X.env.scope.names.lookup x = some .local) (hs : swapsWith e (some (.Name x pos')) pos.line X.env = pure false) (hio : ios.contains i = false)
    (he : Ev X T W .P ρ e da) (hr : ∀ v, Ss X T W fr ios mkN mkB (ρ.set i (.val v)) rest (F v)) : Ss X T W fr ios mkN mkB ρ (.Assign [.Name x pos'] e pos :: rest) (da.bind F) := fun z P H σ D1 hz Z h => by
  refine wpSs_of (pss_cons (ps_set g.nd hi hx pw hs hf) ssw) ?_
  refine ss_bind he Z h fun v w P1 H1 e1 Z1 r1 q1 => ?_
  exact hr v z P1 H1 _ D1 hz (Z1.set (io_ne hz hio) r1) q1
/-- x = e, e a new list or dict that is the def's own from here on -/
theorem ss_own {pos' : Pos} {F : D → R (Fl S B)} (g : Gd X k) (hi : X.N[i]? = some x) (hx : Loc X.env.scope x) (hf : X.fn x = true ∨ X.env.scope.names.lookup x = some .local) (hs : swapsWith e (some (.Name x pos')) pos.line X.env = pure false) (hio : ios.contains i = false)
    (he : Ev X T W .F ρ e da) (hr : ∀ v, Ss X T W fr ios mkN mkB (ρ.set i (.own v)) rest (F v)) : Ss X T W fr ios mkN mkB ρ (.Assign [.Name x pos'] e pos :: rest) (ownR da F) := fun z P H σ D1 hz Z h => by
  refine wpSs_of (pss_cons (ps_set g.nd hi hx pw hs hf) ssw) ?_
  refine ss_bind he Z h fun v w P1 H1 e1 Z1 r1 q1 => ?_
  split at q1
  · rename_i hc
    unfold RepM at r1
    dsimp only at r1
    rw [if_pos hc] at r1
    obtain ⟨a, o, rfl, h0, h1, h2, h3⟩ := r1
    refine hr v z P1 H1 _ D1 hz (Z1.setOwn (io_ne hz hio) h1 h2 h3 ?_ fun j d hj hd hs' => ?_) q1
    · cases q : z.H0 a with
      | none => rfl
      | some y =>
        by_cases hp : ∀ p ∈ z.io, p.2 ≠ a
        · rw [Z.frame a y q hp] at h0; cases h0
        · have : ∃ p, p ∈ z.io ∧ p.2 = a := Classical.byContradiction fun n => hp fun p hp he => n ⟨p, hp, he⟩
          obtain ⟨p, hpm, rfl⟩ := this
          obtain ⟨h3, d, h4⟩ := Z.ios p hpm
          obtain ⟨u, h5, a', o', h6, h7, h8, h9⟩ := cell_at Z.sim h4
          rw [h3] at h5
          cases h5
          cases h6
          rw [h8] at h0; cases h0
    · obtain ⟨u, h5, a', o', h6, h7, h8, h9⟩ := cell_at Z.sim hd
      rw [hs'] at h5
      cases h5
      cases h6
      rw [h8] at h0; cases h0
  · exact q1.elim
/-- e, its value dropped -/
theorem ss_expr {F : D → R (Fl S B)} (hs : swapsWith e none pos.line X.env = pure false) (he : Ev X T W m ρ e da) (hr : ∀ v, Ss X T W fr ios mkN mkB ρ rest (F v)) : Ss X T W fr ios mkN mkB ρ (.Expr e pos :: rest) (da.bind F) := fun z P H σ D1 hz Z h => by
  refine wpSs_of (pss_cons (ps_expr pw hs) ssw) ?_
  exact ss_bind he Z h fun v w P1 H1 e1 Z1 r1 q1 => hr v z P1 H1 _ D1 hz Z1 q1
theorem ss_pass {r : R (Fl S B)} (hr : Ss X T W fr ios mkN mkB ρ rest r) : Ss X T W fr ios mkN mkB ρ (.Pass pos :: rest) r := fun z P H σ D1 hz Z h => by
  refine wpSs_of (pss_cons ps_pass ssw) ?_
  exact hr z P H _ D1 hz Z h
theorem ss_break {s : B} (hw : Weak ρ (mkB s)) (ho : ios.all (ownAt (mkB s)) = true) : Ss X T W fr ios mkN mkB ρ (.Break pos :: rest) (.ok (.bk s)) := fun z P H σ D1 hz Z h => by
  refine wpSs_of (pss_cons ps_break (ssw (st := rest))) ?_
  exact h P H σ (Z.weak hw (by rw [hz]; exact ho))
/-- what the lent cells hold -/
def outsOf (ρ : List C) : List Nat → Option (List D)
  | [] => some []
  | i :: r => match ρ[i]? with
    | some (.own d) => (outsOf ρ r).map (d :: ·)
    | _ => none
theorem outs_of {K : PySem.W.Frag} {z : Zn} {P H : Hp} {σ : L2.St} (Z : SimZ K T z P H σ ρ) : ∀ {l : List (Nat × Addr)} {os : List D}, (∀ p ∈ l, p ∈ z.io) → outsOf ρ (l.map (·.1)) = some os →
    Paired (fun (p : Nat × Addr) (x : D) => P p.2 = none ∧ ∃ o, H p.2 = some o ∧ Own K T P x o) l os
  | [], os, _, h => by
    have : os = [] := by simpa [outsOf] using h.symm
    subst this
    exact .nil
  | p :: r, os, hl, h => by
    rw [List.map_cons] at h
    obtain ⟨h3, d, h4⟩ := Z.ios p (hl p List.mem_cons_self)
    unfold outsOf at h
    rw [h4] at h
    dsimp only at h
    cases q : outsOf ρ (r.map (·.1)) with
    | none => rw [q] at h; cases h
    | some os' =>
      rw [q] at h
      cases h
      obtain ⟨u, h5, a', o', h6, h7, h8, h9⟩ := cell_at Z.sim h4
      rw [h3] at h5
      cases h5
      cases h6
      exact .cons ⟨h7, o', h8, h9⟩ (outs_of Z (fun p hp => hl p (List.mem_cons_of_mem _ hp)) q)
theorem fresh_back {z : Zn} {P H P1 H1 : Hp} {K : PySem.W.Frag} {σ : L2.St} (Z : SimZ K T z P H σ ρ) {v : D} {w : V} (r : RepM K T (md fr) H P1 H1 v w) : RepM K T (md fr) z.H0 P1 H1 v w := by
  cases fr with
  | false => exact r
  | true =>
    have r : RepM K T .F H P1 H1 v w := r
    show RepM K T .F z.H0 P1 H1 v w
    unfold RepM at r ⊢
    dsimp only at r ⊢
    by_cases hc : cont v = true
    · rw [if_pos hc] at r ⊢
      obtain ⟨a, o, rfl, h0, h1, h2, h3⟩ := r
      refine ⟨a, o, rfl, ?_, h1, h2, h3⟩
      cases q : z.H0 a with
      | none => rfl
      | some y =>
        by_cases hp : ∀ p ∈ z.io, p.2 ≠ a
        · rw [Z.frame a y q hp] at h0; cases h0
        · have : ∃ p, p ∈ z.io ∧ p.2 = a := Classical.byContradiction fun n => hp fun p hp he => n ⟨p, hp, he⟩
          obtain ⟨p, hpm, rfl⟩ := this
          obtain ⟨h3, d, h4⟩ := Z.ios p hpm
          obtain ⟨u, h5, a', o', h6, h7, h8, h9⟩ := cell_at Z.sim h4
          rw [h3] at h5
          cases h5
          cases h6
          rw [h8] at h0; cases h0
    · rw [if_neg hc] at r ⊢
      exact r
/-- return e -/
theorem ss_ret {os : List D} (ho : outsOf ρ ios = some os) (he : Ev X T W (md fr) ρ e da) : Ss X T W fr ios mkN mkB ρ (.Return (some e) pos :: rest) (da.bind fun v => .ok (.rt v os)) := fun z P H σ D1 hz Z h => by
  refine wpSs_of (pss_cons (ps_ret pw) (ssw (st := rest))) ?_
  refine ss_bind he Z h fun v w P1 H1 e1 Z1 r1 q1 => ?_
  refine q1 P1 H1 w ⟨Z1.sim.sub, Z1.frame, Z1.pp, Z1.nw, fresh_back Z r1, outs_of Z1 (fun p hp => hp) (by rw [hz]; exact ho)⟩
/-- return x, x the def's own -/
theorem ss_retOwn {os : List D} {d : D} {px : Pos} (hi : ρ[i]? = some (.own d)) (hio : ios.contains i = false) (hN : X.N[i]? = some x) (hv : Vis X.env.scope x) (hd : (x == ("__debug__" : Str)) = false) (hcd : (x == ("__classdict__" : Str)) = false) (ho : outsOf ρ ios = some os) :
    Ss X T W true ios mkN mkB ρ (.Return (some (.Name x px)) pos :: rest) (.ok (.rt d os)) := fun z P H σ D1 hz Z h => by
  refine wpSs_of (pss_cons (ps_ret (pe_var hN hv hd hcd)) (ssw (st := rest))) ?_
  obtain ⟨u, h5, a', o', rfl, h7, h8, h9⟩ := cell_at Z.sim hi
  refine ⟨_, h5, h P H _ ⟨Z.sim.sub, Z.frame, Z.pp, Z.nw, ?_, outs_of Z (fun p hp => hp) (by rw [hz]; exact ho)⟩⟩
  show RepM X.K T .F z.H0 P H d _
  unfold RepM
  dsimp only
  have hc : cont d = true := by cases d <;> first | rfl | exact h9.elim
  rw [if_pos hc]
  refine ⟨a', o', rfl, ?_, h7, h8, h9⟩
  rcases Z.loc i d a' hi h5 with q | q
  · exact q
  · exact absurd rfl (io_ne hz hio _ q)
/-- x.append(e) -/
theorem ss_append {pa px pp : Pos} {d : D} {F : D → R (Fl S B)} (hi : ρ[i]? = some (.own d)) (hN : X.N[i]? = some x) (hv : Vis X.env.scope x) (hd : (x == ("__debug__" : Str)) = false) (hcd : (x == ("__classdict__" : Str)) = false)
    (hs : swapsWith (.Call (.Attribute (.Name x px) "append" pa) [e] [] pp) none pos.line X.env = pure false) (he : Ev X T W .P ρ e da)
    (hbm : PE X (.Call (.Attribute (.Name x px) "append" pa) [e] [] pp) (tBM X.K "list" rAppend (tVar i) (tCons (wpE X e) tNil))) (hr : ∀ v, Ss X T W fr ios mkN mkB (ρ.set i (.own v)) rest (F v)) :
    Ss X T W fr ios mkN mkB ρ (.Expr (.Call (.Attribute (.Name x px) "append" pa) [e] [] pp) pos :: rest) ((appendE d da).bind F) := fun z P H σ D1 hz Z h => by
  refine wpSs_of (pss_cons (ps_expr hbm hs) ssw) ?_
  obtain ⟨u, h5, a', o', rfl, h7, h8, h9⟩ := cell_at Z.sim hi
  cases d with
  | lst xs =>
    have h' : PostS X.K T W fr mkN mkB z (da.bind fun v => (appendR (.lst xs) v).bind F) D1 := by cases da <;> exact h
    obtain ⟨vs, rfl, h10⟩ := h9
    refine ⟨_, h5, .inl ⟨rfl, _, .inl (.inl h8)⟩, ?_⟩
    refine ss_bind he Z h' fun v w P1 H1 e1 Z1 r1 q1 => ?_
    have q2 : PostS X.K T W fr mkN mkB z ((if xs.length < most then .ok (.lst (xs ++ [v])) else .bad : R D).bind F) D1 := q1
    split at q2
    · rename_i hl
      have h8' := e1.hh _ _ h8
      have h10' := RepAll.mono e1.pp _ _ h10
      refine ⟨a', vs, w, rfl, rfl, h8', by rw [h10.length]; exact most_lt (by omega), ?_⟩
      exact hr _ z P1 _ _ D1 hz (Z1.change (d' := .lst (xs ++ [v])) hi h5 ⟨vs ++ [w], rfl, h10'.append (RepAll.cons r1 RepAll.nil)⟩) q2
    · exact q2.elim
  | dct t kvs => exact h.elim
  | _ => exact h9.elim
end
end Fj

/-! ## Lay10 -/
namespace Fj
open PySem PySem.Spec PyProof.Rows L2

/-! ### what is walked -/
def wpI (X : Cx) (tg iter : Expr) : TI := fun σ H R => ∀ pins s, Inv X pins σ H s →
  wpAny (model X.prog X.w) X.A (eval iter X.env) (fun v s1 => wpAny (model X.prog X.w) X.A (pyIter v) (PIE X pins σ tg R) X.xe s1) X.xe s
theorem iw {X : Cx} {tg iter : Expr} : PI X tg iter (wpI X tg iter) := ⟨fun pins s σ H R I h => h pins s I⟩
theorem wpI_of {X : Cx} {tg iter : Expr} {wi : TI} {σ : L2.St} {H : Hp} {R1 : It → Hp → Prop} (p : PI X tg iter wi) (h : wi σ H R1) : wpI X tg iter σ H R1 := fun pins s I => p.run pins s σ H R1 I h
/-- a walk that gives ds -/
def ItOk (K : PySem.W.Frag) (T : Tb) (P : Hp) (J : It) (ds : List D) : Prop := ∀ (i : Nat) (P' H' : Hp), Same P P' → Same P' H' →
  (i < ds.length → J.go i H') ∧ (ds.length ≤ i → J.stop i H') ∧ ∀ (x : V) (H'' : Hp), i < ds.length → J.yld i H' x H'' → ∃ P'' d, Ext P' H' P'' H'' ∧ ds[i]? = some d ∧ Rep K T P'' d x
def PostIt (K : PySem.W.Frag) (T : Tb) (W : WX) (P H : Hp) (σ : L2.St) (r : R (List D)) (R1 : It → Hp → Prop) : Prop := match r with
  | .ok ds => ∀ J P' H', Ext P H P' H' → ItOk K T P' J ds → R1 J H'
  | .ex e => ∀ cls dd H', Same H H' → ExR T e cls dd H' → W cls dd σ H'
  | .bad => False
def EvI (X : Cx) (T : Tb) (W : WX) (ρ : List C) (tg iter : Expr) (r : R (List D)) : Prop :=
  ∀ P H σ R1, Sim X.K T P H σ ρ → PostIt X.K T W P H σ r R1 → wpI X tg iter σ H R1
/-- .. as long as nothing changes -/
def ItOkW (K : PySem.W.Frag) (T : Tb) (P H : Hp) (J : It) (ds : List D) : Prop := ∀ (i : Nat) (P' H' : Hp), Same P P' → Same P' H' → Same H H' →
  (i < ds.length → J.go i H') ∧ (ds.length ≤ i → J.stop i H') ∧ ∀ (x : V) (H'' : Hp), i < ds.length → J.yld i H' x H'' → ∃ P'' d, Ext P' H' P'' H'' ∧ ds[i]? = some d ∧ Rep K T P'' d x
def PostItW (K : PySem.W.Frag) (T : Tb) (W : WX) (P H : Hp) (σ : L2.St) (r : R (List D)) (R1 : It → Hp → Prop) : Prop := match r with
  | .ok ds => ∀ J P' H', Ext P H P' H' → ItOkW K T P' H' J ds → R1 J H'
  | .ex e => ∀ cls dd H', Same H H' → ExR T e cls dd H' → W cls dd σ H'
  | .bad => False
def EvIW (X : Cx) (T : Tb) (W : WX) (ρ : List C) (tg iter : Expr) (r : R (List D)) : Prop :=
  ∀ P H σ R1, Sim X.K T P H σ ρ → PostItW X.K T W P H σ r R1 → wpI X tg iter σ H R1
theorem EvI.w {X : Cx} {T : Tb} {W : WX} {ρ : List C} {tg iter : Expr} {r : R (List D)} (h : EvI X T W ρ tg iter r) : EvIW X T W ρ tg iter r := fun P H σ R1 S q => h P H σ R1 S (by
  cases r with
  | ok ds => exact fun J P' H' e o => q J P' H' e fun i P2 H2 h1 h2 _ => o i P2 H2 h1 h2
  | ex e => exact q
  | bad => exact q)
section
variable {X : Cx} {T : Tb} {W : WX} {k : Nat} {ρ : List C} {a b c e tg : Expr} {da db : R D} {ca cb : R Bool} {pos p p2 p3 : Pos} {m : Md} {x : Str} {fr : Bool}
theorem PostIt.shift {P H P1 H1 : Hp} {σ : L2.St} {r : R (List D)} {R1 : It → Hp → Prop} (h : PostIt X.K T W P H σ r R1) (e1 : Ext P H P1 H1) : PostIt X.K T W P1 H1 σ r R1 := by
  cases r with
  | ok d => exact fun J P' H' e2 o => h J P' H' (e1.trans e2) o
  | ex x => exact fun cls dd H' s r => h cls dd H' (e1.hh.trans s) r
  | bad => exact h
theorem evI_bind {P H : Hp} {σ : L2.St} {R1 : It → Hp → Prop} {f : D → R (List D)} {Q1 : VK} (ha : Ev X T W .P ρ e da) (S : Sim X.K T P H σ ρ) (h : PostIt X.K T W P H σ (da.bind f) R1)
    (kk : ∀ v w P1 H1, da = .ok v → Ext P H P1 H1 → Sim X.K T P1 H1 σ ρ → Rep X.K T P1 v w → PostIt X.K T W P1 H1 σ (f v) R1 → Q1 w H1) : wpE X e σ H Q1 := by
  refine ha P H σ Q1 S ?_
  cases da with
  | ok v => exact fun w P' H' e' r => kk v w P' H' rfl e' (S.ext e') r (h.shift e')
  | ex x => exact fun cls dd H' s' r => h cls dd H' s' r
  | bad => exact h
theorem rep_at {K : PySem.W.Frag} {P : Hp} : ∀ {ds : List D} {vs : List V} {i : Nat} {v : V}, RepAll K T P ds vs → vs[i]? = some v → ∃ d, ds[i]? = some d ∧ Rep K T P d v
  | [], _, i, v, h, e => by unfold RepAll at h; subst h; simp at e
  | d :: ds, vs, i, v, h, e => by
    unfold RepAll at h
    obtain ⟨w, t, rfl, r1, r2⟩ := h
    cases i with
    | zero => simp at e; subst e; exact ⟨d, rfl, r1⟩
    | succ n => simpa using rep_at r2 (by simpa using e)
theorem at_of_lt {α : Type} {xs : List α} {i : Nat} (h : i < xs.length) : ∃ x, xs[i]? = some x := ⟨xs[i], by simp [h]⟩
theorem itOk_l {K : PySem.W.Frag} {P : Hp} {l : Addr} {ds : List D} {vs : List V} (hP : P l = some (.lst vs)) (r : RepAll K T P ds vs) : ItOk K T P (Itl K l) ds := fun i P' H' hp hh => by
  have hS : SqL K H' l vs := SqL.of (hh _ _ (hp _ _ hP))
  refine ⟨fun hi => ?_, fun hi => ⟨vs, hS, by rw [r.length]; exact hi⟩, fun v H'' hi hy => ?_⟩
  · obtain ⟨v, hv⟩ := at_of_lt (xs := vs) (by rw [r.length]; exact hi)
    exact ⟨vs, v, hS, hv⟩
  · obtain ⟨rfl, h2⟩ := hy
    have hv := h2 vs hS
    obtain ⟨d, h3, h4⟩ := rep_at r hv
    exact ⟨P', d, Ext.refl hh, h3, Rep.mono hp _ _ h4⟩
theorem itOk_t {K : PySem.W.Frag} {P : Hp} {l : Addr} {ds : List D} {vs : List V} (hS : ∀ H', Same P H' → SqT K H' l vs) (r : RepAll K T P ds vs) : ItOk K T P (Itt K l) ds := fun i P' H' hp hh => by
  have hS : SqT K H' l vs := hS H' (hp.trans hh)
  refine ⟨fun hi => ?_, fun hi => ⟨vs, hS, by rw [r.length]; exact hi⟩, fun v H'' hi hy => ?_⟩
  · obtain ⟨v, hv⟩ := at_of_lt (xs := vs) (by rw [r.length]; exact hi)
    exact ⟨vs, v, hS, hv⟩
  · obtain ⟨rfl, h2⟩ := hy
    have hv := h2 vs hS
    obtain ⟨d, h3, h4⟩ := rep_at r hv
    exact ⟨P', d, Ext.refl hh, h3, Rep.mono hp _ _ h4⟩
theorem itOk_r {K : PySem.W.Frag} {P : Hp} {lo : Int} {n : Nat} : ItOk K T P (Itr lo n) (upI lo n) := fun i P' H' hp hh => by
  have hl : (upI lo n).length = n := by simp [upI]
  refine ⟨fun hi => by rw [hl] at hi; exact hi, fun hi => by rw [hl] at hi; exact hi, fun v H'' hi hy => ?_⟩
  obtain ⟨rfl, rfl⟩ := hy
  rw [hl] at hi
  exact ⟨P', .int (lo + i), Ext.refl hh, by simp [upI, hi], by unfold Rep; rfl⟩
theorem itOk_d {K : PySem.W.Frag} {P : Hp} {hi : Int} {n : Nat} : ItOk K T P (Itc hi (-1) n) (downI hi n) := fun i P' H' hp hh => by
  have hl : (downI hi n).length = n := by simp [downI]
  refine ⟨fun hi => by rw [hl] at hi; exact hi, fun hi => by rw [hl] at hi; exact hi, fun v H'' h1 hy => ?_⟩
  obtain ⟨rfl, rfl⟩ := hy
  rw [hl] at h1
  exact ⟨P', .int (hi - i), Ext.refl hh, by simp [downI, h1], by unfold Rep; congr 1; omega⟩
/-- a list or a tuple -/
theorem evI_seq (ha : Ev X T W .P ρ e da) : EvI X T W ρ tg e (da.bind seqsR) := fun P H σ R1 S h => by
  cases hd : da with
  | bad => rw [hd] at h; exact h.elim
  | ex z =>
    refine wpI_of (pi_list pw) ?_
    exact evI_bind ha S h fun v w P1 H1 h1 => by rw [hd] at h1; cases h1
  | ok d =>
    cases d with
    | lst ds =>
      refine wpI_of (pi_list pw) ?_
      refine evI_bind ha S h fun v w P1 H1 h1 e1 S1 r1 q1 => ?_
      rw [hd] at h1
      cases h1
      unfold Rep at r1
      obtain ⟨l, vs, rfl, h2, h3⟩ := r1
      exact ⟨l, rfl, ⟨vs, SqL.of (e1.ph _ _ h2)⟩, q1 _ P1 H1 (Ext.refl e1.ph) (itOk_l h2 h3)⟩
    | tup ds =>
      refine wpI_of (pi_tup pw) ?_
      refine evI_bind ha S h fun v w P1 H1 h1 e1 S1 r1 q1 => ?_
      rw [hd] at h1
      cases h1
      unfold Rep at r1
      obtain ⟨l, vs, rfl, h2, h3⟩ := r1
      have hS : ∀ H', Same P1 H' → SqT X.K H' l vs := fun H' hs => .inl (.inl (hs _ _ h2))
      exact ⟨l, rfl, ⟨vs, hS _ e1.ph⟩, q1 _ P1 H1 (Ext.refl e1.ph) (itOk_t hS h3)⟩
    | _ => rw [hd] at h; exact h.elim
theorem evIA_bind {P H : Hp} {σ : L2.St} {R1 : It → Hp → Prop} {f : List D → R (List D)} {es : List Expr} {dl : R (List D)} {Q1 : List V → Hp → Prop} (ha : EvA X T W ρ es dl) (S : Sim X.K T P H σ ρ) (h : PostIt X.K T W P H σ (dl.bind f) R1)
    (kk : ∀ vs ws P1 H1, dl = .ok vs → Ext P H P1 H1 → Sim X.K T P1 H1 σ ρ → RepAll X.K T P1 vs ws → PostIt X.K T W P1 H1 σ (f vs) R1 → Q1 ws H1) : wpA X es σ H Q1 := by
  refine ha P H σ Q1 S ?_
  cases dl with
  | ok v => exact fun w P' H' e' r => kk v w P' H' rfl e' (S.ext e') r (h.shift e')
  | ex x => exact fun cls dd H' s' r => h cls dd H' s' r
  | bad => exact h
theorem all1 {f : D → R (List D)} : da.bind f = (allR [da]).bind fun | [v] => f v | _ => .bad := by cases da <;> rfl
theorem all2 {f : D → D → R (List D)} : op2 f da db = (allR [da, db]).bind fun | [v, w] => f v w | _ => .bad := by cases da <;> cases db <;> rfl
/-- ranges -/
theorem evI_rg1 (g : Gd X k) (hg : Gl X "range") (ha : EvA X T W ρ [a] (allR [da])) (hs : starEach [a] X.env = [(false, eval a X.env)]) : EvI X T W ρ tg (.Call (.Name "range" p) [a] [] pos) (da.bind range1R) := fun P H σ R1 S h => by
  refine wpI_of (pi_range1 hg g.bi.range aw hs) ?_
  rw [all1] at h
  refine evIA_bind ha S h fun vs ws P1 H1 h1 e1 S1 r1 q1 => ?_
  match vs, r1, q1 with
  | [v], r1, q1 =>
    unfold RepAll at r1
    obtain ⟨w, t, rfl, r1, r2⟩ := r1
    unfold RepAll at r2
    subst r2
    refine (show ∃ j, [w] = [V.int j] ∧ _ from ?_)
    cases v with
    | int j =>
      dsimp only at q1
      unfold range1R at q1
      dsimp only at q1
      split at q1
      · rename_i hb
        unfold Rep at r1
        subst r1
        unfold big62 at hb
        simp only [Bool.and_eq_true, decide_eq_true_eq] at hb
        exact ⟨j, rfl, hb.1, hb.2, q1 _ P1 H1 (Ext.refl e1.ph) itOk_r⟩
      · exact q1.elim
    | _ => exact q1.elim
  | [], _, q1 => exact q1.elim
  | _ :: _ :: _, _, q1 => exact q1.elim
theorem evI_rg2 (g : Gd X k) (hg : Gl X "range") (ha : EvA X T W ρ [a, b] (allR [da, db])) (hs : starEach [a, b] X.env = [(false, eval a X.env), (false, eval b X.env)]) (hs2 : starEach [b] X.env = [(false, eval b X.env)]) :
    EvI X T W ρ tg (.Call (.Name "range" p) [a, b] [] pos) (op2 range2R da db) := fun P H σ R1 S h => by
  refine wpI_of (pi_range2 hg g.bi.range aw hs hs2) ?_
  rw [all2] at h
  refine evIA_bind ha S h fun vs ws P1 H1 h1 e1 S1 r1 q1 => ?_
  match vs, r1, q1 with
  | [v, v2], r1, q1 =>
    unfold RepAll at r1
    obtain ⟨w, t, rfl, r1, r2⟩ := r1
    unfold RepAll at r2
    obtain ⟨w2, t2, rfl, r2, r3⟩ := r2
    unfold RepAll at r3
    subst r3
    refine (show ∃ i j, [w, w2] = [V.int i, V.int j] ∧ _ from ?_)
    cases v with
    | int i =>
      cases v2 with
      | int j =>
        dsimp only at q1
        unfold range2R at q1
        dsimp only at q1
        split at q1
        · rename_i hb
          unfold Rep at r1 r2
          subst r1 r2
          unfold big62 at hb
          simp only [Bool.and_eq_true, decide_eq_true_eq] at hb
          exact ⟨i, j, rfl, ⟨hb.1.1, hb.1.2, hb.2.1, hb.2.2⟩, q1 _ P1 H1 (Ext.refl e1.ph) itOk_r⟩
        · exact q1.elim
      | _ => exact q1.elim
    | _ => exact q1.elim
  | [], _, q1 => exact q1.elim
  | [_], _, q1 => exact q1.elim
  | _ :: _ :: _ :: _, _, q1 => exact q1.elim
theorem rgC_down {i j : Int} (h1 : -(2 ^ 62) ≤ i) (h2 : i < 2 ^ 62) (h3 : -(2 ^ 62) ≤ j) (h4 : j < 2 ^ 62) : RgC i j (-1) (i - j).toNat := by
  have hs : Builtin.Range.rangeSize i j (-1) = ((i - j).toNat : Int) := by
    unfold Builtin.Range.rangeSize
    rw [if_neg (by decide)]
    split
    · rw [show (- -1 : Int) = 1 from rfl, Int.ediv_one]; omega
    · omega
  refine ⟨by decide, by decide, ?_, hs⟩
  unfold Builtin.Range.small
  rw [hs]
  unfold Builtin.Range.rangeFitsLong
  rw [if_neg (by decide)]
  simp
  omega
theorem evI_rgD (g : Gd X k) (hg : Gl X "range") (ha : EvA X T W ρ [a, b, c] (allR [da, db, .ok (.int (-1))])) (hs : starEach [a, b, c] X.env = (false, eval a X.env) :: starEach [b, c] X.env) (hs2 : (backTo pos (starEach [b, c] X.env)).any (·.1) = false) :
    EvI X T W ρ tg (.Call (.Name "range" p) [a, b, c] [] pos) (op2 rangeDR da db) := fun P H σ R1 S h => by
  refine wpI_of (pi_range3 hg g.bi.range aw hs hs2) ?_
  rw [show op2 rangeDR da db = (allR [da, db, .ok (.int (-1))]).bind fun | [v, w, _] => rangeDR v w | _ => .bad by cases da <;> cases db <;> rfl] at h
  refine evIA_bind ha S h fun vs ws P1 H1 h1 e1 S1 r1 q1 => ?_
  match vs, h1, r1, q1 with
  | [v, v2, v3], h1, r1, q1 =>
    have h3 : v3 = .int (-1) := by cases da <;> cases db <;> simp [allR] at h1; exact h1.2.2.symm
    subst h3
    unfold RepAll at r1
    obtain ⟨w, t, rfl, r1, r2⟩ := r1
    unfold RepAll at r2
    obtain ⟨w2, t2, rfl, r2, r3⟩ := r2
    unfold RepAll at r3
    obtain ⟨w3, t3, rfl, r3, r4⟩ := r3
    unfold RepAll at r4
    subst r4
    refine (show ∃ i j c n, [w, w2, w3] = [V.int i, V.int j, V.int c] ∧ _ from ?_)
    cases v with
    | int i =>
      cases v2 with
      | int j =>
        dsimp only at q1
        unfold rangeDR at q1
        dsimp only at q1
        split at q1
        · rename_i hb
          unfold Rep at r1 r2 r3
          subst r1 r2 r3
          unfold big62 at hb
          simp only [Bool.and_eq_true, decide_eq_true_eq] at hb
          exact ⟨i, j, -1, _, rfl, rgC_down hb.1.1 hb.1.2 hb.2.1 hb.2.2, q1 _ P1 H1 (Ext.refl e1.ph) itOk_d⟩
        · exact q1.elim
      | _ => exact q1.elim
    | _ => exact q1.elim
  | [], _, _, q1 => exact q1.elim
  | [_], _, _, q1 => exact q1.elim
  | [_, _], _, _, q1 => exact q1.elim
  | _ :: _ :: _ :: _ :: _, _, _, q1 => exact q1.elim
/-- an own list that stands still -/
theorem evIW_own {px : Pos} {i : Nat} {d : D} (hi : ρ[i]? = some (.own d)) (hN : X.N[i]? = some x) (hv : Vis X.env.scope x) (hd : (x == ("__debug__" : Str)) = false) (hcd : (x == ("__classdict__" : Str)) = false) : EvIW X T W ρ tg (.Name x px) (seqsR d) := fun P H σ R1 S q => by
  obtain ⟨u, h5, a', o', rfl, h7, h8, h9⟩ := cell_at S hi
  cases d with
  | lst ds =>
    refine wpI_of (pi_list (pe_var hN hv hd hcd)) ?_
    obtain ⟨vs, rfl, h10⟩ := h9
    refine ⟨_, h5, a', rfl, ⟨vs, SqL.of h8⟩, q _ P H (Ext.refl S.sub) fun i P' H' hp hs hh => ?_⟩
    have hS : SqL X.K H' a' vs := SqL.of (hh _ _ h8)
    have r := RepAll.mono hp _ _ h10
    refine ⟨fun hi => ?_, fun hi => ⟨vs, hS, by rw [r.length]; exact hi⟩, fun v H'' hi hy => ?_⟩
    · obtain ⟨v, hv⟩ := at_of_lt (xs := vs) (by rw [r.length]; exact hi)
      exact ⟨vs, v, hS, hv⟩
    · obtain ⟨rfl, h2⟩ := hy
      have hv := h2 vs hS
      obtain ⟨d, h3, h4⟩ := rep_at r hv
      exact ⟨P', d, Ext.refl hs, h3, h4⟩
  | dct t kvs => exact q.elim
  | _ => exact h9.elim
end
end Fj

/-! ## Lay11 -/
namespace Fj
open PySem PySem.Spec PyProof.Rows L2
section
variable {X : Cx} {T : Tb} {W : WX} {k : Nat} {ρ : List C} {a b c e tg iter : Expr} {da db : R D} {ca cb : R Bool} {pos p p2 p3 : Pos} {m : Md} {x y : Str} {fr : Bool}
/-! ### zip, enumerate -/
theorem ext_new {P H : Hp} {t : Addr} {o : HO} (hs : Same P H) (ht : H t = none) : Ext P H (upd P t o) (upd H t o) := by
  have hp : P t = none := by
    cases q : P t with
    | none => rfl
    | some z => rw [hs _ _ q] at ht; cases ht
  refine ⟨fun b z h => ?_, fun b z h => ?_, fun b z h => ?_, fun b h1 h2 => ?_⟩
  · rw [upd_ne (fun e => by rw [e, hp] at h; cases h)]; exact h
  · rw [upd_ne (fun e => by rw [e, ht] at h; cases h)]; exact h
  · by_cases q : b = t
    · subst q; rw [upd_same] at h ⊢; exact h
    · rw [upd_ne q] at h ⊢; exact hs _ _ h
  · by_cases q : b = t
    · subst q; exact absurd ht h1
    · rw [upd_ne q]; exact h2
theorem zipL_len : ∀ (xs ys : List D), (zipL xs ys).length = min xs.length ys.length
  | [], _ => by simp [zipL]
  | _ :: _, [] => by simp [zipL]
  | x :: xs, y :: ys => by simp [zipL, zipL_len xs ys]
theorem zipL_at : ∀ {xs ys : List D} {i : Nat} {x y : D}, xs[i]? = some x → ys[i]? = some y → (zipL xs ys)[i]? = some (.tup [x, y])
  | [], _, i, x, y, h, _ => by simp at h
  | _ :: _, [], i, x, y, _, h => by simp at h
  | a :: xs, b :: ys, 0, x, y, h1, h2 => by simp at h1 h2; subst h1 h2; rfl
  | a :: xs, b :: ys, i + 1, x, y, h1, h2 => by simpa [zipL] using zipL_at (by simpa using h1) (by simpa using h2)
theorem enumL_len : ∀ (k : Nat) (xs : List D), (enumL k xs).length = xs.length
  | _, [] => rfl
  | k, _ :: xs => by simp [enumL, enumL_len (k + 1) xs]
theorem enumL_at : ∀ {xs : List D} {k i : Nat} {x : D}, xs[i]? = some x → (enumL k xs)[i]? = some (.tup [.int ((k + i : Nat)), x])
  | [], _, i, x, h => by simp at h
  | a :: xs, k, 0, x, h => by simp at h; subst h; simp [enumL]
  | a :: xs, k, i + 1, x, h => by
    have := enumL_at (k := k + 1) (xs := xs) (i := i) (x := x) (by simpa using h)
    simp only [enumL, List.getElem?_cons_succ]
    rw [this, Nat.add_assoc, Nat.add_comm 1 i]
theorem rep_tup2 {K : PySem.W.Frag} {P : Hp} {t : Addr} {x y : D} {v w : V} (hP : P t = some (.tup [v, w])) (h1 : Rep K T P x v) (h2 : Rep K T P y w) : Rep K T P (.tup [x, y]) (.ref t) := by
  unfold Rep
  exact ⟨t, [v, w], rfl, hP, RepAll.cons h1 (RepAll.cons h2 RepAll.nil)⟩
theorem itOk_zip {K : PySem.W.Frag} {P : Hp} {l l2 : Addr} {ds es : List D} {vs ws : List V} {Sq : Hp → Addr → List V → Prop} {J : It}
    (hJ : J = { go := fun i H => ∃ xs ys x y, Sq H l xs ∧ Sq H l2 ys ∧ xs[i]? = some x ∧ ys[i]? = some y, yld := fun i H v H' => ∃ T x y, v = V.ref T ∧ H T = none ∧ H' = upd H T (HO.tup [x, y]) ∧ (∀ (xs : List V), Sq H l xs → xs[i]? = some x) ∧ ∀ (ys : List V), Sq H l2 ys → ys[i]? = some y, stop := fun i H => ∃ xs ys, Sq H l xs ∧ Sq H l2 ys ∧ (xs.length ≤ i ∨ ys.length ≤ i) })
    (h1 : ∀ H', Same P H' → Sq H' l vs) (h2 : ∀ H', Same P H' → Sq H' l2 ws) (r1 : RepAll K T P ds vs) (r2 : RepAll K T P es ws) : ItOk K T P J (zipL ds es) := fun i P' H' hp hh => by
  subst hJ
  have g1 := h1 H' (hp.trans hh)
  have g2 := h2 H' (hp.trans hh)
  have l1 := r1.length
  have l2 := r2.length
  rw [zipL_len]
  refine ⟨fun hi => ?_, fun hi => ⟨vs, ws, g1, g2, by omega⟩, fun v H'' hi hy => ?_⟩
  · obtain ⟨v, hv⟩ := at_of_lt (xs := vs) (i := i) (by omega)
    obtain ⟨w, hw⟩ := at_of_lt (xs := ws) (i := i) (by omega)
    exact ⟨vs, ws, v, w, g1, g2, hv, hw⟩
  · obtain ⟨t, u, w, rfl, ht, rfl, hu, hw⟩ := hy
    obtain ⟨d, h3, h4⟩ := rep_at r1 (hu _ g1)
    obtain ⟨d2, h5, h6⟩ := rep_at r2 (hw _ g2)
    have ex := ext_new (o := HO.tup [u, w]) hh ht
    exact ⟨_, _, ex, zipL_at h3 h5, rep_tup2 upd_same (Rep.mono (hp.trans ex.pp) _ _ h4) (Rep.mono (hp.trans ex.pp) _ _ h6)⟩
theorem itOk_enum {K : PySem.W.Frag} {P : Hp} {l : Addr} {ds : List D} {vs : List V} (h1 : ∀ H', Same P H' → SqL K H' l vs) (r1 : RepAll K T P ds vs) : ItOk K T P (Ite K l) (enumL 0 ds) := fun i P' H' hp hh => by
  have g1 := h1 H' (hp.trans hh)
  have l1 := r1.length
  rw [enumL_len]
  refine ⟨fun hi => ?_, fun hi => ⟨vs, g1, by omega⟩, fun v H'' hi hy => ?_⟩
  · obtain ⟨v, hv⟩ := at_of_lt (xs := vs) (i := i) (by omega)
    exact ⟨vs, v, g1, hv⟩
  · obtain ⟨t, u, rfl, ht, rfl, hu⟩ := hy
    obtain ⟨d, h3, h4⟩ := rep_at r1 (hu _ g1)
    have ex := ext_new (o := HO.tup [.int i, u]) hh ht
    refine ⟨_, _, ex, enumL_at h3, rep_tup2 upd_same ?_ (Rep.mono (hp.trans ex.pp) _ _ h4)⟩
    unfold Rep
    simp
def zipR : D → D → R (List D)
  | .lst xs, .lst ys => .ok (zipL xs ys)
  | .tup xs, .tup ys => .ok (zipL xs ys)
  | _, _ => .bad
def enumR : D → R (List D)
  | .lst xs => .ok (enumL 0 xs)
  | _ => .bad
theorem evI_zip {tpos : Pos} {elts : List Expr} {kk : Nat} (g : Gd X k) (hg : Gl X "zip") (ha : EvA X T W ρ [a, b] (allR [da, db])) (hs : starEach [a, b] X.env = (false, eval a X.env) :: starEach [b] X.env) (hs2 : (backTo pos (starEach [b] X.env)).any (·.1) = false) :
    EvI X T W ρ (.Tuple elts kk tpos) (.Call (.Name "zip" p) [a, b] [] pos) (op2 zipR da db) := fun P H σ R1 S h => by
  refine wpI_of (RZ.pi_zipA hg g.bi.zip aw hs hs2) ?_
  rw [all2] at h
  refine evIA_bind ha S h fun vs ws P1 H1 h1 e1 S1 r1 q1 => ?_
  match vs, r1, q1 with
  | [v, v2], r1, q1 =>
    unfold RepAll at r1
    obtain ⟨w, t, rfl, r1, r2⟩ := r1
    unfold RepAll at r2
    obtain ⟨w2, t2, rfl, r2, r3⟩ := r2
    unfold RepAll at r3
    subst r3
    cases v with
    | lst ds =>
      cases v2 with
      | lst es =>
        unfold Rep at r1 r2
        obtain ⟨l, us, rfl, h2, h3⟩ := r1
        obtain ⟨l2, us2, rfl, h4, h5⟩ := r2
        refine ⟨l, l2, us, us2, rfl, .inl ⟨SqL.of (e1.ph _ _ h2), SqL.of (e1.ph _ _ h4), q1 _ P1 H1 (Ext.refl e1.ph) (itOk_zip (Sq := SqL X.K) rfl (fun H' hs => SqL.of (hs _ _ h2)) (fun H' hs => SqL.of (hs _ _ h4)) h3 h5)⟩⟩
      | _ => exact q1.elim
    | tup ds =>
      cases v2 with
      | tup es =>
        unfold Rep at r1 r2
        obtain ⟨l, us, rfl, h2, h3⟩ := r1
        obtain ⟨l2, us2, rfl, h4, h5⟩ := r2
        refine ⟨l, l2, us, us2, rfl, .inr ⟨.inl (.inl (e1.ph _ _ h2)), .inl (.inl (e1.ph _ _ h4)), q1 _ P1 H1 (Ext.refl e1.ph) (itOk_zip (Sq := SqT X.K) rfl (fun H' hs => .inl (.inl (hs _ _ h2))) (fun H' hs => .inl (.inl (hs _ _ h4))) h3 h5)⟩⟩
      | _ => exact q1.elim
    | _ => exact q1.elim
  | [], _, q1 => exact q1.elim
  | [_], _, q1 => exact q1.elim
  | _ :: _ :: _ :: _, _, q1 => exact q1.elim
theorem evI_enum {tpos : Pos} {elts : List Expr} {kk : Nat} (g : Gd X k) (hg : Gl X "enumerate") (ha : EvA X T W ρ [a] (allR [da])) (hs : starEach [a] X.env = [(false, eval a X.env)]) :
    EvI X T W ρ (.Tuple elts kk tpos) (.Call (.Name "enumerate" p) [a] [] pos) (da.bind enumR) := fun P H σ R1 S h => by
  refine wpI_of (pi_enum hg g.bi.enumerate aw hs) ?_
  rw [all1] at h
  refine evIA_bind ha S h fun vs ws P1 H1 h1 e1 S1 r1 q1 => ?_
  match vs, r1, q1 with
  | [v], r1, q1 =>
    unfold RepAll at r1
    obtain ⟨w, t, rfl, r1, r2⟩ := r1
    unfold RepAll at r2
    subst r2
    cases v with
    | lst ds =>
      unfold Rep at r1
      obtain ⟨l, us, rfl, h2, h3⟩ := r1
      exact ⟨l, us, rfl, SqL.of (e1.ph _ _ h2), q1 _ P1 H1 (Ext.refl e1.ph) (itOk_enum (fun H' hs => SqL.of (hs _ _ h2)) h3)⟩
    | _ => exact q1.elim
  | [], _, q1 => exact q1.elim
  | _ :: _ :: _, _, q1 => exact q1.elim

/-! ### if -/
variable {S S' B : Type} {ios : List Nat} {mkN : S → List C} {mkB : B → List C} {rest body thn els : List Stmt} {st : Stmt} {i j : Nat}
theorem post_seq {mk : S' → List C} {z : Zn} {ra : R (Fl S' B)} {kk : S' → R (Fl S B)} {D1 : Ends} (hz : z.io.map (·.1) = ios) (hr : ∀ s, Ss X T W fr ios mkN mkB (mk s) rest (kk s)) (h : PostS X.K T W fr mkN mkB z (seqR ra kk) D1) :
    PostS X.K T W fr mk mkB z ra ⟨wpSs X rest D1, D1.rt, D1.bk, D1.ct⟩ := by
  cases ra with
  | ok f =>
    cases f with
    | nx s => exact fun P H σ Z => hr s z P H σ D1 hz Z h
    | bk b => exact h
    | rt d os => exact h
  | ex e => exact h
  | bad => exact h
theorem post_end {mk : Empty → List C} {z : Zn} {ra : R (Fl Empty B)} {D1 : Ends} {nx : L2.St → Hp → Prop} (h : PostS X.K T W fr mkN mkB z (endR ra) D1) : PostS X.K T W fr mk mkB z ra ⟨nx, D1.rt, D1.bk, D1.ct⟩ := by
  cases ra with
  | ok f =>
    cases f with
    | nx s => exact nomatch s
    | bk b => exact h
    | rt d os => exact h
  | ex e => exact h
  | bad => exact h
/-- both ways go on -/
theorem ss_if {mk : S' → List C} {ra rb : R (Fl S' B)} {kk : S' → R (Fl S B)} (hc : EvT X T W ρ c ca) (ha : Ss X T W fr ios mk mkB ρ thn ra) (hb : Ss X T W fr ios mk mkB ρ els rb) (hr : ∀ s, Ss X T W fr ios mkN mkB (mk s) rest (kk s)) :
    Ss X T W fr ios mkN mkB ρ (.If c thn els pos :: rest) (seqR (ifE ca ra rb) kk) := fun z P H σ D1 hz Z h => by
  refine wpSs_of (pss_cons (ps_if tw ssw ssw) ssw) ?_
  have h2 : PostS X.K T W fr mk mkB z (ca.bind fun k => if k = true then ra else rb) ⟨wpSs X rest D1, D1.rt, D1.bk, D1.ct⟩ := post_seq hz hr h
  refine ss_bindT hc Z h2 fun v P1 H1 e1 Z1 q1 => ?_
  cases v with
  | true => exact ha z P1 H1 σ _ hz Z1 q1
  | false => exact hb z P1 H1 σ _ hz Z1 q1
/-- the first way goes out -/
theorem ss_ifE {mk : Empty → List C} {ra : R (Fl Empty B)} {rr : R (Fl S B)} (hc : EvT X T W ρ c ca) (ha : Ss X T W fr ios mk mkB ρ thn ra) (hr : Ss X T W fr ios mkN mkB ρ rest rr) :
    Ss X T W fr ios mkN mkB ρ (.If c thn [] pos :: rest) (ifE ca (endR ra) rr) := fun z P H σ D1 hz Z h => by
  refine wpSs_of (pss_cons (ps_if tw ssw pss_nil) ssw) ?_
  have h2 : PostS X.K T W fr mkN mkB z (ca.bind fun k => if k = true then endR ra else rr) D1 := h
  refine ss_bindT hc Z h2 fun v P1 H1 e1 Z1 q1 => ?_
  cases v with
  | true => exact ha z P1 H1 σ _ hz Z1 (post_end q1)
  | false => exact hr z P1 H1 σ _ hz Z1 q1
/-! ### for -/
theorem same_z {z : Zn} {P H P1 : Hp} {σ : L2.St} (Z : SimZ X.K T z P H σ ρ) : SimZ X.K T ⟨P, z.H0, z.io⟩ P H σ ρ := ⟨Z.sim, Z.frame, Same.refl _, fun _ _ h => h, Z.loc, Z.ios⟩
theorem back_z {z : Zn} {P H P1 : Hp} {σ σ1 : L2.St} {ρ' : List C} (hp : Same z.P0 P1) (hn : ∀ a, z.H0 a ≠ none → z.P0 a = none → P1 a = none) (Z : SimZ X.K T ⟨P1, z.H0, z.io⟩ P H σ ρ') : SimZ X.K T z P H σ ρ' :=
  ⟨Z.sim, Z.frame, hp.trans Z.pp, fun a h1 h2 => Z.nw a h1 (hn a h1 h2), Z.loc, Z.ios⟩
theorem back_r {z : Zn} {P H P1 : Hp} {w : V} {d : D} {os : List D} (hp : Same z.P0 P1) (hn : ∀ a, z.H0 a ≠ none → z.P0 a = none → P1 a = none) (Z : RetZ X.K T fr ⟨P1, z.H0, z.io⟩ P H w d os) : RetZ X.K T fr z P H w d os :=
  ⟨Z.sub, Z.frame, hp.trans Z.pp, fun a h1 h2 => Z.nw a h1 (hn a h1 h2), Z.rep, Z.outs⟩
theorem post_z {z : Zn} {P1 : Hp} {r : R (Fl S B)} {D1 : Ends} (hp : Same z.P0 P1) (hn : ∀ a, z.H0 a ≠ none → z.P0 a = none → P1 a = none) (h : PostS X.K T W fr mkN mkB z r D1) : PostS X.K T W fr mkN mkB ⟨P1, z.H0, z.io⟩ r D1 := by
  cases r with
  | ok f =>
    cases f with
    | nx s => exact fun P H σ Z => h P H σ (back_z (σ1 := σ) hp hn Z)
    | bk b => exact fun P H σ Z => h P H σ (back_z (σ1 := σ) hp hn Z)
    | rt d os => exact fun P H w Z => h P H w (back_r hp hn Z)
  | ex e => exact h
  | bad => exact h
theorem post_aft {mk : S' → List C} {z : Zn} {r : R (Fl S' S')} {kk : S' → R (Fl S B)} {D1 : Ends} (hz : z.io.map (·.1) = ios) (hr : ∀ s, Ss X T W fr ios mkN mkB (mk s) rest (kk s)) (h : PostS X.K T W fr mkN mkB z (aftR r kk) D1) :
    PostS X.K T W fr mk mk z r ⟨wpSs X rest D1, D1.rt, wpSs X rest D1, D1.ct⟩ := by
  cases r with
  | ok f =>
    cases f with
    | nx s => exact fun P H σ Z => hr s z P H σ D1 hz Z h
    | bk s => exact fun P H σ Z => hr s z P H σ D1 hz Z h
    | rt d os => exact h
  | ex e => exact h
  | bad => exact h
/-- the turns of a for -/
theorem for_turns {mk : S' → List C} {z : Zn} {P H : Hp} {σ : L2.St} {D2 : Ends} {J : It} {ds : List D} {s0 : S'} {f : D → S' → R (Fl S' S')} {g : TG} {tb : TS} (hD : D2.nx = D2.bk) (hz : z.io.map (·.1) = ios) (hJ : ItOk X.K T P J ds)
    (hg : ∀ (z : Zn) d v s P H σ (D3 : Ends), z.io.map (·.1) = ios → SimZ X.K T z P H σ (mk s) → Rep X.K T P d v → PostS X.K T W fr mk mk z (f d s) D3 → g v σ H fun σ2 H2 => tb D3 σ2 H2)
    (Z : SimZ X.K T z P H σ (mk s0)) (h : PostS X.K T W fr mk mk z (forR ds s0 f) D2) :
    ∃ Wm : Nat → Nat → L2.St → Hp → Prop, (∃ m, Wm 0 m σ H) ∧ ∀ (i m : Nat) (σ : L2.St) (H : Hp), Wm i m σ H → (J.stop i H ∧ D2.nx σ H) ∨ (J.go i H ∧ ∃ N : L2.St → Hp → Prop, (∀ σ' H', N σ' H' → ∃ m', m' < m ∧ Wm (i + 1) m' σ' H') ∧
      ∀ x H', J.yld i H x H' → g x σ H' fun σ2 H2 => tb { nx := N, rt := D2.rt, bk := D2.nx, ct := N } σ2 H2) := by
  have h := post_z Z.pp Z.nw h
  have Z := same_z (P1 := P) Z
  refine ⟨fun i m σ H => i + m = ds.length ∧ ∃ s P', SimZ X.K T ⟨P, z.H0, z.io⟩ P' H σ (mk s) ∧ PostS X.K T W fr mk mk ⟨P, z.H0, z.io⟩ (forR (ds.drop i) s f) D2, ⟨ds.length, by omega, s0, P, Z, h⟩, ?_⟩
  rintro i m σ1 H1 ⟨hm, s, P', Z', h'⟩
  obtain ⟨j1, j2, j3⟩ := hJ i P' H1 Z'.pp Z'.sim.sub
  by_cases hi : i < ds.length
  · refine .inr ⟨j1 hi, fun σ' H' => ∃ m', m' < m ∧ (i + 1 + m' = ds.length ∧ ∃ s P', SimZ X.K T ⟨P, z.H0, z.io⟩ P' H' σ' (mk s) ∧ PostS X.K T W fr mk mk ⟨P, z.H0, z.io⟩ (forR (ds.drop (i + 1)) s f) D2), fun _ _ h => h, fun x H' hy => ?_⟩
    obtain ⟨P'', d, e1, hd, hr⟩ := j3 x H' hi hy
    have hdr : ds.drop i = d :: ds.drop (i + 1) := by
      rw [List.drop_eq_getElem_cons hi]
      congr 1
      rw [List.getElem?_eq_getElem hi] at hd
      exact Option.some.inj hd
    rw [hdr] at h'
    refine hg ⟨P, z.H0, z.io⟩ d x s P'' H' σ1 _ hz (Z'.ext e1) hr ?_
    unfold forR at h'
    cases hf : f d s with
    | bad => rw [hf] at h'; exact h'
    | ex e => rw [hf] at h'; exact h'
    | ok fl =>
      rw [hf] at h'
      cases fl with
      | nx s' => exact fun P3 H3 σ3 Z3 => ⟨m - 1, by omega, by omega, s', P3, Z3, h'⟩
      | bk b =>
        show ∀ P3 H3 σ3, _ → D2.nx σ3 H3
        rw [hD]
        exact h'
      | rt d2 os => exact h'
  · refine .inl ⟨j2 (by omega), ?_⟩
    rw [List.drop_eq_nil_of_le (by omega)] at h'
    exact h' P' H1 σ1 Z'
/-- for x in it -/
theorem ss_for {mk : S' → List C} {it : R (List D)} {s0 : S'} {f : D → S' → R (Fl S' S')} {kk : S' → R (Fl S B)} {px : Pos} (g : Gd X k) (hp : PassesOwn (model X.prog X.w) X.A X.env X.xe) (hi : X.N[i]? = some x) (hx : Loc X.env.scope x) (hf : X.fn x = true ∨ X.env.scope.names.lookup x = some .local) (hio : ios.contains i = false)
    (hit : EvI X T W ρ (.Name x px) iter it) (hw : Weak ρ (mk s0)) (ho : ios.all (ownAt (mk s0)) = true) (hb : ∀ d s, Ss X T W fr ios mk mk ((mk s).set i (.val d)) body (f d s)) (hr : ∀ s, Ss X T W fr ios mkN mkB (mk s) rest (kk s))
    (hfs : ∀ u, foldedSetIterable iter X.env u = pure u := by intro u; rfl) :
    Ss X T W fr ios mkN mkB ρ (.For (.Name x px) iter body [] pos :: rest) (aftR (it.bind fun xs => forR xs s0 f) kk) := fun z P H σ D1 hz Z h => by
  refine wpSs_of (pss_cons (ps_for hp g.calm iw (pg_name g.nd hi hx hf) ssw hfs) ssw) ?_
  have h2 := post_aft hz hr h
  show wpI X _ iter σ H _
  refine hit P H σ _ Z.sim ?_
  cases it with
  | bad => exact h2
  | ex e => exact fun cls dd H' s' r => h2 cls dd σ H' (fun b o e1 e2 => s' _ _ (Z.frame b o e1 e2)) r
  | ok ds =>
    intro J P1 H1 e1 hJ
    have Z1 := (Z.ext e1).weak hw (by rw [hz]; exact ho)
    exact for_turns (D2 := ⟨wpSs X rest D1, D1.rt, wpSs X rest D1, D1.ct⟩) rfl hz hJ (fun z d v s P H σ D3 hz Z r q => hb d s z P H _ D3 hz (Z.set (io_ne hz hio) r) q) Z1 h2
theorem rep2 {K : PySem.W.Frag} {P : Hp} {d d2 : D} {v : V} (r : Rep K T P (.tup [d, d2]) v) : ∃ t u w, v = .ref t ∧ P t = some (.tup [u, w]) ∧ Rep K T P d u ∧ Rep K T P d2 w := by
  unfold Rep at r
  obtain ⟨t, vs, rfl, h1, h2⟩ := r
  unfold RepAll at h2
  obtain ⟨u, l, rfl, h3, h4⟩ := h2
  unfold RepAll at h4
  obtain ⟨w, l2, rfl, h5, h6⟩ := h4
  unfold RepAll at h6
  subst h6
  exact ⟨t, u, w, rfl, h1, h3, h5⟩
theorem post_un2 {z : Zn} {d : D} {F : D → D → R (Fl S B)} {D1 : Ends} (h : PostS X.K T W fr mkN mkB z (un2 F d) D1) : ∃ a b, d = .tup [a, b] ∧ PostS X.K T W fr mkN mkB z (F a b) D1 := by
  unfold un2 at h
  split at h
  · exact ⟨_, _, rfl, h⟩
  · exact h.elim
theorem post_un3 {z : Zn} {d : D} {F : D → D → D → R (Fl S B)} {D1 : Ends} (h : PostS X.K T W fr mkN mkB z (un3 F d) D1) : ∃ a b c, d = .tup [a, b, c] ∧ PostS X.K T W fr mkN mkB z (F a b c) D1 := by
  unfold un3 at h
  split at h
  · exact ⟨_, _, _, rfl, h⟩
  · exact h.elim
/-- a slot that a store may go to -/
structure Sl (X : Cx) (ios : List Nat) (i : Nat) (x : Str) : Prop where
  nm : X.N[i]? = some x
  lo : Loc X.env.scope x
  fn : X.fn x = true ∨ X.env.scope.names.lookup x = some .local
  io : ios.contains i = false
/-- for x, y in it -/
theorem ss_for2 {mk : S' → List C} {it : R (List D)} {s0 : S'} {f : D → D → S' → R (Fl S' S')} {kk : S' → R (Fl S B)} {px py pt : Pos} {kt : Nat} (g : Gd X k) (hp : PassesOwn (model X.prog X.w) X.A X.env X.xe) (hi : Sl X ios i x) (hj : Sl X ios j y)
    (hit : EvI X T W ρ (.Tuple [.Name x px, .Name y py] kt pt) iter it) (hw : Weak ρ (mk s0)) (ho : ios.all (ownAt (mk s0)) = true) (hb : ∀ d d2 s, Ss X T W fr ios mk mk (((mk s).set i (.val d)).set j (.val d2)) body (f d d2 s)) (hr : ∀ s, Ss X T W fr ios mkN mkB (mk s) rest (kk s))
    (hfs : ∀ u, foldedSetIterable iter X.env u = pure u := by intro u; rfl) :
    Ss X T W fr ios mkN mkB ρ (.For (.Tuple [.Name x px, .Name y py] kt pt) iter body [] pos :: rest) (aftR (it.bind fun xs => forR xs s0 fun d s => un2 (fun a b => f a b s) d) kk) := fun z P H σ D1 hz Z h => by
  refine wpSs_of (pss_cons (ps_for hp g.calm iw (pg_tup g.calm (pgs_cons (pg_name g.nd hi.nm hi.lo hi.fn) (pgs_cons (pg_name g.nd hj.nm hj.lo hj.fn) pgs_nil rfl) rfl) (n := 2) rfl rfl) ssw hfs) ssw) ?_
  have h2 := post_aft hz hr h
  show wpI X _ iter σ H _
  refine hit P H σ _ Z.sim ?_
  cases it with
  | bad => exact h2
  | ex e => exact fun cls dd H' s' r => h2 cls dd σ H' (fun b o e1 e2 => s' _ _ (Z.frame b o e1 e2)) r
  | ok ds =>
    intro J P1 H1 e1 hJ
    have Z1 := (Z.ext e1).weak hw (by rw [hz]; exact ho)
    refine for_turns (D2 := ⟨wpSs X rest D1, D1.rt, wpSs X rest D1, D1.ct⟩) rfl hz hJ (fun z d v s P H σ D3 hz Z r q => ?_) Z1 h2
    obtain ⟨a, b, rfl, q⟩ := post_un2 q
    obtain ⟨t, u, w, rfl, h3, h4, h5⟩ := rep2 r
    exact ⟨t, _, rfl, .inl (.inl (Z.sim.sub _ _ h3)), rfl, _, _, rfl, _, _, rfl, rfl, hb a b s z P H _ D3 hz ((Z.set (io_ne hz hi.io) h4).set (io_ne hz hj.io) h5) q⟩
/-- x, y = e -/
theorem ss_un2 {px py pt : Pos} {kt : Nat} {F : D → D → R (Fl S B)} (g : Gd X k) (hi : Sl X ios i x) (hj : Sl X ios j y) (he : Ev X T W .P ρ e da) (hs : swapsWithSole [.Tuple [.Name x px, .Name y py] kt pt] e pos.line X.env = pure false) (hs2 : swappedStores [.Tuple [.Name x px, .Name y py] kt pt] e X.env = pure none)
    (hr : ∀ a b, Ss X T W fr ios mkN mkB ((ρ.set i (.val a)).set j (.val b)) rest (F a b)) : Ss X T W fr ios mkN mkB ρ (.Assign [.Tuple [.Name x px, .Name y py] kt pt] e pos :: rest) (da.bind (un2 F)) := fun z P H σ D1 hz Z h => by
  refine wpSs_of (pss_cons (ps_asg pw (pg_tup g.calm (pgs_cons (pg_name g.nd hi.nm hi.lo hi.fn) (pgs_cons (pg_name g.nd hj.nm hj.lo hj.fn) pgs_nil rfl) rfl) (n := 2) rfl rfl) hs hs2) ssw) ?_
  refine ss_bind he Z h fun v w P1 H1 e1 Z1 r1 q1 => ?_
  obtain ⟨a, b, rfl, q⟩ := post_un2 q1
  obtain ⟨t, u, w, rfl, h3, h4, h5⟩ := rep2 r1
  exact ⟨t, _, rfl, .inl (.inl (Z1.sim.sub _ _ h3)), rfl, _, _, rfl, _, _, rfl, rfl, hr a b z P1 H1 _ D1 hz ((Z1.set (io_ne hz hi.io) h4).set (io_ne hz hj.io) h5) q⟩
/-! ### while -/
theorem ss_while {mk : S' → List C} {s0 : S'} {n : Nat} {fc : S' → R Bool} {f : S' → R (Fl S' S')} {kk : S' → R (Fl S B)} (hp : PassesOwn (model X.prog X.w) X.A X.env X.xe) (hw : Weak ρ (mk s0)) (ho : ios.all (ownAt (mk s0)) = true)
    (hc : ∀ s, EvT X T W (mk s) c (fc s)) (hb : ∀ s, Ss X T W fr ios mk mk (mk s) body (f s)) (hr : ∀ s, Ss X T W fr ios mkN mkB (mk s) rest (kk s)) :
    Ss X T W fr ios mkN mkB ρ (.While c body [] pos :: rest) (aftR (whileR n s0 fc f) kk) := fun z P H σ D1 hz Z h => by
  refine wpSs_of (pss_cons (ps_while hp tw ssw) ssw) ?_
  have h2 := post_aft hz hr h
  refine ⟨fun m σ H => ∃ s P, SimZ X.K T z P H σ (mk s) ∧ PostS X.K T W fr mk mk z (whileR m s fc f) ⟨wpSs X rest D1, D1.rt, wpSs X rest D1, D1.ct⟩, ⟨n, s0, P, Z.weak hw (by rw [hz]; exact ho), h2⟩, ?_⟩
  rintro m σ1 H1 ⟨s, P1, Z1, h3⟩
  cases m with
  | zero => exact h3.elim
  | succ m =>
    unfold whileR at h3
    refine ss_bindT (hc s) Z1 h3 fun v P2 H2 e2 Z2 q2 => ?_
    cases v with
    | false => exact q2 P2 H2 σ1 Z2
    | true =>
      refine ⟨fun σ' H' => ∃ s P, SimZ X.K T z P H' σ' (mk s) ∧ PostS X.K T W fr mk mk z (whileR m s fc f) ⟨wpSs X rest D1, D1.rt, wpSs X rest D1, D1.ct⟩, fun σ' H' h => ⟨m, Nat.lt_succ_self m, h⟩, ?_⟩
      refine hb s z P2 H2 σ1 _ hz Z2 ?_
      cases hf : f s with
      | bad => rw [hf] at q2; exact q2
      | ex e => rw [hf] at q2; exact q2
      | ok fl =>
        rw [hf] at q2
        cases fl with
        | nx s' => exact fun P3 H3 σ3 Z3 => ⟨s', P3, Z3, q2⟩
        | bk b => exact q2
        | rt d os => exact q2
/-! ### x, y = a, b with two locals -/
theorem ss_par {px py pt pt2 : Pos} {kt k2 : Nat} {F : D → D → R (Fl S B)} (g : Gd X k) (hi : Sl X ios i x) (hj : Sl X ios j y) (hij : i ≠ j) (hx : X.env.scope.names.lookup x = some .local) (hy : X.env.scope.names.lookup y = some .local) (ha : EvA X T W ρ [a, b] (allR [da, db]))
    (hsw : swappedStores [.Tuple [.Name x px, .Name y py] kt pt] (.Tuple [a, b] k2 pt2) X.env = pure (some [x, y])) (hs : swapsWithSole [.Tuple [.Name x px, .Name y py] kt pt] (.Tuple [a, b] k2 pt2) pos.line X.env = pure false)
    (hr : ∀ a b, Ss X T W fr ios mkN mkB ((ρ.set i (.val a)).set j (.val b)) rest (F a b)) : Ss X T W fr ios mkN mkB ρ (.Assign [.Tuple [.Name x px, .Name y py] kt pt] (.Tuple [a, b] k2 pt2) pos :: rest) (op2 F da db) := fun z P H σ D1 hz Z h => by
  refine wpSs_of (pss_cons (ps_par g.calm g.nd hi.nm hj.nm hij hx hy aw hsw hs) ssw) ?_
  have h2 : PostS X.K T W fr mkN mkB z ((allR [da, db]).bind fun | [a, b] => F a b | _ => .bad) D1 := by cases da <;> cases db <;> exact h
  show wpA X [a, b] σ H _
  refine ha P H σ _ Z.sim ?_
  cases hd : allR [da, db] with
  | bad => rw [hd] at h2; exact h2
  | ex e => rw [hd] at h2; exact fun cls dd H' s' r => h2 cls dd σ H' (fun b o e1 e2 => s' _ _ (Z.frame b o e1 e2)) r
  | ok ds =>
    rw [hd] at h2
    intro ws P1 H1 e1 rr
    match ds, rr, h2 with
    | [v, v2], rr, h2 =>
      unfold RepAll at rr
      obtain ⟨w, t, rfl, r1, r2⟩ := rr
      unfold RepAll at r2
      obtain ⟨w2, t2, rfl, r2, r3⟩ := r2
      unfold RepAll at r3
      subst r3
      exact ⟨w, w2, rfl, hr v v2 z P1 H1 _ D1 hz (((Z.ext e1).set (io_ne hz hi.io) r1).set (io_ne hz hj.io) r2) h2⟩
    | [], _, h2 => exact h2.elim
    | [_], _, h2 => exact h2.elim
    | _ :: _ :: _ :: _, _, h2 => exact h2.elim
end
end Fj

/-! ## Lay12 -/
namespace Fj
open PySem PySem.Spec PyProof.Rows L2

/-! ### comprehensions -/
def WF : WX := fun _ _ _ _ => False
theorem takesF {X : Cx} : Takes X WF := by
  rintro u s' ⟨a, B, sI, pins, σ, H, cls, d, _, _, _, _, _, _, _, _, h⟩
  exact h.elim
def wipeC (ρ : List C) : List Nat → List C
  | [] => ρ
  | i :: r => (wipeC ρ r).set i .un
section
variable {K : PySem.W.Frag} {X : Cx} {T : Tb} {W : WX} {k : Nat} {ρ : List C} {a b c e tg iter elt : Expr} {da db : R D} {ca cb : R Bool} {pos p p2 p3 : Pos} {m : Md} {x y : Str} {fr : Bool} {i j : Nat}
theorem Sim.wipe1 {P H : Hp} {σ : L2.St} (S : Sim K T P H σ ρ) (i : Nat) : Sim K T P H (σ.set i none) (ρ.set i .un) := by
  refine ⟨S.sub, by simpa using S.len, fun j c v h1 h2 => ?_, fun j l d e a h1 h2 h3 h4 => ?_⟩
  · by_cases q : i = j
    · subst q
      have hl : i < ρ.length := by have := (List.getElem?_eq_some_iff.mp h1).1; simpa using this
      rw [List.getElem?_set_self hl] at h1
      cases h1; trivial
    · rw [List.getElem?_set_ne q] at h1 h2
      exact S.cell j c v h1 h2
  · have q : ∀ {n : Nat} {d : D}, (ρ.set i C.un)[n]? = some (C.own d) → i ≠ n := fun {n d} h e => by
      subst e
      have hl : i < ρ.length := by have := (List.getElem?_eq_some_iff.mp h).1; simpa using this
      rw [List.getElem?_set_self hl] at h; cases h
    have q1 := q h1
    have q2 := q h2
    rw [List.getElem?_set_ne q1] at h1 h3
    rw [List.getElem?_set_ne q2] at h2 h4
    exact S.apart j l d e a h1 h2 h3 h4
theorem Sim.wipe {P H : Hp} {σ : L2.St} {ρ : List C} (S : Sim K T P H σ ρ) : ∀ (vs : List Nat), Sim K T P H (wipe σ vs) (wipeC ρ vs)
  | [] => S
  | i :: r => (Sim.wipe S r).wipe1 i
theorem Sim.set {P H : Hp} {σ : L2.St} {w : V} {d : D} (S : Sim K T P H σ ρ) (i : Nat) (r : Rep K T P d w) : Sim K T P H (σ.set i (some w)) (ρ.set i (.val d)) := by
  refine ⟨S.sub, by simpa using S.len, fun j c v h1 h2 => ?_, fun j l d' e' a h1 h2 h3 h4 => ?_⟩
  · by_cases q : i = j
    · subst q
      have hl : i < ρ.length := by have := (List.getElem?_eq_some_iff.mp h1).1; simpa using this
      rw [List.getElem?_set_self hl] at h1
      rw [List.getElem?_set_self (by rw [← S.len]; exact hl)] at h2
      cases h1; cases h2
      exact ⟨w, rfl, r⟩
    · rw [List.getElem?_set_ne q] at h1 h2
      exact S.cell j c v h1 h2
  · have q1 : i ≠ j := fun q => by
      subst q
      have hl : i < ρ.length := by have := (List.getElem?_eq_some_iff.mp h1).1; simpa using this
      rw [List.getElem?_set_self hl] at h1; cases h1
    have q2 : i ≠ l := fun q => by
      subst q
      have hl : i < ρ.length := by have := (List.getElem?_eq_some_iff.mp h2).1; simpa using this
      rw [List.getElem?_set_self hl] at h2; cases h2
    rw [List.getElem?_set_ne q1] at h1 h3
    rw [List.getElem?_set_ne q2] at h2 h4
    exact S.apart j l d' e' a h1 h2 h3 h4
/-- what the inner block's rules are asked for -/
def EvB (X : Cx) (scope : Scope) (T : Tb) (ρ : List C) (e : Expr) (d : R D) : Prop := ∀ s H C cl fp, Ev (X.blk s H scope (compEnvC scope cl C X.env) fp) T WF .P ρ e d
def EvTB (X : Cx) (scope : Scope) (T : Tb) (ρ : List C) (e : Expr) (d : R Bool) : Prop := ∀ s H C cl fp, EvT (X.blk s H scope (compEnvC scope cl C X.env) fp) T WF ρ e d
/-- the filters -/
structure Flt (X : Cx) (scope : Scope) (T : Tb) (ifs : List Expr) (tt : TT) (ρf : D → List C) (t : D → R Bool) : Prop where
  pt : ∀ s H C cl fp, PTs (X.blk s H scope (compEnvC scope cl C X.env) fp) ifs tt
  ev : ∀ d P H σ Q, Sim X.K T P H σ (ρf d) → PostT T WF P H σ (t d) Q → tt σ H Q
/-- the target -/
structure Tgt (X : Cx) (scope : Scope) (T : Tb) (tg : Expr) (g : TG) (vs : List Nat) (ρ : List C) (ok : D → Bool) (ρf : D → List C) : Prop where
  pg : ∀ s H C cl fp, PG (X.blk s H scope (compEnvC scope cl C X.env) fp) tg g
  ev : ∀ d v P H σ Q, ok d = true → Sim X.K T P H σ ρ → Rep X.K T P d v → (∀ σ2, Sim X.K T P H σ2 (ρf d) → wipe σ2 vs = wipe σ vs → Q σ2 H) → g v (wipe σ vs) H Q
theorem compL_bad {t : D → R Bool} {f : D → R D} {x : D} {xs : List D} {ys : List D} (h : compL t f (x :: xs) = .ok ys) : (∃ z, f x = .ok z ∧ t x = .ok true ∧ ∃ zs, compL t f xs = .ok zs ∧ ys = z :: zs) ∨ (t x = .ok false ∧ compL t f xs = .ok ys) := by
  unfold compL at h
  cases ht : t x with
  | bad => rw [ht] at h; cases h
  | ex e => rw [ht] at h; cases h
  | ok c =>
    rw [ht] at h
    cases c with
    | false => exact .inr ⟨rfl, h⟩
    | true =>
      simp only [R.nox_ok, R.ok_bind, if_true] at h
      cases hf : f x with
      | bad => rw [hf] at h; cases h
      | ex e => rw [hf] at h; cases h
      | ok z =>
        rw [hf] at h
        simp only [R.nox_ok, R.ok_bind] at h
        cases hc : compL t f xs with
        | bad => rw [hc] at h; cases h
        | ex e => rw [hc] at h; cases h
        | ok zs =>
          rw [hc] at h
          simp only [R.ok_bind] at h
          cases h
          exact .inl ⟨z, rfl, rfl, zs, rfl, rfl⟩
theorem compL_ex {t : D → R Bool} {f : D → R D} {e : D} : ∀ {xs : List D}, compL t f xs ≠ .ex e
  | [] => by simp [compL]
  | x :: xs => by
    unfold compL
    cases ht : t x with
    | bad => simp [R.nox, R.bind]
    | ex e => simp [R.nox, R.bind]
    | ok c =>
      cases c with
      | false => simpa using compL_ex
      | true =>
        simp only [R.nox_ok, R.ok_bind, if_true]
        cases hf : f x with
        | bad => simp [R.nox, R.bind]
        | ex e => simp [R.nox, R.bind]
        | ok z =>
          simp only [R.nox_ok, R.ok_bind]
          cases hc : compL t f xs with
          | bad => simp
          | ex e2 => exact absurd hc compL_ex
          | ok zs => simp
theorem compL_len {t : D → R Bool} {f : D → R D} : ∀ {xs ys : List D}, compL t f xs = .ok ys → ys.length ≤ xs.length
  | [], ys, h => by simp [compL] at h; subst h; simp
  | x :: xs, ys, h => by
    rcases compL_bad h with ⟨z, _, _, zs, hz, rfl⟩ | ⟨_, hz⟩
    · have := compL_len hz; simp; omega
    · have := compL_len hz; simp; omega
abbrev teB (X : Cx) (scope : Scope) (elt : Expr) : TE := fun σ H Q => ∀ s0 H0 C cl fp, wpE (X.blk s0 H0 scope (compEnvC scope cl C X.env) fp) elt σ H Q
theorem comp_core {vs : List Nat} {scope : Scope} {ifs : List Expr} {it : R (List D)} {t : D → R Bool} {f : D → R D} {g : TG} {tt : TT} {ok : D → Bool} {ρf : D → List C} (hit : EvIW X T W ρ tg iter it)
    (hT : Tgt X scope T tg g vs ρ ok ρf) (hF : Flt X scope T ifs tt ρf t) (he : ∀ d, EvB X scope T (ρf d) elt (f d)) (hok : ∀ d, ok d = false → (t d = .ok true ∧ f d = .bad) ∨ t d = .bad)
    {P H : Hp} {σ : L2.St} {Q : VK} (S : Sim X.K T P H σ ρ) (q : Post X.K T W .F P H σ (compE it t f) Q) : tLc (wpI X tg iter) g tt (teB X scope elt) vs σ H Q := by
  show wpI X tg iter σ H _
  refine hit P H σ _ S ?_
  cases it with
  | bad => exact q.elim
  | ex e => exact q
  | ok ds =>
    intro J P1 H1 e1 hJ A hA
    have q : Post X.K T W .F P H σ (if ds.length ≤ most then (compL t f ds).bind fun ys => .ok (.lst ys) else .bad) Q := q
    split at q
    case isFalse => exact q.elim
    case isTrue hlen =>
    cases hc : compL t f ds with
    | bad => rw [hc] at q; exact q.elim
    | ex e => exact absurd hc compL_ex
    | ok ys =>
      rw [hc] at q
      have hyl := compL_len hc
      have hPA : P1 A = none := by
        cases qq : P1 A with
        | none => rfl
        | some z => rw [e1.ph _ _ qq] at hA; cases hA
      refine ⟨fun i m H => i + m = ds.length ∧ ∃ P' accD acc zs, Same P1 P' ∧ Same P' H ∧ Same H1 H ∧ (∀ b, H1 b ≠ none → P1 b = none → P' b = none) ∧ P' A = none ∧ H A = some (.lst acc) ∧ RepAll X.K T P' accD acc ∧ compL t f (ds.drop i) = .ok zs ∧ ys = accD ++ zs ∧ accD.length ≤ i,
        ⟨ds.length, by omega, P1, [], [], ys, Same.refl _, fun b z h => by rw [upd_ne (fun e => by rw [e, hPA] at h; cases h)]; exact e1.ph _ _ h, fun b z h => by rw [upd_ne (fun e => by rw [e, hA] at h; cases h)]; exact h, fun _ _ h => h, hPA, upd_same, RepAll.nil, hc, rfl, Nat.zero_le _⟩, ?_⟩
      rintro i m H2 ⟨hm, P2, accD, acc, zs, s1, s2, s3, s4, s5, s6, s7, s8, rfl, s9⟩
      obtain ⟨j1, j2, j3⟩ := hJ i P2 H2 s1 s2 s3
      by_cases hi : i < ds.length
      · refine .inr ⟨j1 hi, fun H' => ∃ m', m' < m ∧ (i + 1 + m' = ds.length ∧ ∃ P' accD' acc' zs', Same P1 P' ∧ Same P' H' ∧ Same H1 H' ∧ (∀ b, H1 b ≠ none → P1 b = none → P' b = none) ∧ P' A = none ∧ H' A = some (.lst acc') ∧ RepAll X.K T P' accD' acc' ∧ compL t f (ds.drop (i + 1)) = .ok zs' ∧ accD ++ zs = accD' ++ zs' ∧ accD'.length ≤ i + 1), fun _ h => h, fun x H3 hy => ?_⟩
        obtain ⟨P3, d, e3, hd, hr⟩ := j3 x H3 hi hy
        have hdr : ds.drop i = d :: ds.drop (i + 1) := by
          rw [List.drop_eq_getElem_cons hi]
          congr 1
          rw [List.getElem?_eq_getElem hi] at hd
          exact Option.some.inj hd
        rw [hdr] at s8
        have hokd : ok d = true := by
          cases hh : ok d with
          | true => rfl
          | false =>
            rcases hok d hh with ⟨h1, h2⟩ | h1
            · unfold compL at s8; rw [h1, h2] at s8; cases s8
            · unfold compL at s8; rw [h1] at s8; cases s8
        have S3 : Sim X.K T P3 H3 σ ρ := by
          have S1 := S.ext e1
          have ex2 : Ext P1 H1 P2 H2 := ⟨s1, s3, s2, s4⟩
          exact (S1.ext ex2).ext e3
        refine hT.ev d x P3 H3 σ _ hokd S3 hr fun σ2 S4 hwp => ⟨hwp, ?_⟩
        have hA3 : H3 A = some (.lst acc) := e3.hh _ _ s6
        have hP3 : P3 A = none := e3.nw _ (by rw [s6]; simp) s5
        refine hF.ev d P3 H3 σ2 _ S4 ?_
        rcases compL_bad s8 with ⟨z, hz, ht, zs', hzs, rfl⟩ | ⟨ht, hzs⟩
        · rw [ht]
          intro P4 H4 e4
          show ∀ s0 H0 C cl fp, wpE (X.blk s0 H0 scope (compEnvC scope cl C X.env) fp) elt σ2 H4 _
          intro s0 H0 C cl fp
          refine he d s0 H0 C cl fp P4 H4 σ2 _ (S4.ext e4) ?_
          rw [hz]
          intro w P5 H5 e5 r5
          have hA5 : H5 A = some (.lst acc) := e5.hh _ _ (e4.hh _ _ hA3)
          have hP5 : P5 A = none := e5.nw _ (by rw [e4.hh _ _ hA3]; simp) (e4.nw _ (by rw [hA3]; simp) hP3)
          have r5 : Rep X.K T P5 z w := r5
          have hpp : Same P2 P5 := e3.pp.trans (e4.pp.trans e5.pp)
          refine ⟨acc, hA5, by rw [s7.length]; exact most_lt (by omega), m - 1, by omega, by omega, P5, accD ++ [z], acc ++ [w], zs', s1.trans hpp, fun b o h => ?_, fun b o h => ?_, fun b h1 h2 => ?_, hP5, upd_same, (RepAll.mono hpp _ _ s7).append (RepAll.cons r5 RepAll.nil), hzs, by simp, by simp; omega⟩
          · rw [upd_ne (fun e => by rw [e, hP5] at h; cases h)]; exact e5.ph _ _ h
          · rw [upd_ne (fun e => by rw [e, hA] at h; cases h)]
            exact e5.hh _ _ (e4.hh _ _ (e3.hh _ _ (s3 _ _ h)))
          · have g2 : H2 b ≠ none := ne_of_same s3 h1
            have g3 := ne_of_same e3.hh g2
            have g4 := ne_of_same e4.hh g3
            exact e5.nw _ g4 (e4.nw _ g3 (e3.nw _ g2 (s4 _ h1 h2)))
        · rw [ht]
          intro P4 H4 e4
          have hpp : Same P2 P4 := e3.pp.trans e4.pp
          have g3 : ∀ b, H2 b ≠ none → P2 b = none → P4 b = none := fun b h1 h2 => e4.nw _ (ne_of_same e3.hh h1) (e3.nw _ h1 h2)
          exact ⟨m - 1, by omega, by omega, P4, accD, acc, zs, s1.trans hpp, e4.ph, s3.trans (e3.hh.trans e4.hh), fun b h1 h2 => g3 b (ne_of_same s3 h1) (s4 _ h1 h2), g3 _ (by rw [s6]; simp) s5, e4.hh _ _ hA3, RepAll.mono hpp _ _ s7, hzs, rfl, by omega⟩
      · refine .inl ⟨j2 (by omega), ?_⟩
        rw [List.drop_eq_nil_of_le (by omega)] at s8
        have hz : zs = [] := by unfold compL at s8; cases s8; rfl
        subst hz
        rw [List.append_nil] at q
        refine q (.ref A) P2 H2 (e1.trans ⟨s1, s3, s2, s4⟩) ?_
        show RepM X.K T .F H P2 H2 (.lst accD) (.ref A)
        unfold RepM
        dsimp only
        rw [if_pos (by rfl)]
        refine ⟨A, _, rfl, ?_, s5, s6, acc, rfl, s7⟩
        cases hh : H A with
        | none => rfl
        | some z => rw [e1.hh _ _ hh] at hA; cases hA
theorem flt_no {scope : Scope} {ρf : D → List C} : Flt X scope T [] tYes ρf yesT := ⟨fun s H C cl fp => pts_nil, fun d P H σ Q S q => q P H (Ext.refl S.sub)⟩
theorem flt_one {scope : Scope} {ρf : D → List C} {t : D → R Bool} (h : ∀ d, EvTB X scope T (ρf d) c (t d)) : Flt X scope T [c] (fun σ H Q => ∀ s0 H0 C cl fp, wpT (X.blk s0 H0 scope (compEnvC scope cl C X.env) fp) c σ H Q) ρf t :=
  ⟨fun s H C cl fp => pts_one ⟨fun pins s1 σ H1 Q I h => h s H C cl fp pins s1 I⟩, fun d P H σ Q S q s0 H0 C cl fp => h d s0 H0 C cl fp P H σ Q S q⟩
theorem wipe_set {σ : L2.St} {i : Nat} {v : Option V} : wipe ((wipe σ [i]).set i v) [i] = wipe σ [i] := by
  show ((σ.set i none).set i v).set i none = σ.set i none
  rw [List.set_set, List.set_set]
theorem tgt_nm {scope : Scope} {px : Pos} (gd : Gd X k) (hi : X.N[i]? = some x) (hx : Loc (relabel scope X.env) x) (hf : (scope.names.lookup x == some NameKind.cell) = true ∨ (relabel scope X.env).names.lookup x = some .local) :
    Tgt X scope T (.Name x px) (gName i) [i] ρ (fun _ => true) (fun d => (ρ.set i .un).set i (.val d)) :=
  ⟨fun s H C cl fp => pg_name gd.nd hi hx hf, fun d v P H σ Q _ S r q => q _ ((S.wipe [i]).set i r) wipe_set⟩
def is2 : D → Bool
  | .tup [_, _] => true
  | _ => false
def rho2 (ρ : List C) (i j : Nat) : D → List C
  | .tup [a, b] => (((ρ.set j .un).set i .un).set i (.val a)).set j (.val b)
  | _ => ρ
theorem tgt_nm2 {scope : Scope} {px py pt : Pos} {kt : Nat} (gd : Gd X k) (hij : i ≠ j) (hi : X.N[i]? = some x) (hx : Loc (relabel scope X.env) x) (hf : (scope.names.lookup x == some NameKind.cell) = true ∨ (relabel scope X.env).names.lookup x = some .local)
    (hj : X.N[j]? = some y) (hy : Loc (relabel scope X.env) y) (hfy : (scope.names.lookup y == some NameKind.cell) = true ∨ (relabel scope X.env).names.lookup y = some .local) :
    Tgt X scope T (.Tuple [.Name x px, .Name y py] kt pt) (gTup X.K 2 (gCons (gName i) (gCons (gName j) gNil))) [i, j] ρ is2 (rho2 ρ i j) := by
  refine ⟨fun s H C cl fp => pg_tup gd.calm (pgs_cons (pg_name gd.nd hi hx hf) (pgs_cons (pg_name gd.nd hj hy hfy) pgs_nil rfl) rfl) rfl rfl, fun d v P H σ Q h S r q => ?_⟩
  unfold is2 at h
  split at h
  · rename_i a b
    obtain ⟨t, u, w, rfl, h3, h4, h5⟩ := rep2 r
    refine ⟨t, _, rfl, .inl (.inl (S.sub _ _ h3)), rfl, _, _, rfl, _, _, rfl, rfl, q _ (((S.wipe [i, j]).set i h4).set j h5) ?_⟩
    show (((((σ.set j none).set i none).set i (some u)).set j (some w)).set j none).set i none = (σ.set j none).set i none
    apply List.ext_getElem?
    intro n
    simp only [List.getElem?_set]
    by_cases h1 : i = n <;> by_cases h2 : j = n <;> simp [h1, h2]
  · cases h
theorem un2_not {α : Type} {f : D → D → R α} {d : D} (h : is2 d = false) : un2 f d = .bad := by
  unfold un2
  split
  · cases h
  · rfl
theorem evb2 {scope : Scope} {f : D → D → R D} (he : ∀ d d2, EvB X scope T ((((ρ.set j .un).set i .un).set i (.val d)).set j (.val d2)) elt (f d d2)) (d : D) : EvB X scope T (rho2 ρ i j d) elt (un2 f d) := by
  cases h : is2 d with
  | false => intro s H C cl fp P H' σ Q S q; rw [un2_not h] at q; exact q.elim
  | true =>
    unfold is2 at h
    split at h
    · exact he _ _
    · cases h
theorem evtb2 {scope : Scope} {f : D → D → R Bool} (he : ∀ d d2, EvTB X scope T ((((ρ.set j .un).set i .un).set i (.val d)).set j (.val d2)) elt (f d d2)) (d : D) : EvTB X scope T (rho2 ρ i j d) elt (un2 f d) := by
  cases h : is2 d with
  | false => intro s H C cl fp P H' σ Q S q; rw [un2_not h] at q; exact q.elim
  | true =>
    unfold is2 at h
    split at h
    · exact he _ _
    · cases h
/-- a name that a block stores -/
structure Bn (X : Cx) (scope : Scope) (i : Nat) (x : Str) : Prop where
  nm : X.N[i]? = some x
  lo : Loc (relabel scope X.env) x
  fn : (scope.names.lookup x == some NameKind.cell) = true ∨ (relabel scope X.env).names.lookup x = some .local
/-! x = [..], x a plain local: the store is of the block's own frame -/
/-- a comprehension, and its store in a plain local -/
def Cm (X : Cx) (T : Tb) (W : WX) (m : Md) (ρ : List C) (e : Expr) (d : R D) : Prop :=
  ∃ te : TE, (∀ {i : Nat} {y : Str} {py spos : Pos}, X.N[i]? = some y → X.env.scope.names.lookup y = some .local → swapsWith e (some (.Name y py)) spos.line X.env = pure true → PS X (.Assign [.Name y py] e spos) (tAsg te (gName i))) ∧ PE X e te ∧
    ∀ P H σ Q, Sim X.K T P H σ ρ → Post X.K T W m P H σ d Q → te σ H Q
theorem Cm.ev {d : R D} (h : Cm X T W m ρ e d) : Ev X T W m ρ e d := fun P H σ Q S q => by
  obtain ⟨te, _, h2, h3⟩ := h
  exact wpE_of h2 (h3 P H σ Q S q)
theorem Cm.lasting {d : R D} (h : Cm X T W .F ρ e d) : Cm X T W .P ρ e d := by
  obtain ⟨te, h1, h2, h3⟩ := h
  refine ⟨te, h1, h2, fun P H σ Q S q => h3 P H σ Q S ?_⟩
  cases d with
  | ok v =>
    intro w P' H' e' r
    exact freeze S.sub e' r fun P2 e2 r2 => q w P2 H' e2 r2
  | ex x => exact q
  | bad => exact q
theorem cm_compG {own : List (Str × Nat)} {scope : Scope} {ifs : List Expr} {it : R (List D)} {t : D → R Bool} {f : D → R D} {g : TG} {tt : TT} {ok : D → Bool} {ρf : D → List C} (gd : Gd X k) (hit : EvIW X T W ρ tg iter it)
    (hB : BlkOk X.N X.env.scope scope own) (hT : Tgt X scope T tg g (own.map (·.2)) ρ ok ρf) (hF : Flt X scope T ifs tt ρf t) (he : ∀ d, EvB X scope T (ρf d) elt (f d)) (hok : ∀ d, ok d = false → (t d = .ok true ∧ f d = .bad) ∨ t d = .bad)
    (hfs : ∀ u, foldedSetIterable iter X.env u = pure u) : Cm X T W .F ρ (.ListComp elt [{ target := tg, iter := iter, ifs := ifs, is_async := 0 }] scope pos) (compE it t f) :=
  ⟨tLc (wpI X tg iter) g tt (teB X scope elt) (own.map (·.2)),
   fun h1 h2 h3 => ps_setLc gd.calm gd.nd h1 h2 h3 iw hB (fun s H C cl fp => hT.pg s H C cl fp) (fun s H C cl fp => hF.pt s H C cl fp) (fun s H C cl fp => ⟨fun pins s1 σ H1 Q I h => h s H C cl fp pins s1 I⟩) hfs,
   pe_lc gd.calm gd.nd iw hB (fun s H C cl fp => hT.pg s H C cl fp) (fun s H C cl fp => hF.pt s H C cl fp) (fun s H C cl fp => ⟨fun pins s1 σ H1 Q I h => h s H C cl fp pins s1 I⟩) hfs,
   fun P H σ Q S q => comp_core hit hT hF he hok S q⟩
theorem cm_comp {it : R (List D)} {f : D → R D} {scope : Scope} {px : Pos} (gd : Gd X k) (hi : Bn X scope i x)
    (hB : BlkOk X.N X.env.scope scope [(x, i)]) (hit : EvIW X T W ρ (.Name x px) iter it) (he : ∀ d, EvB X scope T ((ρ.set i .un).set i (.val d)) elt (f d)) (hfs : ∀ u, foldedSetIterable iter X.env u = pure u := by intro u; rfl) :
    Cm X T W .F ρ (.ListComp elt [{ target := .Name x px, iter := iter, ifs := [], is_async := 0 }] scope pos) (compE it yesT f) :=
  cm_compG gd hit hB (tgt_nm gd hi.nm hi.lo hi.fn) flt_no he (fun d h => nomatch h) hfs
theorem cm_compF {it : R (List D)} {f : D → R D} {t : D → R Bool} {scope : Scope} {px : Pos} (gd : Gd X k) (hi : Bn X scope i x)
    (hB : BlkOk X.N X.env.scope scope [(x, i)]) (hit : EvIW X T W ρ (.Name x px) iter it) (ht : ∀ d, EvTB X scope T ((ρ.set i .un).set i (.val d)) c (t d)) (he : ∀ d, EvB X scope T ((ρ.set i .un).set i (.val d)) elt (f d)) (hfs : ∀ u, foldedSetIterable iter X.env u = pure u := by intro u; rfl) :
    Cm X T W .F ρ (.ListComp elt [{ target := .Name x px, iter := iter, ifs := [c], is_async := 0 }] scope pos) (compE it t f) :=
  cm_compG gd hit hB (tgt_nm gd hi.nm hi.lo hi.fn) (flt_one ht) he (fun d h => nomatch h) hfs
theorem cm_comp2 {it : R (List D)} {f : D → D → R D} {scope : Scope} {px py pt : Pos} {kt : Nat} (gd : Gd X k) (hij : i ≠ j) (hi : Bn X scope i x) (hj : Bn X scope j y)
    (hB : BlkOk X.N X.env.scope scope [(x, i), (y, j)]) (hit : EvIW X T W ρ (.Tuple [.Name x px, .Name y py] kt pt) iter it) (he : ∀ d d2, EvB X scope T ((((ρ.set j .un).set i .un).set i (.val d)).set j (.val d2)) elt (f d d2)) (hfs : ∀ u, foldedSetIterable iter X.env u = pure u := by intro u; rfl) :
    Cm X T W .F ρ (.ListComp elt [{ target := .Tuple [.Name x px, .Name y py] kt pt, iter := iter, ifs := [], is_async := 0 }] scope pos) (compE it yesT (un2 f)) :=
  cm_compG gd hit hB (tgt_nm2 gd hij hi.nm hi.lo hi.fn hj.nm hj.lo hj.fn) flt_no (evb2 he) (fun d h => .inl ⟨rfl, un2_not h⟩) hfs
theorem cm_comp2F {it : R (List D)} {f : D → D → R D} {t : D → D → R Bool} {scope : Scope} {px py pt : Pos} {kt : Nat} (gd : Gd X k) (hij : i ≠ j) (hi : Bn X scope i x) (hj : Bn X scope j y)
    (hB : BlkOk X.N X.env.scope scope [(x, i), (y, j)]) (hit : EvIW X T W ρ (.Tuple [.Name x px, .Name y py] kt pt) iter it) (ht : ∀ d d2, EvTB X scope T ((((ρ.set j .un).set i .un).set i (.val d)).set j (.val d2)) c (t d d2)) (he : ∀ d d2, EvB X scope T ((((ρ.set j .un).set i .un).set i (.val d)).set j (.val d2)) elt (f d d2)) (hfs : ∀ u, foldedSetIterable iter X.env u = pure u := by intro u; rfl) :
    Cm X T W .F ρ (.ListComp elt [{ target := .Tuple [.Name x px, .Name y py] kt pt, iter := iter, ifs := [c], is_async := 0 }] scope pos) (compE it (un2 t) (un2 f)) :=
  cm_compG gd hit hB (tgt_nm2 gd hij hi.nm hi.lo hi.fn hj.nm hj.lo hj.fn) (flt_one (evtb2 ht)) (evb2 he) (fun d h => .inr (un2_not h)) hfs
variable {S B : Type} {ios : List Nat} {mkN : S → List C} {mkB : B → List C} {rest body : List Stmt}
theorem ss_bindC {te : TE} {d : R D} {z : Zn} {P H : Hp} {σ : L2.St} {D1 : Ends} {F : D → R (Fl S B)} {Q1 : VK} (ha : ∀ P H σ Q, Sim X.K T P H σ ρ → Post X.K T W m P H σ d Q → te σ H Q) (Z : SimZ X.K T z P H σ ρ) (h : PostS X.K T W fr mkN mkB z (d.bind F) D1)
    (kk : ∀ v w P1 H1, Ext P H P1 H1 → SimZ X.K T z P1 H1 σ ρ → RepM X.K T m H P1 H1 v w → PostS X.K T W fr mkN mkB z (F v) D1 → Q1 w H1) : te σ H Q1 := by
  refine ha P H σ Q1 Z.sim ?_
  cases d with
  | ok v => exact fun w P' H' e' r => kk v w P' H' e' (Z.ext e') r h
  | ex x => exact fun cls dd H' s' r => h cls dd σ H' (fun b o e1 e2 => s' _ _ (Z.frame b o e1 e2)) r
  | bad => exact h
theorem ss_asgC {pos' : Pos} {F : D → R (Fl S B)} (hi : X.N[i]? = some x) (hx : X.env.scope.names.lookup x = some .local) (hs : swapsWith e (some (.Name x pos')) pos.line X.env = pure true) (hio : ios.contains i = false)
    (he : Cm X T W .P ρ e da) (hr : ∀ v, Ss X T W fr ios mkN mkB (ρ.set i (.val v)) rest (F v)) : Ss X T W fr ios mkN mkB ρ (.Assign [.Name x pos'] e pos :: rest) (da.bind F) := fun z P H σ D1 hz Z h => by
  obtain ⟨te, h1, h2, h3⟩ := he
  refine wpSs_of (pss_cons (h1 hi hx hs) ssw) ?_
  refine ss_bindC h3 Z h fun v w P1 H1 e1 Z1 r1 q1 => ?_
  exact hr v z P1 H1 _ D1 hz (Z1.set (io_ne hz hio) r1) q1
theorem own_new {z : Zn} {P H P1 H1 : Hp} {σ : L2.St} {v : D} {w : V} (hz : z.io.map (·.1) = ios) (hio : ios.contains i = false) (Z : SimZ X.K T z P H σ ρ) (Z1 : SimZ X.K T z P1 H1 σ ρ) (hc : contD v = true) (r1 : RepM X.K T .F H P1 H1 v w) : SimZ X.K T z P1 H1 (σ.set i (some w)) (ρ.set i (.own v)) := by
  unfold RepM at r1
  dsimp only at r1
  rw [if_pos hc] at r1
  obtain ⟨a, o, rfl, h0, h1, h2, h3⟩ := r1
  refine Z1.setOwn (io_ne hz hio) h1 h2 h3 ?_ fun j d hj hd hs' => ?_
  · cases q : z.H0 a with
    | none => rfl
    | some y =>
      by_cases hp : ∀ p ∈ z.io, p.2 ≠ a
      · rw [Z.frame a y q hp] at h0; cases h0
      · have : ∃ p, p ∈ z.io ∧ p.2 = a := Classical.byContradiction fun n => hp fun p hp he => n ⟨p, hp, he⟩
        obtain ⟨p, hpm, rfl⟩ := this
        obtain ⟨h3, d, h4⟩ := Z.ios p hpm
        obtain ⟨u, h5, a', o', h6, h7, h8, h9⟩ := cell_at Z.sim h4
        rw [h3] at h5
        cases h5
        cases h6
        rw [h8] at h0; cases h0
  · obtain ⟨u, h5, a', o', h6, h7, h8, h9⟩ := cell_at Z.sim hd
    rw [hs'] at h5
    cases h5
    cases h6
    rw [h8] at h0; cases h0
theorem ss_ownC {pos' : Pos} {F : D → R (Fl S B)} (hi : X.N[i]? = some x) (hx : X.env.scope.names.lookup x = some .local) (hs : swapsWith e (some (.Name x pos')) pos.line X.env = pure true) (hio : ios.contains i = false)
    (he : Cm X T W .F ρ e da) (hr : ∀ v, Ss X T W fr ios mkN mkB (ρ.set i (.own v)) rest (F v)) : Ss X T W fr ios mkN mkB ρ (.Assign [.Name x pos'] e pos :: rest) (ownR da F) := fun z P H σ D1 hz Z h => by
  obtain ⟨te, h1, h2, h3⟩ := he
  refine wpSs_of (pss_cons (h1 hi hx hs) ssw) ?_
  refine ss_bindC h3 Z h fun v w P1 H1 e1 Z1 r1 q1 => ?_
  split at q1
  · rename_i hc
    exact hr v z P1 H1 _ D1 hz (own_new hz hio Z Z1 hc r1) q1
  · exact q1.elim
end
end Fj

/-! ## Lay13 -/
namespace Fj
open PySem PySem.Spec PyProof.Rows L2
section
variable {K : PySem.W.Frag} {X : Cx} {T : Tb} {W : WX} {k : Nat} {ρ : List C} {a b c e ei tg iter elt : Expr} {da db di : R D} {ca cb : R Bool} {pos p p2 p3 px : Pos} {m : Md} {x y : Str} {fr : Bool} {i j : Nat}
variable {S B : Type} {ios : List Nat} {mkN : S → List C} {mkB : B → List C} {rest body : List Stmt} {r : R (Fl S B)} {st : List Stmt} {d : D}
theorem Own.cont {P : Hp} {d : D} {o : HO} (h : Own K T P d o) : contD d = true := by cases d <;> first | rfl | exact h.elim
theorem SimZ.freeze {z : Zn} {P H : Hp} {σ : L2.St} {d : D} {i : Nat} {a : Addr} {o : HO} (Z : SimZ K T z P H σ ρ) (hi : ρ[i]? = some (.own d)) (hio : ∀ p ∈ z.io, p.1 ≠ i) (hs : σ[i]? = some (some (.ref a))) (hP : P a = none) (hH : H a = some o) (ho : Own K T P d o) :
    SimZ K T z (upd P a o) H σ (ρ.set i (.val d)) := by
  have hpp : Same P (upd P a o) := fun b x h => by rw [upd_ne (fun e => by rw [e, hP] at h; cases h)]; exact h
  have hl : i < ρ.length := (List.getElem?_eq_some_iff.mp hi).1
  have back : ∀ {n : Nat} {e : D}, (ρ.set i (C.val d))[n]? = some (C.own e) → i ≠ n ∧ ρ[n]? = some (C.own e) := fun {n e} h => by
    by_cases q : i = n
    · subst q; rw [List.getElem?_set_self hl] at h; cases h
    · rw [List.getElem?_set_ne q] at h; exact ⟨q, h⟩
  refine ⟨⟨fun b x h => ?_, by simpa using Z.sim.len, fun j c v h1 h2 => ?_, fun j l e e' b h1 h2 h3 h4 => ?_⟩, Z.frame, Z.pp.trans hpp, fun b h1 h2 => ?_, fun j e b h1 h2 => ?_, fun p hp => ?_⟩
  · by_cases q : b = a
    · subst q; rw [upd_same] at h; cases h; exact hH
    · rw [upd_ne q] at h; exact Z.sim.sub _ _ h
  · by_cases q : i = j
    · subst q
      rw [List.getElem?_set_self hl] at h1
      cases h1
      rw [hs] at h2
      cases h2
      exact ⟨_, rfl, (rep_own (Own.cont ho)).mpr ⟨a, o, rfl, upd_same, Own.mono hpp ho⟩⟩
    · rw [List.getElem?_set_ne q] at h1
      have hc := Z.sim.cell j c v h1 h2
      cases c with
      | un => trivial
      | val e => obtain ⟨w, rfl, h⟩ := hc; exact ⟨w, rfl, Rep.mono hpp _ _ h⟩
      | own e =>
        obtain ⟨b, x, rfl, h7, h8, h9⟩ := hc
        have hb : b ≠ a := fun eb => q (Z.sim.apart i j d e a hi h1 hs (by rw [h2, eb]))
        exact ⟨b, x, rfl, by rw [upd_ne hb]; exact h7, h8, Own.mono hpp h9⟩
  · exact Z.sim.apart j l e e' b (back h1).2 (back h2).2 h3 h4
  · have hb : b ≠ a := fun q => by
      subst q
      rcases Z.loc i d b hi hs with q | q
      · exact h1 q
      · exact hio _ q rfl
    rw [upd_ne hb]
    exact Z.nw b h1 h2
  · exact Z.loc j e b (back h1).2 h2
  · obtain ⟨h1, e, h2⟩ := Z.ios p hp
    exact ⟨h1, e, by rw [List.getElem?_set_ne (Ne.symm (hio p hp))]; exact h2⟩
/-- an own object stays as it is from here on -/
theorem ss_freeze (hi : ρ[i]? = some (.own d)) (hio : ios.contains i = false) (h : Ss X T W fr ios mkN mkB (ρ.set i (.val d)) st r) : Ss X T W fr ios mkN mkB ρ st r := fun z P H σ D1 hz Z q => by
  obtain ⟨u, h5, a', o', rfl, h7, h8, h9⟩ := cell_at Z.sim hi
  exact h z _ H σ D1 hz (Z.freeze hi (io_ne hz hio) h5 h7 h8 h9) q
/-! ### x[i] = e -/
theorem set_rep {P : Hp} : ∀ {ds : List D} {vs : List V} {n : Nat} {d : D} {v : V}, RepAll K T P ds vs → Rep K T P d v → RepAll K T P (ds.set n d) (vs.set n v)
  | [], vs, n, d, v, h, _ => by unfold RepAll at h; subst h; simpa using RepAll.nil
  | x :: ds, vs, n, d, v, h, r => by
    unfold RepAll at h
    obtain ⟨w, t, rfl, r1, r2⟩ := h
    cases n with
    | zero => exact RepAll.cons r r2
    | succ n => exact RepAll.cons r1 (set_rep r2 r)
theorem put_rep {P : Hp} {κ : Type} [DecidableEq κ] (g : κ → D) (hg : ∀ q q', sameD (g q) (g q') = decide (q = q')) (q : κ) {d : D} {v : V} (rr : Rep K T P d v) {kvs : List (D × D)} {l : List (κ × V)} (h1 : kvs.map (·.1) = l.map (fun p => g p.1)) (h2 : RepVs K T P kvs (l.map (·.2))) :
    (putD (g q) d kvs).map (·.1) = (putK l q v).map (fun p => g p.1) ∧ RepVs K T P (putD (g q) d kvs) ((putK l q v).map (·.2)) := by
  have ha : ∀ {kvs : List (D × D)} {l : List (κ × V)}, kvs.map (·.1) = l.map (fun p => g p.1) → kvs.any (fun p => sameD p.1 (g q)) = l.any fun kv => decide (kv.1 = q) := by
    intro kvs
    induction kvs with
    | nil => intro l h; cases l with | nil => rfl | cons _ _ => cases h
    | cons p r ih =>
      intro l h
      cases l with
      | nil => cases h
      | cons p' l =>
        injection h with e1 e2
        have e1 : p.1 = g p'.1 := e1
        rw [List.any_cons, List.any_cons, ih e2, e1, hg]
  have hm : ∀ {kvs : List (D × D)} {l : List (κ × V)}, kvs.map (·.1) = l.map (fun p => g p.1) → RepVs K T P kvs (l.map (·.2)) →
      (kvs.map (fun p => if sameD p.1 (g q) = true then (p.1, d) else p)).map (·.1) = (l.map fun kv => if kv.1 = q then (kv.1, v) else kv).map (fun p => g p.1) ∧
      RepVs K T P (kvs.map (fun p => if sameD p.1 (g q) = true then (p.1, d) else p)) ((l.map fun kv => if kv.1 = q then (kv.1, v) else kv).map (·.2)) := by
    intro kvs
    induction kvs with
    | nil => intro l h h2; cases l with | nil => exact ⟨rfl, h2⟩ | cons _ _ => cases h
    | cons p r ih =>
      intro l h h2
      cases l with
      | nil => cases h
      | cons p' l =>
        injection h with e1 e2
        have e1 : p.1 = g p'.1 := e1
        unfold RepVs at h2
        obtain ⟨w, t, e, hv1, hv2⟩ := h2
        rw [List.map_cons] at e
        injection e with e3 e4
        subst e3 e4
        obtain ⟨i1, i2⟩ := ih e2 hv2
        rw [List.map_cons, List.map_cons, List.map_cons, List.map_cons, List.map_cons, i1]
        obtain ⟨pa, pd⟩ := p
        obtain ⟨qa, qv⟩ := p'
        dsimp only at e1 ⊢
        subst e1
        rw [hg]
        unfold RepP at hv1
        by_cases c : qa = q
        · subst c
          simp only [decide_true, if_true]
          refine ⟨trivial, ?_⟩
          unfold RepVs
          exact ⟨_, _, rfl, by unfold RepP; exact rr, i2⟩
        · simp only [c, decide_false, if_false, Bool.false_eq_true]
          refine ⟨trivial, ?_⟩
          unfold RepVs
          exact ⟨_, _, rfl, by unfold RepP; exact hv1, i2⟩
  have happ : ∀ {kvs : List (D × D)} {vs : List V}, RepVs K T P kvs vs → RepVs K T P (kvs ++ [(g q, d)]) (vs ++ [v]) := by
    intro kvs
    induction kvs with
    | nil => intro vs h; unfold RepVs at h; subst h; show RepVs K T P [(g q, d)] [v]; unfold RepVs; exact ⟨_, _, rfl, by unfold RepP; exact rr, by unfold RepVs; rfl⟩
    | cons p r ih =>
      intro vs h
      unfold RepVs at h
      obtain ⟨w, t, rfl, h3, h4⟩ := h
      show RepVs K T P (p :: (r ++ _)) (w :: (t ++ _))
      unfold RepVs
      exact ⟨_, _, rfl, h3, ih h4⟩
  unfold putD putK
  rw [ha h1]
  split
  · exact hm h1 h2
  · refine ⟨by simp [h1], ?_⟩
    rw [List.map_append]
    exact happ h2
/-- a store to o[i] that is no store to a cut -/
def SubSt (X : Cx) (o i : Expr) (pos : Pos) : Prop := ∀ v : Value, assign (.Subscript o i pos) X.env v = (do
  let ov ← holding [v] (eval o X.env)
  let iv ← holding [v, ov] (eval i X.env)
  standAt pos
  holding [v, ov, iv] (setItem ov iv v)
  release [v, ov, iv] [])
/-- x[i] = e -/
theorem ss_set {sp : Pos} {F : D → R (Fl S B)} (g : Gd X k) (hi : ρ[i]? = some (.own d)) (hN : X.N[i]? = some x) (hv : Vis X.env.scope x) (hd : (x == ("__debug__" : Str)) = false) (hcd : (x == ("__classdict__" : Str)) = false)
    (he : Ev X T W .P ρ e da) (hj : Ev X T W .P ρ ei di) (hs : swapsWith e (some (.Subscript (.Name x px) ei sp)) pos.line X.env = pure false)
    (hpg : SubSt X (.Name x px) ei sp) (hs1 : swapsWithSole [.Subscript (.Name x px) ei sp] e pos.line X.env = pure false) (hs2 : swappedStores [.Subscript (.Name x px) ei sp] e X.env = pure none)
    (hr : ∀ v, Ss X T W fr ios mkN mkB (ρ.set i (.own v)) rest (F v)) : Ss X T W fr ios mkN mkB ρ (.Assign [.Subscript (.Name x px) ei sp] e pos :: rest) ((setE d di da).bind F) := fun z P H σ D1 hz Z h => by
  obtain ⟨u, h5, a', o', rfl, h7, h8, h9⟩ := cell_at Z.sim hi
  have h2 : PostS X.K T W fr mkN mkB z (da.bind fun x => di.bind fun j => (setR d j x).bind F) D1 := by cases da <;> cases di <;> exact h
  cases d with
  | lst xs =>
    refine wpSs_of (pss_cons (ps_asg pw (pg_sub (pe_var hN hv hd hcd) pw set_list hpg) hs1 hs2) ssw) ?_
    refine ss_bind he Z h2 fun v w P1 H1 e1 Z1 r1 q1 => ?_
    refine ⟨_, h5, ?_⟩
    refine ss_bind hj Z1 q1 fun v2 w2 P2 H2 e2 Z2 r2 q2 => ?_
    cases v2 with
    | int j =>
      have q2 : PostS X.K T W fr mkN mkB z (((ofO (ixN xs.length j)).bind fun n => .ok (.lst (xs.set n v))).bind F) D1 := q2
      cases hn : Fj.ixN xs.length j with
      | none => rw [hn] at q2; exact q2.elim
      | some n =>
        rw [hn] at q2
        obtain ⟨vs, rfl, h10⟩ := h9
        have r2 : w2 = .int j := by unfold RepM Rep at r2; exact r2
        have h8' := e2.hh _ _ (e1.hh _ _ h8)
        have h10' := RepAll.mono (e1.pp.trans e2.pp) _ _ h10
        refine ⟨a', vs, j, n, rfl, r2, h8', by rw [h10.length]; exact hn, ?_⟩
        exact hr _ z P2 _ _ D1 hz (Z2.change (d' := .lst (xs.set n v)) hi h5 ⟨vs.set n w, rfl, set_rep h10' (Rep.mono e2.pp _ _ r1)⟩) q2
    | _ => exact q2.elim
  | dct t kvs =>
    refine wpSs_of (pss_cons (ps_dput (units1 g) (pe_var hN hv hd hcd) pw pw hs) ssw) ?_
    refine ss_bind he Z h2 fun v w P1 H1 e1 Z1 r1 q1 => ?_
    refine ⟨_, h5, ?_⟩
    refine ss_bind hj Z1 q1 fun v2 w2 P2 H2 e2 Z2 r2 q2 => ?_
    have q2 : PostS X.K T W fr mkN mkB z ((if (kindOk v2 t && decide (kvs.length < most)) = true then .ok (.dct t (putD v2 v kvs)) else .bad : R D).bind F) D1 := by cases v2 <;> exact q2
    split at q2
    case isFalse => exact q2.elim
    case isTrue hk =>
    obtain ⟨hk, hlen⟩ := Bool.and_eq_true_iff.mp hk
    have hlen : kvs.length < most := of_decide_eq_true hlen
    have h8' := e2.hh _ _ (e1.hh _ _ h8)
    have h9' := Own.mono (e1.pp.trans e2.pp) h9
    have r1' := Rep.mono e2.pp _ _ r1
    unfold kindOk at hk
    obtain ⟨k1, k2⟩ := Bool.and_eq_true_iff.mp hk
    rcases h9' with ⟨rfl, l, rfl, h1, h3⟩ | ⟨rfl, l, rfl, h1, h3⟩
    · have hf : flatK v2 = true := by cases v2 <;> first | rfl | cases k1 | cases k2
      obtain ⟨q, e3, e4⟩ := key_flat hf r2
      subst e3 e4
      have hl : kvs.length = l.length := by simpa using congrArg List.length h1
      obtain ⟨p1, p2⟩ := put_rep ksD sameK q r1' h1 h3
      exact ⟨a', _, rfl, DPut.k h8' (by rw [← hl]; exact most_lt (by omega)), hr _ z P2 _ _ D1 hz (Z2.change (d' := .dct 0 (putD (ksD q) v kvs)) hi h5 (.inl ⟨rfl, _, rfl, p1, p2⟩)) q2⟩
    · cases v2 with
      | tup ds =>
        obtain ⟨bb, vs, rfl, r3, r4⟩ := rep_tup.mp r2
        obtain ⟨qs, e3, e4⟩ := key_flats (show ds.all flatK = true from k1) r4
        subst e3 e4
        have hl : kvs.length = l.length := by simpa using congrArg List.length h1
        obtain ⟨p1, p2⟩ := put_rep (fun q : List Key => D.tup (q.map ksD)) sameT qs r1' h1 h3
        exact ⟨a', _, rfl, DPut.t h8' (Z2.sim.sub _ _ r3) (by rw [← hl]; exact most_lt (by omega)), hr _ z P2 _ _ D1 hz (Z2.change (d' := .dct 1 (putD (.tup (qs.map ksD)) v kvs)) hi h5 (.inr ⟨rfl, _, rfl, p1, p2⟩)) q2⟩
      | int i => cases k2
      | str i => cases k2
      | _ => cases k1
  | _ => exact h9.elim
/-- x.extend(e) -/
theorem ss_extend {pa pp : Pos} {F : D → R (Fl S B)} (hi : ρ[i]? = some (.own d)) (hN : X.N[i]? = some x) (hv : Vis X.env.scope x) (hd : (x == ("__debug__" : Str)) = false) (hcd : (x == ("__classdict__" : Str)) = false)
    (hs : swapsWith (.Call (.Attribute (.Name x px) "extend" pa) [e] [] pp) none pos.line X.env = pure false) (he : Ev X T W .P ρ e da)
    (hbm : PE X (.Call (.Attribute (.Name x px) "extend" pa) [e] [] pp) (tBM X.K "list" rExtend (tVar i) (tCons (wpE X e) tNil))) (hr : ∀ v, Ss X T W fr ios mkN mkB (ρ.set i (.own v)) rest (F v)) :
    Ss X T W fr ios mkN mkB ρ (.Expr (.Call (.Attribute (.Name x px) "extend" pa) [e] [] pp) pos :: rest) ((extendE d da).bind F) := fun z P H σ D1 hz Z h => by
  refine wpSs_of (pss_cons (ps_expr hbm hs) ssw) ?_
  obtain ⟨u, h5, a', o', rfl, h7, h8, h9⟩ := cell_at Z.sim hi
  cases d with
  | lst xs =>
    have h' : PostS X.K T W fr mkN mkB z (da.bind fun v => (extendR (.lst xs) v).bind F) D1 := by cases da <;> exact h
    obtain ⟨vs, rfl, h10⟩ := h9
    refine ⟨_, h5, .inl ⟨rfl, _, .inl (.inl h8)⟩, ?_⟩
    refine ss_bind he Z h' fun v w P1 H1 e1 Z1 r1 q1 => ?_
    cases v with
    | lst ys =>
      have q2 : PostS X.K T W fr mkN mkB z ((if xs.length + ys.length ≤ most then .ok (.lst (xs ++ ys)) else .bad : R D).bind F) D1 := q1
      split at q2
      · rename_i hl
        have r1 : Rep X.K T P1 (.lst ys) w := r1
        unfold Rep at r1
        obtain ⟨b, us, rfl, r1, r2⟩ := r1
        have h8' := e1.hh _ _ h8
        have h10' := RepAll.mono e1.pp _ _ h10
        refine ⟨a', b, vs, us, rfl, rfl, h8', Z1.sim.sub _ _ r1, by rw [h10.length, r2.length]; exact most_le hl, ?_⟩
        exact hr _ z P1 _ _ D1 hz (Z1.change (d' := .lst (xs ++ ys)) hi h5 ⟨vs ++ us, rfl, h10'.append r2⟩) q2
      · exact q2.elim
    | _ => exact q1.elim
  | dct t kvs => exact h.elim
  | _ => exact h9.elim

/-! ### defs -/
theorem argC_own {io : List Nat} : ∀ {j n : Nat} {ds : List D} {d : D}, (argC io j ds)[n]? = some (C.own d) → io.contains (j + n) = true ∧ ds[n]? = some d
  | _, n, [], _, h => by simp [argC] at h
  | j, 0, x :: ds, d, h => by
    simp only [argC, List.getElem?_cons_zero, Option.some.injEq] at h
    split at h
    · rename_i hc; cases h; exact ⟨hc, rfl⟩
    · cases h
  | j, n + 1, x :: ds, d, h => by
    have := argC_own (j := j + 1) (n := n) (ds := ds) (d := d) (by simpa [argC] using h)
    rw [show j + (n + 1) = j + 1 + n by omega]
    simpa using this
theorem argC_at {io : List Nat} : ∀ {j n : Nat} {ds : List D}, n < ds.length → io.contains (j + n) = true → ∃ d, (argC io j ds)[n]? = some (C.own d)
  | _, n, [], h, _ => by simp at h
  | j, 0, x :: ds, h, hc => ⟨x, by
    have hc : io.contains j = true := hc
    simp only [argC, List.getElem?_cons_zero]; rw [if_pos hc]⟩
  | j, n + 1, x :: ds, h, hc => by
    obtain ⟨d, e⟩ := argC_at (io := io) (j := j + 1) (n := n) (ds := ds) (by simpa using h) (by rw [show j + 1 + n = j + (n + 1) by omega]; exact hc)
    exact ⟨d, by simpa [argC] using e⟩
theorem ioAt_mem {vs : List V} {i : Nat} {a : Addr} : ∀ {io : List Nat}, (i, a) ∈ ioAt io vs ↔ i ∈ io ∧ vs[i]? = some (.ref a) := by
  intro io
  unfold ioAt
  rw [List.mem_filterMap]
  constructor
  · rintro ⟨j, hj, e⟩
    split at e
    · rename_i b hb
      cases e
      exact ⟨hj, hb⟩
    · cases e
  · rintro ⟨h1, h2⟩
    exact ⟨i, h1, by rw [h2]⟩
theorem ioAt_fst {vs : List V} : ∀ {io : List Nat}, (∀ i ∈ io, ∃ a : Addr, vs[i]? = some (.ref a)) → (ioAt io vs).map (·.1) = io
  | [], _ => rfl
  | i :: r, h => by
    obtain ⟨a, e⟩ := h i List.mem_cons_self
    have ih := ioAt_fst (io := r) fun j hj => h j (List.mem_cons_of_mem _ hj)
    unfold ioAt at ih ⊢
    rw [List.filterMap_cons, e]
    simp only [List.map_cons]
    rw [ih]
def uns (n : Nat) : List C := List.replicate n .un
theorem sim0 {K : PySem.W.Frag} {P H : Hp} {vs : List V} {ρ0 : List C} {io : List Nat} {ds : List D} {N : List Str} {n : Nat} (S : Sim K T P H (vs.map some) (argC io 0 ds)) (hv : vs.length = n) (hn : N.length = n + j) (hio : ∀ i ∈ io, i < n) :
    SimZ K T ⟨P, H, ioAt io vs⟩ P H (L2.start N vs) (argC io 0 ds ++ uns j) ∧ (ioAt io vs).map (·.1) = io := by
  have hlen : (argC io 0 ds).length = n := by rw [S.len, List.length_map, hv]
  have hds : ds.length = n := by rw [← hlen, argC_len]
  have hst : L2.start N vs = vs.map some ++ List.replicate j none := by
    unfold L2.start
    rw [show N.length - vs.length = j by omega]
  have lo : ∀ {i : Nat} {c : C}, (argC io 0 ds ++ uns j)[i]? = some c → c ≠ .un → i < n ∧ (argC io 0 ds)[i]? = some c := fun {i c} h hc => by
    by_cases q : i < n
    · rw [List.getElem?_append_left (by omega)] at h; exact ⟨q, h⟩
    · rw [List.getElem?_append_right (by omega)] at h
      unfold uns at h
      rw [List.getElem?_replicate] at h
      split at h
      · cases h; exact absurd rfl hc
      · cases h
  have ls : ∀ {i : Nat} {v : Option V}, i < n → (vs.map some ++ List.replicate j (none : Option V))[i]? = some v → (vs.map some)[i]? = some v := fun {i v} q h => by
    rw [List.getElem?_append_left (by simp; omega)] at h; exact h
  have own_mem : ∀ {i : Nat} {d : D} {a : Addr}, (argC io 0 ds)[i]? = some (C.own d) → (vs.map some)[i]? = some (some (V.ref a)) → (i, a) ∈ ioAt io vs := fun {i d a} h1 h2 => by
    obtain ⟨h3, _⟩ := argC_own h1
    rw [Nat.zero_add, List.contains_eq_mem] at h3
    refine ioAt_mem.mpr ⟨of_decide_eq_true h3, ?_⟩
    rw [List.getElem?_map] at h2
    cases q : vs[i]? with
    | none => rw [q] at h2; cases h2
    | some z => rw [q] at h2; simp at h2; rw [h2]
  rw [hst]
  refine ⟨⟨⟨S.sub, by simp [uns, S.len], fun i c v h1 h2 => ?_, fun i l d e a h1 h2 h3 h4 => ?_⟩, fun a o h _ => h, Same.refl _, fun _ _ h => h, fun i d a h1 h2 => ?_, fun p hp => ?_⟩, ?_⟩
  · cases c with
    | un => trivial
    | val d => obtain ⟨q, h⟩ := lo h1 (by simp); exact S.cell i _ v h (ls q h2)
    | own d => obtain ⟨q, h⟩ := lo h1 (by simp); exact S.cell i _ v h (ls q h2)
  · obtain ⟨q1, h1⟩ := lo h1 (by simp)
    obtain ⟨q2, h2⟩ := lo h2 (by simp)
    exact S.apart i l d e a h1 h2 (ls q1 h3) (ls q2 h4)
  · obtain ⟨q1, h1⟩ := lo h1 (by simp)
    exact .inr (own_mem h1 (ls q1 h2))
  · obtain ⟨i, a⟩ := p
    obtain ⟨h1, h2⟩ := ioAt_mem.mp hp
    have hi := hio i h1
    obtain ⟨d, hd⟩ := argC_at (io := io) (j := 0) (n := i) (ds := ds) (by omega) (by rw [Nat.zero_add, List.contains_eq_mem]; exact decide_eq_true h1)
    refine ⟨?_, d, ?_⟩
    · rw [List.getElem?_append_left (by simp; omega), List.getElem?_map, h2]; rfl
    · rw [List.getElem?_append_left (by omega)]; exact hd
  · refine ioAt_fst fun i h1 => ?_
    have hi := hio i h1
    obtain ⟨d, hd⟩ := argC_at (io := io) (j := 0) (n := i) (ds := ds) (by omega) (by rw [Nat.zero_add, List.contains_eq_mem]; exact decide_eq_true h1)
    obtain ⟨v, h2, a, o, rfl, _⟩ := cell_at S hd
    refine ⟨a, ?_⟩
    rw [List.getElem?_map] at h2
    cases q : vs[i]? with
    | none => rw [q] at h2; cases h2
    | some z => rw [q] at h2; simp at h2; rw [h2]
abbrev WE0 (E : XK) : WX := fun cls d _ H => E cls d H
/-- a def from its body's rule -/
theorem fd_io {P : Program} {w : World} {K : PySem.W.Frag} {mg : Str → Option Value} {base : Heap} {x qual : Str} {st : Stmt} {f : Addr} {fd : FuncData} {N ps : List Str} {io : List Nat} {n j : Nat} {mm : List D → R (Fl Unit Empty)} {mkN : Unit → List C} {mkB : Empty → List C}
    (hF : Fun K x qual st f fd) (hs : FnScope N ps (defScope st)) (hn : ps.length = n) (hN : N.length = n + j) (hb : Binds K fd ps []) (hg : mg x = some (.ref f)) (bi : Bi mg) (hio : ∀ i ∈ io, i < n)
    (hbody : ∀ (cdv : Value) (A : Around) (outer : List Env) (s : Shared) (H : Hp) (E : XK), Gd (cxOf (CX P w) P w K mg base N qual (defScope st) f cdv A outer s H E) k → Takes (cxOf (CX P w) P w K mg base N qual (defScope st) f cdv A outer s H E) (WE0 E) →
      ∀ ds, ds.length = n → Ss (cxOf (CX P w) P w K mg base N qual (defScope st) f cdv A outer s H E) T (WE0 E) fr io mkN mkB (argC io 0 ds ++ uns j) (defBody st) (mm ds)) :
    FD P w K mg base T (k + 1) x f fr io n (fun ds => finR (mm ds)) := by
  refine ⟨⟨fd, ps, Fun.okX hF hs (fun vs H Q E h => by rw [hn]; exact h.1) (fun cdv A outer s H vs Q E hr h => ?_), hb⟩, hg, hF.kp⟩
  obtain ⟨hv, P0, ds, S, q⟩ := h
  obtain ⟨Z, hz⟩ := sim0 (ρ0 := []) (N := N) (j := j) S hv hN hio
  refine ⟨_, ssw, ?_⟩
  have hds : ds.length = n := by rw [← argC_len io 0 ds, S.len, List.length_map, hv]
  refine hbody cdv A outer s H E ⟨rfl, hs.nd, hr, bi⟩ (takes_of rfl rfl rfl rfl) ds hds _ P0 H _ _ hz Z ?_
  have q : PostI K T fr ⟨P0, H, ioAt io vs⟩ E (finR (mm ds)) Q := q
  cases hm : mm ds with
  | bad => rw [hm] at q; exact q
  | ex e => rw [hm] at q; exact fun cls dd σ H' h1 h2 => q cls dd H' h1 h2
  | ok fl =>
    rw [hm] at q
    cases fl with
    | nx s => exact q.elim
    | bk b => exact nomatch b
    | rt d os => exact q
theorem fn_pure {P : Program} {w : World} {K : PySem.W.Frag} {mg : Str → Option Value} {base : Heap} {x qual : Str} {st : Stmt} {f : Addr} {fd : FuncData} {N ps : List Str} {n j : Nat} {mm : List D → R (Fl Unit Empty)} {mkN : Unit → List C} {mkB : Empty → List C}
    (hF : Fun K x qual st f fd) (hs : FnScope N ps (defScope st)) (hn : ps.length = n) (hN : N.length = n + j) (bi : Bi mg)
    (hbody : ∀ (cdv : Value) (A : Around) (outer : List Env) (s : Shared) (H : Hp) (E : XK), Gd (cxOf (CX P w) P w K mg base N qual (defScope st) f cdv A outer s H E) k → Takes (cxOf (CX P w) P w K mg base N qual (defScope st) f cdv A outer s H E) (WE0 E) →
      ∀ ds, ds.length = n → Ss (cxOf (CX P w) P w K mg base N qual (defScope st) f cdv A outer s H E) T (WE0 E) fr [] mkN mkB (argC [] 0 ds ++ uns j) (defBody st) (mm ds)) :
    FnOk P w K mg base (CX P w) (k + 1) f fd ps (spI K T fr [] n (pureM fun ds => finP (mm ds))) := by
  refine Fun.okX hF hs (fun vs H Q E h => by rw [hn]; exact h.1) (fun cdv A outer s H vs Q E hr h => ?_)
  obtain ⟨hv, P0, ds, S, q⟩ := h
  obtain ⟨Z, hz⟩ := sim0 (ρ0 := []) (N := N) (j := j) S hv hN (fun i h => nomatch h)
  refine ⟨_, ssw, ?_⟩
  have hds : ds.length = n := by rw [← argC_len [] 0 ds, S.len, List.length_map, hv]
  refine hbody cdv A outer s H E ⟨rfl, hs.nd, hr, bi⟩ (takes_of rfl rfl rfl rfl) ds hds _ P0 H _ _ hz Z ?_
  have q : PostI K T fr ⟨P0, H, ioAt [] vs⟩ E ((finP (mm ds)).bind fun d => .ok (d, [])) Q := q
  cases hm : mm ds with
  | bad => rw [hm] at q; exact q
  | ex e => rw [hm] at q; exact fun cls dd σ H' h1 h2 => q cls dd H' h1 h2
  | ok fl =>
    rw [hm] at q
    cases fl with
    | nx s =>
      intro P1 H1 σ1 Z1
      refine q P1 H1 .non ⟨Z1.sim.sub, Z1.frame, Z1.pp, Z1.nw, ?_, .nil⟩
      cases fr <;> (unfold md RepM; first | exact (by unfold Rep; rfl) | (dsimp only; unfold Rep; rfl))
    | bk b => exact nomatch b
    | rt d os =>
      intro P1 H1 w1 rz
      refine q P1 H1 w1 ⟨rz.sub, rz.frame, rz.pp, rz.nw, rz.rep, ?_⟩
      have := rz.outs
      exact .nil
theorem fd_pure {P : Program} {w : World} {K : PySem.W.Frag} {mg : Str → Option Value} {base : Heap} {x qual : Str} {st : Stmt} {f : Addr} {fd : FuncData} {N ps : List Str} {n j : Nat} {mm : List D → R (Fl Unit Empty)} {mkN : Unit → List C} {mkB : Empty → List C}
    (hF : Fun K x qual st f fd) (hs : FnScope N ps (defScope st)) (hn : ps.length = n) (hN : N.length = n + j) (hb : Binds K fd ps []) (hg : mg x = some (.ref f)) (bi : Bi mg)
    (hbody : ∀ (cdv : Value) (A : Around) (outer : List Env) (s : Shared) (H : Hp) (E : XK), Gd (cxOf (CX P w) P w K mg base N qual (defScope st) f cdv A outer s H E) k → Takes (cxOf (CX P w) P w K mg base N qual (defScope st) f cdv A outer s H E) (WE0 E) →
      ∀ ds, ds.length = n → Ss (cxOf (CX P w) P w K mg base N qual (defScope st) f cdv A outer s H E) T (WE0 E) fr [] mkN mkB (argC [] 0 ds ++ uns j) (defBody st) (mm ds)) :
    FD P w K mg base T (k + 1) x f fr [] n (pureM fun ds => finP (mm ds)) :=
  ⟨⟨fd, ps, fn_pure hF hs hn hN bi hbody, hb⟩, hg, hF.kp⟩
end
end Fj

/-! ## Lay14 -/
namespace Fj
open PySem PySem.Spec PyProof.Rows L2

/-! ### expressions that change the def's own objects on their way -/
def RepX (K : PySem.W.Frag) (T : Tb) (m : Md) (z : Zn) (ρ : List C) (σ : L2.St) (P H : Hp) (d : D) (w : V) : Prop := match m with
  | .F => if contD d = true then ∃ a o, w = .ref a ∧ z.H0 a = none ∧ P a = none ∧ H a = some o ∧ Own K T P d o ∧ ∀ (j : Nat) (e : D), ρ[j]? = some (C.own e) → σ[j]? ≠ some (some (.ref a)) else Rep K T P d w
  | _ => Rep K T P d w
section
variable {S : Type}
def PostX (K : PySem.W.Frag) (T : Tb) (W : WX) (m : Md) (mk : S → List C) (z : Zn) (P : Hp) (σ : L2.St) (r : R (D × S)) (Q : VK) : Prop := match r with
  | .ok (d, s) => ∀ w P' H', Same P P' → SimZ K T z P' H' σ (mk s) → RepX K T m z (mk s) σ P' H' d w → Q w H'
  | .ex e => ∀ cls dd H', FrZ z H' → ExR T e cls dd H' → W cls dd σ H'
  | .bad => False
def PostXT (K : PySem.W.Frag) (T : Tb) (W : WX) (mk : S → List C) (z : Zn) (P : Hp) (σ : L2.St) (r : R (Bool × S)) (Q : Bool → Hp → Prop) : Prop := match r with
  | .ok (b, s) => ∀ P' H', Same P P' → SimZ K T z P' H' σ (mk s) → Q b H'
  | .ex e => ∀ cls dd H', FrZ z H' → ExR T e cls dd H' → W cls dd σ H'
  | .bad => False
/-- the values of arguments; some are slots of own objects -/
def RepSl (K : PySem.W.Frag) (T : Tb) (P : Hp) (σ : L2.St) : List (Option Nat) → List D → List V → Prop
  | [], ds, vs => ds = [] ∧ vs = []
  | none :: sl, ds, vs => ∃ d dr v vr, ds = d :: dr ∧ vs = v :: vr ∧ Rep K T P d v ∧ RepSl K T P σ sl dr vr
  | some i :: sl, ds, vs => ∃ v vr, vs = v :: vr ∧ σ[i]? = some (some v) ∧ RepSl K T P σ sl ds vr
def PostXA (K : PySem.W.Frag) (T : Tb) (W : WX) (mk : S → List C) (sl : List (Option Nat)) (z : Zn) (P : Hp) (σ : L2.St) (r : R (List D × S)) (Q : List V → Hp → Prop) : Prop := match r with
  | .ok (ds, s) => ∀ ws P' H', Same P P' → SimZ K T z P' H' σ (mk s) → RepSl K T P' σ sl ds ws → Q ws H'
  | .ex e => ∀ cls dd H', FrZ z H' → ExR T e cls dd H' → W cls dd σ H'
  | .bad => False
def EvX (X : Cx) (T : Tb) (W : WX) (m : Md) (ios : List Nat) (mk : S → List C) (s : S) (e : Expr) (r : R (D × S)) : Prop := ∀ z P H σ Q, z.io.map (·.1) = ios → SimZ X.K T z P H σ (mk s) → PostX X.K T W m mk z P σ r Q → wpE X e σ H Q
def EvXT (X : Cx) (T : Tb) (W : WX) (ios : List Nat) (mk : S → List C) (s : S) (e : Expr) (r : R (Bool × S)) : Prop := ∀ z P H σ Q, z.io.map (·.1) = ios → SimZ X.K T z P H σ (mk s) → PostXT X.K T W mk z P σ r Q → wpT X e σ H Q
def EvXW (X : Cx) (T : Tb) (W : WX) (ios : List Nat) (mk : S → List C) (s : S) (e : Expr) (r : R (Bool × S)) : Prop := ∀ z P H σ Q, z.io.map (·.1) = ios → SimZ X.K T z P H σ (mk s) → PostXT X.K T W mk z P σ r Q → wpW X e σ H Q
def EvXA (X : Cx) (T : Tb) (W : WX) (ios : List Nat) (mk : S → List C) (s : S) (sl : List (Option Nat)) (es : List Expr) (r : R (List D × S)) : Prop := ∀ z P H σ Q, z.io.map (·.1) = ios → SimZ X.K T z P H σ (mk s) → PostXA X.K T W mk sl z P σ r Q → wpA X es σ H Q
end
section
variable {K : PySem.W.Frag} {X : Cx} {T : Tb} {W : WX} {k : Nat} {ρ : List C} {a b c e ei tg iter elt : Expr} {es : List Expr} {da db di : R D} {ca cb : R Bool} {pos p p2 p3 px : Pos} {m : Md} {x y : Str} {fr : Bool} {i j : Nat}
variable {S : Type} {mk : S → List C} {s : S} {ios : List Nat} {ra rb : R (D × S)} {rt : R (Bool × S)}
theorem new_z {z : Zn} {P H : Hp} {σ : L2.St} {a : Addr} (Z : SimZ K T z P H σ ρ) (h : H a = none) : z.H0 a = none ∧ ∀ (j : Nat) (e : D), ρ[j]? = some (C.own e) → σ[j]? ≠ some (some (.ref a)) := by
  refine ⟨?_, fun j d hd hs' => ?_⟩
  · cases q : z.H0 a with
    | none => rfl
    | some y =>
      by_cases hp : ∀ p ∈ z.io, p.2 ≠ a
      · rw [Z.frame a y q hp] at h; cases h
      · have : ∃ p, p ∈ z.io ∧ p.2 = a := Classical.byContradiction fun n => hp fun p hp he => n ⟨p, hp, he⟩
        obtain ⟨p, hpm, rfl⟩ := this
        obtain ⟨h3, d, h4⟩ := Z.ios p hpm
        obtain ⟨u, h5, a', o', h6, h7, h8, h9⟩ := cell_at Z.sim h4
        rw [h3] at h5
        cases h5
        cases h6
        rw [h8] at h; cases h
  · obtain ⟨u, h5, a', o', h6, h7, h8, h9⟩ := cell_at Z.sim hd
    rw [hs'] at h5
    cases h5
    cases h6
    rw [h8] at h; cases h
def pX (d : R D) (s : S) : R (D × S) := d.bind fun x => .ok (x, s)
def pXT (d : R Bool) (s : S) : R (Bool × S) := d.bind fun x => .ok (x, s)
/-- what changes no own object -/
theorem post_px {z : Zn} {P P0 H : Hp} {σ : L2.St} {Q : VK} {d : R D} (h0 : Same P0 P) (Z : SimZ X.K T z P H σ (mk s)) (q : PostX X.K T W m mk z P0 σ (pX d s) Q) (hm : m ≠ .B) : Post X.K T W m P H σ d Q := by
  cases d with
  | bad => exact q
  | ex e => exact fun cls dd H' s' r => q cls dd H' (fun b o e1 e2 => s' _ _ (Z.frame b o e1 e2)) r
  | ok v =>
    intro w P' H' e' r
    refine q w P' H' (h0.trans e'.pp) (Z.ext e') ?_
    cases m with
    | B => exact absurd rfl hm
    | P => exact r
    | F =>
      unfold RepM at r
      unfold RepX
      dsimp only at r ⊢
      split at r
      · rename_i hc
        rw [if_pos hc]
        obtain ⟨a, o, rfl, h1, h2, h3, h4⟩ := r
        obtain ⟨n1, n2⟩ := new_z Z h1
        exact ⟨a, o, rfl, n1, h2, h3, h4, n2⟩
      · rename_i hc
        rw [if_neg hc]
        exact r
theorem post_pxT {z : Zn} {P P0 H : Hp} {σ : L2.St} {Q : Bool → Hp → Prop} {d : R Bool} (h0 : Same P0 P) (Z : SimZ X.K T z P H σ (mk s)) (q : PostXT X.K T W mk z P0 σ (pXT d s) Q) : PostT T W P H σ d Q := by
  cases d with
  | bad => exact q
  | ex e => exact fun cls dd H' s' r => q cls dd H' (fun b o e1 e2 => s' _ _ (Z.frame b o e1 e2)) r
  | ok v => exact fun P' H' e' => q P' H' (h0.trans e'.pp) (Z.ext e')
theorem evx_of (hm : m ≠ .B) (h : Ev X T W m (mk s) e da) : EvX X T W m ios mk s e (pX da s) := fun z P H σ Q hz Z q => h P H σ Q Z.sim (post_px (Same.refl _) Z q hm)
theorem evxT_of (h : EvT X T W (mk s) e ca) : EvXT X T W ios mk s e (pXT ca s) := fun z P H σ Q hz Z q => h P H σ Q Z.sim (post_pxT (Same.refl _) Z q)
theorem evxW_of (h : EvW X T W (mk s) e ca) : EvXW X T W ios mk s e (pXT ca s) := fun z P H σ Q hz Z q => h P H σ Q Z.sim (post_pxT (Same.refl _) Z q)
/-- one more lasting object -/
theorem SimZ.adopt {z : Zn} {P H : Hp} {σ : L2.St} {d : D} {a : Addr} {o : HO} (Z : SimZ K T z P H σ ρ) (hz : z.H0 a = none) (hP : P a = none) (hH : H a = some o) (hn : ∀ (j : Nat) (e : D), ρ[j]? = some (C.own e) → σ[j]? ≠ some (some (.ref a))) : Same P (upd P a o) ∧ SimZ K T z (upd P a o) H σ ρ := by
  have hpp : Same P (upd P a o) := fun b x h => by rw [upd_ne (fun e => by rw [e, hP] at h; cases h)]; exact h
  refine ⟨hpp, ⟨fun b x h => ?_, Z.sim.len, fun j c v h1 h2 => ?_, Z.sim.apart⟩, Z.frame, Z.pp.trans hpp, fun b h1 h2 => ?_, Z.loc, Z.ios⟩
  · by_cases q : b = a
    · subst q; rw [upd_same] at h; cases h; exact hH
    · rw [upd_ne q] at h; exact Z.sim.sub _ _ h
  · have hc := Z.sim.cell j c v h1 h2
    cases c with
    | un => trivial
    | val e => obtain ⟨w, rfl, h⟩ := hc; exact ⟨w, rfl, Rep.mono hpp _ _ h⟩
    | own e =>
      obtain ⟨b, x, rfl, h7, h8, h9⟩ := hc
      have hb : b ≠ a := fun eb => hn j e h1 (by rw [h2, eb])
      exact ⟨b, x, rfl, by rw [upd_ne hb]; exact h7, h8, Own.mono hpp h9⟩
  · have hb : b ≠ a := fun q => by subst q; exact h1 hz
    rw [upd_ne hb]
    exact Z.nw b h1 h2
theorem EvX.lasting (h : EvX X T W .F ios mk s e ra) : EvX X T W .P ios mk s e ra := fun z P H σ Q hz Z q => h z P H σ Q hz Z (by
  cases ra with
  | bad => exact q
  | ex e => exact q
  | ok v =>
    obtain ⟨v, s'⟩ := v
    intro w P' H' hp Z' r
    unfold RepX at r
    dsimp only at r
    split at r
    · obtain ⟨a, o, rfl, h1, h2, h3, h4, h5⟩ := r
      obtain ⟨g1, g2⟩ := Z'.adopt (d := v) h1 h2 h3 h5
      exact q _ _ _ (hp.trans g1) g2 ((rep_own (Own.cont h4)).mpr ⟨a, o, rfl, upd_same, Own.mono g1 h4⟩)
    · exact q _ _ _ hp Z' r)
/-- on with it -/
theorem evx_bind {z : Zn} {P P0 H : Hp} {σ : L2.St} {Q : VK} {F : D × S → R (D × S)} {Q1 : VK} {m' : Md} (ha : EvX X T W m ios mk s a ra) (h0 : Same P0 P) (hz : z.io.map (·.1) = ios) (Z : SimZ X.K T z P H σ (mk s)) (h : PostX X.K T W m' mk z P0 σ (ra.bind F) Q)
    (kk : ∀ v s' w P1 H1, Same P P1 → Same P0 P1 → SimZ X.K T z P1 H1 σ (mk s') → RepX X.K T m z (mk s') σ P1 H1 v w → PostX X.K T W m' mk z P0 σ (F (v, s')) Q → Q1 w H1) : wpE X a σ H Q1 := by
  refine ha z P H σ Q1 hz Z ?_
  cases ra with
  | ok v => exact fun w P' H' hp Z' r => kk v.1 v.2 w P' H' hp (h0.trans hp) Z' r h
  | ex x => exact h
  | bad => exact h
theorem evx_bindT {z : Zn} {P P0 H : Hp} {σ : L2.St} {Q : Bool → Hp → Prop} {F : D × S → R (Bool × S)} {Q1 : VK} (ha : EvX X T W m ios mk s a ra) (h0 : Same P0 P) (hz : z.io.map (·.1) = ios) (Z : SimZ X.K T z P H σ (mk s)) (h : PostXT X.K T W mk z P0 σ (ra.bind F) Q)
    (kk : ∀ v s' w P1 H1, Same P P1 → Same P0 P1 → SimZ X.K T z P1 H1 σ (mk s') → RepX X.K T m z (mk s') σ P1 H1 v w → PostXT X.K T W mk z P0 σ (F (v, s')) Q → Q1 w H1) : wpE X a σ H Q1 := by
  refine ha z P H σ Q1 hz Z ?_
  cases ra with
  | ok v => exact fun w P' H' hp Z' r => kk v.1 v.2 w P' H' hp (h0.trans hp) Z' r h
  | ex x => exact h
  | bad => exact h
theorem evxT_bindT {z : Zn} {P P0 H : Hp} {σ : L2.St} {Q : Bool → Hp → Prop} {F : Bool × S → R (Bool × S)} {Q1 : Bool → Hp → Prop} (ha : EvXT X T W ios mk s a rt) (h0 : Same P0 P) (hz : z.io.map (·.1) = ios) (Z : SimZ X.K T z P H σ (mk s)) (h : PostXT X.K T W mk z P0 σ (rt.bind F) Q)
    (kk : ∀ v s' P1 H1, Same P P1 → Same P0 P1 → SimZ X.K T z P1 H1 σ (mk s') → PostXT X.K T W mk z P0 σ (F (v, s')) Q → Q1 v H1) : wpT X a σ H Q1 := by
  refine ha z P H σ Q1 hz Z ?_
  cases rt with
  | ok v => exact fun P' H' hp Z' => kk v.1 v.2 P' H' hp (h0.trans hp) Z' h
  | ex x => exact h
  | bad => exact h
/-! operators -/
def opX (f : D → D → R D) (a : R (D × S)) (b : S → R (D × S)) : R (D × S) := a.bind fun p => (b p.2).bind fun q => pX (f p.1 q.1) q.2
theorem evx_bin {op : Operator} {r : R2} {f : D → D → R D} {rb : S → R (D × S)} (ho : OpR X (binaryOp op) r) (hf : Does2 X T W r f) (ha : EvX X T W .P ios mk s a ra) (hb : ∀ s, EvX X T W .P ios mk s b (rb s)) :
    EvX X T W .F ios mk s (.BinOp a op b pos) (opX f ra rb) := fun z P H σ Q hz Z q => by
  refine wpE_of (pe_op ho pw pw) ?_
  refine evx_bind ha (Same.refl _) hz Z q fun x s1 v P1 H1 e1 g1 Z1 r1 q1 => ?_
  refine evx_bind (hb s1) g1 hz Z1 q1 fun y s2 w P2 H2 e2 g2 Z2 r2 q2 => ?_
  exact hf P2 H2 σ x y v w Q Z2.sim.sub (.inl (Rep.mono e2 _ _ r1)) (.inl r2) (post_px g2 Z2 q2 (by simp))
def opXT (f : D → D → R Bool) (a : R (D × S)) (b : S → R (D × S)) : R (Bool × S) := a.bind fun p => (b p.2).bind fun q => pXT (f p.1 q.1) q.2
theorem evxT_cmp {op : CmpOp} {r : R2} {f : D → D → R Bool} {rb : S → R (D × S)} (ho : OpR X (compareOp op) r) (hf : DoesC X T r f) (hn : ∀ x y e, f x y ≠ .ex e) (hm : behindInMarks op b = false) (ha : EvX X T W .P ios mk s a ra) (hb : ∀ s, EvX X T W .P ios mk s b (rb s)) :
    EvXT X T W ios mk s (.Compare a [op] [b] pos) (opXT f ra rb) := fun z P H σ Q hz Z q => by
  refine wpT_of (pt_cmpR ho pw pw hm) ?_
  refine evx_bindT ha (Same.refl _) hz Z q fun x s1 v P1 H1 e1 g1 Z1 r1 q1 => ?_
  refine evx_bindT (hb s1) g1 hz Z1 q1 fun y s2 w P2 H2 e2 g2 Z2 r2 q2 => ?_
  obtain ⟨h1, h2⟩ := ok_of (post_pxT g2 Z2 q2) (hn x y)
  exact hf P2 H2 x y v w _ Z2.sim.sub (.inl (Rep.mono e2 _ _ r1)) (.inl r2) (fun b hb P' H' e' => ⟨b, rfl, h2 b hb P' H' e'⟩) h1
def blX (r : R (Bool × S)) : R (D × S) := r.bind fun p => .ok (.bl p.1, p.2)
theorem evx_cmp {op : CmpOp} {r : R2} {f : D → D → R Bool} {rb : S → R (D × S)} (ho : OpR X (compareOp op) r) (hf : DoesC X T r f) (hn : ∀ x y e, f x y ≠ .ex e) (hm : behindInMarks op b = false) (ha : EvX X T W .P ios mk s a ra) (hb : ∀ s, EvX X T W .P ios mk s b (rb s)) :
    EvX X T W .F ios mk s (.Compare a [op] [b] pos) (blX (opXT f ra rb)) := fun z P H σ Q hz Z q => by
  refine wpE_of (pe_cmpR ho pw pw hm) ?_
  have q' : PostX X.K T W .F mk z P σ (ra.bind fun p => (rb p.2).bind fun q => pX (blE (f p.1 q.1)) q.2) Q := by
    unfold blX opXT at q
    cases ra with
    | bad => exact q
    | ex e => exact q
    | ok p =>
      simp only [R.ok_bind] at q ⊢
      cases h : rb p.2 with
      | bad => rw [h] at q; exact q
      | ex e => rw [h] at q; exact q
      | ok p2 =>
        rw [h] at q
        simp only [R.ok_bind] at q ⊢
        unfold pXT at q
        unfold pX blE
        cases h2 : f p.1 p2.1 <;> (rw [h2] at q; exact q)
  refine evx_bind ha (Same.refl _) hz Z q' fun x s1 v P1 H1 e1 g1 Z1 r1 q1 => ?_
  refine evx_bind (hb s1) g1 hz Z1 q1 fun y s2 w P2 H2 e2 g2 Z2 r2 q2 => ?_
  obtain ⟨h1, h2⟩ := okD_of (post_px g2 Z2 q2 (by simp)) (hn x y)
  exact hf P2 H2 x y v w _ Z2.sim.sub (.inl (Rep.mono e2 _ _ r1)) (.inl r2) (fun b hb P' H' e' => h2 b hb P' H' e') h1
/-! a[b] -/
theorem evx_ix {rb : S → R (D × S)} (g : Gd X k) (ha : EvX X T W .P ios mk s a ra) (hb : ∀ s, EvX X T W .P ios mk s b (rb s)) (hs : PlainIx b) : EvX X T W .P ios mk s (.Subscript a b pos) (opX idxR ra rb) := fun z P H σ Q hz Z q => by
  refine wpE_of (pe_ix ((ix_seq (X := X)).or (ix_dict (units1 g))) pw pw hs) ?_
  refine evx_bind ha (Same.refl _) hz Z q fun x s1 v P1 H1 e1 g1 Z1 r1 q1 => ?_
  refine evx_bind (hb s1) g1 hz Z1 q1 fun y s2 w P2 H2 e2 g2 Z2 r2 q2 => ?_
  have q3 : Post X.K T W .P P2 H2 σ (idxR x y) Q := post_px g2 Z2 q2 (by simp)
  have r1' : RepM X.K T .B H2 P2 H2 x v := .inl (Rep.mono e2 _ _ r1)
  have r2' : RepM X.K T .B H2 P2 H2 y w := .inl r2
  clear q2 q1
  unfold idxR at q3
  split at q3
  · rename_i t kvs
    obtain ⟨p, o, rfl, h1, h2⟩ := B_dct Z2.sim.sub r1'
    have q3 : Post X.K T W .P P2 H2 σ (if kindOk y t then ofO (lookD y kvs) else .bad) Q := q3
    split at q3
    · rename_i hk
      obtain ⟨ov, g1, g2⟩ := dget_of Z2.sim.sub hk h1 h2 (rep_key hk r2')
      rcases g2 with ⟨e3, e4⟩ | ⟨d, v, e3, e4, e5⟩
      · rw [e3] at q3; exact q3.elim
      · rw [e3] at q3
        subst e4
        exact .inr ⟨p, v, rfl, g1, q3 v P2 H2 (Ext.refl Z2.sim.sub) e5⟩
    · exact q3.elim
  · exact .inl (idx0_of Z2.sim.sub r1' r2' q3)
/-! tests -/
def notX (r : R (Bool × S)) : R (Bool × S) := r.bind fun p => .ok (!p.1, p.2)
def andX (r : R (Bool × S)) (f : S → R (Bool × S)) : R (Bool × S) := r.bind fun p => if p.1 = true then f p.2 else .ok (false, p.2)
def orX (r : R (Bool × S)) (f : S → R (Bool × S)) : R (Bool × S) := r.bind fun p => if p.1 = true then .ok (true, p.2) else f p.2
def truX (r : R (D × S)) : R (Bool × S) := r.bind fun p => pXT (truT p.1) p.2
theorem evxT_not (h : EvXT X T W ios mk s a rt) : EvXT X T W ios mk s (.UnaryOp .Not a pos) (notX rt) := fun z P H σ Q hz Z q => by
  refine wpT_of (pt_not tw) ?_
  exact evxT_bindT h (Same.refl _) hz Z q fun v s1 P1 H1 e1 g1 Z1 q1 => q1 P1 H1 g1 Z1
theorem evxT_val (ha : EvX X T W .P ios mk s a ra) (he : ∀ whole, isTrue a X.env whole = (do let v ← whole; standAt a.pos; holding [v] (truthy v))) : EvXT X T W ios mk s a (truX ra) := fun z P H σ Q hz Z q => by
  refine wpT_of (pt_truth pw he) ?_
  refine evx_bindT ha (Same.refl _) hz Z q fun x s1 v P1 H1 e1 g1 Z1 r1 q1 => ?_
  have q1 := post_pxT g1 Z1 q1
  unfold truT at q1
  split at q1
  · exact q1.elim
  · rename_i hl
    cases ht : truD x with
    | ok t =>
      rw [ht] at q1
      refine ⟨t, tru_of (H0 := H1) Z1.sim.sub (.inl r1) ht (fun s es => ?_), q1 P1 H1 (Ext.refl Z1.sim.sub)⟩
      subst es
      simpa [longD] using hl
    | ex e => cases x <;> cases ht
    | bad => rw [ht] at q1; exact q1.elim
theorem EvXW.t (h : EvXW X T W ios mk s a rt) : EvXT X T W ios mk s a rt := fun z P H σ Q hz Z q pins st I => h z P H σ Q hz Z q _ pins st I
theorem evxW_and1 (ha : EvXT X T W ios mk s a rt) : EvXW X T W ios mk s (.BoolOp .And [a] pos) rt := fun z P H σ Q hz Z q => wpW_of (pw_and1 tw) (ha z P H σ Q hz Z q)
theorem evxW_or1 (ha : EvXT X T W ios mk s a rt) : EvXW X T W ios mk s (.BoolOp .Or [a] pos) rt := fun z P H σ Q hz Z q => wpW_of (pw_or1 tw) (ha z P H σ Q hz Z q)
theorem evxW_and {rest : List Expr} {ru : S → R (Bool × S)} (ha : EvXT X T W ios mk s a rt) (hb : ∀ s, EvXW X T W ios mk s (.BoolOp .And (b :: rest) pos) (ru s)) : EvXW X T W ios mk s (.BoolOp .And (a :: b :: rest) pos) (andX rt ru) := fun z P H σ Q hz Z q => by
  refine wpW_of (pw_and tw ww) ?_
  refine evxT_bindT ha (Same.refl _) hz Z q fun v s1 P1 H1 e1 g1 Z1 q1 => ?_
  cases v with
  | true => exact hb s1 z P1 H1 σ Q hz Z1 (by
      cases h : ru s1 with
      | bad => simp only [h, if_true] at q1; exact q1
      | ex e => simp only [h, if_true] at q1; exact q1
      | ok p => simp only [h, if_true] at q1; exact fun P' H' e' Z' => q1 P' H' (g1.trans e') Z')
  | false => exact q1 P1 H1 g1 Z1
theorem evxW_or {rest : List Expr} {ru : S → R (Bool × S)} (ha : EvXT X T W ios mk s a rt) (hb : ∀ s, EvXW X T W ios mk s (.BoolOp .Or (b :: rest) pos) (ru s)) : EvXW X T W ios mk s (.BoolOp .Or (a :: b :: rest) pos) (orX rt ru) := fun z P H σ Q hz Z q => by
  refine wpW_of (pw_or tw ww) ?_
  refine evxT_bindT ha (Same.refl _) hz Z q fun v s1 P1 H1 e1 g1 Z1 q1 => ?_
  cases v with
  | false => exact hb s1 z P1 H1 σ Q hz Z1 (by
      cases h : ru s1 with
      | bad => simp only [h, Bool.false_eq_true, if_false] at q1; exact q1
      | ex e => simp only [h, Bool.false_eq_true, if_false] at q1; exact q1
      | ok p => simp only [h, Bool.false_eq_true, if_false] at q1; exact fun P' H' e' Z' => q1 P' H' (g1.trans e') Z')
  | true => exact q1 P1 H1 g1 Z1
/-! arguments -/
theorem RepSl.mono {P P' : Hp} (h : Same P P') {σ : L2.St} : ∀ {sl : List (Option Nat)} {ds : List D} {vs : List V}, RepSl K T P σ sl ds vs → RepSl K T P' σ sl ds vs
  | [], _, _, r => r
  | none :: sl, _, _, r => by
    unfold RepSl at r ⊢
    obtain ⟨d, dr, v, vr, h1, h2, h3, h4⟩ := r
    exact ⟨d, dr, v, vr, h1, h2, Rep.mono h _ _ h3, RepSl.mono h h4⟩
  | some i :: sl, _, _, r => by
    unfold RepSl at r ⊢
    obtain ⟨v, vr, h2, h3, h4⟩ := r
    exact ⟨v, vr, h2, h3, RepSl.mono h h4⟩
def consX (r : R (D × S)) (t : S → R (List D × S)) : R (List D × S) := r.bind fun p => (t p.2).bind fun q => .ok (p.1 :: q.1, q.2)
theorem evxA_nil : EvXA X T W ios mk s [] [] (.ok ([], s)) := fun z P H σ Q hz Z q => wpA_of pa_nil (q _ P H (Same.refl _) Z (by unfold RepSl; exact ⟨rfl, rfl⟩))
theorem evxA_cons {sl : List (Option Nat)} {rl : S → R (List D × S)} (ha : EvX X T W .P ios mk s a ra) (hr : ∀ s, EvXA X T W ios mk s sl es (rl s)) (hs : starEach (a :: es) X.env = (false, eval a X.env) :: starEach es X.env) : EvXA X T W ios mk s (none :: sl) (a :: es) (consX ra rl) := fun z P H σ Q hz Z q => by
  refine wpA_of (pa_cons pw aw hs) ?_
  refine ha z P H σ _ hz Z ?_
  cases ra with
  | bad => exact q
  | ex e => exact q
  | ok p =>
    intro w P1 H1 e1 Z1 r1
    refine hr p.2 z P1 H1 σ _ hz Z1 ?_
    have q : PostXA X.K T W mk (none :: sl) z P σ ((rl p.2).bind fun q => .ok (p.1 :: q.1, q.2)) Q := q
    cases h : rl p.2 with
    | bad => rw [h] at q; exact q
    | ex e => rw [h] at q; exact q
    | ok t =>
      rw [h] at q
      exact fun ws P2 H2 e2 Z2 r2 => q (w :: ws) P2 H2 (e1.trans e2) Z2 (by unfold RepSl; exact ⟨_, _, _, _, rfl, rfl, Rep.mono e2 _ _ r1, r2⟩)
theorem evxA_own {sl : List (Option Nat)} {rl : R (List D × S)} {d : D} (hi : (mk s)[i]? = some (.own d)) (hN : X.N[i]? = some x) (hv : Vis X.env.scope x) (hd : (x == ("__debug__" : Str)) = false) (hcd : (x == ("__classdict__" : Str)) = false)
    (hr : EvXA X T W ios mk s sl es rl) (hs : starEach (.Name x px :: es) X.env = (false, eval (.Name x px) X.env) :: starEach es X.env) : EvXA X T W ios mk s (some i :: sl) (.Name x px :: es) rl := fun z P H σ Q hz Z q => by
  refine wpA_of (pa_cons (pe_var hN hv hd hcd) aw hs) ?_
  obtain ⟨u, h5, a', o', rfl, h7, h8, h9⟩ := cell_at Z.sim hi
  refine ⟨_, h5, ?_⟩
  refine hr z P H σ _ hz Z ?_
  cases rl with
  | bad => exact q
  | ex e => exact q
  | ok t => exact fun ws P2 H2 e2 Z2 r2 => q (_ :: ws) P2 H2 e2 Z2 (by unfold RepSl; exact ⟨_, _, rfl, h5, r2⟩)
/-- plain arguments -/
theorem repSl_none {P : Hp} {σ : L2.St} : ∀ {n : Nat} {ds : List D} {vs : List V}, RepSl K T P σ (List.replicate n none) ds vs → RepAll K T P ds vs ∧ ds.length = n
  | 0, ds, vs, r => by
    have r : ds = [] ∧ vs = [] := by simpa [List.replicate, RepSl] using r
    obtain ⟨rfl, rfl⟩ := r
    exact ⟨RepAll.nil, rfl⟩
  | n + 1, ds, vs, r => by
    rw [List.replicate_succ] at r
    unfold RepSl at r
    obtain ⟨d, dr, v, vr, rfl, rfl, h3, h4⟩ := r
    obtain ⟨g1, g2⟩ := repSl_none h4
    exact ⟨RepAll.cons h3 g1, by simp [g2]⟩
theorem evxA_bind {sl : List (Option Nat)} {rl : R (List D × S)} {z : Zn} {P P0 H : Hp} {σ : L2.St} {Q : VK} {F : List D × S → R (D × S)} {Q1 : List V → Hp → Prop} {m' : Md} (ha : EvXA X T W ios mk s sl es rl) (h0 : Same P0 P) (hz : z.io.map (·.1) = ios) (Z : SimZ X.K T z P H σ (mk s)) (h : PostX X.K T W m' mk z P0 σ (rl.bind F) Q)
    (kk : ∀ v s' w P1 H1, Same P P1 → Same P0 P1 → SimZ X.K T z P1 H1 σ (mk s') → RepSl X.K T P1 σ sl v w → PostX X.K T W m' mk z P0 σ (F (v, s')) Q → Q1 w H1) : wpA X es σ H Q1 := by
  refine ha z P H σ Q1 hz Z ?_
  cases rl with
  | ok v => exact fun w P' H' hp Z' r => kk v.1 v.2 w P' H' hp (h0.trans hp) Z' r h
  | ex x => exact h
  | bad => exact h
def tupX (r : R (List D × S)) : R (D × S) := r.bind fun p => .ok (.tup p.1, p.2)
def lstX (r : R (List D × S)) : R (D × S) := r.bind fun p => .ok (.lst p.1, p.2)
theorem evx_tup {n : Nat} {kx} {rl : R (List D × S)} (h : EvXA X T W ios mk s (List.replicate n none) es rl) (hl : n ≤ 1000) : EvX X T W .F ios mk s (.Tuple es kx pos) (tupX rl) := fun z P H σ Q hz Z q => by
  refine wpE_of (pe_tup aw) ?_
  refine evxA_bind h (Same.refl _) hz Z q fun vs s1 ws P1 H1 e1 g1 Z1 r1 q1 => ?_
  obtain ⟨r2, r3⟩ := repSl_none r1
  have q2 : Post X.K T W .F P1 H1 σ (.ok (.tup vs)) Q := post_px g1 Z1 q1 (by simp)
  exact ⟨by rw [r2.length, r3]; exact most_le (Nat.le_trans hl (by decide)), fun p hp => postU Z1.sim.sub r2 hp q2⟩
theorem evx_lst {n : Nat} {rl : R (List D × S)} (h : EvXA X T W ios mk s (List.replicate n none) es rl) (hl : n ≤ 1000) : EvX X T W .F ios mk s (.List es pos) (lstX rl) := fun z P H σ Q hz Z q => by
  refine wpE_of (pe_lst aw) ?_
  refine evxA_bind h (Same.refl _) hz Z q fun vs s1 ws P1 H1 e1 g1 Z1 r1 q1 => ?_
  obtain ⟨r2, r3⟩ := repSl_none r1
  have q2 : Post X.K T W .F P1 H1 σ (.ok (.lst vs)) Q := post_px g1 Z1 q1 (by simp)
  exact ⟨by rw [r2.length, r3]; exact most_le (Nat.le_trans hl (by decide)), fun p hp => postL Z1.sim.sub r2 hp q2⟩
/-! calls -/
def op1X (f : D → R D) (a : R (D × S)) : R (D × S) := a.bind fun p => pX (f p.1) p.2
theorem evx_b1 {id : String} {r : List V → Hp → VK → Prop} {f : D → R D} (hc : CallR X (.builtin id) r) (hf : Does1 X T W r f) (hg : Gl X x) (hm : X.mg x = none) (hv : bootBuiltins x = some (.builtin id)) (ha : EvX X T W .P ios mk s a ra)
    (hs : starEach [a] X.env = (false, eval a X.env) :: starEach [] X.env) (hn : x ≠ "__name__") (hdb : (x == ("__debug__" : Str)) = false) : EvX X T W .F ios mk s (.Call (.Name x p) [a] [] pos) (op1X f ra) := fun z P H σ Q hz Z q => by
  refine wpE_of (pe_callB hc hg hm hv (pa_cons pw pa_nil hs) hn hdb hs rfl) ?_
  refine evx_bind ha (Same.refl _) hz Z q fun y s1 v P1 H1 e1 g1 Z1 r1 q1 => ?_
  exact hf P1 H1 σ y v Q Z1.sim.sub (.inl r1) (post_px g1 Z1 q1 (by simp))
theorem evx_t1 {id : String} {r : List V → Hp → VK → Prop} {f : D → R D} (hc : CallR X (.type id) r) (hf : Does1 X T W r f) (hg : Gl X x) (hm : X.mg x = none) (hv : bootBuiltins x = some (.type id)) (ha : EvX X T W .P ios mk s a ra)
    (hs : starEach [a] X.env = (false, eval a X.env) :: starEach [] X.env) (hn : x ≠ "__name__") (hdb : (x == ("__debug__" : Str)) = false) : EvX X T W .F ios mk s (.Call (.Name x p) [a] [] pos) (op1X f ra) := fun z P H σ Q hz Z q => by
  refine wpE_of (pe_callTy hc hg hm hv (pa_cons pw pa_nil hs) hn hdb hs rfl) ?_
  refine evx_bind ha (Same.refl _) hz Z q fun y s1 v P1 H1 e1 g1 Z1 r1 q1 => ?_
  exact hf P1 H1 σ y v Q Z1.sim.sub (.inl r1) (post_px g1 Z1 q1 (by simp))
/-- a def without lent arguments, its arguments with changes -/
def callX (f : List D → R D) (r : R (List D × S)) : R (D × S) := r.bind fun p => pX (f p.1) p.2
theorem evx_call {f : Addr} {n : Nat} {mm : List D → R D} {rl : R (List D × S)} (g : Gd X k) (F : FD X.prog X.w X.K X.mg X.base T j x f fr [] n (pureM mm)) (hj : j ≤ k) (tk : Takes X W) (hg : Gl X x) (ha : EvXA X T W ios mk s (List.replicate n none) (a :: es) rl)
    (hdb : (x == ("__debug__" : Str)) = false) (he : starEach (a :: es) X.env = (false, eval a X.env) :: starEach es X.env) (hpl : (backTo pos (starEach es X.env)).any (·.1) = false) : EvX X T W (md fr) ios mk s (.Call (.Name x p) (a :: es) [] pos) (callX mm rl) := fun z P H σ Q hz Z q => by
  obtain ⟨fd, ps, F1, B1⟩ := F.ex
  refine wpE_of (pe_callSD F1 (g.room.mono hj) hg F.gl F.kp B1 .nil (fun σ => passAt tk σ) aw hdb he hpl) ?_
  refine evxA_bind ha (Same.refl _) hz Z q fun vs s1 ws P1 H1 e1 g1 Z1 rs q1 => ?_
  obtain ⟨r1, r3⟩ := repSl_none rs
  have hmd : md fr ≠ .B := by cases fr <;> simp [md]
  have q1 : Post X.K T W (md fr) P1 H1 σ (mm vs) Q := post_px g1 Z1 q1 hmd
  show spI X.K T fr [] n (pureM mm) (ws ++ []) H1 Q (WE W σ)
  rw [List.append_nil]
  refine ⟨by rw [r1.length, r3], P1, vs, ⟨Z1.sim.sub, by rw [argC_len, List.length_map, r1.length], fun i c v h1 h2 => sim_args Z1.sim.sub 0 r1 i c v h1 h2, fun i _ d _ _ h1 => absurd h1 (argC_nil_own 0 i vs d)⟩, ?_⟩
  unfold pureM
  cases hm : mm vs with
  | bad => rw [hm] at q1; exact q1
  | ex z =>
    rw [hm] at q1
    exact fun cls dd H2 h1 h2 => q1 cls dd H2 (fun b o e => h1 b o e fun p hp => nomatch hp) h2
  | ok d =>
    rw [hm] at q1
    exact fun P2 H2 w rz => q1 w P2 H2 ⟨rz.pp, fun b o e => rz.frame b o e (fun p hp => nomatch hp), rz.sub, rz.nw⟩ rz.rep
end
end Fj

/-! ## Lay15 -/
namespace Fj
open PySem PySem.Spec PyProof.Rows L2
section
variable {K : PySem.W.Frag} {X : Cx} {T : Tb} {W : WX} {k : Nat} {ρ : List C} {a b c e ei tg iter elt : Expr} {es : List Expr} {da db di : R D} {ca cb : R Bool} {pos p p2 p3 px : Pos} {m : Md} {x y : Str} {fr : Bool} {i j : Nat}
variable {S : Type} {mk : S → List C} {s : S} {ios : List Nat} {ra rb : R (D × S)} {rt : R (Bool × S)}
/-- an own object lent to a call -/
theorem SimZ.lent {z : Zn} {P H P2 H2 : Hp} {σ : L2.St} {i : Nat} {a : Addr} {d d' : D} {ho : HO} (Z : SimZ K T z P H σ ρ) (hi : ρ[i]? = some (C.own d)) (hs : σ[i]? = some (some (.ref a))) (hsub : Same P2 H2) (hfr : ∀ b o, H b = some o → b ≠ a → H2 b = some o) (hpp : Same P P2)
    (hnw : ∀ b, H b ≠ none → P b = none → P2 b = none) (h2 : H2 a = some ho) (hown : Own K T P2 d' ho) : SimZ K T z P2 H2 σ (ρ.set i (.own d')) := by
  obtain ⟨v, h5, a', o, h6, hP, hH, _⟩ := cell_at Z.sim hi
  rw [hs] at h5
  cases h5
  cases h6
  have hl : i < ρ.length := (List.getElem?_eq_some_iff.mp hi).1
  refine ⟨⟨hsub, by simpa using Z.sim.len, fun j c v h1 h2' => ?_, fun j l d1 e1 b h1 h2' h3 h4 => ?_⟩, fun b x h1 h2' => ?_, Z.pp.trans hpp, fun b h1 h2' => ?_, fun j d1 b h1 h2' => ?_, fun p hp => ?_⟩
  · by_cases q : i = j
    · subst q
      rw [List.getElem?_set_self hl] at h1
      cases h1
      rw [hs] at h2'
      cases h2'
      exact ⟨a, ho, rfl, hnw _ (by rw [hH]; simp) hP, h2, hown⟩
    · rw [List.getElem?_set_ne q] at h1
      have hc := Z.sim.cell j c v h1 h2'
      cases c with
      | un => trivial
      | val e => obtain ⟨w, rfl, h⟩ := hc; exact ⟨w, rfl, Rep.mono hpp _ _ h⟩
      | own e =>
        obtain ⟨b, x, rfl, h7, h8, h9⟩ := hc
        have hb : b ≠ a := fun eb => q (Z.sim.apart i j d e a hi h1 hs (by rw [h2', eb]))
        exact ⟨b, x, rfl, hnw _ (by rw [h8]; simp) h7, hfr _ _ h8 hb, Own.mono hpp h9⟩
  · have f : ∀ {m : Nat} {x : D}, (ρ.set i (.own d'))[m]? = some (C.own x) → ∃ y, ρ[m]? = some (C.own y) := fun {m x} h => by
      by_cases q : i = m
      · subst q; exact ⟨d, hi⟩
      · rw [List.getElem?_set_ne q] at h; exact ⟨x, h⟩
    obtain ⟨y1, g1⟩ := f h1
    obtain ⟨y2, g2⟩ := f h2'
    exact Z.sim.apart j l y1 y2 b g1 g2 h3 h4
  · have hb : b ≠ a := fun e => by
      subst e
      rcases Z.loc i d b hi hs with q | q
      · rw [q] at h1; cases h1
      · exact h2' _ q rfl
    exact hfr _ _ (Z.frame b x h1 h2') hb
  · refine hnw b ?_ (Z.nw b h1 h2')
    cases q : z.H0 b with
    | none => exact absurd q h1
    | some o' =>
      by_cases hp : ∀ p ∈ z.io, p.2 ≠ b
      · rw [Z.frame b o' q hp]; simp
      · have : ∃ p, p ∈ z.io ∧ p.2 = b := Classical.byContradiction fun n => hp fun p hp he => n ⟨p, hp, he⟩
        obtain ⟨p, hpm, rfl⟩ := this
        obtain ⟨h3, d3, h4⟩ := Z.ios p hpm
        obtain ⟨u, h5, a', o', h6, h7, h8, h9⟩ := cell_at Z.sim h4
        rw [h3] at h5
        cases h5
        cases h6
        rw [h8]; simp
  · by_cases q : i = j
    · subst q; exact Z.loc i d b hi h2'
    · rw [List.getElem?_set_ne q] at h1; exact Z.loc j d1 b h1 h2'
  · obtain ⟨h1, e, h2'⟩ := Z.ios p hp
    refine ⟨h1, ?_⟩
    by_cases q : i = p.1
    · subst q; exact ⟨d', List.getElem?_set_self hl⟩
    · rw [List.getElem?_set_ne q]; exact ⟨e, h2'⟩
/-- where an own object's content stands in the state -/
structure At (mk : S → List C) (i : Nat) (gt : S → D) (up : S → D → S) : Prop where
  gt : ∀ s, (mk s)[i]? = some (.own (gt s))
  up : ∀ s d, mk (up s d) = (mk s).set i (.own d)
/-- the lent thing among the arguments -/
def fillR (o : D) : Nat → List D → List D
  | 0, ds => o :: ds
  | n + 1, d :: ds => d :: fillR o n ds
  | _ + 1, [] => [o]
def ioX (mm : List D → R (D × List D)) (q : Nat) (gt : S → D) (up : S → D → S) (r : R (List D × S)) : R (D × S) := r.bind fun t => (mm (fillR (gt t.2) q t.1)).bind fun p => match p.2 with
  | [o] => .ok (p.1, up t.2 o)
  | _ => .bad
theorem fill_cells {P H : Hp} {σ : L2.St} {o : D} {a : Addr} (hs : Same P H) (ho : ∃ h, P a = none ∧ H a = some h ∧ Own K T P o h) (hσ : σ[i]? = some (some (.ref a))) : ∀ {q r : Nat} {ds : List D} {ws : List V} {j : Nat}, RepSl K T P σ (List.replicate q none ++ some i :: List.replicate r none) ds ws →
    ws.length = q + 1 + r ∧ (fillR o q ds).length = ws.length ∧ ws[q]? = some (.ref a) ∧ (∀ (n : Nat) (c : C) (v : Option V), (argC [j + q] j (fillR o q ds))[n]? = some c → (ws.map some)[n]? = some v → CellOk K T P H c v) ∧ (∀ (n : Nat) (d : D), (argC [j + q] j (fillR o q ds))[n]? = some (C.own d) → n = q)
  | 0, r, ds, ws, j, h => by
    have h : RepSl K T P σ (some i :: List.replicate r none) ds ws := h
    unfold RepSl at h
    obtain ⟨v, vr, rfl, h3, h4⟩ := h
    rw [hσ] at h3
    cases h3
    obtain ⟨g1, g2⟩ := repSl_none h4
    have hnil : ∀ (l : List D) (m : Nat), argC [j + 0] (j + 1 + m) l = argC [] (j + 1 + m) l := by
      intro l
      induction l with
      | nil => intro m; rfl
      | cons d l ih =>
        intro m
        unfold argC
        have : [j + 0].contains (j + 1 + m) = false := by simp; omega
        rw [this, show j + 1 + m + 1 = j + 1 + (m + 1) by omega, ih]
        rfl
    refine ⟨by simp [g1.length, g2] <;> omega, by simp [fillR, g1.length], rfl, fun n c v h1 h2 => ?_, fun n d h1 => ?_⟩
    · unfold fillR argC at h1
      cases n with
      | zero =>
        simp at h1 h2
        subst h1 h2
        obtain ⟨hh, ho1, ho2, ho3⟩ := ho
        exact ⟨a, hh, rfl, ho1, ho2, ho3⟩
      | succ n =>
        simp only [List.getElem?_cons_succ] at h1
        rw [show j + 1 = j + 1 + 0 by rfl, hnil] at h1
        exact sim_args hs _ g1 n c v h1 (by simpa using h2)
    · cases n with
      | zero => rfl
      | succ n =>
        unfold fillR argC at h1
        simp only [List.getElem?_cons_succ] at h1
        rw [show j + 1 = j + 1 + 0 by rfl, hnil] at h1
        exact absurd h1 (argC_nil_own _ _ _ _)
  | q + 1, r, ds, ws, j, h => by
    have h : RepSl K T P σ (none :: (List.replicate q none ++ some i :: List.replicate r none)) ds ws := by
      rw [List.replicate_succ, List.cons_append] at h; exact h
    unfold RepSl at h
    obtain ⟨d, dr, v, vr, rfl, rfl, h3, h4⟩ := h
    obtain ⟨g1, g2, g3, g4, g5⟩ := fill_cells (o := o) (a := a) hs ho hσ (j := j + 1) h4
    have hc : [j + (q + 1)].contains j = false := by simp <;> omega
    refine ⟨by simp [g1] <;> omega, by simp [fillR, g2], by simpa using g3, fun n c w h1 h2 => ?_, fun n e h1 => ?_⟩
    · unfold fillR argC at h1
      rw [hc] at h1
      cases n with
      | zero =>
        simp at h1 h2
        subst h1 h2
        exact ⟨v, rfl, h3⟩
      | succ n =>
        simp only [List.getElem?_cons_succ] at h1
        rw [show j + (q + 1) = j + 1 + q by omega] at h1
        exact g4 n c w h1 (by simpa using h2)
    · unfold fillR argC at h1
      rw [hc] at h1
      cases n with
      | zero => simp at h1
      | succ n =>
        simp only [List.getElem?_cons_succ] at h1
        rw [show j + (q + 1) = j + 1 + q by omega] at h1
        rw [g5 n e h1]
theorem evx_io {f : Addr} {q r : Nat} {mm : List D → R (D × List D)} {rl : R (List D × S)} {gt : S → D} {up : S → D → S} (g : Gd X k) (F : FD X.prog X.w X.K X.mg X.base T j x f fr [q] (q + 1 + r) mm) (hj : j ≤ k) (tk : Takes X W) (hg : Gl X x) (hat : At mk i gt up)
    (ha : EvXA X T W ios mk s (List.replicate q none ++ some i :: List.replicate r none) (a :: es) rl)
    (hdb : (x == ("__debug__" : Str)) = false) (he : starEach (a :: es) X.env = (false, eval a X.env) :: starEach es X.env) (hpl : (backTo pos (starEach es X.env)).any (·.1) = false) : EvX X T W (md fr) ios mk s (.Call (.Name x p) (a :: es) [] pos) (ioX mm q gt up rl) := fun z P H σ Q hz Z qq => by
  obtain ⟨fd, ps, F1, B1⟩ := F.ex
  refine wpE_of (pe_callSD F1 (g.room.mono hj) hg F.gl F.kp B1 .nil (fun σ => passAt tk σ) aw hdb he hpl) ?_
  refine evxA_bind ha (Same.refl _) hz Z qq fun vs s1 ws P1 H1 e1 g1 Z1 rs q1 => ?_
  obtain ⟨u, h5, a', o', rfl, h7, h8, h9⟩ := cell_at Z1.sim (hat.gt s1)
  obtain ⟨f1, f2, f3, f4, f5⟩ := fill_cells (o := gt s1) (a := a') (j := 0) Z1.sim.sub ⟨o', h7, h8, h9⟩ h5 rs
  rw [Nat.zero_add] at f4 f5
  show spI X.K T fr [q] (q + 1 + r) mm (ws ++ []) H1 Q (WE W σ)
  rw [List.append_nil]
  refine ⟨f1, P1, fillR (gt s1) q vs, ⟨Z1.sim.sub, by rw [argC_len, List.length_map, f2], f4, fun n1 n2 d1 d2 b h1 h2 _ _ => by rw [f5 _ _ h1, f5 _ _ h2]⟩, ?_⟩
  have hio : ioAt [q] ws = [(q, a')] := by unfold ioAt; rw [List.filterMap_cons, f3]; rfl
  rw [hio]
  have q1 : PostX X.K T W (md fr) mk z P σ ((mm (fillR (gt s1) q vs)).bind fun p => match p.2 with | [o] => .ok (p.1, up s1 o) | _ => .bad) Q := q1
  cases hm : mm (fillR (gt s1) q vs) with
  | bad => rw [hm] at q1; exact q1
  | ex e =>
    rw [hm] at q1
    refine fun cls dd H2 h1 h2 => q1 cls dd H2 (fun b o e1 e2 => ?_) h2
    refine h1 b o (Z1.frame b o e1 e2) fun p hp => ?_
    rw [List.mem_singleton] at hp
    subst hp
    intro e3
    subst e3
    rcases Z1.loc i _ _ (hat.gt s1) h5 with w | w
    · rw [w] at e1; cases e1
    · exact e2 _ w rfl
  | ok dp =>
    rw [hm] at q1
    obtain ⟨d, os⟩ := dp
    intro P2 H2 w rz
    have hos := rz.outs
    cases os with
    | nil => exact nomatch hos
    | cons o'' os' =>
    cases os' with
    | cons _ _ => cases hos with | cons _ h => exact nomatch h
    | nil =>
    cases hos with
    | cons h _ =>
    obtain ⟨h10, ho2, h11, h12⟩ := h
    have hfr : ∀ b o, H1 b = some o → b ≠ a' → H2 b = some o := fun b o h hb => rz.frame b o h fun p hp => by
      rw [List.mem_singleton] at hp; subst hp; exact fun e => hb e.symm
    have Z2 := Z1.lent (d' := o'') (hat.gt s1) h5 rz.sub hfr rz.pp rz.nw h11 h12
    have q1 : ∀ w P' H', Same P P' → SimZ X.K T z P' H' σ (mk (up s1 o'')) → RepX X.K T (md fr) z (mk (up s1 o'')) σ P' H' d w → Q w H' := q1
    rw [hat.up] at q1
    refine q1 w P2 H2 (g1.trans rz.pp) Z2 ?_
    have rr := rz.rep
    cases fr with
    | false => exact rr
    | true =>
      have rr : RepM X.K T .F H1 P2 H2 d w := rr
      show RepX X.K T .F _ _ _ _ _ _ _
      unfold RepM at rr
      unfold RepX
      dsimp only at rr ⊢
      split at rr
      · rename_i hc
        rw [if_pos hc]
        obtain ⟨b, o, rfl, t1, t2, t3, t4⟩ := rr
        obtain ⟨n1, n2⟩ := new_z Z1 t1
        refine ⟨b, o, rfl, n1, t2, t3, t4, fun j e h1 h2 => ?_⟩
        by_cases hij : i = j
        · subst hij
          rw [h5] at h2
          cases h2
          rw [h8] at t1; cases t1
        · rw [List.getElem?_set_ne hij] at h1
          exact n2 j e h1 h2
      · rename_i hc
        rw [if_neg hc]
        exact rr
/-! x.pop(e), x.pop() -/
theorem seq_ix {n : Nat} {k : Int} {j : Nat} (h : Fj.ixN n k = some j) : seqIndex? k n = some j := by
  unfold Fj.ixN at h
  unfold seqIndex?
  dsimp only
  by_cases h0 : 0 ≤ k
  · rw [if_pos h0] at h
    split at h
    · cases h
      have h1 : ¬ k < 0 := by omega
      simp only [h1, if_false]
      rw [if_pos (by simp; omega)]
    · cases h
  · rw [if_neg h0] at h
    split at h
    · cases h
      have h1 : k < 0 := by omega
      simp only [h1, if_true]
      rw [if_pos (by simp; omega)]
    · cases h
theorem rep_get {P : Hp} : ∀ {ds : List D} {vs : List V} {i : Nat} {d : D}, RepAll K T P ds vs → ds[i]? = some d → ∃ v, vs[i]? = some v ∧ Rep K T P d v
  | [], _, i, d, _, e => by simp at e
  | x :: ds, vs, i, d, h, e => by
    unfold RepAll at h
    obtain ⟨w, t, rfl, r1, r2⟩ := h
    cases i with
    | zero => simp at e; subst e; exact ⟨w, rfl, r1⟩
    | succ n => simpa using rep_get r2 (by simpa using e)
theorem rep_erase {P : Hp} : ∀ {ds : List D} {vs : List V} {i : Nat}, RepAll K T P ds vs → RepAll K T P (ds.eraseIdx i) (vs.eraseIdx i)
  | [], _, i, h => by unfold RepAll at h; subst h; exact RepAll.nil
  | x :: ds, vs, i, h => by
    unfold RepAll at h
    obtain ⟨w, t, rfl, r1, r2⟩ := h
    cases i with
    | zero => exact r2
    | succ n => exact RepAll.cons r1 (rep_erase r2)
def popX (gt : S → D) (up : S → D → S) (r : R (D × S)) : R (D × S) := r.bind fun t => (popAtR (gt t.2) t.1).bind fun p => .ok (p.1, up t.2 p.2)
theorem evx_pop {pa pp : Pos} {gt : S → D} {up : S → D → S} (hat : At mk i gt up) (hN : X.N[i]? = some x) (hv : Vis X.env.scope x) (hd : (x == ("__debug__" : Str)) = false) (hcd : (x == ("__classdict__" : Str)) = false)
    (he : EvX X T W .P ios mk s e ra) (hl : contD (gt s) = true → isList (gt s) = true) (hbm : PE X (.Call (.Attribute (.Name x px) "pop" pa) [e] [] pp) (tBM X.K "list" rPopAt (tVar i) (tCons (wpE X e) tNil))) :
    EvX X T W .P ios mk s (.Call (.Attribute (.Name x px) "pop" pa) [e] [] pp) (popX gt up ra) := fun z P H σ Q hz Z q => by
  refine wpE_of hbm ?_
  obtain ⟨u, h5, a', o', rfl, h7, h8, h9⟩ := cell_at Z.sim (hat.gt s)
  have hl0 := hl (Own.cont h9)
  cases hg : gt s with
  | lst xs0 =>
    rw [hg] at h9
    obtain ⟨vs0, rfl, _⟩ := h9
    refine ⟨_, h5, .inl ⟨rfl, _, .inl (.inl h8)⟩, ?_⟩
    refine evx_bind he (Same.refl _) hz Z q fun v s1 w P1 H1 e1 g1 Z1 r1 q1 => ?_
    obtain ⟨u, h5', a2, o2, rfl, h7', h8', h9'⟩ := cell_at Z1.sim (hat.gt s1)
    rw [h5] at h5'
    cases h5'
    have q1 : PostX X.K T W .P mk z P σ ((popAtR (gt s1) v).bind fun p => .ok (p.1, up s1 p.2)) Q := q1
    cases hg1 : gt s1 with
    | lst xs =>
      rw [hg1] at q1 h9'
      obtain ⟨vs, rfl, h10⟩ := h9'
      cases v with
      | int n =>
        unfold popAtR at q1
        dsimp only at q1
        split at q1
        case isFalse => exact q1.elim
        case isTrue hb =>
        unfold big62 at hb
        simp only [Bool.and_eq_true, decide_eq_true_eq] at hb
        cases hix : Fj.ixN xs.length n with
        | none => rw [hix] at q1; exact q1.elim
        | some j =>
          rw [hix] at q1
          simp only [ofO_some, R.ok_bind] at q1
          cases hxj : xs[j]? with
          | none => rw [hxj] at q1; exact q1.elim
          | some y =>
            rw [hxj] at q1
            have q1 : ∀ w P' H', Same P P' → SimZ X.K T z P' H' σ (mk (up s1 (.lst (xs.eraseIdx j)))) → RepX X.K T .P z (mk (up s1 (.lst (xs.eraseIdx j)))) σ P' H' y w → Q w H' := q1
            rw [hat.up] at q1
            obtain ⟨w', hw1, hw2⟩ := rep_get h10 hxj
            have r1 : w = .int n := by unfold RepX Rep at r1; exact r1
            have hA : -2 ^ 63 ≤ n := Int.le_trans (by decide) hb.1
            have hB : n < 2 ^ 63 := Int.lt_of_lt_of_le hb.2 (by decide)
            have hC : seqIndex? n vs.length = some j := by rw [h10.length]; exact seq_ix hix
            refine ⟨_, vs, n, j, w', rfl, by rw [r1], h8', hA, hB, hC, hw1, ?_⟩
            refine q1 w' P1 _ g1 (Z1.change (d := gt s1) (d' := .lst (xs.eraseIdx j)) (hat.gt s1) h5 ⟨_, rfl, rep_erase h10⟩) hw2
      | _ => exact q1.elim
    | _ => rw [hg1] at q1; cases v <;> exact q1.elim
  | _ => rw [hg] at hl0; cases hl0
/-! ### statements -/
def two {α : Type} (f : D → D → R α) : List D → R α
  | [u, v] => f u v
  | _ => .bad
variable {S' B : Type} {mkN : S' → List C} {mkB : B → List C} {rest body thn els : List Stmt}
theorem repSl_two {P : Hp} {σ : L2.St} {ds : List D} {ws : List V} (h : RepSl K T P σ [none, none] ds ws) : ∃ v v2 w w2, ds = [v, v2] ∧ ws = [w, w2] ∧ Rep K T P v w ∧ Rep K T P v2 w2 := by
  unfold RepSl at h
  obtain ⟨v, dr, w, wr, rfl, rfl, r1, h⟩ := h
  unfold RepSl at h
  obtain ⟨v2, dr, w2, wr, rfl, rfl, r2, h⟩ := h
  unfold RepSl at h
  obtain ⟨rfl, rfl⟩ := h
  exact ⟨v, v2, w, w2, rfl, rfl, r1, r2⟩
theorem ssx_bind {z : Zn} {P H : Hp} {σ : L2.St} {D1 : Ends} {F : D × S → R (Fl S' B)} {Q1 : VK} (ha : EvX X T W m ios mk s a ra) (hz : z.io.map (·.1) = ios) (Z : SimZ X.K T z P H σ (mk s)) (h : PostS X.K T W fr mkN mkB z (ra.bind F) D1)
    (kk : ∀ v s' w P1 H1, Same P P1 → SimZ X.K T z P1 H1 σ (mk s') → RepX X.K T m z (mk s') σ P1 H1 v w → PostS X.K T W fr mkN mkB z (F (v, s')) D1 → Q1 w H1) : wpE X a σ H Q1 := by
  refine ha z P H σ Q1 hz Z ?_
  cases ra with
  | ok v => exact fun w P' H' hp Z' r => kk v.1 v.2 w P' H' hp Z' r h
  | ex x => exact fun cls dd H' h1 h2 => h cls dd σ H' h1 h2
  | bad => exact h
theorem ssx_bindT {z : Zn} {P H : Hp} {σ : L2.St} {D1 : Ends} {F : Bool × S → R (Fl S' B)} {Q1 : Bool → Hp → Prop} (ha : EvXT X T W ios mk s a rt) (hz : z.io.map (·.1) = ios) (Z : SimZ X.K T z P H σ (mk s)) (h : PostS X.K T W fr mkN mkB z (rt.bind F) D1)
    (kk : ∀ v s' P1 H1, Same P P1 → SimZ X.K T z P1 H1 σ (mk s') → PostS X.K T W fr mkN mkB z (F (v, s')) D1 → Q1 v H1) : wpT X a σ H Q1 := by
  refine ha z P H σ Q1 hz Z ?_
  cases rt with
  | ok v => exact fun P' H' hp Z' => kk v.1 v.2 P' H' hp Z' h
  | ex x => exact fun cls dd H' h1 h2 => h cls dd σ H' h1 h2
  | bad => exact h
theorem ssx_bindA {sl : List (Option Nat)} {rl : R (List D × S)} {z : Zn} {P H : Hp} {σ : L2.St} {D1 : Ends} {F : List D × S → R (Fl S' B)} {Q1 : List V → Hp → Prop} (ha : EvXA X T W ios mk s sl es rl) (hz : z.io.map (·.1) = ios) (Z : SimZ X.K T z P H σ (mk s)) (h : PostS X.K T W fr mkN mkB z (rl.bind F) D1)
    (kk : ∀ v s' w P1 H1, Same P P1 → SimZ X.K T z P1 H1 σ (mk s') → RepSl X.K T P1 σ sl v w → PostS X.K T W fr mkN mkB z (F (v, s')) D1 → Q1 w H1) : wpA X es σ H Q1 := by
  refine ha z P H σ Q1 hz Z ?_
  cases rl with
  | ok v => exact fun w P' H' hp Z' r => kk v.1 v.2 w P' H' hp Z' r h
  | ex x => exact fun cls dd H' h1 h2 => h cls dd σ H' h1 h2
  | bad => exact h
def bindX {β : Type} (r : R (D × S)) (F : D → S → R β) : R β := r.bind fun p => F p.1 p.2
def stX {β : Type} (r : R (D × S)) (F : S → R β) : R β := r.bind fun p => F p.2
def retX (r : R (D × S)) (os : S → List D) : R (Fl S' B) := r.bind fun p => .ok (.rt p.1 (os p.2))
def parX {β : Type} (r : R (List D × S)) (F : D → D → S → R β) : R β := r.bind fun p => two (fun u v => F u v p.2) p.1
def unX {β : Type} (r : R (D × S)) (F : D → D → S → R β) : R β := r.bind fun p => un2 (fun a b => F a b p.2) p.1
def appX {β : Type} (gt : S → D) (s : S) (r : R (D × S)) (F : D → S → R β) : R β := if isList (gt s) = true then r.bind fun p => (appendR (gt p.2) p.1).bind fun d => F d p.2 else .bad
theorem ss_asgX {pos' : Pos} {F : D → S → R (Fl S' B)} (g : Gd X k) (hi : Sl X ios i x) (hs : swapsWith e (some (.Name x pos')) pos.line X.env = pure false)
    (he : EvX X T W .P ios mk s e ra) (hr : ∀ v s, Ss X T W fr ios mkN mkB ((mk s).set i (.val v)) rest (F v s)) : Ss X T W fr ios mkN mkB (mk s) (.Assign [.Name x pos'] e pos :: rest) (bindX ra F) := fun z P H σ D1 hz Z h => by
  refine wpSs_of (pss_cons (ps_set g.nd hi.nm hi.lo pw hs hi.fn) ssw) ?_
  refine ssx_bind he hz Z h fun v s1 w P1 H1 e1 Z1 r1 q1 => ?_
  exact hr v s1 z P1 H1 _ D1 hz (Z1.set (io_ne hz hi.io) r1) q1
def ownX (r : R (D × S)) (F : D → S → R (Fl S' B)) : R (Fl S' B) := r.bind fun p => if contD p.1 = true then F p.1 p.2 else .bad
theorem ss_ownX {pos' : Pos} {F : D → S → R (Fl S' B)} (g : Gd X k) (hi : Sl X ios i x) (hs : swapsWith e (some (.Name x pos')) pos.line X.env = pure false)
    (he : EvX X T W .F ios mk s e ra) (hr : ∀ v s, Ss X T W fr ios mkN mkB ((mk s).set i (.own v)) rest (F v s)) : Ss X T W fr ios mkN mkB (mk s) (.Assign [.Name x pos'] e pos :: rest) (ownX ra F) := fun z P H σ D1 hz Z h => by
  refine wpSs_of (pss_cons (ps_set g.nd hi.nm hi.lo pw hs hi.fn) ssw) ?_
  refine ssx_bind he hz Z h fun v s1 w P1 H1 e1 Z1 r1 q1 => ?_
  have q1 : PostS X.K T W fr mkN mkB z (if contD v = true then F v s1 else .bad) D1 := q1
  split at q1
  · rename_i hc
    unfold RepX at r1
    dsimp only at r1
    rw [if_pos hc] at r1
    obtain ⟨b, o, rfl, n1, n2, n3, n4, n5⟩ := r1
    exact hr v s1 z P1 H1 _ D1 hz (Z1.setOwn (io_ne hz hi.io) n2 n3 n4 n1 fun j e hj h1 => n5 j e h1) q1
  · exact q1.elim
theorem ss_exprX {F : S → R (Fl S' B)} (hs : swapsWith e none pos.line X.env = pure false) (he : EvX X T W m ios mk s e ra) (hr : ∀ s, Ss X T W fr ios mkN mkB (mk s) rest (F s)) : Ss X T W fr ios mkN mkB (mk s) (.Expr e pos :: rest) (stX ra F) := fun z P H σ D1 hz Z h => by
  refine wpSs_of (pss_cons (ps_expr pw hs) ssw) ?_
  exact ssx_bind he hz Z h fun v s1 w P1 H1 e1 Z1 r1 q1 => hr s1 z P1 H1 _ D1 hz Z1 q1
theorem ss_retX {os : S → List D} (ho : ∀ s, outsOf (mk s) ios = some (os s)) (he : EvX X T W (md fr) ios mk s e ra) : Ss X T W fr ios mkN mkB (mk s) (.Return (some e) pos :: rest) (retX ra os) := fun z P H σ D1 hz Z h => by
  refine wpSs_of (pss_cons (ps_ret pw) (ssw (st := rest))) ?_
  refine ssx_bind he hz Z h fun v s1 w P1 H1 e1 Z1 r1 q1 => ?_
  refine q1 P1 H1 w ⟨Z1.sim.sub, Z1.frame, Z1.pp, Z1.nw, ?_, outs_of Z1 (fun p hp => hp) (by rw [hz]; exact ho s1)⟩
  cases fr with
  | false => exact r1
  | true =>
    have r1 : RepX X.K T .F z (mk s1) σ P1 H1 v w := r1
    show RepM X.K T .F z.H0 P1 H1 v w
    unfold RepX at r1
    unfold RepM
    dsimp only at r1 ⊢
    split at r1
    · rename_i hc
      rw [if_pos hc]
      obtain ⟨b, o, rfl, n1, n2, n3, n4, n5⟩ := r1
      exact ⟨b, o, rfl, n1, n2, n3, n4⟩
    · rename_i hc
      rw [if_neg hc]
      exact r1
def ifX {α : Type} (r : R (Bool × S)) (a b : S → R α) : R α := r.bind fun p => if p.1 = true then a p.2 else b p.2
theorem ss_ifX {S2 : Type} {mk2 : S2 → List C} {fa fb : S → R (Fl S2 B)} {kk : S2 → R (Fl S' B)} (hc : EvXT X T W ios mk s c rt) (ha : ∀ s, Ss X T W fr ios mk2 mkB (mk s) thn (fa s)) (hb : ∀ s, Ss X T W fr ios mk2 mkB (mk s) els (fb s)) (hr : ∀ s, Ss X T W fr ios mkN mkB (mk2 s) rest (kk s)) :
    Ss X T W fr ios mkN mkB (mk s) (.If c thn els pos :: rest) (seqR (ifX rt fa fb) kk) := fun z P H σ D1 hz Z h => by
  refine wpSs_of (pss_cons (ps_if tw ssw ssw) ssw) ?_
  have h2 : PostS X.K T W fr mk2 mkB z (ifX rt fa fb) ⟨wpSs X rest D1, D1.rt, D1.bk, D1.ct⟩ := post_seq hz hr h
  refine ssx_bindT hc hz Z h2 fun v s1 P1 H1 e1 Z1 q1 => ?_
  cases v with
  | true => exact ha s1 z P1 H1 σ _ hz Z1 q1
  | false => exact hb s1 z P1 H1 σ _ hz Z1 q1
theorem ss_ifEX {mk2 : Empty → List C} {fa : S → R (Fl Empty B)} {fr' : S → R (Fl S' B)} (hc : EvXT X T W ios mk s c rt) (ha : ∀ s, Ss X T W fr ios mk2 mkB (mk s) thn (fa s)) (hr : ∀ s, Ss X T W fr ios mkN mkB (mk s) rest (fr' s)) :
    Ss X T W fr ios mkN mkB (mk s) (.If c thn [] pos :: rest) (ifX rt (fun s => endR (fa s)) fr') := fun z P H σ D1 hz Z h => by
  refine wpSs_of (pss_cons (ps_if tw ssw pss_nil) ssw) ?_
  refine ssx_bindT hc hz Z h fun v s1 P1 H1 e1 Z1 q1 => ?_
  cases v with
  | true => exact ha s1 z P1 H1 σ _ hz Z1 (post_end q1)
  | false => exact hr s1 z P1 H1 σ _ hz Z1 q1
/-- x, y = a, b -/
theorem ss_parX {px py pt pt2 : Pos} {kt k2 : Nat} {rl : R (List D × S)} {F : D → D → S → R (Fl S' B)} (g : Gd X k) (hi : Sl X ios i x) (hj : Sl X ios j y) (hij : i ≠ j) (hx : X.env.scope.names.lookup x = some .local) (hy : X.env.scope.names.lookup y = some .local) (ha : EvXA X T W ios mk s [none, none] [a, b] rl)
    (hsw : swappedStores [.Tuple [.Name x px, .Name y py] kt pt] (.Tuple [a, b] k2 pt2) X.env = pure (some [x, y])) (hs : swapsWithSole [.Tuple [.Name x px, .Name y py] kt pt] (.Tuple [a, b] k2 pt2) pos.line X.env = pure false)
    (hr : ∀ a b s, Ss X T W fr ios mkN mkB (((mk s).set i (.val a)).set j (.val b)) rest (F a b s)) : Ss X T W fr ios mkN mkB (mk s) (.Assign [.Tuple [.Name x px, .Name y py] kt pt] (.Tuple [a, b] k2 pt2) pos :: rest) (parX rl F) := fun z P H σ D1 hz Z h => by
  refine wpSs_of (pss_cons (ps_par g.calm g.nd hi.nm hj.nm hij hx hy aw hsw hs) ssw) ?_
  show wpA X [a, b] σ H _
  refine ssx_bindA ha hz Z h fun vs s1 ws P1 H1 e1 Z1 rs q1 => ?_
  obtain ⟨v, v2, w, w2, rfl, rfl, r1, r2⟩ := repSl_two rs
  exact ⟨w, w2, rfl, hr v v2 s1 z P1 H1 _ D1 hz ((Z1.set (io_ne hz hi.io) r1).set (io_ne hz hj.io) r2) q1⟩
/-- x, y = e -/
theorem ss_un2X {px py pt : Pos} {kt : Nat} {F : D → D → S → R (Fl S' B)} (g : Gd X k) (hi : Sl X ios i x) (hj : Sl X ios j y) (he : EvX X T W .P ios mk s e ra) (hs : swapsWithSole [.Tuple [.Name x px, .Name y py] kt pt] e pos.line X.env = pure false) (hs2 : swappedStores [.Tuple [.Name x px, .Name y py] kt pt] e X.env = pure none)
    (hr : ∀ a b s, Ss X T W fr ios mkN mkB (((mk s).set i (.val a)).set j (.val b)) rest (F a b s)) : Ss X T W fr ios mkN mkB (mk s) (.Assign [.Tuple [.Name x px, .Name y py] kt pt] e pos :: rest) (unX ra F) := fun z P H σ D1 hz Z h => by
  refine wpSs_of (pss_cons (ps_asg pw (pg_tup g.calm (pgs_cons (pg_name g.nd hi.nm hi.lo hi.fn) (pgs_cons (pg_name g.nd hj.nm hj.lo hj.fn) pgs_nil rfl) rfl) (n := 2) rfl rfl) hs hs2) ssw) ?_
  refine ssx_bind he hz Z h fun v s1 w P1 H1 e1 Z1 r1 q1 => ?_
  obtain ⟨a, b, rfl, q⟩ := post_un2 q1
  obtain ⟨t, u, w, rfl, h3, h4, h5⟩ := rep2 r1
  exact ⟨t, _, rfl, .inl (.inl (Z1.sim.sub _ _ h3)), rfl, _, _, rfl, _, _, rfl, rfl, hr a b s1 z P1 H1 _ D1 hz ((Z1.set (io_ne hz hi.io) h4).set (io_ne hz hj.io) h5) q⟩
/-- x.append(e) -/
theorem ss_appendX {pa pp : Pos} {gt : S → D} {F : D → S → R (Fl S' B)} (hi : ∀ s, (mk s)[i]? = some (.own (gt s))) (hN : X.N[i]? = some x) (hv : Vis X.env.scope x) (hd : (x == ("__debug__" : Str)) = false) (hcd : (x == ("__classdict__" : Str)) = false)
    (hs : swapsWith (.Call (.Attribute (.Name x px) "append" pa) [e] [] pp) none pos.line X.env = pure false) (he : EvX X T W .P ios mk s e ra)
    (hbm : PE X (.Call (.Attribute (.Name x px) "append" pa) [e] [] pp) (tBM X.K "list" rAppend (tVar i) (tCons (wpE X e) tNil))) (hr : ∀ v s, Ss X T W fr ios mkN mkB ((mk s).set i (.own v)) rest (F v s)) :
    Ss X T W fr ios mkN mkB (mk s) (.Expr (.Call (.Attribute (.Name x px) "append" pa) [e] [] pp) pos :: rest) (appX gt s ra F) := fun z P H σ D1 hz Z h => by
  unfold appX at h
  refine wpSs_of (pss_cons (ps_expr hbm hs) ssw) ?_
  obtain ⟨u, h5, a', o', rfl, h7, h8, h9⟩ := cell_at Z.sim (hi s)
  split at h
  case isFalse => exact h.elim
  case isTrue hl =>
  cases hg : gt s with
  | lst xs0 =>
    rw [hg] at h9
    obtain ⟨vs0, rfl, _⟩ := h9
    refine ⟨_, h5, .inl ⟨rfl, _, .inl (.inl h8)⟩, ?_⟩
    refine ssx_bind he hz Z h fun v s1 w P1 H1 e1 Z1 r1 q1 => ?_
    obtain ⟨u, h5', a2, o2, rfl, h7', h8', h9'⟩ := cell_at Z1.sim (hi s1)
    rw [h5] at h5'
    cases h5'
    have q1 : PostS X.K T W fr mkN mkB z ((appendR (gt s1) v).bind fun d => F d s1) D1 := q1
    cases hg1 : gt s1 with
    | lst xs =>
      rw [hg1] at q1 h9'
      obtain ⟨vs, rfl, h10⟩ := h9'
      have q2 : PostS X.K T W fr mkN mkB z ((if xs.length < most then .ok (.lst (xs ++ [v])) else .bad : R D).bind fun d => F d s1) D1 := q1
      split at q2
      · rename_i hl
        refine ⟨_, vs, w, rfl, rfl, h8', by rw [h10.length]; exact most_lt (by omega), ?_⟩
        exact hr _ s1 z P1 _ _ D1 hz (Z1.change (d := gt s1) (d' := .lst (xs ++ [v])) (hi s1) h5 ⟨vs ++ [w], rfl, h10.append (RepAll.cons r1 RepAll.nil)⟩) q2
      · exact q2.elim
    | _ => rw [hg1] at q1; exact q1.elim
  | _ => rw [hg] at hl; cases hl
def insX {β : Type} (gt : S → D) (s : S) (r : R (List D × S)) (ins : D → D → D → R D) (F : D → S → R β) : R β := if isList (gt s) = true then r.bind fun p => two (fun u v => (ins (gt p.2) u v).bind fun d => F d p.2) p.1 else .bad
def insertR (d i v : D) : R D := match d, i with
  | .lst xs, .int k => if 0 ≤ k ∧ big62 k = true ∧ xs.length < most then .ok (.lst (xs.take k.toNat ++ [v] ++ xs.drop k.toNat)) else .bad
  | _, _ => .bad
theorem rep_take {P : Hp} : ∀ {n : Nat} {ds : List D} {vs : List V}, RepAll K T P ds vs → RepAll K T P (ds.take n) (vs.take n) ∧ RepAll K T P (ds.drop n) (vs.drop n)
  | 0, ds, vs, h => ⟨by simpa using RepAll.nil, by simpa using h⟩
  | n + 1, [], vs, h => by unfold RepAll at h; subst h; exact ⟨by simpa using RepAll.nil, by simpa using RepAll.nil⟩
  | n + 1, x :: ds, vs, h => by
    unfold RepAll at h
    obtain ⟨w, t, rfl, r1, r2⟩ := h
    obtain ⟨g1, g2⟩ := rep_take (n := n) r2
    exact ⟨RepAll.cons r1 g1, g2⟩
/-- x.insert(a, b) -/
theorem ss_insertX {pa pp : Pos} {gt : S → D} {rl : R (List D × S)} {F : D → S → R (Fl S' B)} (hi : ∀ s, (mk s)[i]? = some (.own (gt s)))
    (hs : swapsWith (.Call (.Attribute (.Name x px) "insert" pa) [a, b] [] pp) none pos.line X.env = pure false) (he : EvXA X T W ios mk s [none, none] [a, b] rl)
    (hbm : PE X (.Call (.Attribute (.Name x px) "insert" pa) [a, b] [] pp) (tBM X.K "list" (fun x vs H Q => ∃ l xs i y, x = V.ref l ∧ vs = [V.int i, y] ∧ H l = some (HO.lst xs) ∧ xs.length < sizeLine ∧ 0 ≤ i ∧ i < 2 ^ 63 ∧ Q V.non (upd H l (HO.lst (List.take i.toNat xs ++ [y] ++ List.drop i.toNat xs)))) (tVar i) (wpA X [a, b]))) (hr : ∀ v s, Ss X T W fr ios mkN mkB ((mk s).set i (.own v)) rest (F v s)) :
    Ss X T W fr ios mkN mkB (mk s) (.Expr (.Call (.Attribute (.Name x px) "insert" pa) [a, b] [] pp) pos :: rest) (insX gt s rl insertR F) := fun z P H σ D1 hz Z h => by
  unfold insX at h
  refine wpSs_of (pss_cons (ps_expr hbm hs) ssw) ?_
  obtain ⟨u, h5, a', o', rfl, h7, h8, h9⟩ := cell_at Z.sim (hi s)
  split at h
  case isFalse => exact h.elim
  case isTrue hl =>
  cases hg : gt s with
  | lst xs0 =>
    rw [hg] at h9
    obtain ⟨vs0, rfl, _⟩ := h9
    refine ⟨_, h5, .inl ⟨rfl, _, .inl (.inl h8)⟩, ?_⟩
    refine ssx_bindA he hz Z h fun vs s1 ws P1 H1 e1 Z1 rs q1 => ?_
    obtain ⟨v, v2, w, w2, rfl, rfl, r1, r2⟩ := repSl_two rs
    obtain ⟨u, h5', a2, o2, rfl, h7', h8', h9'⟩ := cell_at Z1.sim (hi s1)
    rw [h5] at h5'
    cases h5'
    have q1 : PostS X.K T W fr mkN mkB z ((insertR (gt s1) v v2).bind fun d => F d s1) D1 := q1
    cases hg1 : gt s1 with
    | lst xs =>
      rw [hg1] at q1 h9'
      obtain ⟨vs, rfl, h10⟩ := h9'
      cases v with
      | int n =>
        unfold insertR at q1
        dsimp only at q1
        split at q1
        case isFalse => exact q1.elim
        case isTrue hb =>
        obtain ⟨hb1, hb2, hb3⟩ := hb
        unfold big62 at hb2
        simp only [Bool.and_eq_true, decide_eq_true_eq] at hb2
        unfold Rep at r1
        subst r1
        obtain ⟨t1, t2⟩ := rep_take (n := n.toNat) h10
        have hB : n < 2 ^ 63 := Int.lt_of_lt_of_le hb2.2 (by decide)
        have hC : vs.length < sizeLine := by rw [h10.length]; exact most_lt (by omega)
        refine ⟨_, vs, n, w2, rfl, rfl, h8', hC, hb1, hB, ?_⟩
        exact hr _ s1 z P1 _ _ D1 hz (Z1.change (d := gt s1) (d' := .lst (xs.take n.toNat ++ [v2] ++ xs.drop n.toNat)) (hi s1) h5 ⟨_, rfl, (t1.append (RepAll.cons r2 RepAll.nil)).append t2⟩) q1
      | _ => exact q1.elim
    | _ => rw [hg1] at q1; cases v <;> exact q1.elim
  | _ => rw [hg] at hl; cases hl
end
end Fj

/-! ## Lay16 -/
namespace Fj
open PySem PySem.Spec PyProof.Rows L2
section
variable {K : PySem.W.Frag} {X : Cx} {T : Tb} {W : WX} {k : Nat} {ρ : List C} {a b c e ei tg iter elt : Expr} {es : List Expr} {da db di : R D} {ca cb : R Bool} {pos p p2 p3 px q q2 : Pos} {m : Md} {x y : Str} {fr : Bool} {i j : Nat}
/-! ### sorted(set(..)) of tuples of whole numbers -/
theorem code_lex {B : Int} : ∀ {r q : List Int}, r.length = q.length → TS.Bd B r → TS.Bd B q → (lexLt r q = true ↔ TS.code B r < TS.code B q)
  | [], [], _, _, _ => by simp [lexLt]
  | [], _ :: _, h, _, _ => by simp at h
  | _ :: _, [], h, _, _ => by simp at h
  | x :: r, y :: q, h, h1, h2 => by
    have hl : r.length = q.length := by simpa using h
    unfold lexLt
    by_cases e : x = y
    · subst e
      rw [if_pos rfl, TS.code_same hl]
      exact code_lex hl h1.tail h2.tail
    · rw [if_neg e]
      by_cases g : x < y
      · simp only [g, decide_true, true_iff]
        exact TS.code_lt hl h1.tail h2.tail g
      · simp only [g, decide_false, Bool.false_eq_true, false_iff, Int.not_lt]
        exact Int.le_of_lt (TS.code_lt hl.symm h2.tail h1.tail (by omega))
theorem ints_rep {P : Hp} : ∀ {xs : List D} {a : List Int} {us : List V}, intsD xs = some a → RepAll K T P xs us → us = a.map V.int
  | [], a, us, h, g => by unfold RepAll at g; subst g; simp [intsD] at h; subst h; rfl
  | x :: xs, a, us, h1, g2 => by
    unfold RepAll at g2
    obtain ⟨w, t, rfl, r1, r2⟩ := g2
    cases x with
    | int n =>
      unfold intsD at h1
      cases h3 : intsD xs with
      | none => rw [h3] at h1; cases h1
      | some l =>
        rw [h3] at h1
        cases h1
        unfold Rep at r1
        subst r1
        rw [ints_rep h3 r2]
        rfl
    | _ => cases h1
theorem tupsI_rep {P : Hp} : ∀ {ds : List D} {ks : List (List Int)} {vs : List V}, tupsI ds = some ks → RepAll K T P ds vs → ∃ ps : List (Addr × List Int), vs = ps.map (fun p => V.ref p.1) ∧ ps.map (·.2) = ks ∧ ∀ p ∈ ps, P p.1 = some (.tup (p.2.map V.int))
  | [], ks, vs, h, r => by
    unfold RepAll at r
    subst r
    simp [tupsI] at h
    subst h
    exact ⟨[], rfl, rfl, fun p h => nomatch h⟩
  | d :: ds, ks, vs, h, r => by
    unfold RepAll at r
    obtain ⟨w, t, rfl, r1, r2⟩ := r
    unfold tupsI at h
    cases h1 : tupI d with
    | none => rw [h1] at h; cases h
    | some a =>
      rw [h1] at h
      cases h2 : tupsI ds with
      | none => rw [h2] at h; cases h
      | some as =>
        rw [h2] at h
        cases h
        obtain ⟨ps, rfl, e2, e3⟩ := tupsI_rep h2 r2
        unfold tupI at h1
        split at h1
        · rename_i xs
          obtain ⟨b, us, rfl, g1, g2⟩ := rep_tup.mp r1
          have : us = a.map V.int := ints_rep h1 g2
          subst this
          exact ⟨(b, a) :: ps, rfl, by simp [e2], fun p hp => by
            rcases List.mem_cons.mp hp with rfl | hp
            · exact g1
            · exact e3 p hp⟩
        · cases h1
theorem intsD_map (a : List Int) : intsD (a.map .int) = some a := by
  induction a with
  | nil => rfl
  | cons x a ih => simp [intsD, ih]
theorem rep_ints {P : Hp} (l : List Int) : RepAll K T P (l.map D.int) (l.map V.int) := by
  induction l with
  | nil => exact RepAll.nil
  | cons x l ih => exact RepAll.cons (by unfold Rep; rfl) ih
theorem big_bound (ks : List (List Int)) (h : ∀ a ∈ ks, ∀ i ∈ a, 0 ≤ i) : ∃ B : Int, ∀ a ∈ ks, TS.Bd B a := by
  have one : ∀ a : List Int, ∃ B : Int, ∀ i ∈ a, i < B := by
    intro a
    induction a with
    | nil => exact ⟨0, fun i h => nomatch h⟩
    | cons x a ih =>
      obtain ⟨B, hB⟩ := ih
      refine ⟨max B (x + 1), fun i hi => ?_⟩
      rcases List.mem_cons.mp hi with rfl | hi
      · omega
      · have := hB i hi; omega
  have all : ∃ B : Int, ∀ a ∈ ks, ∀ i ∈ a, i < B := by
    clear h
    induction ks with
    | nil => exact ⟨0, fun a h => nomatch h⟩
    | cons a ks ih =>
      obtain ⟨B, hB⟩ := ih
      obtain ⟨B', hB'⟩ := one a
      refine ⟨max B B', fun c hc i hi => ?_⟩
      rcases List.mem_cons.mp hc with rfl | hc
      · have := hB' i hi; omega
      · have := hB c hc i hi; omega
  obtain ⟨B, hB⟩ := all
  exact ⟨B, fun a ha i hi => ⟨h a ha i hi, hB a ha i hi⟩⟩
theorem ev_sortSet (g : Gd X k) (hg : Gl X "sorted") (hg2 : Gl X "set") (ha : Ev X T W .P ρ a da) (hs : starEach [a] X.env = (false, eval a X.env) :: starEach [] X.env)
    (hs2 : starEach [.Call (.Name "set" p2) [a] [] q2] X.env = (false, eval (.Call (.Name "set" p2) [a] [] q2) X.env) :: starEach [] X.env) :
    Ev X T W .F ρ (.Call (.Name "sorted" p) [.Call (.Name "set" p2) [a] [] q2] [] pos) (da.bind sortSetR) := fun P H σ Q S qq => by
  have hu : X.A.units + 64 < cLine := by have := g.room.un; omega
  refine wpE_of (pe_callB (cr_sortedT g.calm) hg g.bi.sorted (by decide +kernel) (pa_cons (pe_callTy (cr_setOfT g.calm hu) hg2 g.bi.set (by decide +kernel) (pa_cons pw pa_nil hs) (by decide +kernel) (by decide +kernel) hs rfl) pa_nil hs2) (by decide +kernel) (by decide +kernel) hs2 rfl) ?_
  refine ev_bind ha S qq fun v w P1 H1 e1 S1 r1 q1 => ?_
  cases v with
  | lst xs =>
    have r1 : Rep X.K T P1 (.lst xs) w := r1
    unfold Rep at r1
    obtain ⟨l, vs, rfl, h1, h2⟩ := r1
    unfold sortSetR at q1
    dsimp only at q1
    cases hk : tupsI xs with
    | none => rw [hk] at q1; exact q1.elim
    | some ks =>
      rw [hk] at q1
      simp only [ofO_some, R.ok_bind] at q1
      split at q1
      case isFalse => exact q1.elim
      case isTrue hok =>
      simp only [Bool.and_eq_true, decide_eq_true_eq, List.all_eq_true] at hok
      obtain ⟨⟨hlen, hall⟩, hd⟩ := hok
      obtain ⟨ps, rfl, e2, e3⟩ := tupsI_rep hk h2
      obtain ⟨B, hB⟩ := big_bound ks fun a ha i hi => (hall a ha).2 i hi
      have hmem : ∀ p ∈ ps, p.2 ∈ ks := fun p hp => by rw [← e2]; exact List.mem_map_of_mem hp
      refine ⟨l, ps, rfl, SqL.of (e1.ph _ _ h1), fun p hp => .inl (.inl (e1.ph _ _ (e3 p hp))), by rw [← e2] at hlen; simpa using hlen, fun s L hs0 hL1 hL2 => ?_⟩
      refine ⟨s, L, (ks.headD [0]).length, B, rfl, upd_same, fun p hp => ?_, hd, fun p hp => ?_, fun L' t hperm hnd h64 hpw ht => ?_⟩
      · have := e3 p (hL1 p hp)
        refine .inl (.inl ?_)
        rw [upd_ne (fun e => by rw [e] at this; rw [e1.ph _ _ this] at hs0; cases hs0)]
        exact e1.ph _ _ this
      · have h4 := hmem p (hL1 p hp)
        exact ⟨(hall p.2 h4).1, hB p.2 h4⟩
      · have hmL : ∀ p, p ∈ L' ↔ p ∈ L := fun p => hperm.mem_iff
        have hsnd : ∀ a, a ∈ L'.map (·.2) ↔ a ∈ ks := fun a => by
          constructor
          · intro h
            obtain ⟨p, hp, rfl⟩ := List.mem_map.mp h
            exact hmem p (hL1 p ((hmL p).mp hp))
          · intro h
            rw [← e2] at h
            obtain ⟨p, hp, rfl⟩ := List.mem_map.mp h
            obtain ⟨p', hp', e⟩ := List.mem_map.mp (hL2 p hp)
            rw [← e]
            exact List.mem_map_of_mem ((hmL p').mpr hp')
        have hss : SS (L'.map (·.2)) := by
          have hq : (L'.map (·.2)).Pairwise fun q r => TS.code B q ≤ TS.code B r := List.pairwise_map.mpr hpw
          refine List.Pairwise.imp_of_mem (fun {q r} hq hr h => ?_) (List.Pairwise.and hq hnd)
          have hq' := (hsnd q).mp hq
          have hr' := (hsnd r).mp hr
          rcases lexLt_total q r with h' | h' | h'
          · exact h'
          · exact absurd h' h.2
          · have := (code_lex (by rw [(hall q hq').1, (hall r hr').1]) (hB r hr') (hB q hq')).mp h'
            omega
        have heq : L'.map (·.2) = setLex ks := ss_eq hss setLex_ss fun a => by rw [hsnd, mem_setLex]
        have q1 : ∀ w P' H', Ext P1 H1 P' H' → RepM X.K T .F H1 P' H' (.lst ((setLex ks).map fun k => .tup (k.map .int))) w → Q w H' := q1
        rw [← heq, List.map_map] at q1
        have hP1s : P1 s = none := by
          cases hh : P1 s with
          | none => rfl
          | some z => rw [e1.ph _ _ hh] at hs0; cases hs0
        have ht0 : H1 t = none := by
          by_cases e : t = s
          · subst e; exact hs0
          · rw [upd_ne e] at ht; exact ht
        have hP1t : P1 t = none := by
          cases hh : P1 t with
          | none => rfl
          | some z => rw [e1.ph _ _ hh] at ht0; cases ht0
        refine q1 _ P1 _ ⟨Same.refl _, fun b z h => ?_, fun b z h => ?_, fun _ _ h => h⟩ ?_
        · rw [upd_ne (fun e => by rw [e, ht0] at h; cases h), upd_ne (fun e => by rw [e, hs0] at h; cases h)]; exact h
        · rw [upd_ne (fun e => by rw [e, hP1t] at h; cases h), upd_ne (fun e => by rw [e, hP1s] at h; cases h)]; exact e1.ph _ _ h
        · show RepM X.K T .F H1 P1 _ (.lst _) (.ref t)
          unfold RepM
          dsimp only
          rw [if_pos (show cont (D.lst (List.map ((fun k => D.tup (List.map D.int k)) ∘ fun x => x.snd) L')) = true from rfl)]
          refine ⟨t, _, rfl, ht0, hP1t, upd_same, _, rfl, ?_⟩
          clear q1 heq hss hsnd hpw hnd h64
          have hin : ∀ p ∈ L', P1 p.1 = some (.tup (p.2.map V.int)) := fun p hp => e3 p (hL1 p ((hmL p).mp hp))
          clear hmL hperm
          induction L' with
          | nil => exact RepAll.nil
          | cons p L' ih =>
            exact RepAll.cons (rep_tup.mpr ⟨p.1, p.2.map V.int, rfl, hin p List.mem_cons_self, rep_ints p.2⟩) (ih fun p hp => hin p (List.mem_cons_of_mem _ hp))
  | _ => exact q1.elim
end
end Fj

/-! ## Lay17 -/
namespace Fj
open PySem PySem.Spec PyProof.Rows L2
section
variable {K : PySem.W.Frag} {X : Cx} {T : Tb} {W : WX} {k : Nat} {ρ : List C} {a b c e ei tg iter elt : Expr} {es : List Expr} {da db di : R D} {ca cb : R Bool} {pos p p2 p3 px : Pos} {m : Md} {x y : Str} {fr : Bool} {i j : Nat}
variable {S : Type} {mk : S → List C} {s : S} {ios : List Nat} {ra rb : R (D × S)} {rt : R (Bool × S)}
/-! ### comprehensions whose parts change own objects -/
/-- one more thing that must stand still -/
theorem SimZ.hold {z : Zn} {P H : Hp} {σ : L2.St} {A : Addr} {o : HO} (Z : SimZ K T z P H σ ρ) (hP : P A = none) (hH : H A = some o) (hn : ∀ (j : Nat) (e : D), ρ[j]? = some (C.own e) → σ[j]? ≠ some (some (.ref A))) (hz : z.H0 A = none) :
    SimZ K T ⟨P, upd z.H0 A o, z.io⟩ P H σ ρ := by
  refine ⟨Z.sim, fun b x h1 h2 => ?_, Same.refl _, fun _ _ h => h, fun j d b h1 h2 => ?_, Z.ios⟩
  · by_cases q : b = A
    · subst q
      have h1 : upd z.H0 b o b = some x := h1
      rw [upd_same] at h1; cases h1; exact hH
    · have h1 : upd z.H0 A o b = some x := h1
      rw [upd_ne q] at h1; exact Z.frame b x h1 h2
  · have hb : b ≠ A := fun q => hn j d h1 (by rw [h2, q])
    rcases Z.loc j d b h1 h2 with w | w
    · refine .inl ?_
      show upd z.H0 A o b = none
      rw [upd_ne hb]; exact w
    · exact .inr w
/-- the slots of the block laid aside -/
theorem SimZ.inBlock {z : Zn} {P H : Hp} {σ : L2.St} {w : V} {d : D} (Z : SimZ K T z P H σ ρ) (hi : ∀ p ∈ z.io, p.1 ≠ i) (r : Rep K T P d w) : SimZ K T z P H ((wipe σ [i]).set i (some w)) ((ρ.set i .un).set i (.val d)) := by
  show SimZ K T z P H ((σ.set i none).set i (some w)) ((ρ.set i .un).set i (.val d))
  rw [List.set_set, List.set_set]
  exact Z.set hi r
theorem SimZ.outBlock {z : Zn} {P H P2 H2 : Hp} {σ : L2.St} {w : Option V} {c : C} {rho2 : List C} (Z : SimZ K T z P H σ ρ) (Z2 : SimZ K T z P2 H2 ((σ.set i none).set i w) ((rho2.set i .un).set i c)) (hp : Same P P2) (hi : ∀ p ∈ z.io, p.1 ≠ i) (hc : rho2[i]? = ρ[i]?) (hno : ∀ d, ρ[i]? ≠ some (.own d)) : SimZ K T z P2 H2 σ rho2 := by
  rw [List.set_set, List.set_set] at Z2
  have hown : ∀ {j : Nat} {d : D}, rho2[j]? = some (.own d) → i ≠ j := fun {j d} h e => by subst e; rw [hc] at h; exact hno _ h
  refine ⟨⟨Z2.sim.sub, by simpa using Z2.sim.len, fun j c' v h1 h2 => ?_, fun j l d e a h1 h2 h3 h4 => ?_⟩, Z2.frame, Z2.pp, Z2.nw, fun j d a h1 h2 => ?_, fun p hp => ?_⟩
  · by_cases q : i = j
    · subst q
      rw [hc] at h1
      have := Z.sim.cell i c' v h1 h2
      cases c' with
      | un => trivial
      | val d => obtain ⟨w, rfl, h⟩ := this; exact ⟨w, rfl, Rep.mono hp _ _ h⟩
      | own d => exact absurd h1 (hno d)
    · exact Z2.sim.cell j c' v (by rw [List.getElem?_set_ne q]; exact h1) (by rw [List.getElem?_set_ne q]; exact h2)
  · have q1 := hown h1
    have q2 := hown h2
    exact Z2.sim.apart j l d e a (by rw [List.getElem?_set_ne q1]; exact h1) (by rw [List.getElem?_set_ne q2]; exact h2) (by rw [List.getElem?_set_ne q1]; exact h3) (by rw [List.getElem?_set_ne q2]; exact h4)
  · have q1 := hown h1
    exact Z2.loc j d a (by rw [List.getElem?_set_ne q1]; exact h1) (by rw [List.getElem?_set_ne q1]; exact h2)
  · have q := Ne.symm (hi p hp)
    obtain ⟨h1, d, h2⟩ := Z2.ios p hp
    rw [List.getElem?_set_ne q] at h1 h2
    exact ⟨h1, d, h2⟩
/-- a turn: its test, its element -/
def turnX (t : D → S → R (Bool × S)) (f : D → S → R (D × S)) (d : D) (s : S) : R (Option D × S) := (t d s).bind fun p => if p.1 = true then (f d p.2).bind fun q => .ok (some q.1, q.2) else .ok (none, p.2)
def compX (it : R (List D)) (f : D → S → R (Option D × S)) (s : S) : R (D × S) := it.bind fun xs => if xs.length ≤ most then (compS f xs s).bind fun q => .ok (.lst q.1, q.2) else .bad
def EvXB (X : Cx) (scope : Scope) (T : Tb) (ios : List Nat) (mk : S → List C) (s : S) (e : Expr) (r : R (D × S)) : Prop := ∀ s1 H C cl fp, EvX (X.blk s1 H scope (compEnvC scope cl C X.env) fp) T WF .P ios mk s e r
def EvXTB (X : Cx) (scope : Scope) (T : Tb) (ios : List Nat) (mk : S → List C) (s : S) (e : Expr) (r : R (Bool × S)) : Prop := ∀ s1 H C cl fp, EvXT (X.blk s1 H scope (compEnvC scope cl C X.env) fp) T WF ios mk s e r
abbrev blkC' (mk : S → List C) (i : Nat) (d : D) : S → List C := fun s => ((mk s).set i .un).set i (.val d)
structure FltX (X : Cx) (scope : Scope) (T : Tb) (ios : List Nat) (mk : D → S → List C) (ifs : List Expr) (tt : TT) (t : D → S → R (Bool × S)) : Prop where
  pt : ∀ s1 H C cl fp, PTs (X.blk s1 H scope (compEnvC scope cl C X.env) fp) ifs tt
  ev : ∀ d s z P H σ Q, z.io.map (·.1) = ios → SimZ X.K T z P H σ (mk d s) → PostXT X.K T WF (mk d) z P σ (t d s) Q → tt σ H Q
def consO (o : Option D) (ys : List D) : List D := match o with | some y => y :: ys | none => ys
theorem compS_cons {f : D → S → R (Option D × S)} {x : D} {xs : List D} {s : S} {r : List D × S} (h : compS f (x :: xs) s = .ok r) : ∃ o s1 ys, f x s = .ok (o, s1) ∧ compS f xs s1 = .ok (ys, r.2) ∧ r.1 = consO o ys := by
  unfold compS at h
  cases hf : f x s with
  | bad => rw [hf] at h; cases h
  | ex e => rw [hf] at h; cases h
  | ok p =>
    rw [hf] at h
    simp only [R.nox_ok, R.ok_bind] at h
    cases hc : compS f xs p.2 with
    | bad => rw [hc] at h; cases h
    | ex e => rw [hc] at h; cases h
    | ok q =>
      rw [hc] at h
      simp only [R.ok_bind] at h
      cases h
      exact ⟨p.1, p.2, q.1, rfl, hc, rfl⟩
theorem compS_ex {f : D → S → R (Option D × S)} {e : D} : ∀ {xs : List D} {s : S}, compS f xs s ≠ .ex e
  | [], s => by simp [compS]
  | x :: xs, s => by
    unfold compS
    cases hf : f x s with
    | bad => simp [R.nox, R.bind]
    | ex e => simp [R.nox, R.bind]
    | ok p =>
      simp only [R.nox_ok, R.ok_bind]
      cases hc : compS f xs p.2 with
      | bad => simp
      | ex e2 => exact absurd hc compS_ex
      | ok q => simp
theorem turn_ok {t : D → S → R (Bool × S)} {f : D → S → R (D × S)} {d : D} {s s1 : S} {o : Option D} (h : turnX t f d s = .ok (o, s1)) : (∃ s2 y, t d s = .ok (true, s2) ∧ f d s2 = .ok (y, s1) ∧ o = some y) ∨ (t d s = .ok (false, s1) ∧ o = none) := by
  unfold turnX at h
  cases ht : t d s with
  | bad => rw [ht] at h; cases h
  | ex e => rw [ht] at h; cases h
  | ok p =>
    rw [ht] at h
    obtain ⟨b, s2⟩ := p
    cases b with
    | false => cases h; exact .inr ⟨rfl, rfl⟩
    | true =>
      simp only [R.ok_bind, if_true] at h
      cases hf : f d s2 with
      | bad => rw [hf] at h; cases h
      | ex e => rw [hf] at h; cases h
      | ok q =>
        rw [hf] at h
        obtain ⟨y, s3⟩ := q
        cases h
        exact .inl ⟨s2, y, rfl, hf, rfl⟩
theorem compX_core {it : R (List D)} {scope : Scope} {ifs : List Expr} {tt : TT} {t : D → S → R (Bool × S)} {f : D → S → R (D × S)} (gd : Gd X k) (hi : Bn X scope i x) (hio : ios.contains i = false)
    (hci : ∀ s s', (mk s)[i]? = (mk s')[i]?) (hno : ∀ s d, (mk s)[i]? ≠ some (.own d)) (hit : EvI X T W (mk s) (.Name x px) iter it)
    (hF : FltX X scope T ios (blkC' mk i) ifs tt t) (he : ∀ d s, EvXB X scope T ios (blkC' mk i d) s elt (f d s))
    {z : Zn} {P H : Hp} {σ : L2.St} {Q : VK} (hz : z.io.map (·.1) = ios) (Z : SimZ X.K T z P H σ (mk s)) (q : PostX X.K T W .F mk z P σ (compX it (turnX t f) s) Q) : tLc (wpI X (.Name x px) iter) (gName i) tt (teB X scope elt) [i] σ H Q := by
  have hne := io_ne hz hio
  show wpI X (.Name x px) iter σ H _
  refine hit P H σ _ Z.sim ?_
  cases it with
  | bad => exact q.elim
  | ex e => exact fun cls dd H' s' r => q cls dd H' (fun b o e1 e2 => s' _ _ (Z.frame b o e1 e2)) r
  | ok ds =>
    intro J P1 H1 e1 hJ A hA
    have q : PostX X.K T W .F mk z P σ (if ds.length ≤ most then (compS (turnX t f) ds s).bind fun q => .ok (.lst q.1, q.2) else .bad) Q := q
    split at q
    case isFalse => exact q.elim
    case isTrue hlen =>
    cases hc : compS (turnX t f) ds s with
    | bad => rw [hc] at q; exact q.elim
    | ex e => exact absurd hc compS_ex
    | ok r =>
      rw [hc] at q
      have Z1 := Z.ext e1
      obtain ⟨zA, nA⟩ := new_z Z1 hA
      have hPA : P1 A = none := by
        cases qq : P1 A with
        | none => rfl
        | some z => rw [e1.ph _ _ qq] at hA; cases hA
      -- the new list does not stand in the def's way
      have Z1' : SimZ X.K T z P1 (upd H1 A (.lst [])) σ (mk s) := by
        refine ⟨⟨fun b x h => ?_, Z1.sim.len, fun j c v h1 h2 => ?_, Z1.sim.apart⟩, fun b x h1 h2 => ?_, Z1.pp, Z1.nw, Z1.loc, Z1.ios⟩
        · rw [upd_ne (fun e => by rw [e, hPA] at h; cases h)]; exact e1.ph _ _ h
        · have hc := Z1.sim.cell j c v h1 h2
          cases c with
          | un => trivial
          | val e => exact hc
          | own e =>
            obtain ⟨b, x, rfl, h7, h8, h9⟩ := hc
            exact ⟨b, x, rfl, h7, by rw [upd_ne (fun e => by rw [e, hA] at h8; cases h8)]; exact h8, h9⟩
        · rw [upd_ne (fun e => by rw [e, zA] at h1; cases h1)]; exact Z1.frame b x h1 h2
      refine ⟨fun i' m H => i' + m = ds.length ∧ ∃ s' P' accD acc ys, Same P1 P' ∧ SimZ X.K T z P' H σ (mk s') ∧ P' A = none ∧ H A = some (.lst acc) ∧ RepAll X.K T P' accD acc ∧ compS (turnX t f) (ds.drop i') s' = .ok (ys, r.2) ∧ r.1 = accD ++ ys ∧ accD.length ≤ i' ∧ (∀ (j : Nat) (e : D), (mk s')[j]? = some (C.own e) → σ[j]? ≠ some (some (.ref A))),
        ⟨ds.length, by omega, s, P1, [], [], r.1, Same.refl _, Z1', hPA, upd_same, RepAll.nil, hc, rfl, Nat.zero_le _, nA⟩, ?_⟩
      rintro i' m H2 ⟨hm, s', P2, accD, acc, ys, s1, Z2, s5, s6, s7, s8, s9, s10, s11⟩
      obtain ⟨j1, j2, j3⟩ := hJ i' P2 H2 s1 Z2.sim.sub
      by_cases hi' : i' < ds.length
      · refine .inr ⟨j1 hi', fun H' => ∃ m', m' < m ∧ (i' + 1 + m' = ds.length ∧ ∃ s' P' accD' acc' ys', Same P1 P' ∧ SimZ X.K T z P' H' σ (mk s') ∧ P' A = none ∧ H' A = some (.lst acc') ∧ RepAll X.K T P' accD' acc' ∧ compS (turnX t f) (ds.drop (i' + 1)) s' = .ok (ys', r.2) ∧ r.1 = accD' ++ ys' ∧ accD'.length ≤ i' + 1 ∧ (∀ (j : Nat) (e : D), (mk s')[j]? = some (C.own e) → σ[j]? ≠ some (some (.ref A)))), fun _ h => h, fun v H3 hy => ?_⟩
        obtain ⟨P3, d, e3, hd, hr⟩ := j3 v H3 hi' hy
        have hdr : ds.drop i' = d :: ds.drop (i' + 1) := by
          rw [List.drop_eq_getElem_cons hi']
          congr 1
          rw [List.getElem?_eq_getElem hi'] at hd
          exact Option.some.inj hd
        rw [hdr] at s8
        obtain ⟨o, s2, ys', t1, t2, t3⟩ := compS_cons s8
        have Z3 := Z2.ext e3
        have hA3 : H3 A = some (.lst acc) := e3.hh _ _ s6
        have hP3 : P3 A = none := e3.nw _ (by rw [s6]; simp) s5
        have Zh := Z3.hold hP3 hA3 s11 zA
        have Zb := Zh.inBlock (i := i) hne hr
        refine ⟨wipe_set, ?_⟩
        refine hF.ev d s' ⟨P3, upd z.H0 A (.lst acc), z.io⟩ P3 H3 _ _ hz Zb ?_
        -- what an own slot's address is not
        have fin : ∀ {sx : S} {P5 H5 : Hp}, Same P3 P5 → SimZ X.K T ⟨P3, upd z.H0 A (.lst acc), z.io⟩ P5 H5 ((wipe σ [i]).set i (some v)) (blkC' mk i d sx) →
            SimZ X.K T z P5 H5 σ (mk sx) ∧ P5 A = none ∧ H5 A = some (.lst acc) ∧ (∀ (j : Nat) (e : D), (mk sx)[j]? = some (C.own e) → σ[j]? ≠ some (some (.ref A))) := by
          intro sx P5 H5 hpp Z5
          have Z6 : SimZ X.K T ⟨P3, upd z.H0 A (.lst acc), z.io⟩ P5 H5 σ (mk sx) := SimZ.outBlock Zh Z5 hpp hne (hci sx s') (hno s')
          have hAio : ∀ p ∈ z.io, p.2 ≠ A := fun p hp e => by
            obtain ⟨h3, d3, h4⟩ := Z3.ios p hp
            exact s11 _ _ h4 (by rw [h3, e])
          have nown : ∀ (j : Nat) (e : D), (mk sx)[j]? = some (C.own e) → σ[j]? ≠ some (some (.ref A)) := fun j e h1 h2 => by
            rcases Z6.loc j e A h1 h2 with w | w
            · have w : upd z.H0 A (.lst acc) A = none := w
              rw [upd_same] at w; cases w
            · exact hAio _ w rfl
          have hA5 : H5 A = some (.lst acc) := Z6.frame A _ (show upd z.H0 A (.lst acc) A = _ from upd_same) hAio
          have hP5 : P5 A = none := Z6.nw A (by show upd z.H0 A (.lst acc) A ≠ none; rw [upd_same]; simp) hP3
          refine ⟨⟨Z6.sim, fun b x h1 h2 => ?_, Z3.pp.trans hpp, fun b h1 h2 => ?_, fun j e b h1 h2 => ?_, Z6.ios⟩, hP5, hA5, nown⟩
          · exact Z6.frame b x (by show upd z.H0 A (.lst acc) b = _; rw [upd_ne (fun e => by rw [e, zA] at h1; cases h1)]; exact h1) h2
          · refine Z6.nw b ?_ (Z3.nw b h1 h2)
            show upd z.H0 A (.lst acc) b ≠ none
            rw [upd_ne (fun e => by rw [e, zA] at h1; exact h1 rfl)]; exact h1
          · rcases Z6.loc j e b h1 h2 with w | w
            · refine .inl ?_
              have hb : b ≠ A := fun q => nown j e h1 (by rw [h2, q])
              have w : upd z.H0 A (.lst acc) b = none := w
              rw [upd_ne hb] at w; exact w
            · exact .inr w
        rcases turn_ok t1 with ⟨s3, y, u1, u2, rfl⟩ | ⟨u1, rfl⟩
        · rw [u1]
          intro P4 H4 e4 Z4
          show ∀ s0 H0 C cl fp, wpE (X.blk s0 H0 scope (compEnvC scope cl C X.env) fp) elt _ H4 _
          intro s0 H0 C cl fp
          refine he d s3 s0 H0 C cl fp ⟨P3, upd z.H0 A (.lst acc), z.io⟩ P4 H4 _ _ hz Z4 ?_
          rw [u2]
          intro w P5 H5 e5 Z5 r5
          obtain ⟨Z7, hP5, hA5, nown⟩ := fin (e4.trans e5) Z5
          have r5 : Rep X.K T P5 y w := r5
          have hpp : Same P2 P5 := e3.pp.trans (e4.trans e5)
          refine ⟨acc, hA5, by rw [s7.length]; exact most_lt (by omega), m - 1, by omega, by omega, s2, P5, accD ++ [y], acc ++ [w], ys', s1.trans hpp, ?_, hP5, upd_same, (RepAll.mono hpp _ _ s7).append (RepAll.cons r5 RepAll.nil), t2, by rw [s9, show ys = _ from t3]; simp [consO], by simp; omega, nown⟩
          refine ⟨⟨fun b x h => ?_, Z7.sim.len, fun j c v h1 h2 => ?_, Z7.sim.apart⟩, fun b x h1 h2 => ?_, Z7.pp, Z7.nw, Z7.loc, Z7.ios⟩
          · rw [upd_ne (fun e => by rw [e, hP5] at h; cases h)]; exact Z7.sim.sub _ _ h
          · have hc := Z7.sim.cell j c v h1 h2
            cases c with
            | un => trivial
            | val e => exact hc
            | own e =>
              obtain ⟨b, x, rfl, h7, h8, h9⟩ := hc
              exact ⟨b, x, rfl, h7, by rw [upd_ne (fun eb => nown j e h1 (by rw [h2, eb]))]; exact h8, h9⟩
          · rw [upd_ne (fun e => by rw [e, zA] at h1; cases h1)]; exact Z7.frame b x h1 h2
        · rw [u1]
          intro P4 H4 e4 Z4
          obtain ⟨Z7, hP5, hA5, nown⟩ := fin e4 Z4
          have hpp : Same P2 P4 := e3.pp.trans e4
          exact ⟨m - 1, by omega, by omega, s2, P4, accD, acc, ys', s1.trans hpp, Z7, hP5, hA5, RepAll.mono hpp _ _ s7, t2, by rw [s9, show ys = _ from t3]; rfl, by omega, nown⟩
      · refine .inl ⟨j2 (by omega), ?_⟩
        rw [List.drop_eq_nil_of_le (by omega)] at s8
        unfold compS at s8
        cases s8
        have q : ∀ w P' H', Same P P' → SimZ X.K T z P' H' σ (mk r.2) → RepX X.K T .F z (mk r.2) σ P' H' (.lst r.1) w → Q w H' := q
        refine q (.ref A) P2 H2 (e1.pp.trans s1) Z2 ?_
        unfold RepX
        dsimp only
        rw [if_pos (show contD (.lst r.1) = true from rfl), s9, List.append_nil]
        exact ⟨A, _, rfl, zA, s5, s6, ⟨acc, rfl, s7⟩, s11⟩
theorem fltX_no {scope : Scope} {mk : D → S → List C} : FltX X scope T ios mk [] tYes (fun _ s => .ok (true, s)) := ⟨fun s H C cl fp => pts_nil, fun d s z P H σ Q hz Z q => q P H (Same.refl _) Z⟩
theorem fltX_one {scope : Scope} {mk : D → S → List C} {t : D → S → R (Bool × S)} (h : ∀ d s, EvXTB X scope T ios (mk d) s c (t d s)) : FltX X scope T ios mk [c] (fun σ H Q => ∀ s0 H0 C cl fp, wpT (X.blk s0 H0 scope (compEnvC scope cl C X.env) fp) c σ H Q) t :=
  ⟨fun s H C cl fp => pts_one ⟨fun pins s1 σ H1 Q I h => h s H C cl fp pins s1 I⟩, fun d s z P H σ Q hz Z q s0 H0 C cl fp => h d s s0 H0 C cl fp z P H σ Q hz Z q⟩
/-- .. and its store in a plain local -/
def CmX (X : Cx) (T : Tb) (W : WX) (m : Md) (ios : List Nat) (mk : S → List C) (s : S) (e : Expr) (r : R (D × S)) : Prop :=
  ∃ te : TE, (∀ {i : Nat} {y : Str} {py spos : Pos}, X.N[i]? = some y → X.env.scope.names.lookup y = some .local → swapsWith e (some (.Name y py)) spos.line X.env = pure true → PS X (.Assign [.Name y py] e spos) (tAsg te (gName i))) ∧ PE X e te ∧
    ∀ z P H σ Q, z.io.map (·.1) = ios → SimZ X.K T z P H σ (mk s) → PostX X.K T W m mk z P σ r Q → te σ H Q
theorem CmX.ev (h : CmX X T W m ios mk s e ra) : EvX X T W m ios mk s e ra := fun z P H σ Q hz Z q => by
  obtain ⟨te, _, h2, h3⟩ := h
  exact wpE_of h2 (h3 z P H σ Q hz Z q)
theorem cmx_comp {it : R (List D)} {scope : Scope} {ifs : List Expr} {tt : TT} {t : D → S → R (Bool × S)} {f : D → S → R (D × S)} (gd : Gd X k) (hi : Bn X scope i x) (hio : ios.contains i = false) (hB : BlkOk X.N X.env.scope scope [(x, i)])
    (hci : ∀ s s', (mk s)[i]? = (mk s')[i]?) (hno : ∀ s d, (mk s)[i]? ≠ some (.own d)) (hit : EvI X T W (mk s) (.Name x px) iter it)
    (hF : FltX X scope T ios (blkC' mk i) ifs tt t) (he : ∀ d s, EvXB X scope T ios (blkC' mk i d) s elt (f d s)) (hfs : ∀ u, foldedSetIterable iter X.env u = pure u := by intro u; rfl) :
    CmX X T W .F ios mk s (.ListComp elt [{ target := .Name x px, iter := iter, ifs := ifs, is_async := 0 }] scope pos) (compX it (turnX t f) s) :=
  ⟨tLc (wpI X (.Name x px) iter) (gName i) tt (teB X scope elt) [i],
   fun h1 h2 h3 => ps_setLc (own := [(x, i)]) gd.calm gd.nd h1 h2 h3 iw hB (fun s H C cl fp => pg_name gd.nd hi.nm hi.lo hi.fn) (fun s H C cl fp => hF.pt s H C cl fp) (fun s H C cl fp => ⟨fun pins s1 σ H1 Q I h => h s H C cl fp pins s1 I⟩) hfs,
   pe_lc (own := [(x, i)]) gd.calm gd.nd iw hB (fun s H C cl fp => pg_name gd.nd hi.nm hi.lo hi.fn) (fun s H C cl fp => hF.pt s H C cl fp) (fun s H C cl fp => ⟨fun pins s1 σ H1 Q I h => h s H C cl fp pins s1 I⟩) hfs,
   fun z P H σ Q hz Z q => compX_core gd hi hio hci hno hit hF he hz Z q⟩
theorem lastX {z : Zn} {P : Hp} {σ : L2.St} {Q : VK} (q : PostX X.K T W .P mk z P σ ra Q) : PostX X.K T W .F mk z P σ ra Q := by
  cases ra with
  | bad => exact q
  | ex e => exact q
  | ok v =>
    obtain ⟨v, s'⟩ := v
    intro w P' H' hp Z' r
    unfold RepX at r
    dsimp only at r
    split at r
    · obtain ⟨a, o, rfl, h1, h2, h3, h4, h5⟩ := r
      obtain ⟨g1, g2⟩ := Z'.adopt (d := v) h1 h2 h3 h5
      exact q _ _ _ (hp.trans g1) g2 ((rep_own (Own.cont h4)).mpr ⟨a, o, rfl, upd_same, Own.mono g1 h4⟩)
    · exact q _ _ _ hp Z' r
theorem CmX.lasting (h : CmX X T W .F ios mk s e ra) : CmX X T W .P ios mk s e ra := by
  obtain ⟨te, h1, h2, h3⟩ := h
  exact ⟨te, h1, h2, fun z P H σ Q hz Z q => h3 z P H σ Q hz Z (lastX q)⟩
variable {S' B : Type} {mkN : S' → List C} {mkB : B → List C} {rest body thn els : List Stmt}
theorem ssx_bindC {te : TE} {z : Zn} {P H : Hp} {σ : L2.St} {D1 : Ends} {F : D × S → R (Fl S' B)} {Q1 : VK} (ha : ∀ z P H σ Q, z.io.map (·.1) = ios → SimZ X.K T z P H σ (mk s) → PostX X.K T W m mk z P σ ra Q → te σ H Q) (hz : z.io.map (·.1) = ios) (Z : SimZ X.K T z P H σ (mk s)) (h : PostS X.K T W fr mkN mkB z (ra.bind F) D1)
    (kk : ∀ v s' w P1 H1, Same P P1 → SimZ X.K T z P1 H1 σ (mk s') → RepX X.K T m z (mk s') σ P1 H1 v w → PostS X.K T W fr mkN mkB z (F (v, s')) D1 → Q1 w H1) : te σ H Q1 := by
  refine ha z P H σ Q1 hz Z ?_
  cases ra with
  | ok v => exact fun w P' H' hp Z' r => kk v.1 v.2 w P' H' hp Z' r h
  | ex x => exact fun cls dd H' h1 h2 => h cls dd σ H' h1 h2
  | bad => exact h
theorem ss_asgCX {pos' : Pos} {y : Str} {j : Nat} {F : D → S → R (Fl S' B)} (hi : X.N[j]? = some y) (hx : X.env.scope.names.lookup y = some .local) (hs : swapsWith e (some (.Name y pos')) pos.line X.env = pure true) (hio : ios.contains j = false)
    (he : CmX X T W .P ios mk s e ra) (hr : ∀ v s, Ss X T W fr ios mkN mkB ((mk s).set j (.val v)) rest (F v s)) : Ss X T W fr ios mkN mkB (mk s) (.Assign [.Name y pos'] e pos :: rest) (bindX ra F) := fun z P H σ D1 hz Z h => by
  obtain ⟨te, h1, h2, h3⟩ := he
  refine wpSs_of (pss_cons (h1 hi hx hs) ssw) ?_
  refine ssx_bindC h3 hz Z h fun v s1 w P1 H1 e1 Z1 r1 q1 => ?_
  exact hr v s1 z P1 H1 _ D1 hz (Z1.set (io_ne hz hio) r1) q1
theorem ss_ownCX {pos' : Pos} {y : Str} {j : Nat} {F : D → S → R (Fl S' B)} (hi : X.N[j]? = some y) (hx : X.env.scope.names.lookup y = some .local) (hs : swapsWith e (some (.Name y pos')) pos.line X.env = pure true) (hio : ios.contains j = false)
    (he : CmX X T W .F ios mk s e ra) (hr : ∀ v s, Ss X T W fr ios mkN mkB ((mk s).set j (.own v)) rest (F v s)) : Ss X T W fr ios mkN mkB (mk s) (.Assign [.Name y pos'] e pos :: rest) (ownX ra F) := fun z P H σ D1 hz Z h => by
  obtain ⟨te, h1, h2, h3⟩ := he
  refine wpSs_of (pss_cons (h1 hi hx hs) ssw) ?_
  refine ssx_bindC h3 hz Z h fun v s1 w P1 H1 e1 Z1 r1 q1 => ?_
  have q1 : PostS X.K T W fr mkN mkB z (if contD v = true then F v s1 else .bad) D1 := q1
  split at q1
  · rename_i hc
    unfold RepX at r1
    dsimp only at r1
    rw [if_pos hc] at r1
    obtain ⟨b, o, rfl, n1, n2, n3, n4, n5⟩ := r1
    exact hr v s1 z P1 H1 _ D1 hz (Z1.setOwn (io_ne hz hio) n2 n3 n4 n1 fun j e hj h1 => n5 j e h1) q1
  · exact q1.elim
/-! ### walks over what is made with changes -/
def PostXI (K : PySem.W.Frag) (T : Tb) (W : WX) (mk : S → List C) (z : Zn) (P : Hp) (σ : L2.St) (r : R (List D × S)) (R1 : It → Hp → Prop) : Prop := match r with
  | .ok (ds, s) => ∀ J P' H', Same P P' → SimZ K T z P' H' σ (mk s) → ItOk K T P' J ds → R1 J H'
  | .ex e => ∀ cls dd H', FrZ z H' → ExR T e cls dd H' → W cls dd σ H'
  | .bad => False
def EvXI (X : Cx) (T : Tb) (W : WX) (ios : List Nat) (mk : S → List C) (s : S) (tg iter : Expr) (r : R (List D × S)) : Prop := ∀ z P H σ R1, z.io.map (·.1) = ios → SimZ X.K T z P H σ (mk s) → PostXI X.K T W mk z P σ r R1 → wpI X tg iter σ H R1
def iterX (r : R (D × S)) (f : D → R (List D)) : R (List D × S) := r.bind fun p => (f p.1).bind fun ds => .ok (ds, p.2)
theorem evxI_bind {z : Zn} {P H : Hp} {σ : L2.St} {R1 : It → Hp → Prop} {F : D × S → R (List D × S)} {Q1 : VK} (ha : EvX X T W m ios mk s a ra) (hz : z.io.map (·.1) = ios) (Z : SimZ X.K T z P H σ (mk s)) (h : PostXI X.K T W mk z P σ (ra.bind F) R1)
    (kk : ∀ v s' w P1 H1, ra = .ok (v, s') → Same P P1 → SimZ X.K T z P1 H1 σ (mk s') → RepX X.K T m z (mk s') σ P1 H1 v w → PostXI X.K T W mk z P σ (F (v, s')) R1 → Q1 w H1) : wpE X a σ H Q1 := by
  refine ha z P H σ Q1 hz Z ?_
  cases ra with
  | ok v => exact fun w P' H' hp Z' r => kk v.1 v.2 w P' H' rfl hp Z' r h
  | ex x => exact h
  | bad => exact h
theorem evxI_seq (ha : EvX X T W .P ios mk s e ra) : EvXI X T W ios mk s tg e (iterX ra seqsR) := fun z P H σ R1 hz Z h => by
  cases hd : ra with
  | bad => rw [hd] at h; exact h.elim
  | ex z1 =>
    refine wpI_of (pi_list pw) ?_
    exact evxI_bind ha hz Z h fun v s' w P1 H1 h1 => by rw [hd] at h1; cases h1
  | ok d =>
    obtain ⟨d, s0⟩ := d
    cases d with
    | lst ds =>
      refine wpI_of (pi_list pw) ?_
      refine evxI_bind ha hz Z h fun v s' w P1 H1 h1 e1 Z1 r1 q1 => ?_
      rw [hd] at h1
      cases h1
      have r1 : Rep X.K T P1 (.lst ds) w := r1
      unfold Rep at r1
      obtain ⟨l, vs, rfl, h2, h3⟩ := r1
      exact ⟨l, rfl, ⟨vs, SqL.of (Z1.sim.sub _ _ h2)⟩, q1 _ P1 H1 e1 Z1 (itOk_l h2 h3)⟩
    | tup ds =>
      refine wpI_of (pi_tup pw) ?_
      refine evxI_bind ha hz Z h fun v s' w P1 H1 h1 e1 Z1 r1 q1 => ?_
      rw [hd] at h1
      cases h1
      have r1 : Rep X.K T P1 (.tup ds) w := r1
      unfold Rep at r1
      obtain ⟨l, vs, rfl, h2, h3⟩ := r1
      have hS : ∀ H', Same P1 H' → SqT X.K H' l vs := fun H' hs => .inl (.inl (hs _ _ h2))
      exact ⟨l, rfl, ⟨vs, hS _ Z1.sim.sub⟩, q1 _ P1 H1 e1 Z1 (itOk_t hS h3)⟩
    | _ => rw [hd] at h; exact h.elim
theorem evxI_rg1 (g : Gd X k) (hg : Gl X "range") (ha : EvX X T W .P ios mk s a ra) (hs : starEach [a] X.env = (false, eval a X.env) :: starEach [] X.env) (hs' : starEach [a] X.env = [(false, eval a X.env)]) : EvXI X T W ios mk s tg (.Call (.Name "range" p) [a] [] pos) (iterX ra range1R) := fun z P H σ R1 hz Z h => by
  refine wpI_of (pi_range1 hg g.bi.range (pa_cons pw pa_nil hs) hs') ?_
  refine evxI_bind ha hz Z h fun v s' w P1 H1 h1 e1 Z1 r1 q1 => ?_
  refine (show ∃ j, [w] = [V.int j] ∧ _ from ?_)
  cases v with
  | int j =>
    have q1 : PostXI X.K T W mk z P σ ((if big62 j = true then .ok (upI 0 j.toNat) else .bad : R (List D)).bind fun ds => .ok (ds, s')) R1 := q1
    split at q1
    · rename_i hb
      have r1 : Rep X.K T P1 (.int j) w := r1
      unfold Rep at r1
      subst r1
      unfold big62 at hb
      simp only [Bool.and_eq_true, decide_eq_true_eq] at hb
      exact ⟨j, rfl, hb.1, hb.2, q1 _ P1 H1 e1 Z1 itOk_r⟩
    · exact q1.elim
  | _ => exact q1.elim
def forX {S2 : Type} (it : R (List D × S)) (s0 : S → S2) (f : D → S2 → R (Fl S2 S2)) : R (Fl S2 S2) := it.bind fun p => forR p.1 (s0 p.2) f
theorem ss_forX {S2 : Type} {mk2 : S2 → List C} {it : R (List D × S)} {s0 : S → S2} {f : D → S2 → R (Fl S2 S2)} {kk : S2 → R (Fl S' B)} {px : Pos} (g : Gd X k) (hp : PassesOwn (model X.prog X.w) X.A X.env X.xe) (hi : Sl X ios i x)
    (hit : EvXI X T W ios mk s (.Name x px) iter it) (hw : ∀ s, Weak (mk s) (mk2 (s0 s))) (ho : ∀ s, ios.all (ownAt (mk2 (s0 s))) = true) (hb : ∀ d s, Ss X T W fr ios mk2 mk2 ((mk2 s).set i (.val d)) body (f d s)) (hr : ∀ s, Ss X T W fr ios mkN mkB (mk2 s) rest (kk s))
    (hfs : ∀ u, foldedSetIterable iter X.env u = pure u := by intro u; rfl) :
    Ss X T W fr ios mkN mkB (mk s) (.For (.Name x px) iter body [] pos :: rest) (aftR (forX it s0 f) kk) := fun z P H σ D1 hz Z h => by
  refine wpSs_of (pss_cons (ps_for hp g.calm iw (pg_name g.nd hi.nm hi.lo hi.fn) ssw hfs) ssw) ?_
  have h2 := post_aft hz hr h
  show wpI X _ iter σ H _
  refine hit z P H σ _ hz Z ?_
  cases it with
  | bad => exact h2
  | ex e => exact fun cls dd H' h1 h3 => h2 cls dd σ H' h1 h3
  | ok q =>
    obtain ⟨ds, s1⟩ := q
    intro J P1 H1 e1 Z1 hJ
    have Z1 := Z1.weak (hw s1) (by rw [hz]; exact ho s1)
    exact for_turns (D2 := ⟨wpSs X rest D1, D1.rt, wpSs X rest D1, D1.ct⟩) rfl hz hJ (fun z d v s P H σ D3 hz Z r q => hb d s z P H _ D3 hz (Z.set (io_ne hz hi.io) r) q) Z1 h2
end
end Fj

/-! ## Lay18 -/
namespace Fj
open PySem PySem.Spec PyProof.Rows L2
def ap0 {α : Type} (f : α) : List D → α := fun _ => f
def ap1 {α : Type} (f : D → R α) : List D → R α
  | [a] => f a
  | _ => .bad
def ap2 {α : Type} (f : D → D → R α) : List D → R α
  | [a, b] => f a b
  | _ => .bad
def ap3 {α : Type} (f : D → D → D → R α) : List D → R α
  | [a, b, c] => f a b c
  | _ => .bad
def ap4 {α : Type} (f : D → D → D → D → R α) : List D → R α
  | [a, b, c, d] => f a b c d
  | _ => .bad
def ap5 {α : Type} (f : D → D → D → D → D → R α) : List D → R α
  | [a, b, c, d, e] => f a b c d e
  | _ => .bad
def ap6 {α : Type} (f : D → D → D → D → D → D → R α) : List D → R α
  | [a, b, c, d, e, g] => f a b c d e g
  | _ => .bad
theorem ap1_eq {α : Type} (f : D → R α) (a : D) : ap1 f [a] = f a := id rfl
theorem ap2_eq {α : Type} (f : D → D → R α) (a b : D) : ap2 f [a, b] = f a b := id rfl
theorem ap3_eq {α : Type} (f : D → D → D → R α) (a b c : D) : ap3 f [a, b, c] = f a b c := id rfl
theorem ap4_eq {α : Type} (f : D → D → D → D → R α) (a b c d : D) : ap4 f [a, b, c, d] = f a b c d := id rfl
theorem ap5_eq {α : Type} (f : D → D → D → D → D → R α) (a b c d e : D) : ap5 f [a, b, c, d, e] = f a b c d e := id rfl
theorem ap6_eq {α : Type} (f : D → D → D → D → D → D → R α) (a b c d e g : D) : ap6 f [a, b, c, d, e, g] = f a b c d e g := id rfl
theorem len1 {ds : List D} (h : ds.length = 1) : ∃ a, ds = [a] := by
  match ds, h with
  | [a], _ => exact ⟨a, rfl⟩
theorem len2 {ds : List D} (h : ds.length = 2) : ∃ a b, ds = [a, b] := by
  match ds, h with
  | [a, b], _ => exact ⟨a, b, rfl⟩
theorem len3 {ds : List D} (h : ds.length = 3) : ∃ a b c, ds = [a, b, c] := by
  match ds, h with
  | [a, b, c], _ => exact ⟨a, b, c, rfl⟩
theorem len4 {ds : List D} (h : ds.length = 4) : ∃ a b c d, ds = [a, b, c, d] := by
  match ds, h with
  | [a, b, c, d], _ => exact ⟨a, b, c, d, rfl⟩
theorem len5 {ds : List D} (h : ds.length = 5) : ∃ a b c d e, ds = [a, b, c, d, e] := by
  match ds, h with
  | [a, b, c, d, e], _ => exact ⟨a, b, c, d, e, rfl⟩
theorem len6 {ds : List D} (h : ds.length = 6) : ∃ a b c d e f, ds = [a, b, c, d, e, f] := by
  match ds, h with
  | [a, b, c, d, e, f], _ => exact ⟨a, b, c, d, e, f, rfl⟩
def T0 : Tb := ⟨fun _ => none, fun _ => none, none⟩
/-- the law's own def, asked at the script -/
theorem law_end {K : PySem.W.Frag} {T : Tb} {fr : Bool} {m : List D → R D} {H : Hp} {a : Addr} {ns : List Int} (hS : SqL K H a (ns.map V.int)) (h : m [.scr ns] = .ok (.bl true)) :
    spI K T fr [] 1 (pureM m) [V.ref a] H (fun v _ => v = V.bl true) (fun _ _ _ => False) := by
  refine ⟨rfl, H, [.scr ns], ⟨Same.refl _, rfl, fun i c v h1 h2 => ?_, fun i j d e b h1 => absurd h1 (argC_nil_own 0 i _ d)⟩, ?_⟩
  · refine sim_args (Same.refl _) 0 (RepAll.cons ?_ RepAll.nil) i c v h1 h2
    unfold Rep
    exact ⟨a, rfl, hS⟩
  · unfold pureM
    rw [h]
    intro P1 H1 w rz
    have r := rz.rep
    cases fr <;> (unfold md RepM at r; first | exact (by simpa [Rep, contD] using r))
end Fj

/-! ## Lay19 -/
namespace Fj
open PySem PySem.Spec PyProof.Rows L2
mutual
/-- no list, no dict in it -/
def flatD : D → Bool
  | .non => true
  | .bl _ => true
  | .int _ => true
  | .str _ => true
  | .tup xs => flatDs xs
  | _ => false
def flatDs : List D → Bool
  | [] => true
  | x :: xs => flatD x && flatDs xs
end
def flatE (r : R D) : R D := r.bind fun d => if flatD d = true then .ok d else .bad
def ioF (mm : List D → R (D × List D)) (r : R D) (dl : R (List D)) : R D := r.bind fun o => if contD o = true then dl.bind fun vs => (mm (o :: vs)).bind fun p => match p.2 with
  | [_] => .ok p.1
  | _ => .bad
  else .bad
section
variable {K : PySem.W.Frag} {X : Cx} {T : Tb} {W : WX} {k j : Nat} {ρ : List C} {a b c e : Expr} {es : List Expr} {da db : R D} {ca cb : R Bool} {pos p p2 p3 : Pos} {m : Md} {x : Str} {fr : Bool} {i : Nat}
mutual
theorem rep_off {P P2 : Hp} (h : ∀ b vs, P b = some (.tup vs) → P2 b = some (.tup vs)) : ∀ (d : D) (v : V), flatD d = true → Rep K T P d v → Rep K T P2 d v
  | .non, _, _, q => by unfold Rep at q ⊢; exact q
  | .bl _, _, _, q => by unfold Rep at q ⊢; exact q
  | .int _, _, _, q => by unfold Rep at q ⊢; exact q
  | .str _, _, _, q => by unfold Rep at q ⊢; exact q
  | .tup ds, _, f, q => by
    unfold Rep at q ⊢
    obtain ⟨b, vs, h1, h2, h3⟩ := q
    exact ⟨b, vs, h1, h _ _ h2, rep_offs h ds vs f h3⟩
  | .lst _, _, f, _ => by cases f
  | .dct _ _, _, f, _ => by cases f
  | .fn _, _, f, _ => by cases f
  | .exc _ _, _, f, _ => by cases f
  | .scr _, _, f, _ => by cases f
theorem rep_offs {P P2 : Hp} (h : ∀ b vs, P b = some (.tup vs) → P2 b = some (.tup vs)) : ∀ (ds : List D) (vs : List V), flatDs ds = true → RepAll K T P ds vs → RepAll K T P2 ds vs
  | [], _, _, q => by unfold RepAll at q ⊢; exact q
  | d :: ds, _, f, q => by
    unfold RepAll at q ⊢
    obtain ⟨v, r, h1, h2, h3⟩ := q
    unfold flatDs at f
    obtain ⟨f1, f2⟩ := Bool.and_eq_true_iff.mp f
    exact ⟨v, r, h1, rep_off h d v f1 h2, rep_offs h ds r f2 h3⟩
end
theorem flat_cont {d : D} (h : flatD d = true) : cont d = false := by cases d <;> first | rfl | cases h
theorem own_tup {P : Hp} {d : D} {o : HO} (h : Own K T P d o) : ∀ vs, o ≠ .tup vs := fun vs e => by
  subst e
  cases d with
  | lst ds => obtain ⟨us, e, _⟩ := h; cases e
  | dct t kvs =>
    rcases h with ⟨_, l, e, _⟩ | ⟨_, l, e, _⟩ <;> cases e
  | _ => exact h.elim
theorem Sim.freeze {P H : Hp} {σ : L2.St} {d : D} {i : Nat} {a : Addr} {o : HO} (S : Sim K T P H σ ρ) (hi : ρ[i]? = some (.own d)) (hs : σ[i]? = some (some (.ref a))) (hP : P a = none) (hH : H a = some o) (ho : Own K T P d o) :
    Sim K T (upd P a o) H σ (ρ.set i (.val d)) :=
  (SimZ.freeze (z := ⟨P, fun _ => none, []⟩) ⟨S, (fun _ _ h => nomatch h), Same.refl _, (fun _ h => absurd rfl h), (fun _ _ _ _ _ => .inl rfl), (fun _ h => nomatch h)⟩ hi (fun _ h => nomatch h) hs hP hH ho).sim
/-- an own list or dict lent for reading while e is told; what e tells has no list and no dict in it -/
theorem ev_loan {d : D} (hi : ρ[i]? = some (.own d)) (h : Ev X T W .P (ρ.set i (.val d)) e da) : Ev X T W .F ρ e (flatE da) := fun P H σ Q S q => by
  obtain ⟨u, h5, a', o', rfl, h7, h8, h9⟩ := cell_at S hi
  refine h _ H σ Q (S.freeze hi h5 h7 h8 h9) ?_
  cases da with
  | ex x => exact q
  | bad => exact q
  | ok v =>
    intro w P1 H1 e1 r1
    have q : Post X.K T W .F P H σ (if flatD v = true then .ok v else .bad) Q := q
    split at q
    case isFalse => exact q.elim
    case isTrue hf =>
    have hat : P1 a' = some o' := e1.pp _ _ upd_same
    refine q w (fun b => if b = a' then none else P1 b) H1 ⟨fun b z hb => ?_, e1.hh, fun b z hb => ?_, fun b n1 n2 => ?_⟩ ?_
    · have : b ≠ a' := fun e => by subst e; rw [h7] at hb; cases hb
      show (if b = a' then none else P1 b) = _
      rw [if_neg this]
      exact e1.pp _ _ (by rw [upd_ne this]; exact hb)
    · have hb : (if b = a' then none else P1 b) = some z := hb
      split at hb
      · cases hb
      · exact e1.ph _ _ hb
    · show (if b = a' then none else P1 b) = none
      split
      · rfl
      · rename_i hb
        exact e1.nw b n1 (by rw [upd_ne hb]; exact n2)
    · show RepM X.K T .F _ _ _ _ _
      unfold RepM
      dsimp only
      rw [if_neg (by rw [flat_cont hf]; exact Bool.false_ne_true)]
      refine rep_off (fun b vs hb => ?_) v w hf r1
      show (if b = a' then none else P1 b) = _
      rw [if_neg fun e => ?_]
      · exact hb
      · subst e
        rw [hat] at hb
        exact own_tup h9 vs (Option.some.inj hb)
/-- .. in a test -/
theorem evT_loan {d : D} (hi : ρ[i]? = some (.own d)) (h : EvT X T W (ρ.set i (.val d)) e ca) : EvT X T W ρ e ca := fun P H σ Q S q => by
  obtain ⟨u, h5, a', o', rfl, h7, h8, h9⟩ := cell_at S hi
  refine h _ H σ Q (S.freeze hi h5 h7 h8 h9) ?_
  cases ca with
  | ex x => exact q
  | bad => exact q
  | ok v =>
    intro P1 H1 e1
    have q : ∀ P' H', Ext P H P' H' → Q v H' := q
    refine q (fun b => if b = a' then none else P1 b) H1 ⟨fun b z hb => ?_, e1.hh, fun b z hb => ?_, fun b n1 n2 => ?_⟩
    · have : b ≠ a' := fun e => by subst e; rw [h7] at hb; cases hb
      show (if b = a' then none else P1 b) = _
      rw [if_neg this]
      exact e1.pp _ _ (by rw [upd_ne this]; exact hb)
    · have hb : (if b = a' then none else P1 b) = some z := hb
      split at hb
      · cases hb
      · exact e1.ph _ _ hb
    · show (if b = a' then none else P1 b) = none
      split
      · rfl
      · rename_i hb
        exact e1.nw b n1 (by rw [upd_ne hb]; exact n2)
/-- {} -/
theorem ev_dnew0 : Ev X T W .F ρ (.Dict [] [] pos) (.ok (.dct 0 [])) := fun P H σ Q S q => by
  refine wpE_of pe_dnewK fun p hp => ?_
  refine q (.ref p) P _ (Ext.fresh S.sub hp) ?_
  show RepM X.K T .F _ _ _ _ _
  unfold RepM
  dsimp only
  rw [if_pos (show cont (.dct 0 []) = true from rfl)]
  exact ⟨p, _, rfl, hp, S.sub.free hp, upd_same, .inl ⟨rfl, [], rfl, rfl, by show RepVs _ _ _ [] []; unfold RepVs; rfl⟩⟩
theorem ev_dnew1 : Ev X T W .F ρ (.Dict [] [] pos) (.ok (.dct 1 [])) := fun P H σ Q S q => by
  refine wpE_of pe_dnewT fun p hp => ?_
  refine q (.ref p) P _ (Ext.fresh S.sub hp) ?_
  show RepM X.K T .F _ _ _ _ _
  unfold RepM
  dsimp only
  rw [if_pos (show cont (.dct 1 []) = true from rfl)]
  exact ⟨p, _, rfl, hp, S.sub.free hp, upd_same, .inr ⟨rfl, [], rfl, rfl, by show RepVs _ _ _ [] []; unfold RepVs; rfl⟩⟩
/-- a new thing lent to a call that changes it -/
theorem ev_ioF {f : Addr} {r : Nat} {mm : List D → R (D × List D)} {ds : List (R D)} (g : Gd X k) (F : FD X.prog X.w X.K X.mg X.base T j x f fr [0] (1 + r) mm) (hj : j ≤ k) (tk : Takes X W) (hg : Gl X x) (he : Ev X T W .F ρ a da) (ha : EvA X T W ρ es (allR ds)) (hn : ds.length = r)
    (hdb : (x == ("__debug__" : Str)) = false) (hst : starEach (a :: es) X.env = (false, eval a X.env) :: starEach es X.env) (hpl : (backTo pos (starEach es X.env)).any (·.1) = false) : Ev X T W (md fr) ρ (.Call (.Name x p) (a :: es) [] pos) (ioF mm da (allR ds)) := fun P H σ Q S q => by
  obtain ⟨fd, ps, F1, B1⟩ := F.ex
  refine wpE_of (pe_callSD F1 (g.room.mono hj) hg F.gl F.kp B1 .nil (fun σ => passAt tk σ) (pa_cons pw aw hst) hdb hst hpl) ?_
  refine he P H σ _ S ?_
  cases da with
  | ex z => exact fun cls dd H' s' r => q cls dd H' s' r
  | bad => exact q
  | ok o =>
  intro w P1 H1 e1 r1
  have S1 := S.ext e1
  have q : Post X.K T W (md fr) P H σ (if contD o = true then (allR ds).bind fun vs => (mm (o :: vs)).bind fun p => match p.2 with | [_] => .ok p.1 | _ => .bad else .bad) Q := q
  split at q
  case isFalse => exact q.elim
  case isTrue hc =>
  unfold RepM at r1
  dsimp only at r1
  rw [if_pos hc] at r1
  obtain ⟨b, ho, rfl, n0, n1, n2, n3⟩ := r1
  refine ha P1 H1 σ _ S1 ?_
  cases hv : allR ds with
  | ex z => rw [hv] at q; exact fun cls dd H' s' r => q cls dd H' (e1.hh.trans s') r
  | bad => rw [hv] at q; exact q
  | ok vs =>
  rw [hv] at q
  intro ws P2 H2 e2 rs
  have S2 := S1.ext e2
  have hl : vs.length = r := by rw [allR_len hv, hn]
  have n4 : P2 b = none := e2.nw b (by rw [n2]; simp) n1
  have n5 : H2 b = some ho := e2.hh _ _ n2
  have n6 : Own X.K T P2 o ho := Own.mono e2.pp n3
  show spI X.K T fr [0] (1 + r) mm ((V.ref b :: ws) ++ []) H2 Q (WE W σ)
  rw [List.append_nil]
  have hnil : ∀ (l : List D) (m : Nat), argC [0] (0 + 1 + m) l = argC [] (0 + 1 + m) l := by
    intro l
    induction l with
    | nil => intro m; rfl
    | cons d l ih =>
      intro m
      unfold argC
      have : [0].contains (0 + 1 + m) = false := by simp <;> omega
      rw [this, show 0 + 1 + m + 1 = 0 + 1 + (m + 1) by omega, ih]
      rfl
  refine ⟨by rw [List.length_cons, rs.length, hl]; omega, P2, o :: vs, ⟨S2.sub, by rw [argC_len, List.length_map, List.length_cons, List.length_cons, rs.length], fun n c v h1 h2 => ?_, fun n1 n2 d1 d2 b' h1 h2 _ _ => ?_⟩, ?_⟩
  · unfold argC at h1
    cases n with
    | zero =>
      simp at h1 h2
      subst h1 h2
      exact ⟨b, ho, rfl, n4, n5, n6⟩
    | succ n =>
      simp only [List.getElem?_cons_succ] at h1
      rw [show 0 + 1 = 0 + 1 + 0 by rfl, hnil] at h1
      exact sim_args S2.sub _ rs n c v h1 (by simpa using h2)
  · have z : ∀ (n : Nat) (d : D), (argC [0] 0 (o :: vs))[n]? = some (C.own d) → n = 0 := fun n d h => by
      cases n with
      | zero => rfl
      | succ n =>
        unfold argC at h
        simp only [List.getElem?_cons_succ] at h
        rw [show 0 + 1 = 0 + 1 + 0 by rfl, hnil] at h
        exact absurd h (argC_nil_own _ _ _ _)
    rw [z _ _ h1, z _ _ h2]
  have hio : ioAt [0] (V.ref b :: ws) = [(0, b)] := rfl
  rw [hio]
  have hne : ∀ c z, H c = some z → c ≠ b := fun c z h e => by subst e; rw [n0] at h; cases h
  have hfr : ∀ c z H', FrZ ⟨P2, H2, [(0, b)]⟩ H' → H c = some z → H' c = some z := fun c z H' h hc => h c z (e2.hh _ _ (e1.hh _ _ hc)) fun p hp => by
    rw [List.mem_singleton] at hp; subst hp; exact fun e => hne c z hc e.symm
  have q2 : Post X.K T W (md fr) P H σ ((mm (o :: vs)).bind fun p => match p.2 with | [_] => .ok p.1 | _ => .bad) Q := q
  cases hm : mm (o :: vs) with
  | bad => rw [hm] at q2; exact q2
  | ex z =>
    rw [hm] at q2
    exact fun cls dd H' h1 h2 => q2 cls dd H' (fun c z hc => hfr c z H' h1 hc) h2
  | ok dp =>
    rw [hm] at q2
    obtain ⟨d, os⟩ := dp
    intro P3 H3 w rz
    have hos := rz.outs
    cases os with
    | nil => exact nomatch hos
    | cons o2 os =>
    cases os with
    | cons _ _ => cases hos with | cons _ h => exact nomatch h
    | nil =>
    have q3 : ∀ w P' H', Ext P H P' H' → RepM X.K T (md fr) H P' H' d w → Q w H' := q2
    refine q3 w P3 H3 ⟨(e1.pp.trans e2.pp).trans rz.pp, fun c z hc => hfr c z H3 rz.frame hc, rz.sub, fun c h1 h2 => rz.nw c (ne_of_same (e1.hh.trans e2.hh) h1) (e2.nw c (ne_of_same e1.hh h1) (e1.nw c h1 h2))⟩ ?_
    have rr := rz.rep
    cases fr with
    | false => exact rr
    | true =>
      have rr : RepM X.K T .F H2 P3 H3 d w := rr
      show RepM X.K T .F _ _ _ _ _
      unfold RepM at rr ⊢
      dsimp only at rr ⊢
      split at rr
      · rename_i hc
        rw [if_pos hc]
        obtain ⟨c, o3, rfl, t1, t2, t3, t4⟩ := rr
        refine ⟨c, o3, rfl, ?_, t2, t3, t4⟩
        cases hh : H c with
        | none => rfl
        | some z => rw [e2.hh _ _ (e1.hh _ _ hh)] at t1; cases t1
      · rename_i hc
        rw [if_neg hc]
        exact rr
/-- x.pop(e), x a list -/
def popL {S : Type} (gt : S → D) (up : S → D → S) (s : S) (r : R (D × S)) : R (D × S) := if isList (gt s) = true then popX gt up r else .bad
theorem evx_popL {S : Type} {mk : S → List C} {s : S} {ios : List Nat} {ra : R (D × S)} {pa pp px : Pos} {gt : S → D} {up : S → D → S} (hat : At mk i gt up) (hN : X.N[i]? = some x) (hv : Vis X.env.scope x) (hd : (x == ("__debug__" : Str)) = false) (hcd : (x == ("__classdict__" : Str)) = false)
    (he : EvX X T W .P ios mk s e ra) (hbm : PE X (.Call (.Attribute (.Name x px) "pop" pa) [e] [] pp) (tBM X.K "list" rPopAt (tVar i) (tCons (wpE X e) tNil))) :
    EvX X T W .P ios mk s (.Call (.Attribute (.Name x px) "pop" pa) [e] [] pp) (popL gt up s ra) := by
  unfold popL
  split
  · rename_i h
    exact evx_pop hat hN hv hd hcd he (fun _ => h) hbm
  · exact fun z P H σ Q hz Z q => q.elim
end
end Fj

/-! ## Lay20 -/
namespace Fj
open PySem PySem.Spec PyProof.Rows L2
/-! ### exceptions of the text's own classes -/
def bmVE : List Value := [.type "ValueError", .type "Exception", .type "BaseException", .type "object"]
theorem pmk_own0 {X : Cx} {C : Addr} {bmB : List Value} {B newId initId : String} {x : Str} {p pos : Pos} (F : ExcBaseFacts B newId initId bmB) (q : PySem.W.excIn X.K C bmB newId = true) (gC : X.mg x = some (.ref C)) (kC : PySem.W.keepIn X.K (.ref C) = true) (r : Raises X (.ref C)) (hg : Gl X x)
    (hdb : (x == ("__debug__" : Str)) = false) : PMk X (.Call (.Name x p) [] [] pos) (fun _ H Q => Q (.ref C) none H) := by
  intro pins s σ H Q I h
  refine wpAny_Call_Name_kw (ld_glob I hg gC ?_ hdb)
  refine PySem.W.callWith_K0 I.kIn kC ?_
  show wpAny _ _ (call (.ref C) []) _ _ _
  obtain ⟨bm, N, nm, qn, bs, hdct, sn, sub, ab, col, dd, k0, k1, k2, k3, k5, mN, hC, hN, hni, T⟩ := exc_obj I.kIn q
  refine wpAny_call_exc_subT F T hC hN hni (fun h' e hm => ?_) (Nat.zero_le _)
  exact mk_of I hm r h (I.hok.gone hm.new)
structure ExCls (K : PySem.W.Frag) (mg : Str → Option Value) (T : Tb) (c : Nat) (x : Str) (C : Addr) : Prop where
  cl : T.cl c = some C
  gl : mg x = some (.ref C)
  xi : PySem.W.excIn K C bmVE "ValueError.__new__" = true
  kp : PySem.W.keepIn K (.ref C) = true
  bp : PySem.W.subIn K (.ref C) (.type "BaseException") = some true
  tp : PySem.W.typeIn K (.ref C) = some (.type "type")
section
variable {X : Cx} {T : Tb} {W : WX} {k j : Nat} {ρ : List C} {a b c e : Expr} {es : List Expr} {da db : R D} {pos p p2 p3 : Pos} {m : Md} {x n : Str} {fr : Bool} {i : Nat}
variable {S B : Type} {ios : List Nat} {mkN : S → List C} {mkB : B → List C} {rest body : List Stmt}
/-- raise X() -/
theorem ss_raise {cn : Nat} {Cl : Addr} {pos' : Pos} (g : Gd X k) (tk : Takes X W) (E : ExCls X.K X.mg T cn x Cl) (hg : Gl X x) (hdb : (x == ("__debug__" : Str)) = false) :
    Ss X T W fr ios mkN mkB ρ (.Raise (some (.Call (.Name x p) [] [] pos)) none pos' :: rest) (.ex (.exc cn [])) := fun z P H σ D1 hz Z h =>
  wpSs_of (pss_cons (ps_raise g.calm tk (pmk_own0 PySem.F.excBase_ValueError E.xi E.gl E.kp (raises_own E.bp E.tp) hg hdb)) (ssw (st := rest))) (h (.ref Cl) none σ H Z.frame ⟨Cl, E.cl, rfl, .inl ⟨rfl, rfl⟩⟩)
/-! ### methods of lists that look -/
def numD : D → Bool
  | .bl _ => true
  | .int _ => true
  | _ => false
def numV : D → V
  | .bl b => .bl b
  | .int i => .int i
  | _ => .non
theorem numV_of {K : PySem.W.Frag} {P : Hp} {d : D} {v : V} (h : numD d = true) (r : Rep K T P d v) : v = numV d := by
  cases d with
  | bl b => exact rep_bl.mp r
  | int i => exact rep_int.mp r
  | _ => cases h
theorem numV_B {K : PySem.W.Frag} {P H H0 : Hp} {d : D} {v : V} (h : numD d = true) (r : RepM K T .B H0 P H d v) : v = numV d := by
  rcases r with r | ⟨a, o, rfl, _, _, h3⟩
  · exact numV_of h r
  · cases d with
    | bl b => exact h3.elim
    | int b => exact h3.elim
    | _ => cases h
theorem numV_flat {d : D} (h : numD d = true) : flatV (numV d) = true := by cases d <;> first | rfl | cases h
theorem numV_eq {x y : D} (hx : numD x = true) (hy : numD y = true) : eqV (numV x) (numV y) = eqD x y := by
  cases x with
  | bl a => cases y with
    | bl b => simp [numV, eqV, eqD]
    | int j => simp [numV, eqV, eqD, b2]
    | _ => cases hy
  | int i => cases y with
    | bl b => simp [numV, eqV, eqD, b2]
    | int j => simp [numV, eqV, eqD]
    | _ => cases hy
  | _ => cases hx
theorem numVs_of {K : PySem.W.Frag} {P : Hp} : ∀ {ds : List D} {vs : List V}, ds.all numD = true → RepAll K T P ds vs → vs = ds.map numV
  | [], vs, _, r => by unfold RepAll at r; exact r
  | d :: ds, vs, h, r => by
    unfold RepAll at r
    obtain ⟨v, t, rfl, r1, r2⟩ := r
    rw [List.all_cons, Bool.and_eq_true] at h
    rw [numV_of h.1 r1, numVs_of h.2 r2]; rfl
theorem numVs_flat : ∀ {ds : List D}, ds.all numD = true → (ds.map numV).all flatV = true
  | [], _ => rfl
  | d :: ds, h => by
    rw [List.all_cons, Bool.and_eq_true] at h
    rw [List.map_cons, List.all_cons, numV_flat h.1, numVs_flat h.2]; rfl
def rCntF (K : PySem.W.Frag) : V → List V → Hp → VK → Prop := fun x xs H Q => ∃ (a : Addr) (ys : List V) (y : V), x = .ref a ∧ xs = [y] ∧ SqL K H a ys ∧ flatV y = true ∧ ys.all flatV = true ∧ Q (.int (ys.countP (fun z => eqV z y) : Nat)) H
theorem count_eqU {y : V} {uy : Value} (ry : RelV y uy) (fy : flatV y = true) : ∀ {xs : List V} {us : List Value}, Vals xs us → xs.all flatV = true → us.countP (eqU y) = xs.countP (fun z => eqV z y)
  | _, _, .nil, _ => rfl
  | x :: xs, u :: us, .cons r t, f => by
    rw [List.all_cons, Bool.and_eq_true] at f
    rw [List.countP_cons, List.countP_cons, count_eqU ry fy t f.2, eqU_of r f.1]
theorem mt_countF : MtR X "list.count" (rCntF X.K) := by
  intro pins s σ H x xs v us Q I rx rxs h
  obtain ⟨a, ys, y, rfl, rfl, hs, fy, fys, q⟩ := h
  cases rx
  obtain ⟨u, rfl, ru⟩ := rxs.one
  obtain ⟨its, rv, ⟨⟨cls, dd, data, sl⟩, n, ho, hc, hdn, hd⟩, hlen⟩ := I.list hs
  simp only at hc hd
  subst hc hd
  refine call_meets PySem.F.slot_list_count ⟨_, ho, rfl⟩ PySem.F.entry_list_count (PySem.F.args_list_count_2 _ _)
    (SeqAt.list_countAt a its.toArray n dd sl u (eqU y)) ⟨ho, fun u' hu' => mem_eqAt ru fy rv fys u' (by simpa using hu'), ?_⟩
  have ec : its.toArray.toList.countP (eqU y) = ys.countP (fun z => eqV z y) := count_eqU ru fy rv fys
  refine ⟨.int (ys.countP (fun z => eqV z y) : Nat), H, I.tok _, ⟨s.toks, ?_⟩, q⟩
  show Value.int ((its.toArray.toList.countP (eqU y) : Nat) : Int) s.toks = Value.int ((ys.countP (fun z => eqV z y) : Nat) : Int) s.toks
  rw [ec]
def countR (c x : D) : R D := match c with
  | .lst xs => if xs.all numD && numD x then .ok (.int (xs.countP (fun z => eqD z x) : Nat)) else .bad
  | _ => .bad
def indexN (c x : D) : R D := match c with
  | .lst xs => if xs.all numD && numD x then (ofO (indexL x xs)).bind fun j => .ok (.int (j : Nat)) else .bad
  | _ => .bad
def opL (f : D → D → R D) (a b : R D) : R D := a.bind fun x => if isList x = true then b.bind (f x) else .bad
theorem ev_lmeth {name : Str} {r : V → List V → Hp → VK → Prop} {f : D → D → R D} {o : Expr} {pa pp : Pos} (hm : PE X (.Call (.Attribute o name pa) [e] [] pp) (tBM X.K "list" r (wpE X o) (tCons (wpE X e) tNil)))
    (hf : ∀ P H H0 σ ds vs a y v Q, Same P H → H a = some (.lst vs) → RepAll X.K T P ds vs → RepM X.K T .B H0 P H y v → Post X.K T W .F P H σ (f (.lst ds) y) Q → r (.ref a) [v] H Q) (ho : Ev X T W .B ρ o da) (he : Ev X T W .B ρ e db) :
    Ev X T W .F ρ (.Call (.Attribute o name pa) [e] [] pp) (opL f da db) := fun P H σ Q S q => by
  refine wpE_of hm ?_
  refine ev_bind ho S q fun x v P1 H1 e1 S1 r1 q1 => ?_
  cases x with
  | lst ds =>
    obtain ⟨a, vs, rfl, h1, h2⟩ := B_lst S1.sub r1
    refine ⟨.inl ⟨rfl, _, .inl (.inl h1)⟩, ?_⟩
    refine ev_bind he S1 q1 fun y w P2 H2 e2 S2 r2 q2 => ?_
    exact hf P2 H2 _ σ ds vs a y w Q S2.sub (e2.hh _ _ h1) (RepAll.mono e2.pp _ _ h2) r2 q2
  | _ => exact q1.elim
theorem does_count : ∀ P H H0 σ ds vs a y v Q, Same P H → H a = some (.lst vs) → RepAll X.K T P ds vs → RepM X.K T .B H0 P H y v → Post X.K T W .F P H σ (countR (.lst ds) y) Q → rCntF X.K (.ref a) [v] H Q := fun P H H0 σ ds vs a y v Q hs h1 h2 h3 q => by
  unfold countR at q
  dsimp only at q
  split at q
  case isFalse => exact q.elim
  case isTrue hc =>
  obtain ⟨c1, c2⟩ := Bool.and_eq_true_iff.mp hc
  have e1 := numVs_of c1 h2
  have e2 := numV_B c2 h3
  subst e1 e2
  refine ⟨a, _, _, rfl, rfl, SqL.of h1, numV_flat c2, numVs_flat c1, ?_⟩
  have e : (ds.map numV).countP (fun z => eqV z (numV y)) = ds.countP (fun z => eqD z y) := by
    clear q h1 h2
    induction ds with
    | nil => rfl
    | cons d ds ih =>
      rw [List.all_cons, Bool.and_eq_true] at c1
      rw [List.map_cons, List.countP_cons, List.countP_cons, ih (by rw [c1.2, c2]; rfl) c1.2, numV_eq c1.1 c2]
  rw [e]
  exact postI hs q
theorem index_of {y : D} (hy : numD y = true) : ∀ {ds : List D} {j : Nat}, ds.all numD = true → indexL y ds = some j → ∃ z, (ds.map numV)[j]? = some z ∧ eqV z (numV y) = true ∧ ∀ (m : Nat) (z' : V), m < j → (ds.map numV)[m]? = some z' → eqV z' (numV y) = false
  | [], j, _, h => by cases h
  | d :: ds, j, c, h => by
    rw [List.all_cons, Bool.and_eq_true] at c
    unfold indexL at h
    by_cases e : eqD d y = true
    · rw [if_pos e] at h
      cases h
      exact ⟨numV d, rfl, by rw [numV_eq c.1 hy]; exact e, fun m z' hm => absurd hm (Nat.not_lt_zero _)⟩
    · rw [if_neg e] at h
      cases hq : indexL y ds with
      | none => rw [hq] at h; cases h
      | some i =>
        rw [hq] at h
        cases h
        obtain ⟨z, h1, h2, h3⟩ := index_of hy c.2 hq
        refine ⟨z, by simpa using h1, h2, fun m z' hm hz => ?_⟩
        cases m with
        | zero =>
          simp at hz
          subst hz
          rw [numV_eq c.1 hy]
          exact Bool.eq_false_iff.mpr e
        | succ m => exact h3 m z' (Nat.lt_of_succ_lt_succ hm) (by simpa using hz)
theorem does_index : ∀ P H H0 σ ds vs a y v Q, Same P H → H a = some (.lst vs) → RepAll X.K T P ds vs → RepM X.K T .B H0 P H y v → Post X.K T W .F P H σ (indexN (.lst ds) y) Q → rIndex X.K (.ref a) [v] H Q := fun P H H0 σ ds vs a y v Q hs h1 h2 h3 q => by
  unfold indexN at q
  dsimp only at q
  split at q
  case isFalse => exact q.elim
  case isTrue hc =>
  obtain ⟨c1, c2⟩ := Bool.and_eq_true_iff.mp hc
  have e1 := numVs_of c1 h2
  have e2 := numV_B c2 h3
  subst e1 e2
  cases hq : indexL y ds with
  | none => rw [hq] at q; exact q.elim
  | some j =>
    rw [hq] at q
    obtain ⟨z, g1, g2, g3⟩ := index_of c2 c1 hq
    exact ⟨a, _, _, j, z, rfl, rfl, SqL.of h1, numV_flat c2, numVs_flat c1, g1, g2, g3, postI hs q⟩
end
/-! ### the law's def that names an exception's kind -/
def kindS (c : Nat) : List Nat := if c = 0 then [116, 104, 105, 110, 103] else if c = 1 then [114, 111, 119] else if c = 2 then [110, 117, 109, 98, 101, 114] else [108, 105, 110, 101]
structure KindOf (P : Program) (w : World) (K : PySem.W.Frag) (mg : Str → Option Value) (base : Heap) (T : Tb) (k : Nat) (x : Str) (f : Addr) : Prop where
  ex : ∃ (fd : FuncData) (pnm : Str), Binds K fd [pnm] [] ∧ ∀ (A : Around) (outer : List Env) (s : Shared) (H : Hp) (args : Args) (us : List Value) (a : Addr) (oe : Obj) (c : Nat) (Dc : Addr) (Q : VK) (E : XK), L2H.RoomH k A → L2H.PinOk outer H s (a, oe) → Env0 P w K mg base A outer s H →
    BindsTo s fd args ([pnm].zip us) → Vals [.ref a] us → c < 4 → T.cl c = some Dc → Zc (.ref Dc) Option.none oe → (∃ vs, oe.data = .fields vs) → (∀ H', Same H H' → Q (strV (kindS c)) H') → codeAny (model P w) A (.call (.ref f) args) (CR (L2.CX P w) outer P w H s Q E) s
  gl : mg x = some (.ref f)
  kp : PySem.W.keepIn K (.ref f) = true
theorem KindOf.mono {P : Program} {w : World} {K : PySem.W.Frag} {mg : Str → Option Value} {base : Heap} {T : Tb} {j k : Nat} {x : Str} {f : Addr} (F : KindOf P w K mg base T j x f) (h : j ≤ k) : KindOf P w K mg base T k x f := by
  obtain ⟨⟨fd, pnm, b, r⟩, g, kp⟩ := F
  exact ⟨⟨fd, pnm, b, fun A outer s H args us a oe c Dc Q E hr => r A outer s H args us a oe c Dc Q E (hr.mono h)⟩, g, kp⟩
/-- its call within an except suite -/
theorem wp_kind {X : Cx} {T : Tb} {k i c : Nat} {x n : Str} {f a Dc : Addr} {oe : Obj} {p p2 pos : Pos} {σ : L2.St} {H : Hp} {Q : VK} (Kd : KindOf X.prog X.w X.K X.mg X.base T k x f) (hr : L2H.RoomH k X.A) (hp : (a, oe) ∈ X.pn) (hg : Gl X x) (hN : X.N[i]? = some n) (hv : Vis X.env.scope n) (hd : (n == ("__debug__" : Str)) = false) (hcd : (n == ("__classdict__" : Str)) = false)
    (hdb : (x == ("__debug__" : Str)) = false) (he : starEach [.Name n p2] X.env = (false, eval (.Name n p2) X.env) :: starEach [] X.env) (hpl : (backTo pos (starEach [] X.env)).any (·.1) = false) (hs : σ[i]? = some (some (.ref a))) (hc : c < 4) (hcl : T.cl c = some Dc) (hz : Zc (.ref Dc) Option.none oe) (hf : ∃ vs, oe.data = .fields vs)
    (h : ∀ H', Same H H' → Q (strV (kindS c)) H') : wpE X (.Call (.Name x p) [.Name n p2] [] pos) σ H Q := fun pins s I => by
  obtain ⟨⟨fd, pnm, hb, R⟩, g, kp⟩ := Kd
  refine wpAny_Call_Name_kw (ld_glob I hg g ?_ hdb)
  refine PySem.W.callWith_K (h₀ := X.base) I.ok.mod.kin kp (thn ((pa_cons (pe_var (i := i) hN hv hd hcd) pa_nil he).run pos pins s σ H (fun vs H1 => vs = [.ref a] ∧ H1 = H) I ⟨_, hs, rfl, rfl⟩) fun us s1 hh => ?_) he hpl
  obtain ⟨vs, H1, I1, r, rfl, rfl⟩ := hh
  refine ⟨I1.kIn, ?_⟩
  have b := hb s1 us I1.kIn (by rw [List.append_nil]; exact r.length.symm)
  rw [List.append_nil] at b
  have P1 := I1.pin (a, oe) (List.mem_append_left _ hp)
  have hpin : L2H.PinOk X.stack H1 s1 (a, oe) := ⟨P1.1, P1.2.1, fun hm => (List.mem_cons.mp (I1.stkSub a hm)).elim P1.2.2.1 P1.2.2.2.1, P1.2.2.2.2⟩
  refine wpAny_call (codeAny_mono (R X.A X.stack s1 H1 ⟨us, []⟩ us a oe c Dc Q (fun _ _ _ => False) hr hpin I1.env0 b r hc hcl hz hf h) fun r s' hq => ?_)
  cases r with
  | error e =>
    obtain ⟨_, _, _, _, _, _, _, _, _, _, _, _, h⟩ := hq
    exact h.elim
  | ok fl =>
    cases fl with
    | ret u => exact I1.after hq
    | next => exact False.elim hq
    | brk => exact False.elim hq
    | cont => exact False.elim hq
/-! ### try: return e, except X as n: return kind(n) -/
def tryK {S B : Type} (os : List D) (r : R D) : R (Fl S B) := match r with
  | .ok v => .ok (.rt v os)
  | .ex (.exc c []) => if c < 4 then .ok (.rt (.str (kindS c)) os) else .bad
  | _ => .bad
@[simp] theorem tryK_ok {S B : Type} (os : List D) (v : D) : (tryK os (.ok v) : R (Fl S B)) = .ok (.rt v os) := id rfl
section
variable {X : Cx} {T : Tb} {Wout : WX} {k j : Nat} {ρ : List C} {e : Expr} {da : R D} {pos p p2 p3 pos' np : Pos} {n x : Str} {fr : Bool} {i : Nat}
variable {S B : Type} {ios : List Nat} {mkN : S → List C} {mkB : B → List C} {rest : List Stmt}
theorem kindS_nc (c : Nat) : flatD (.str (kindS c)) = true := rfl
theorem ss_tryK {os : List D} {f J : Addr} {kx xn : Str} {pk pn2 pr pc : Pos} (g : Gd X k) (Kd : KindOf X.prog X.w X.K X.mg X.base T j kx f) (hj : j ≤ k) (tk : Takes X Wout) (hio : ios.contains i = false) (ho : outsOf ρ ios = some os)
    (hst : X.stack = X.env :: X.outer) (hfr : X.env.frame = some X.env.locals) (hN : X.N[i]? = some n) (hln : X.env.kindOf n = some .local) (hun : ρ[i]? = some .un) (hc : Names X xn (.ref J)) (hcl : ∀ c C, T.cl c = some C → c < 4 → PySem.W.exmOne X.K (.ref C) (.ref J) = some true)
    (hv : Vis X.env.scope n) (hd : (n == ("__debug__" : Str)) = false) (hcd : (n == ("__classdict__" : Str)) = false) (hdb : (kx == ("__debug__" : Str)) = false) (hg : Gl X kx)
    (hb : ∀ (W : WX) (pn : List (Addr × Obj)) (xe : Value → Shared → Prop), Gd (X.tr pn xe) k → Takes (X.tr pn xe) W → PassesOwn (model X.prog X.w) X.A X.env xe → Ev (X.tr pn xe) T W (md fr) ρ e da)
    (he : ∀ (X' : Cx), X'.env = X.env → starEach [.Name n pn2] X'.env = (false, eval (.Name n pn2) X'.env) :: starEach [] X'.env) (hpl : ∀ (X' : Cx), (backTo pc (starEach [] X'.env)).any (·.1) = false) :
    Ss X T Wout fr ios mkN mkB ρ (.Try [.Return (some e) pr] [.ExceptHandler (some (.Name xn np)) (some n) [.Return (some (.Call (.Name kx pk) [.Name n pn2] [] pc)) p3] pos'] [] [] pos :: rest) (tryK os da) := fun z P H σ D1 hz Z h => by
  let tb : WX → TS := fun W D σ H => ∃ P, Sim X.K T P H σ ρ ∧ Post X.K T W (md fr) P H σ da (fun w H1 => D.rt w H1)
  let ts : Addr → Value → Option Addr → TS := fun a cls d D σ H => σ[i]? = some (some (.ref a)) ∧ ∃ c Dc, c < 4 ∧ T.cl c = some Dc ∧ cls = .ref Dc ∧ d = Option.none ∧ ∀ H', Same H H' → D.rt (strV (kindS c)) H'
  refine wpSs_of (pss_cons (ps_try_as (i := i) (tb := tb) (ts := ts) hst hfr g.nd hN hln hc tk (fun W pn xe tk' po => ?_) (fun a oe cls d pn hz hf => ?_)) (ssw (st := rest))) ?_
  · exact ⟨fun pins s σ H D I ⟨P, S, q⟩ => (pss_cons (ps_ret pw) (ssw (st := []))).run pins s σ H D I (hb W pn xe ⟨g.calm, g.nd, g.room, g.bi⟩ tk' po P H σ _ S q)⟩
  · exact ⟨fun pins s σ H D I ⟨h1, c, Dc, h2, h3, h4, h5, h6⟩ => by
      subst h4 h5
      exact (pss_cons (ps_ret pw) (ssw (st := []))).run pins s σ H D I (wp_kind (X := X.suite a ((a, oe) :: pn)) (Kd.mono hj) ⟨g.room.dp, g.room.un⟩ List.mem_cons_self hg hN hv hd hcd hdb (he _ rfl) (hpl _) h1 h2 h3 hz hf h6)⟩
  · refine ⟨P, Z.sim, ?_⟩
    cases da with
    | bad => exact h
    | ok v =>
      intro w P1 H1 e1 r1
      have Z1 := Z.ext e1
      exact h P1 H1 w ⟨Z1.sim.sub, Z1.frame, Z1.pp, Z1.nw, fresh_back Z r1, outs_of Z1 (fun p hp => hp) (by rw [hz]; exact ho)⟩
    | ex x =>
      cases x with
      | exc c fs =>
        cases fs with
        | cons _ _ => exact h.elim
        | nil =>
          intro cls dd H' hs' hr
          obtain ⟨Dc, h1, rfl, h2 | ⟨h2, _⟩⟩ := hr
          · obtain ⟨_, rfl⟩ := h2
            have h : PostS X.K T Wout fr mkN mkB z (if c < 4 then (.ok (.rt (.str (kindS c)) os) : R (Fl S B)) else .bad) D1 := h
            split at h
            case isFalse => exact h.elim
            case isTrue hlt =>
            refine ⟨true, hcl c Dc h1 hlt, fun _ a ha => ⟨?_, c, Dc, hlt, h1, rfl, rfl, fun H2 hs2 => ?_⟩, fun hh => nomatch hh⟩
            · have hi : i < σ.length := by rw [← Z.sim.len]; exact (List.getElem?_eq_some_iff.mp hun).1
              exact List.getElem?_set_self hi
            · have hh := hs'.trans hs2
              have Z2 := Z.ext (⟨Same.refl _, hh, Z.sim.sub.trans hh, fun _ _ h => h⟩ : Ext P H P H2)
              refine h P H2 _ ⟨Z2.sim.sub, Z2.frame, Z2.pp, Z2.nw, ?_, outs_of Z2 (fun p hp => hp) (by rw [hz]; exact ho)⟩
              cases fr <;> (unfold md RepM; first | exact (by unfold Rep; rfl) | (dsimp only; rw [if_neg (show ¬ cont (.str (kindS c)) = true from Bool.false_ne_true)]; unfold Rep; rfl))
          · exact absurd rfl h2
      | _ => exact h.elim
end
/-! ### rules that hold within a suite's calls, too -/
structure GdH (X : Cx) (k : Nat) : Prop where
  nd : X.N.Nodup
  room : L2H.RoomH k X.A
  bi : Bi X.mg
section
variable {X : Cx} {T : Tb} {W : WX} {k j : Nat} {ρ : List C} {a b c e : Expr} {es : List Expr} {da db : R D} {pos p p2 p3 px : Pos} {m : Md} {x y n : Str} {fr : Bool} {i : Nat}
variable {S B : Type} {ios : List Nat} {mkN : S → List C} {mkB : B → List C} {rest body : List Stmt}
theorem op_neH (g : GdH X k) : OpR X (compareOp .NotEq) (rNeD X.K) := op_neD (by have := g.room.un; omega)
theorem ss_asgH {pos' : Pos} {F : D → R (Fl S B)} (g : GdH X k) (hi : X.N[i]? = some x) (hx : Loc X.env.scope x) (hf : X.fn x = true ∨ X.env.scope.names.lookup x = some .local) (hs : swapsWith e (some (.Name x pos')) pos.line X.env = pure false) (hio : ios.contains i = false)
    (he : Ev X T W .P ρ e da) (hr : ∀ v, Ss X T W fr ios mkN mkB (ρ.set i (.val v)) rest (F v)) : Ss X T W fr ios mkN mkB ρ (.Assign [.Name x pos'] e pos :: rest) (da.bind F) := fun z P H σ D1 hz Z h => by
  refine wpSs_of (pss_cons (ps_set g.nd hi hx pw hs hf) ssw) ?_
  refine ss_bind he Z h fun v w P1 H1 e1 Z1 r1 q1 => ?_
  exact hr v z P1 H1 _ D1 hz (Z1.set (io_ne hz hio) r1) q1
theorem ev_ixH (ha : Ev X T W .B ρ a da) (hb : Ev X T W .B ρ b db) (hs : PlainIx b) : Ev X T W .P ρ (.Subscript a b pos) (op2 idxR0 da db) := fun P H σ Q S q => by
  refine wpE_of (pe_ix (ix_seq (X := X)) pw pw hs) ?_
  refine ev_bind ha S q fun x v P1 H1 e1 S1 r1 q1 => ?_
  refine ev_bind hb S1 q1 fun y w P2 H2 e2 S2 r2 q2 => ?_
  exact idx0_of S2.sub (r1.to e2 (by simp)) r2 q2
/-- isinstance(e, X), e the exception that the def is handed -/
theorem call_isEp {a D : Addr} {oe : Obj} (hp : (a, oe) ∈ X.pn) (C : ExcC X.K D) (hz : Zc (.ref D) none oe) (hf : ∃ vs, oe.data = .fields vs) : CallR X (.builtin "isinstance") (rIsE X.K D a) := by
  intro pins s σ H xs us Q I r h
  obtain ⟨c, cv, b, rfl, hcv, e, q⟩ := h
  cases r with
  | cons rx rr =>
    cases rr with
    | cons rt rr =>
      cases rr
      cases rx
      have ec := hcv _ rt
      subst ec
      obtain ⟨hget, _⟩ := I.pin (a, oe) (List.mem_append_left _ hp)
      obtain ⟨vs, hv⟩ := hf
      have J : PySem.W.InstAt s.heap a oe D none := by
        obtain ⟨oc, od, oda, osl⟩ := oe
        obtain ⟨h1, h2⟩ := hz
        dsimp only at h1 h2 hv
        subst h1 h2 hv
        exact ⟨hget, rfl, rfl, trivial⟩
      exact PySem.W.kia_one (PySem.W.handS_kitx_exc C.hg C.hk C.hs C.hd C.ha C.hn C.ht C.hm) I.kIn J e (fun z => nomatch z) fun tk => ⟨.bl b, H, I.kept (t' := tk) fun _ _ z => z, rfl, q⟩
theorem ev_isE {ad Dc : Addr} {oe : Obj} {cn : Nat} {fs : List D} {u : V} {cv : Value} {bb : Bool} (hp : (ad, oe) ∈ X.pn) (Ce : ExcC X.K Dc) (hz : Zc (.ref Dc) none oe) (hf : ∃ vs, oe.data = .fields vs) (hT : T.xe = some (ad, cn)) (he : Ev X T W .P ρ a (.ok (.exc cn fs)))
    (hC : PE X b (tC u)) (hu : ∀ u', RelV u u' → u' = cv) (hk : PySem.W.kitOne X.K (.ref Dc) cv = some bb) (hg : Gl X "isinstance") (hm : X.mg "isinstance" = none)
    (hs : starEach [a, b] X.env = (false, eval a X.env) :: starEach [b] X.env) (hs2 : starEach [b] X.env = (false, eval b X.env) :: starEach [] X.env) (hpl : (backTo pos (starEach [b] X.env)).any (·.1) = false) : Ev X T W .F ρ (.Call (.Name "isinstance" p) [a, b] [] pos) (.ok (.bl bb)) := fun P H σ Q S q => by
  refine wpE_of (pe_callB (call_isEp hp Ce hz hf) hg hm boot_isinstance (pa_cons pw (pa_cons hC pa_nil hs2) hs) (by decide) (by decide) hs hpl) ?_
  refine he P H σ _ S ?_
  intro w P1 H1 e1 r1
  have r1 : Rep X.K T P1 (.exc cn fs) w := r1
  unfold Rep at r1
  obtain ⟨a2, h1, rfl⟩ := r1
  rw [hT] at h1
  cases h1
  exact ⟨u, cv, bb, rfl, hu, hk, q _ P1 H1 e1 (by show RepM X.K T .F _ _ _ _ _; unfold RepM; dsimp only; rw [if_neg (show ¬ cont (.bl bb) = true from Bool.false_ne_true)]; unfold Rep; rfl)⟩
end
def isM (c j : Nat) : R D := .ok (.bl (c == j))
def kindB (c : Nat) : R (Fl Unit Empty) := (lstE [isM c 0, isM c 1, isM c 2, isM c 3]).bind fun v1 => (op2 addR (.ok v1) (lstE [isM c 4, isM c 5, isM c 6])).bind fun v2 =>
  ifE (orT (notT (op1 truT (.ok (.bl true)))) (op2 neR (opL countR (.ok v2) (.ok (.bl true))) (.ok (.int 1)))) (endR ((R.ok (.str [111, 116, 104, 101, 114])).bind fun v => .ok (.rt v [])))
    ((op2 idxR0 (lstE [R.ok (.str [116, 104, 105, 110, 103]), R.ok (.str [114, 111, 119]), R.ok (.str [110, 117, 109, 98, 101, 114]), R.ok (.str [108, 105, 110, 101]), R.ok (.str [111, 114, 100, 101, 114]), R.ok (.str [116, 101, 120, 116]), R.ok (.str [103, 114, 101, 97, 116])]) (opL indexN (.ok v2) (.ok (.bl true)))).bind fun v => .ok (.rt v []))
theorem kindB_eq {c : Nat} (hc : c < 4) : kindB c = .ok (.rt (.str (kindS c)) []) := by
  have : c = 0 ∨ c = 1 ∨ c = 2 ∨ c = 3 := by omega
  rcases this with rfl | rfl | rfl | rfl <;> rfl
/-- what is told of the text's classes of exceptions -/
structure KnK (K : PySem.W.Frag) (mg : Str → Option Value) (cs : Nat → Addr) (J : Addr) : Prop where
  g0 : mg "NoThing" = some (.ref (cs 0))
  g1 : mg "NoRow" = some (.ref (cs 1))
  g2 : mg "NoNumber" = some (.ref (cs 2))
  g3 : mg "NoLine" = some (.ref (cs 3))
  g4 : mg "NoOrder" = some (.ref (cs 4))
  g5 : mg "NoText" = some (.ref (cs 5))
  g6 : mg "TooGreat" = some (.ref (cs 6))
  gJ : mg "JumpError" = some (.ref J)
  ve : mg "ValueError" = none
  kit : ∀ c j, c < 4 → j < 7 → PySem.W.kitOne K (.ref (cs c)) (.ref (cs j)) = some (c == j)
  kitV : ∀ c, c < 4 → PySem.W.kitOne K (.ref (cs c)) (.type "ValueError") = some true
  exm : ∀ c, c < 4 → PySem.W.exmOne K (.ref (cs c)) (.ref J) = some true
  ec : ∀ c, c < 4 → ExcC K (cs c)
def clT (cs : Nat → Addr) : Nat → Option Addr := fun c => if c < 7 then some (cs c) else none
/-- the def, by its body -/
theorem kind_fn {P : Program} {w : World} {K : PySem.W.Frag} {mg : Str → Option Value} {base : Heap} {k : Nat} {f : Addr} {fd : FuncData} {x qual pnm : Str} {st : Stmt} {N : List Str} {T : Tb} {cs : Nat → Addr} {mkN : Unit → List C} {mkB : Empty → List C} {r : Nat} (hF : L2.Fun K x qual st f fd) (Sc : FnScope N [pnm] (defScope st)) (hb : Binds K fd [pnm] []) (hg : mg x = some (.ref f)) (bi : Bi mg) (hT : T.cl = clT cs) (hN : N.length = 1 + r)
    (hbody : ∀ (cdv : Value) (A : Around) (outer : List Env) (s : Shared) (H : Hp) (E : XK) (a : Addr) (oe : Obj) (c : Nat) (T' : Tb), c < 4 → GdH (L2H.cxH (L2.CX P w) P w K mg base N qual (defScope st) f cdv A outer s H E (a, oe)) k → Zc (.ref (cs c)) none oe → (∃ vs, oe.data = .fields vs) → T'.xe = some (a, c) →
      Ss (L2H.cxH (L2.CX P w) P w K mg base N qual (defScope st) f cdv A outer s H E (a, oe)) T' (WE0 E) false [] mkN mkB (C.val (.exc c []) :: uns r) (defBody st) (kindB c)) : KindOf P w K mg base T (k + 1) x f := by
  refine ⟨⟨fd, pnm, hb, fun A outer s H args us a oe c Dc Q E hr hpin e0 hbd r0 hc hcl hz hf h => ?_⟩, hg, hF.kp⟩
  have hDc : Dc = cs c := by
    rw [hT] at hcl
    unfold clT at hcl
    rw [if_pos (by omega)] at hcl
    exact (Option.some.inj hcl).symm
  subst hDc
  obtain ⟨oc, od, kV, doc, pm, an, cdv, ct, osl, rfl, lk, hcd⟩ := hF.ex
  have KX : K.In s.heap := e0.mod.kin.keeps fun b o e => (e0.bs b o e).1
  have lim : s.heap.NoLimit := e0.mod.nolimit.keeps fun b o e => (e0.bs b o e).1
  have hkind : ∀ y ∈ [pnm].zip us, (defScope st).names.lookup y.1 = some .local ∨ ((defScope st).names.lookup y.1 = some .cell ∧ ((cellsFrom (s.heap.objs.size + 1) (defScope st).names []).lookup y.1).isSome = true) := fun ⟨n, v⟩ hy => by
    rcases Sc.par n (List.of_mem_zip hy).1 with q | q
    · exact .inl q
    · exact .inr ⟨q, PySem.W.cellsFrom_some _ _ _ (.inl q)⟩
  refine codeAny_call_function hr.depth (KX _ _ lk) rfl Sc.co Sc.gen rfl (PySem.W.codeRec_of KX hcd) (hbd _ _ _ _ ?_)
  refine wpAny_newFunctionEnv_cells Sc.kind hkind fun env he s1 x => ?_
  subst he
  refine ⟨lim.keeps x.toInCall.keep, codeAny_func ?_⟩
  have I : Inv (L2H.cxH (L2.CX P w) P w K mg base N qual (defScope st) f cdv A outer s H E (a, oe)) [] (L2.start N [.ref a]) H s1 := L2H.inv_startH Sc hpin e0 rfl r0 x
  have hst : L2.start N [.ref a] = some (V.ref a) :: List.replicate r none := by
    unfold L2.start
    rw [show N.length - [V.ref a].length = r by rw [hN]; simp]
    rfl
  have Z : SimZ K ⟨fun _ => none, fun _ => none, some (a, c)⟩ ⟨fun _ => none, H, []⟩ (fun _ => none) H (L2.start N [.ref a]) (C.val (.exc c []) :: uns r) := by
    rw [hst]
    refine ⟨⟨fun b o h => (nomatch h), by simp [uns], fun i cc v h1 h2 => ?_, fun i j d e b h1 => ?_⟩, fun b o h _ => h, Same.refl _, fun b _ h => h, fun i d b h1 _ => ?_, fun p hp => nomatch hp⟩
    · cases i with
      | zero =>
        simp at h1 h2
        subst h1 h2
        exact ⟨_, rfl, by unfold Rep; exact ⟨a, rfl, rfl⟩⟩
      | succ i =>
        rw [List.getElem?_cons_succ] at h1
        unfold uns at h1
        rw [List.getElem?_replicate] at h1
        split at h1
        · cases h1; trivial
        · cases h1
    · cases i with
      | zero => simp at h1
      | succ i =>
        rw [List.getElem?_cons_succ] at h1
        unfold uns at h1
        rw [List.getElem?_replicate] at h1
        split at h1 <;> cases h1
    · cases i with
      | zero => simp at h1
      | succ i =>
        rw [List.getElem?_cons_succ] at h1
        unfold uns at h1
        rw [List.getElem?_replicate] at h1
        split at h1 <;> cases h1
  have B := hbody cdv A outer s H E a oe c ⟨fun _ => none, fun _ => none, some (a, c)⟩ hc ⟨Sc.nd, hr.deeper _, bi⟩ hz hf rfl _ _ H _ { nx := fun _ H' => Q .non H', rt := Q } rfl Z (by
    rw [kindB_eq hc]
    intro P1 H1 w1 rz
    have rr := rz.rep
    have e : w1 = strV (kindS c) := by
      have rr : Rep K ⟨fun _ => none, fun _ => none, some (a, c)⟩ P1 (.str (kindS c)) w1 := rr
      unfold Rep at rr; exact rr
    subst e
    exact h H1 fun b o hb => rz.frame b o hb fun p hp => nomatch hp)
  refine wpAny_mono (B [] s1 I) (fun fl s' hs => ?_) fun e s' hs => hs
  have fin : ∀ {σ' : L2.St} {H' : Hp} {v : V} {u : Value}, Inv (L2H.cxH (L2.CX P w) P w K mg base N qual (defScope st) f cdv A outer s H E (a, oe)) [] σ' H' s' → RelV v u → Q v H' → CE outer P w H s Q u s' :=
    fun {σ' H' v u} J rv q => ⟨v, H', J.os, J.bare, J.base, J.hok, rv, q⟩
  cases fl with
  | ret u =>
    obtain ⟨v, σ', H', J, rv, q⟩ := hs
    exact fin J rv q
  | next =>
    obtain ⟨σ', H', J, q⟩ := hs
    exact fin (v := V.non) (u := Value.none) J rfl q
  | brk =>
    obtain ⟨_, _, _, q⟩ := hs
    exact False.elim q
  | cont =>
    obtain ⟨_, _, _, q⟩ := hs
    exact False.elim q
/-! ### facts of the classes -/
theorem kit_of {K : PySem.W.Frag} {a b : Addr} {v : Bool} (h1 : PySem.W.isClsIn K b = true) (h2 : PySem.W.typeIn K (.ref b) = some (.type "type")) (h3 : PySem.W.subIn K (.ref a) (.ref b) = some v) (h4 : PySem.W.subIn K (.ref a) (.ref a) = some true) : PySem.W.kitOne K (.ref a) (.ref b) = some v := by
  have h1 : (PySem.W.clsIn K b).isSome = true := h1
  unfold PySem.W.kitOne
  split
  · rename_i e
    have : a = b := Value.ref.inj (beq_iff_eq.mp e)
    subst this
    rw [h3] at h4
    exact h4.symm
  · show (if ((PySem.W.clsIn K b).isSome && PySem.W.typeIn K (.ref b) == some (.type "type")) = true then PySem.W.subIn K (.ref a) (.ref b) else none) = some v
    rw [h1, h2, if_pos (show (true && some (Value.type "type") == some (.type "type")) = true by decide +kernel)]
    exact h3
theorem kit_ve {K : PySem.W.Frag} {a : Addr} (h : PySem.W.subIn K (.ref a) (.type "ValueError") = some true) : PySem.W.kitOne K (.ref a) (.type "ValueError") = some true := by
  unfold PySem.W.kitOne
  rw [if_neg (fun e => nomatch (beq_iff_eq.mp e : Value.ref a = Value.type "ValueError"))]
  show (if PySem.W.kitMeta "ValueError" = true then PySem.W.subIn K (.ref a) (.type "ValueError") else none) = some true
  rw [if_pos (by decide +kernel)]
  exact h
theorem exm_of4 {K : PySem.W.Frag} {a J : Addr} (h1 : PySem.W.isClsIn K J = true) (h2 : PySem.W.typeIn K (.ref J) = some (.type "type")) (h3 : PySem.W.subIn K (.ref J) (.type "BaseException") = some true) (h4 : PySem.W.subIn K (.ref a) (.ref J) = some true) : PySem.W.exmOne K (.ref a) (.ref J) = some true := by
  have h1 : (PySem.W.clsIn K J).isSome = true := h1
  unfold PySem.W.exmOne
  rw [h3, if_pos (by decide +kernel)]
  show (if ((PySem.W.clsIn K J).isSome && PySem.W.typeIn K (.ref J) == some (.type "type")) = true then PySem.W.subIn K (.ref a) (.ref J) else none) = some true
  rw [h1, h2, if_pos (show (true && some (Value.type "type") == some (.type "type")) = true by decide +kernel)]
  exact h4
end Fj

/-! ## Lay21 -/
namespace Fj
open PySem PySem.Spec PyProof.Rows L2
/-- the law's promise, whatever table is at hand -/
def spE (K : PySem.W.Frag) (fr : Bool) (m : List D → R D) : Sp := fun vs H Q E => ∀ T : Tb, spI K T fr [] 1 (pureM m) vs H Q E
theorem law_endE {K : PySem.W.Frag} {fr : Bool} {m : List D → R D} {H : Hp} {a : Addr} {ns : List Int} (hS : SqL K H a (ns.map V.int)) (h : m [.scr ns] = .ok (.bl true)) :
    spE K fr m [V.ref a] H (fun v _ => v = V.bl true) (fun _ _ _ => False) := fun T => law_end hS h
theorem hcl_of {K : PySem.W.Frag} {mg : Str → Option Value} {T : Tb} {cs : Nat → Addr} {J : Addr} (hT : T.cl = clT cs) (Kn : KnK K mg cs J) : ∀ c C, T.cl c = some C → c < 4 → PySem.W.exmOne K (.ref C) (.ref J) = some true := fun c C h hc => by
  rw [hT] at h
  unfold clT at h
  rw [if_pos (by omega)] at h
  rw [← Option.some.inj h]
  exact Kn.exm c hc
/-! ### defs as values -/
def selE (sel : Nat → Option (List D → R D)) (dF : R D) (dl : R (List D)) : R D := dF.bind fun d => match d with
  | .fn k => (match sel k with
    | some m => dl.bind m
    | none => .bad)
  | _ => .bad
section
variable {X : Cx} {T : Tb} {W : WX} {k j : Nat} {ρ : List C} {a b c e F : Expr} {es : List Expr} {da db dF : R D} {pos p p2 p3 : Pos} {m : Md} {x : Str} {fr : Bool} {i : Nat}
structure SelOk (P : Program) (w : World) (K : PySem.W.Frag) (mg : Str → Option Value) (base : Heap) (T : Tb) (k n : Nat) (f : Addr) (mm : List D → R D) : Prop where
  ex : ∃ fr fd ps, FnOk P w K mg base (L2.CX P w) k f fd ps (spI K T fr [] n (pureM mm)) ∧ Binds K fd ps []
  kp : PySem.W.keepIn K (.ref f) = true
theorem FD.sel {P : Program} {w : World} {K : PySem.W.Frag} {mg : Str → Option Value} {base : Heap} {j k n : Nat} {x : Str} {f : Addr} {mm : List D → R D} (F : FD P w K mg base T j x f fr [] n (pureM mm)) (h : j ≤ k) : SelOk P w K mg base T k n f mm := by
  obtain ⟨fd, ps, F1, B1⟩ := F.ex
  exact ⟨⟨fr, fd, ps, F1.mono h, B1⟩, F.kp⟩
theorem ev_callV {n : Nat} {sel : Nat → Option (List D → R D)} {ds : List (R D)} (g : Gd X k) (tk : Takes X W) (hF : Ev X T W .P ρ F dF) (hs : ∀ kk f mm, T.fn kk = some f → sel kk = some mm → SelOk X.prog X.w X.K X.mg X.base T k n f mm) (ha : EvA X T W ρ (a :: es) (allR ds)) (hn : ds.length = n)
    (heq : eval (.Call F (a :: es) [] pos) X.env = (do callWith pos (← eval F X.env) [] (backTo pos (starEach (a :: es) X.env)) (backToKw pos (keywordEach [] X.env))))
    (he : starEach (a :: es) X.env = (false, eval a X.env) :: starEach es X.env) (hpl : (backTo pos (starEach es X.env)).any (·.1) = false) : Ev X T W .P ρ (.Call F (a :: es) [] pos) (selE sel dF (allR ds)) := fun P H σ Q S q pins s I => by
  rw [heq]
  refine wpAny_bind ?_
  refine thn (hF P H σ (fun v H1 => ∃ f fr fd ps mm, v = .ref f ∧ FnOk X.prog X.w X.K X.mg X.base (L2.CX X.prog X.w) k f fd ps (spI X.K T fr [] n (pureM mm)) ∧ Binds X.K fd ps [] ∧ PySem.W.keepIn X.K (.ref f) = true ∧ wpA X (a :: es) σ H1 (fun ws H2 => spI X.K T fr [] n (pureM mm) ws H2 Q (WE W σ))) S ?_ pins s I) fun u s1 hh => ?_
  · cases dF with
    | ex z => exact fun cls dd H' s' r => q cls dd H' s' r
    | bad => exact q
    | ok d =>
    intro v P1 H1 e1 r1
    cases d with
    | fn kk =>
      have r1 : Rep X.K T P1 (.fn kk) v := r1
      unfold Rep at r1
      obtain ⟨f, h1, rfl⟩ := r1
      have q : Post X.K T W .P P H σ (match sel kk with | some m => (allR ds).bind m | none => .bad) Q := q
      cases hsel : sel kk with
      | none => rw [hsel] at q; exact q.elim
      | some mm =>
        rw [hsel] at q
        obtain ⟨⟨fr, fd, ps, F1, B1⟩, kp⟩ := hs kk f mm h1 hsel
        refine ⟨f, fr, fd, ps, mm, rfl, F1, B1, kp, ?_⟩
        have S1 := S.ext e1
        refine ha P1 H1 σ _ S1 ?_
        have q : Post X.K T W .P P H σ ((allR ds).bind mm) Q := q
        cases hv : allR ds with
        | ex z => rw [hv] at q; exact fun cls dd H' s' r => q cls dd H' (e1.hh.trans s') r
        | bad => rw [hv] at q; exact q
        | ok vs =>
        rw [hv] at q
        intro ws P2 H2 e2 rs
        have S2 := S1.ext e2
        have hl : ws.length = n := by rw [rs.length, allR_len hv, hn]
        refine ⟨hl, P2, vs, ⟨S2.sub, by rw [argC_len, List.length_map, rs.length], fun i c v h1 h2 => sim_args S2.sub 0 rs i c v h1 h2, fun i _ d _ _ h1 => absurd h1 (argC_nil_own 0 i vs d)⟩, ?_⟩
        have q : Post X.K T W .P P H σ (mm vs) Q := q
        unfold pureM
        cases hm : mm vs with
        | bad => rw [hm] at q; exact q
        | ex z =>
          rw [hm] at q
          exact fun cls dd H2 h1 h2 => q cls dd H2 (fun b o e => h1 b o ((e1.hh.trans e2.hh) b o e) fun p hp => nomatch hp) h2
        | ok d =>
          rw [hm] at q
          intro P3 H3 w rz
          have e3 : Ext P2 H2 P3 H3 := ⟨rz.pp, fun b o e => rz.frame b o e (fun p hp => nomatch hp), rz.sub, rz.nw⟩
          have eAll : Ext P H P3 H3 := (e1.trans e2).trans e3
          have rr := rz.rep
          cases fr with
          | false => exact q w P3 H3 eAll rr
          | true =>
            have rr : RepM X.K T .F H2 P3 H3 d w := rr
            unfold RepM at rr
            dsimp only at rr
            split at rr
            · rename_i hc
              obtain ⟨bb, o, rfl, t1, t2, t3, t4⟩ := rr
              have hpp : Same P3 (upd P3 bb o) := same_upd' t2
              refine q _ (upd P3 bb o) H3 ⟨eAll.pp.trans hpp, eAll.hh, fun x z hz => ?_, fun x n1 n2 => ?_⟩ ((rep_own hc).mpr ⟨bb, o, rfl, upd_same, Own.mono hpp t4⟩)
              · by_cases hx : x = bb
                · subst hx; rw [upd_same] at hz; cases hz; exact t3
                · rw [upd_ne hx] at hz; exact eAll.ph _ _ hz
              · have hx : x ≠ bb := fun e => by
                  subst e
                  exact ne_of_same (e1.hh.trans e2.hh) n1 t1
                rw [upd_ne hx]
                exact eAll.nw x n1 n2
            · exact q w P3 H3 eAll rr
    | _ => exact q.elim
  · obtain ⟨v, H1, I1, rv, f, fr, fd, ps, mm, rfl, F1, B1, kp, hA⟩ := hh
    cases rv
    exact PySem.W.callWith_K (h₀ := X.base) I1.ok.mod.kin kp (thn (hA pos pins s1 I1) fun us s2 ⟨vs, H2, I2, r, q2⟩ => ⟨I2.kIn, run_fnS F1 g.room B1 (passAt tk σ) I2 r q2⟩) he hpl
def selL : List (Nat × (List D → R D)) → Nat → Option (List D → R D)
  | [], _ => none
  | (j, m) :: r, k => if k = j then some m else selL r k
def SelAll (P : Program) (w : World) (K : PySem.W.Frag) (mg : Str → Option Value) (base : Heap) (T : Tb) (k n : Nat) (l : List (Nat × (List D → R D))) : Prop := ∀ kk f mm, T.fn kk = some f → selL l kk = some mm → SelOk P w K mg base T k n f mm
theorem sel_nil {P : Program} {w : World} {K : PySem.W.Frag} {mg : Str → Option Value} {base : Heap} {k n : Nat} : SelAll P w K mg base T k n [] := fun _ _ _ _ h => nomatch h
theorem sel_cons {P : Program} {w : World} {K : PySem.W.Frag} {mg : Str → Option Value} {base : Heap} {k n j : Nat} {f : Addr} {mm : List D → R D} {l : List (Nat × (List D → R D))} (hV : T.fn j = some f) (h : SelOk P w K mg base T k n f mm) (hr : SelAll P w K mg base T k n l) : SelAll P w K mg base T k n ((j, mm) :: l) := fun kk f' mm' h1 h2 => by
  unfold selL at h2
  split at h2
  · rename_i e
    subst e
    rw [hV] at h1
    cases h1
    cases h2
    exact h
  · exact hr kk f' mm' h1 h2
/-! ### comprehensions over triples -/
theorem rep3 {K : PySem.W.Frag} {P : Hp} {d d2 d3 : D} {v : V} (r : Rep K T P (.tup [d, d2, d3]) v) : ∃ t u w y, v = .ref t ∧ P t = some (.tup [u, w, y]) ∧ Rep K T P d u ∧ Rep K T P d2 w ∧ Rep K T P d3 y := by
  unfold Rep at r
  obtain ⟨t, vs, rfl, h1, h2⟩ := r
  unfold RepAll at h2
  obtain ⟨u, l, rfl, h3, h4⟩ := h2
  unfold RepAll at h4
  obtain ⟨w, l2, rfl, h5, h6⟩ := h4
  unfold RepAll at h6
  obtain ⟨y, l3, rfl, h7, h8⟩ := h6
  unfold RepAll at h8
  subst h8
  exact ⟨t, u, w, y, rfl, h1, h3, h5, h7⟩
def is3 : D → Bool
  | .tup [_, _, _] => true
  | _ => false
def rho3 (ρ : List C) (i j l : Nat) : D → List C
  | .tup [a, b, c] => ((((((ρ.set l .un).set j .un).set i .un).set i (.val a)).set j (.val b)).set l (.val c))
  | _ => ρ
theorem un3_not {α : Type} {f : D → D → D → R α} {d : D} (h : is3 d = false) : un3 f d = .bad := by
  unfold un3
  split
  · cases h
  · rfl
variable {elt iter : Expr} {y z : Str} {l : Nat}
theorem tgt_nm3 {scope : Scope} {px py pz pt : Pos} {kt : Nat} (gd : Gd X k) (hi : Bn X scope i x) (hj : Bn X scope j y) (hl : Bn X scope l z) (hij : i ≠ j) (hil : i ≠ l) (hjl : j ≠ l) :
    Tgt X scope T (.Tuple [.Name x px, .Name y py, .Name z pz] kt pt) (gTup X.K 3 (gCons (gName i) (gCons (gName j) (gCons (gName l) gNil)))) [i, j, l] ρ is3 (rho3 ρ i j l) := by
  refine ⟨fun s H C cl fp => pg_tup gd.calm (pgs_cons (pg_name gd.nd hi.nm hi.lo hi.fn) (pgs_cons (pg_name gd.nd hj.nm hj.lo hj.fn) (pgs_cons (pg_name gd.nd hl.nm hl.lo hl.fn) pgs_nil rfl) rfl) rfl) rfl rfl, fun d v P H σ Q h S r q => ?_⟩
  unfold is3 at h
  split at h
  · rename_i a b c
    obtain ⟨t, u, w, y, rfl, h3, h4, h5, h6⟩ := rep3 r
    refine ⟨t, _, rfl, .inl (.inl (S.sub _ _ h3)), rfl, _, _, rfl, _, _, rfl, _, _, rfl, rfl, q _ ((((S.wipe [i, j, l]).set i h4).set j h5).set l h6) ?_⟩
    show (((((((σ.set l none).set j none).set i none).set i (some u)).set j (some w)).set l (some y)).set l none |>.set j none).set i none = ((σ.set l none).set j none).set i none
    apply List.ext_getElem?
    intro n
    simp only [List.getElem?_set]
    by_cases h1 : i = n <;> by_cases h2 : j = n <;> by_cases h3 : l = n <;> simp [h1, h2, h3]
  · cases h
theorem evb3 {scope : Scope} {f : D → D → D → R D} (he : ∀ d d2 d3, EvB X scope T ((((((ρ.set l .un).set j .un).set i .un).set i (.val d)).set j (.val d2)).set l (.val d3)) elt (f d d2 d3)) (d : D) : EvB X scope T (rho3 ρ i j l d) elt (un3 f d) := by
  cases h : is3 d with
  | false => intro s H C cl fp P H' σ Q S q; rw [un3_not h] at q; exact q.elim
  | true =>
    unfold is3 at h
    split at h
    · exact he _ _ _
    · cases h
theorem evtb3 {scope : Scope} {f : D → D → D → R Bool} (he : ∀ d d2 d3, EvTB X scope T ((((((ρ.set l .un).set j .un).set i .un).set i (.val d)).set j (.val d2)).set l (.val d3)) elt (f d d2 d3)) (d : D) : EvTB X scope T (rho3 ρ i j l d) elt (un3 f d) := by
  cases h : is3 d with
  | false => intro s H C cl fp P H' σ Q S q; rw [un3_not h] at q; exact q.elim
  | true =>
    unfold is3 at h
    split at h
    · exact he _ _ _
    · cases h
theorem cm_comp3 {it : R (List D)} {f : D → D → D → R D} {scope : Scope} {px py pz pt : Pos} {kt : Nat} (gd : Gd X k) (hij : i ≠ j) (hil : i ≠ l) (hjl : j ≠ l) (hi : Bn X scope i x) (hj : Bn X scope j y) (hl : Bn X scope l z)
    (hB : BlkOk X.N X.env.scope scope [(x, i), (y, j), (z, l)]) (hit : EvIW X T W ρ (.Tuple [.Name x px, .Name y py, .Name z pz] kt pt) iter it) (he : ∀ d d2 d3, EvB X scope T ((((((ρ.set l .un).set j .un).set i .un).set i (.val d)).set j (.val d2)).set l (.val d3)) elt (f d d2 d3)) (hfs : ∀ u, foldedSetIterable iter X.env u = pure u := by intro u; rfl) :
    Cm X T W .F ρ (.ListComp elt [{ target := .Tuple [.Name x px, .Name y py, .Name z pz] kt pt, iter := iter, ifs := [], is_async := 0 }] scope pos) (compE it yesT (un3 f)) :=
  cm_compG gd hit hB (tgt_nm3 gd hi hj hl hij hil hjl) flt_no (evb3 he) (fun d h => .inl ⟨rfl, un3_not h⟩) hfs
theorem cm_comp3F {it : R (List D)} {f : D → D → D → R D} {t : D → D → D → R Bool} {scope : Scope} {px py pz pt : Pos} {kt : Nat} (gd : Gd X k) (hij : i ≠ j) (hil : i ≠ l) (hjl : j ≠ l) (hi : Bn X scope i x) (hj : Bn X scope j y) (hl : Bn X scope l z)
    (hB : BlkOk X.N X.env.scope scope [(x, i), (y, j), (z, l)]) (hit : EvIW X T W ρ (.Tuple [.Name x px, .Name y py, .Name z pz] kt pt) iter it) (ht : ∀ d d2 d3, EvTB X scope T ((((((ρ.set l .un).set j .un).set i .un).set i (.val d)).set j (.val d2)).set l (.val d3)) c (t d d2 d3)) (he : ∀ d d2 d3, EvB X scope T ((((((ρ.set l .un).set j .un).set i .un).set i (.val d)).set j (.val d2)).set l (.val d3)) elt (f d d2 d3)) (hfs : ∀ u, foldedSetIterable iter X.env u = pure u := by intro u; rfl) :
    Cm X T W .F ρ (.ListComp elt [{ target := .Tuple [.Name x px, .Name y py, .Name z pz] kt pt, iter := iter, ifs := [c], is_async := 0 }] scope pos) (compE it (un3 t) (un3 f)) :=
  cm_compG gd hit hB (tgt_nm3 gd hi hj hl hij hil hjl) (flt_one (evtb3 ht)) (evb3 he) (fun d h => .inr (un3_not h)) hfs
end
end Fj

/-! ## Mlib -/
namespace Fj
open PySem
/-! ### mathematics of the mirrors: tools -/
@[simp] theorem pX_ok {S : Type} (d : D) (s : S) : pX (.ok d) s = .ok (d, s) := id rfl
@[simp] theorem pXT_ok {S : Type} (d : Bool) (s : S) : pXT (.ok d) s = .ok (d, s) := id rfl
@[simp] theorem consX_ok {S : Type} (d : D) (s : S) (t : S → R (List D × S)) : consX (.ok (d, s)) t = (t s).bind fun q => .ok (d :: q.1, q.2) := id rfl
@[simp] theorem opX_ok {S : Type} (f : D → D → R D) (d : D) (s : S) (b : S → R (D × S)) : opX f (.ok (d, s)) b = (b s).bind fun q => pX (f d q.1) q.2 := id rfl
@[simp] theorem opXT_ok {S : Type} (f : D → D → R Bool) (d : D) (s : S) (b : S → R (D × S)) : opXT f (.ok (d, s)) b = (b s).bind fun q => pXT (f d q.1) q.2 := id rfl
@[simp] theorem bindX_ok {S β : Type} (d : D) (s : S) (F : D → S → R β) : bindX (.ok (d, s)) F = F d s := id rfl
@[simp] theorem stX_ok {S β : Type} (d : D) (s : S) (F : S → R β) : stX (.ok (d, s)) F = F s := id rfl
@[simp] theorem lstX_ok {S : Type} (d : List D) (s : S) : lstX (.ok (d, s)) = .ok (.lst d, s) := id rfl
@[simp] theorem tupX_ok {S : Type} (d : List D) (s : S) : tupX (.ok (d, s)) = .ok (.tup d, s) := id rfl
@[simp] theorem callX_ok {S : Type} (f : List D → R D) (d : List D) (s : S) : callX f (.ok (d, s)) = pX (f d) s := id rfl
@[simp] theorem op1X_ok {S : Type} (f : D → R D) (d : D) (s : S) : op1X f (.ok (d, s)) = pX (f d) s := id rfl
@[simp] theorem notX_ok {S : Type} (b : Bool) (s : S) : notX (.ok (b, s)) = .ok (!b, s) := id rfl
@[simp] theorem andX_ok {S : Type} (b : Bool) (s : S) (f : S → R (Bool × S)) : andX (.ok (b, s)) f = if b = true then f s else .ok (false, s) := id rfl
@[simp] theorem orX_ok {S : Type} (b : Bool) (s : S) (f : S → R (Bool × S)) : orX (.ok (b, s)) f = if b = true then .ok (true, s) else f s := id rfl
@[simp] theorem ifX_ok {S α : Type} (b : Bool) (s : S) (f g : S → R α) : ifX (.ok (b, s)) f g = if b = true then f s else g s := id rfl
@[simp] theorem truX_ok {S : Type} (d : D) (s : S) : truX (.ok (d, s)) = pXT (truT d) s := id rfl
@[simp] theorem ownX_lst {S S' B : Type} (d : List D) (s : S) (F : D → S → R (Fl S' B)) : ownX (.ok (.lst d, s)) F = F (.lst d) s := id rfl
theorem ioX_ok {S : Type} {mm : List D → R (D × List D)} {q : Nat} {gt : S → D} {up : S → D → S} {ds : List D} {s : S} {d o : D} (h : mm (fillR (gt s) q ds) = .ok (d, [o])) : ioX mm q gt up (.ok (ds, s)) = .ok (d, up s o) := by
  unfold ioX
  show (mm (fillR (gt s) q ds)).bind _ = _
  rw [h]; rfl
/-- a for that goes through -/
theorem forR_ok {α S : Type} (enc : α → D) (J : Nat → S → Prop) {f : D → S → R (Fl S S)} : ∀ {xs : List α} {k : Nat} {s : S}, J k s → (∀ (i : Nat) (x : α) (s : S), xs[i]? = some x → J (k + i) s → ∃ s', f (enc x) s = .ok (.nx s') ∧ J (k + i + 1) s') →
    ∃ s', forR (xs.map enc) s f = .ok (.nx s') ∧ J (k + xs.length) s'
  | [], k, s, h, _ => ⟨s, rfl, h⟩
  | x :: xs, k, s, h, hs => by
    obtain ⟨s1, e1, h1⟩ := hs 0 x s rfl h
    obtain ⟨s2, e2, h2⟩ := forR_ok enc J (xs := xs) (k := k + 1) h1 fun i y s hy hj => by
      have := hs (i + 1) y s (by simpa using hy) (by rw [show k + (i + 1) = k + 1 + i by omega]; exact hj)
      rwa [show k + (i + 1) + 1 = k + 1 + i + 1 by omega] at this
    refine ⟨s2, ?_, by rw [List.length_cons, show k + (xs.length + 1) = k + 1 + xs.length by omega]; exact h2⟩
    rw [List.map_cons]
    unfold forR
    rw [e1]
    exact e2
theorem for_go {α S S' B : Type} (enc : α → D) (J : Nat → S → Prop) {xs : List α} {s : S} {f : D → S → R (Fl S S)} {kk : S → R (Fl S' B)} {X : R (Fl S' B)} (h0 : J 0 s)
    (hs : ∀ (i : Nat) (x : α) (s : S), xs[i]? = some x → J i s → ∃ s', f (enc x) s = .ok (.nx s') ∧ J (i + 1) s') (hk : ∀ s', J xs.length s' → kk s' = X) : aftR (forR (xs.map enc) s f) kk = X := by
  obtain ⟨s', e, hJ⟩ := forR_ok enc J (k := 0) (f := f) h0 fun i x s hx hj => by
    rw [Nat.zero_add] at hj ⊢
    exact hs i x s hx hj
  rw [Nat.zero_add] at hJ
  rw [e]
  exact hk s' hJ
theorem for_gen {α S S' B : Type} (P : R (Fl S' B) → Prop) (enc : α → D) (J : Nat → S → Prop) {xs : List α} {s : S} {f : D → S → R (Fl S S)} {kk : S → R (Fl S' B)} (h0 : J 0 s)
    (hs : ∀ (i : Nat) (x : α) (s : S), xs[i]? = some x → J i s → ∃ s', f (enc x) s = .ok (.nx s') ∧ J (i + 1) s') (hk : ∀ s', J xs.length s' → P (kk s')) : P (aftR (forR (xs.map enc) s f) kk) := by
  obtain ⟨s', e, hJ⟩ := forR_ok enc J (k := 0) (f := f) h0 fun i x s hx hj => by
    rw [Nat.zero_add] at hj ⊢
    exact hs i x s hx hj
  rw [Nat.zero_add] at hJ
  rw [e]
  exact hk s' hJ
theorem big62_of {i : Int} (h0 : -1000000 ≤ i) (h1 : i ≤ 1000000) : big62 i = true := by
  unfold big62
  rw [Bool.and_eq_true]
  exact ⟨decide_eq_true (Int.le_trans (by decide) h0), decide_eq_true (Int.lt_of_le_of_lt h1 (by decide))⟩
theorem insertR_ok {xs : List D} {r : Int} {v : D} (h0 : 0 ≤ r) (h1 : r ≤ 1000000) (hl : xs.length ≤ 99999) : insertR (.lst xs) (.int r) v = .ok (.lst (xs.take r.toNat ++ [v] ++ xs.drop r.toNat)) := by
  show (if 0 ≤ r ∧ big62 r = true ∧ xs.length < most then _ else _) = _
  rw [if_pos ⟨h0, big62_of (by omega) h1, Nat.lt_succ_of_le hl⟩]
def ups (n : Nat) : List Int := (List.range n).map fun k : Nat => (k : Int)
theorem ups_succ (n : Nat) : ups (n + 1) = ups n ++ [(n : Int)] := by unfold ups; rw [List.range_succ, List.map_append]; rfl
theorem ups_len (n : Nat) : (ups n).length = n := by simp [ups]
theorem ups_nodup (n : Nat) : (ups n).Nodup := List.pairwise_map.mpr (List.Pairwise.imp (fun {a b} h e => h (by omega)) List.nodup_range)
theorem mem_ups {n : Nat} {x : Int} : x ∈ ups n ↔ 0 ≤ x ∧ x < n := by
  unfold ups
  rw [List.mem_map]
  constructor
  · rintro ⟨k, hk, rfl⟩
    rw [List.mem_range] at hk
    omega
  · intro h
    exact ⟨x.toNat, by rw [List.mem_range]; omega, by omega⟩
theorem mid_perm {α : Type} (xs : List α) (n : Nat) (v : α) : (xs.take n ++ [v] ++ xs.drop n).Perm (xs ++ [v]) := by
  have h : (xs.take n ++ [v] ++ xs.drop n).Perm (v :: (xs.take n ++ xs.drop n)) := by
    rw [List.append_assoc]
    exact List.perm_middle
  rw [List.take_append_drop] at h
  exact h.trans (List.perm_append_singleton v xs).symm
theorem seq_gen {S' S B : Type} (P : R (Fl S B) → Prop) (J : S' → Prop) {r : R (Fl S' B)} {kk : S' → R (Fl S B)} (h : ∃ s, r = .ok (.nx s) ∧ J s) (hk : ∀ s, J s → P (kk s)) : P (seqR r kk) := by
  obtain ⟨s, e, hJ⟩ := h
  rw [e]
  exact hk s hJ
@[simp] theorem lstE_nil : lstE [] = .ok (.lst []) := id rfl
@[simp] theorem tupE_nil : tupE [] = .ok (.tup []) := id rfl
@[simp] theorem lstE_1 (a : D) : lstE [.ok a] = .ok (.lst [a]) := id rfl
@[simp] theorem tupE_1 (a : D) : tupE [.ok a] = .ok (.tup [a]) := id rfl
@[simp] theorem tupE_2 (a b : D) : tupE [.ok a, .ok b] = .ok (.tup [a, b]) := id rfl
@[simp] theorem tupE_3 (a b c : D) : tupE [.ok a, .ok b, .ok c] = .ok (.tup [a, b, c]) := id rfl
theorem add_lst {a b : List D} (h : a.length + b.length ≤ 100000) : addR (.lst a) (.lst b) = .ok (.lst (a ++ b)) := by
  show (if a.length + b.length ≤ most then _ else _) = _
  rw [if_pos (show _ ≤ most from h)]
theorem add_tup {a b : List D} (h : a.length + b.length ≤ 100000) : addR (.tup a) (.tup b) = .ok (.tup (a ++ b)) := by
  show (if a.length + b.length ≤ most then _ else _) = _
  rw [if_pos (show _ ≤ most from h)]
theorem fm_take {α β : Type} (g : α → List β) (F : List α) (i : Nat) : ((F.take i).flatMap g).length ≤ (F.flatMap g).length := by
  have : (F.flatMap g) = (F.take i).flatMap g ++ (F.drop i).flatMap g := by rw [← List.flatMap_append, List.take_append_drop]
  rw [this, List.length_append]; omega
theorem take_succ_of {α : Type} {xs : List α} {i : Nat} {x : α} (h : xs[i]? = some x) : xs.take (i + 1) = xs.take i ++ [x] := by
  rw [List.take_add_one, h]; rfl
theorem compL_map {α : Type} (enc : α → D) (tb : α → Bool) (g : α → D) {t : D → R Bool} {f : D → R D} : ∀ {xs : List α}, (∀ x ∈ xs, t (enc x) = .ok (tb x)) → (∀ x ∈ xs, tb x = true → f (enc x) = .ok (g x)) → compL t f (xs.map enc) = .ok ((xs.filter tb).map g)
  | [], _, _ => rfl
  | x :: xs, ht, hf => by
    rw [List.map_cons]
    unfold compL
    rw [ht x List.mem_cons_self]
    have ih := compL_map enc tb g (t := t) (f := f) (xs := xs) (fun y hy => ht y (List.mem_cons_of_mem _ hy)) (fun y hy => hf y (List.mem_cons_of_mem _ hy))
    cases h : tb x with
    | false => simp [ih, h]
    | true => simp [ih, h, hf x List.mem_cons_self h]
theorem compE_map {α : Type} (enc : α → D) (tb : α → Bool) (g : α → D) {t : D → R Bool} {f : D → R D} {xs : List α} (hl : xs.length ≤ most) (ht : ∀ x ∈ xs, t (enc x) = .ok (tb x)) (hf : ∀ x ∈ xs, tb x = true → f (enc x) = .ok (g x)) :
    compE (.ok (xs.map enc)) t f = .ok (.lst ((xs.filter tb).map g)) := by
  unfold compE
  rw [R.ok_bind, if_pos (by simpa using hl), compL_map enc tb g ht hf]
  rfl
theorem compE_all {α : Type} (enc : α → D) (g : α → D) {f : D → R D} {xs : List α} (hl : xs.length ≤ most) (hf : ∀ x ∈ xs, f (enc x) = .ok (g x)) :
    compE (.ok (xs.map enc)) yesT f = .ok (.lst (xs.map g)) := by
  rw [compE_map enc (fun _ => true) g hl (fun _ _ => rfl) (fun x hx _ => hf x hx), List.filter_eq_self.mpr (fun _ _ => rfl)]
@[simp] theorem seqsR_lst (xs : List D) : seqsR (.lst xs) = .ok xs := id rfl
@[simp] theorem seqsR_tup (xs : List D) : seqsR (.tup xs) = .ok xs := id rfl
theorem upI_eq (n : Nat) : upI 0 n = (List.range n).map fun k => D.int (k : Nat) := by unfold upI; simp
theorem range1_ok {n : Nat} (h : n ≤ most) : range1R (.int n) = .ok ((List.range n).map fun k => D.int (k : Nat)) := by
  show (if big62 (n : Int) = true then R.ok (upI 0 (n : Int).toNat) else R.bad) = _
  rw [if_pos, Int.toNat_natCast, upI_eq]
  unfold big62
  have : most = 100000 := rfl
  simp; omega
theorem range1_up {n : Nat} (h : n ≤ 100000) : range1R (.int n) = .ok ((List.range n).map fun k : Nat => D.int k) := range1_ok h
end Fj

/-! ## Mset -/
namespace Fj
open PySem
/-! ### sets of pairs of whole numbers -/
def encP (p : Int × Int) : D := .tup [.int p.1, .int p.2]
def prL (p : Int × Int) : List Int := [p.1, p.2]
def unL (k : List Int) : Int × Int := (k.headD 0, (k.drop 1).headD 0)
theorem un_pr (p : Int × Int) : unL (prL p) = p := rfl
def sortP (ps : List (Int × Int)) : List (Int × Int) := (setLex (ps.map prL)).map unL
theorem mem_sortP {q : Int × Int} {ps : List (Int × Int)} : q ∈ sortP ps ↔ q ∈ ps := by
  unfold sortP
  rw [List.mem_map]
  constructor
  · rintro ⟨k, hk, rfl⟩
    rw [mem_setLex, List.mem_map] at hk
    obtain ⟨p, hp, rfl⟩ := hk
    exact hp
  · intro h
    exact ⟨prL q, mem_setLex.mpr (List.mem_map_of_mem h), rfl⟩
theorem sortP_prL (ps : List (Int × Int)) : (sortP ps).map prL = setLex (ps.map prL) := by
  unfold sortP
  rw [List.map_map]
  refine Eq.trans (List.map_congr_left (g := id) fun k hk => ?_) (List.map_id _)
  rw [mem_setLex, List.mem_map] at hk
  obtain ⟨p, _, rfl⟩ := hk
  rfl
theorem nodup_sortP (ps : List (Int × Int)) : (sortP ps).Nodup := by
  have h := (setLex_ss (l := ps.map prL)).nodup
  rw [← sortP_prL] at h
  exact List.Pairwise.imp (fun {a b} h e => h (by rw [e])) (List.pairwise_map.mp h)
theorem sortP_congr {ps qs : List (Int × Int)} (h : ∀ p, p ∈ ps ↔ p ∈ qs) : sortP ps = sortP qs := by
  unfold sortP
  rw [setLex_congr (l' := qs.map prL)]
  intro a
  rw [List.mem_map, List.mem_map]
  constructor <;> rintro ⟨p, hp, rfl⟩
  · exact ⟨p, (h p).mp hp, rfl⟩
  · exact ⟨p, (h p).mpr hp, rfl⟩
theorem tupsI_enc : ∀ ps : List (Int × Int), tupsI (ps.map encP) = some (ps.map prL)
  | [] => rfl
  | p :: ps => by
    show (tupI (encP p)).bind _ = _
    rw [show tupI (encP p) = some (prL p) from rfl]
    show (tupsI (ps.map encP)).map _ = _
    rw [tupsI_enc ps]; rfl
theorem sortSet_enc {ps : List (Int × Int)} (hl : ps.length < 64) (h0 : ∀ p ∈ ps, 0 ≤ p.1 ∧ 0 ≤ p.2) : sortSetR (.lst (ps.map encP)) = .ok (.lst ((sortP ps).map encP)) := by
  unfold sortSetR
  dsimp only
  rw [tupsI_enc, ofO_some, R.ok_bind, if_pos]
  · rw [← sortP_prL, List.map_map]; rfl
  · have hd : (List.headD (ps.map prL) [0]).length = 2 ∨ ps = [] := by cases ps <;> simp [prL]
    rcases hd with hd | rfl
    · rw [hd]
      simp only [Bool.and_eq_true, decide_eq_true_eq, List.length_map, List.all_eq_true]
      refine ⟨⟨hl, fun k hk => ?_⟩, by omega⟩
      obtain ⟨p, hp, rfl⟩ := List.mem_map.mp hk
      have := h0 p hp
      refine ⟨rfl, fun i hi => ?_⟩
      simp [prL] at hi
      rcases hi with rfl | rfl
      · exact this.1
      · exact this.2
    · decide
/-! ### counting -/
theorem sum_sub {α : Type} [DecidableEq α] (h : α → Nat) : ∀ {F U : List α}, F.Nodup → (∀ x ∈ F, x ∈ U) → (F.map h).sum ≤ (U.map h).sum
  | [], _, _, _ => by simp
  | x :: F, U, hn, hs => by
    have hx := hs x List.mem_cons_self
    have hn' := List.nodup_cons.mp hn
    have ih := sum_sub h (F := F) (U := U.erase x) hn'.2 fun y hy => (List.mem_erase_of_ne (fun e => hn'.1 (by rw [← e]; exact hy))).mpr (hs y (List.mem_cons_of_mem _ hy))
    have hp : (U.map h).Perm ((x :: U.erase x).map h) := (List.perm_cons_erase hx).map h
    rw [hp.sum_nat]
    simp only [List.map_cons, List.sum_cons]
    omega
theorem len_sub {α : Type} [DecidableEq α] {F U : List α} (hn : F.Nodup) (hs : ∀ x ∈ F, x ∈ U) : F.length ≤ U.length := by
  have h1 : ∀ G : List α, (G.map fun _ => 1).sum = G.length := fun G => by induction G with | nil => rfl | cons a G ih => simp [ih]; omega
  have := sum_sub (fun _ => 1) hn hs
  rwa [h1, h1] at this
theorem eq_of_len {α : Type} [DecidableEq α] {F U : List α} (hn : F.Nodup) (hu : U.Nodup) (hs : ∀ x ∈ F, x ∈ U) (hl : U.length ≤ F.length) : ∀ x ∈ U, x ∈ F := fun x hx => Classical.byContradiction fun hxF => by
  have := len_sub (F := x :: F) (U := U) (List.nodup_cons.mpr ⟨hxF, hn⟩) fun y hy => by
    rcases List.mem_cons.mp hy with rfl | hy
    · exact hx
    · exact hs y hy
  simp at this; omega
/-- two steps in one -/
def moreP (F : List (Int × Int)) : List (Int × Int) := F.flatMap fun p => (F.filter fun q => decide (q.1 = p.2)).map fun q => (p.1, q.2)
theorem more_len (F : List (Int × Int)) : (moreP F).length = (F.map fun p => (F.filter fun q => decide (q.1 = p.2)).length).sum := by
  unfold moreP
  rw [List.length_flatMap]
  simp
theorem mem_more {F : List (Int × Int)} {r : Int × Int} : r ∈ moreP F ↔ ∃ b, (r.1, b) ∈ F ∧ (b, r.2) ∈ F := by
  unfold moreP
  simp only [List.mem_flatMap, List.mem_map, List.mem_filter, decide_eq_true_eq]
  constructor
  · rintro ⟨p, hp, q, ⟨hq, e⟩, rfl⟩
    exact ⟨p.2, hp, by rw [← e]; exact hq⟩
  · rintro ⟨b, h1, h2⟩
    exact ⟨(r.1, b), h1, (b, r.2), ⟨h2, rfl⟩, rfl⟩
theorem more_le {F U : List (Int × Int)} (hn : F.Nodup) (hs : ∀ x ∈ F, x ∈ U) : (moreP F).length ≤ (moreP U).length := by
  rw [more_len, more_len]
  refine Nat.le_trans ?_ (sum_sub _ hn hs)
  have : ∀ G : List (Int × Int), (G.map fun p => (F.filter fun q => decide (q.1 = p.2)).length).sum ≤ (G.map fun p => (U.filter fun q => decide (q.1 = p.2)).length).sum := by
    intro G
    induction G with
    | nil => simp
    | cons p G ih =>
      simp only [List.map_cons, List.sum_cons]
      have : (F.filter fun q => decide (q.1 = p.2)).length ≤ (U.filter fun q => decide (q.1 = p.2)).length := len_sub (hn.filter _) fun x hx => by
        rw [List.mem_filter] at hx ⊢
        exact ⟨hs x hx.1, hx.2⟩
      omega
  exact this F
/-- the pairs of a row, the earlier ahead -/
def upP : List Int → List (Int × Int)
  | [] => []
  | x :: xs => xs.map (fun y => (x, y)) ++ upP xs
theorem upP_map {f : Int → Int} : ∀ xs : List Int, upP (xs.map f) = (upP xs).map fun p => (f p.1, f p.2)
  | [] => rfl
  | x :: xs => by simp [upP, upP_map xs, List.map_map, Function.comp_def]
theorem mem_upP_mem : ∀ {xs : List Int} {p : Int × Int}, p ∈ upP xs → p.1 ∈ xs ∧ p.2 ∈ xs
  | [], p, h => by simp [upP] at h
  | x :: xs, p, h => by
    rw [upP, List.mem_append, List.mem_map] at h
    rcases h with ⟨y, hy, rfl⟩ | h
    · exact ⟨List.mem_cons_self, List.mem_cons_of_mem _ hy⟩
    · obtain ⟨h1, h2⟩ := mem_upP_mem h
      exact ⟨List.mem_cons_of_mem _ h1, List.mem_cons_of_mem _ h2⟩
theorem upP_trans : ∀ {xs : List Int} {a b c : Int}, xs.Nodup → (a, b) ∈ upP xs → (b, c) ∈ upP xs → (a, c) ∈ upP xs
  | [], a, b, c, _, h, _ => by simp [upP] at h
  | x :: xs, a, b, c, hn, h1, h2 => by
    have hn' := List.nodup_cons.mp hn
    rw [upP, List.mem_append, List.mem_map] at h1 h2 ⊢
    rcases h2 with ⟨y, hy, e⟩ | h2
    · have e1 : x = b := congrArg Prod.fst e
      subst e1
      rcases h1 with ⟨z, hz, e'⟩ | h1
      · have : z = x := congrArg Prod.snd e'
        subst this
        exact absurd hz hn'.1
      · exact absurd (mem_upP_mem h1).2 hn'.1
    · rcases h1 with ⟨z, hz, e'⟩ | h1
      · have e1 : x = a := congrArg Prod.fst e'
        subst e1
        exact .inl ⟨c, (mem_upP_mem h2).2, rfl⟩
      · exact .inr (upP_trans hn'.2 h1 h2)
theorem upP_irrefl : ∀ {xs : List Int} {a : Int}, xs.Nodup → (a, a) ∉ upP xs
  | [], a, _, h => by simp [upP] at h
  | x :: xs, a, hn, h => by
    have hn' := List.nodup_cons.mp hn
    rw [upP, List.mem_append, List.mem_map] at h
    rcases h with ⟨y, hy, e⟩ | h
    · have e1 : x = a := congrArg Prod.fst e
      have e2 : y = a := congrArg Prod.snd e
      rw [e2, ← e1] at hy
      exact hn'.1 hy
    · exact upP_irrefl hn'.2 h
theorem upP_len : ∀ xs : List Int, 2 * (upP xs).length = xs.length * (xs.length - 1)
  | [] => rfl
  | x :: xs => by
    have ih := upP_len xs
    simp only [upP, List.length_append, List.length_map, List.length_cons, Nat.add_sub_cancel]
    rw [Nat.mul_add, ih]
    cases h : xs.length with
    | zero => simp
    | succ n => simp [Nat.add_mul, Nat.mul_add]; omega
theorem sum_ind {a : Int} : ∀ {xs : List Int}, xs.Nodup → (xs.map fun y => if a = y then 1 else 0).sum ≤ 1
  | [], _ => by simp
  | x :: xs, hn => by
    have hn' := List.nodup_cons.mp hn
    simp only [List.map_cons, List.sum_cons]
    by_cases e : a = x
    · subst e
      have : (xs.map fun y => if a = y then 1 else 0) = xs.map fun _ => 0 := List.map_congr_left fun y hy => if_neg fun e => hn'.1 (by rw [e]; exact hy)
      rw [this]
      have : ∀ G : List Int, (G.map fun _ => 0).sum = 0 := fun G => by induction G with | nil => rfl | cons a G ih => simp [ih]
      simp [this]
    · rw [if_neg e, Nat.zero_add]; exact sum_ind hn'.2
theorem sum_cnt {xs : List Int} (hn : xs.Nodup) : ∀ L : List (Int × Int), (xs.map fun y => (L.filter fun q => decide (q.1 = y)).length).sum ≤ L.length
  | [] => by
    have : ∀ G : List Int, (G.map fun _ => 0).sum = 0 := fun G => by induction G with | nil => rfl | cons a G ih => simp [ih]
    simp [this]
  | q :: L => by
    have ih := sum_cnt hn L
    have h2 := sum_ind (a := q.1) hn
    have key : ∀ y, ((q :: L).filter fun q => decide (q.1 = y)).length = (L.filter fun q => decide (q.1 = y)).length + if q.1 = y then 1 else 0 := fun y => by
      rw [List.filter_cons]
      by_cases e : q.1 = y
      · rw [if_pos (decide_eq_true e), if_pos e]; rfl
      · rw [if_neg (by simpa using e), if_neg e]; rfl
    have : ∀ G : List Int, (G.map fun y => ((q :: L).filter fun q => decide (q.1 = y)).length).sum = (G.map fun y => (L.filter fun q => decide (q.1 = y)).length).sum + (G.map fun y => if q.1 = y then 1 else 0).sum := fun G => by
      induction G with
      | nil => rfl
      | cons y G ih =>
        rw [List.map_cons, List.sum_cons, ih, key, List.map_cons, List.sum_cons, List.map_cons, List.sum_cons]
        omega
    rw [this]
    simp only [List.length_cons]
    omega
def c3 : Nat → Nat
  | 0 => 0
  | n + 1 => c3 n + n * (n - 1) / 2
theorem more_upP : ∀ {xs : List Int}, xs.Nodup → (moreP (upP xs)).length ≤ c3 xs.length
  | [], _ => by simp [upP, moreP]
  | x :: xs, hn => by
    have hn' := List.nodup_cons.mp hn
    have ih := more_upP hn'.2
    rw [more_len] at ih ⊢
    have hf : ∀ p : Int × Int, p.2 ∈ xs → ((upP (x :: xs)).filter fun q => decide (q.1 = p.2)) = (upP xs).filter fun q => decide (q.1 = p.2) := fun p hp => by
      rw [upP, List.filter_append]
      have : (List.filter (fun q => decide (q.1 = p.2)) (xs.map fun z => (x, z))) = [] := List.filter_eq_nil_iff.mpr fun q hq => by
        obtain ⟨z, _, rfl⟩ := List.mem_map.mp hq
        simp only [decide_eq_true_eq]
        exact fun e => hn'.1 (by rw [e]; exact hp)
      rw [this, List.nil_append]
    have h1 : ((upP (x :: xs)).map fun p => ((upP (x :: xs)).filter fun q => decide (q.1 = p.2)).length) = (upP (x :: xs)).map fun p => ((upP xs).filter fun q => decide (q.1 = p.2)).length :=
      List.map_congr_left fun p hp => by
        have : p.2 ∈ xs := by
          rw [upP, List.mem_append, List.mem_map] at hp
          rcases hp with ⟨y, hy, rfl⟩ | hp
          · exact hy
          · exact (mem_upP_mem hp).2
        rw [hf p this]
    rw [h1, upP, List.map_append, List.sum_append_nat, List.map_map]
    have h2 := sum_cnt hn'.2 (upP xs)
    have h3 := upP_len xs
    have h4 : (upP xs).length ≤ xs.length * (xs.length - 1) / 2 := by omega
    have h5 : (xs.map ((fun p : Int × Int => ((upP xs).filter fun q => decide (q.1 = p.2)).length) ∘ fun y => (x, y))).sum = (xs.map fun y => ((upP xs).filter fun q => decide (q.1 = y)).length).sum := rfl
    rw [h5]
    show _ ≤ c3 xs.length + xs.length * (xs.length - 1) / 2
    omega
theorem nodup_upP : ∀ {xs : List Int}, xs.Nodup → (upP xs).Nodup
  | [], _ => by simp [upP]
  | x :: xs, hn => by
    have hn' := List.nodup_cons.mp hn
    rw [upP]
    refine List.nodup_append.mpr ⟨?_, nodup_upP hn'.2, fun a ha b hb e => ?_⟩
    · refine List.pairwise_map.mpr (List.Pairwise.imp (fun {a b} h e => h (congrArg Prod.snd e)) hn'.2)
    · subst e
      obtain ⟨y, _, rfl⟩ := List.mem_map.mp ha
      exact hn'.1 (mem_upP_mem hb).1
end Fj

/-! ## Mclo -/
namespace Fj
open PySem
def stepP (F : List (Int × Int)) : List (Int × Int) := sortP (F ++ moreP F)
theorem step_nodup (F : List (Int × Int)) : (stepP F).Nodup := nodup_sortP _
theorem mem_step {F : List (Int × Int)} {r : Int × Int} : r ∈ stepP F ↔ r ∈ F ∨ ∃ b, (r.1, b) ∈ F ∧ (b, r.2) ∈ F := by
  unfold stepP
  rw [mem_sortP, List.mem_append, mem_more]
theorem sortP_sortP (F : List (Int × Int)) : sortP (sortP F) = sortP F := sortP_congr fun p => mem_sortP
theorem step_sorted (F : List (Int × Int)) : sortP (stepP F) = stepP F := sortP_sortP _
/-- closed under two steps -/
def Clo (F : List (Int × Int)) : Prop := ∀ a b c, (a, b) ∈ F → (b, c) ∈ F → (a, c) ∈ F
theorem closure_while {U : List (Int × Int)} {c : D × D → R Bool} {f : D × D → R (Fl (D × D) (D × D))} (hU : ∀ a b c, (a, b) ∈ U → (b, c) ∈ U → (a, c) ∈ U)
    (hc : ∀ (F : List (Int × Int)) (z : Int), c (.lst (F.map encP), .int z) = .ok (!decide (z = F.length)))
    (hf : ∀ (F : List (Int × Int)) (z : Int), F.Nodup → (∀ p ∈ F, p ∈ U) → f (.lst (F.map encP), .int z) = .ok (.nx (.lst ((stepP F).map encP), .int F.length))) :
    ∀ (n : Nat) (F : List (Int × Int)) (z : Int), F.Nodup → (∀ p ∈ F, p ∈ U) → sortP F = F → (z = -1 ∨ ∃ F', F'.Nodup ∧ z = (F'.length : Int) ∧ F = stepP F') → (U.length + 2 ≤ n + F.length ∨ (z = F.length ∧ 1 ≤ n)) →
      ∃ (G : List (Int × Int)) (y : D), whileR n (.lst (F.map encP), .int z) c f = .ok (.nx (.lst (G.map encP), y)) ∧ G.Nodup ∧ (∀ p ∈ G, p ∈ U) ∧ sortP G = G ∧ (∀ p ∈ F, p ∈ G) ∧ Clo G ∧ (∀ (T : List (Int × Int)), Clo T → (∀ p ∈ F, p ∈ T) → ∀ p ∈ G, p ∈ T)
  | 0, F, z, hn, hs, _, _, hm => by
    have := len_sub hn hs
    omega
  | n + 1, F, z, hn, hs, hF, hz, hm => by
    unfold whileR
    rw [hc]
    by_cases e : z = F.length
    · simp only [e, decide_true, Bool.not_true, R.ok_bind, Bool.false_eq_true, if_false]
      refine ⟨F, _, rfl, hn, hs, hF, fun p h => h, fun a b c h1 h2 => ?_, fun T _ h => h⟩
      rcases hz with hz | ⟨F', g1, g2, g3⟩
      · omega
      · have hsub : ∀ p ∈ F', p ∈ F := fun p hp => by rw [g3]; exact mem_step.mpr (.inl hp)
        have hb := eq_of_len g1 hn hsub (by omega)
        rw [g3]
        exact mem_step.mpr (.inr ⟨b, hb _ h1, hb _ h2⟩)
    · simp only [e, decide_false, Bool.not_false, R.ok_bind, if_true]
      rw [hf F z hn hs]
      simp only [R.ok_bind]
      have hs1 : ∀ p ∈ stepP F, p ∈ U := fun p hp => by
        rcases mem_step.mp hp with h | ⟨b, h1, h2⟩
        · exact hs p h
        · exact hU _ _ _ (hs _ h1) (hs _ h2)
      have hle : F.length ≤ (stepP F).length := len_sub hn fun p hp => mem_step.mpr (.inl hp)
      have hl := len_sub hn hs
      obtain ⟨G, y, k1, k2, k3, k4, k5, k6, k7⟩ := closure_while hU hc hf n (stepP F) F.length (step_nodup F) hs1 (step_sorted F) (.inr ⟨F, hn, rfl, rfl⟩) (by
        rcases hm with hm | hm
        · by_cases q : F.length = (stepP F).length
          · exact .inr ⟨by rw [q], by omega⟩
          · exact .inl (by omega)
        · exact absurd hm.1 e)
      refine ⟨G, y, k1, k2, k3, k4, fun p hp => k5 p (mem_step.mpr (.inl hp)), k6, fun T hT h => k7 T hT fun p hp => ?_⟩
      rcases mem_step.mp hp with h' | ⟨b, h1, h2⟩
      · exact h p h'
      · exact hT _ _ _ (h _ h1) (h _ h2)
theorem len_more_bound {row : List Int} (hn : row.Nodup) {F : List (Int × Int)} (hF : F.Nodup) (hs : ∀ p ∈ F, p ∈ upP row) (hl : row.length ≤ 7) : F.length + (moreP F).length < 64 := by
  have h1 := len_sub hF hs
  have h2 := more_le hF hs
  have h3 := more_upP hn
  have h4 := upP_len row
  have h5 : c3 row.length ≤ 35 := by
    have : ∀ n ≤ 7, c3 n ≤ 35 := by decide
    exact this _ hl
  have h6 : row.length * (row.length - 1) ≤ 7 * 6 := Nat.mul_le_mul hl (by omega)
  omega
/-- a def that closes: from the sorted set on -/
theorem closure_fin {row : List Int} {ps : List (Int × Int)} {n : Nat} {c : D × D → R Bool} {f : D × D → R (Fl (D × D) (D × D))} {S' B : Type} {kk : D × D → R (Fl S' B)} {out : R (Fl S' B) → R D} {ex : List (Int × Int) → D} (hn : row.Nodup) (h0 : ∀ x ∈ row, 0 ≤ x) (hl : row.length ≤ 7) (hs : ∀ p ∈ ps, p ∈ upP row) (hfu : 23 ≤ n)
    (hc : ∀ (F : List (Int × Int)) (z : Int), c (.lst (F.map encP), .int z) = .ok (!decide (z = F.length)))
    (hf : ∀ (F : List (Int × Int)) (z : Int), F.length + (moreP F).length < 64 → (∀ p ∈ F, 0 ≤ p.1 ∧ 0 ≤ p.2) → f (.lst (F.map encP), .int z) = .ok (.nx (.lst ((stepP F).map encP), .int F.length)))
    (hk : ∀ G y, out (kk (.lst (G.map encP), y)) = .ok (ex G)) :
    ∃ G : List (Int × Int), out (aftR (whileR n (.lst ((sortP ps).map encP), .int (-1)) c f) kk) = .ok (ex G) ∧ G.Nodup ∧ (∀ p ∈ G, p ∈ upP row) ∧ sortP G = G ∧ (∀ p ∈ ps, p ∈ G) ∧ Clo G ∧ (∀ (T : List (Int × Int)), Clo T → (∀ p ∈ ps, p ∈ T) → ∀ p ∈ G, p ∈ T) := by
  have h7 := upP_len row
  have hU : (upP row).length ≤ 21 := by
    have : row.length * (row.length - 1) ≤ 7 * 6 := Nat.mul_le_mul hl (by omega)
    omega
  have hs1 : ∀ p ∈ sortP ps, p ∈ upP row := fun p hp => hs p (mem_sortP.mp hp)
  obtain ⟨G, y, k1, k2, k3, k4, k5, k6, k7⟩ := closure_while (U := upP row) (c := c) (f := f) (fun a b c => upP_trans hn) hc (fun F z hF hFs => hf F z (len_more_bound hn hF hFs hl) fun p hp => ⟨h0 _ (mem_upP_mem (hFs p hp)).1, h0 _ (mem_upP_mem (hFs p hp)).2⟩) n (sortP ps) (-1) (nodup_sortP _) hs1 (sortP_sortP _) (.inl rfl) (.inl (by omega))
  refine ⟨G, ?_, k2, k3, k4, fun p hp => k5 p (mem_sortP.mpr hp), k6, fun T hT h => k7 T hT fun p hp => h p (mem_sortP.mp hp)⟩
  rw [k1]
  exact hk G y
theorem encP_fit (p : Int × Int) : fitD (encP p) = true := rfl
@[simp] theorem eqR_int (i j : Int) : eqR (.int i) (.int j) = .ok (i == j) := id rfl
@[simp] theorem neR_int (i j : Int) : neR (.int i) (.int j) = .ok (!(i == j)) := id rfl
@[simp] theorem lenR_lst (xs : List D) : lenR (.lst xs) = .ok (.int xs.length) := id rfl
@[simp] theorem lenR_tup (xs : List D) : lenR (.tup xs) = .ok (.int xs.length) := id rfl
end Fj

/-! ## Mord -/
namespace Fj
open PySem
theorem cutL_from {α : Type} (xs : List α) (k : Nat) : cutL xs (some (k : Int)) none = xs.drop k := by
  unfold cutL
  have h1 : sIx xs.length 0 (some (k : Int)) = min k xs.length := by
    unfold sIx
    dsimp only
    rw [if_neg (by omega), Int.toNat_natCast]
  have h2 : sIx xs.length xs.length none = xs.length := rfl
  rw [h1, h2]
  by_cases h : k ≤ xs.length
  · rw [Nat.min_eq_left h, List.take_of_length_le (by rw [List.length_drop]; omega)]
  · rw [Nat.min_eq_right (by omega), Nat.sub_self, List.take_zero, List.drop_eq_nil_of_le (by omega)]
theorem cutE_from_tup {xs : List D} {k : Nat} : cutE (.ok (.tup xs)) (some (.ok (.int k))) none = .ok (.tup (xs.drop k)) := by
  rw [← cutL_from]; exact id rfl
theorem cutE_from_lst {xs : List D} {k : Nat} : cutE (.ok (.lst xs)) (some (.ok (.int k))) none = .ok (.lst (xs.drop k)) := by
  rw [← cutL_from]; exact id rfl
theorem atI_nat {α : Type} {xs : List α} {i : Nat} {x : α} (h : xs[i]? = some x) : atI xs (i : Int) = some x := by
  have hl := (List.getElem?_eq_some_iff.mp h).1
  unfold atI ixN
  rw [if_pos (by omega), if_pos (by omega)]
  simpa using h
theorem idx_tup {xs : List D} {i : Nat} {x : D} (h : xs[i]? = some x) : idxR (.tup xs) (.int i) = .ok x := by
  show ofO (atI xs (i : Int)) = _
  rw [atI_nat h]; rfl
theorem idx_lst {xs : List D} {i : Nat} {x : D} (h : xs[i]? = some x) : idxR (.lst xs) (.int i) = .ok x := by
  show ofO (atI xs (i : Int)) = _
  rw [atI_nat h]; rfl
theorem upP_at : ∀ {row : List Int} {i : Nat} {x y : Int}, row[i]? = some x → y ∈ row.drop (i + 1) → (x, y) ∈ upP row
  | [], i, x, y, h, _ => by simp at h
  | a :: row, 0, x, y, h, hy => by
    simp at h hy
    subst h
    rw [upP, List.mem_append, List.mem_map]
    exact .inl ⟨y, hy, rfl⟩
  | a :: row, i + 1, x, y, h, hy => by
    rw [upP, List.mem_append]
    exact .inr (upP_at (by simpa using h) (by simpa using hy))
theorem appendE_ok {xs : List D} {v : D} (h : xs.length < 100000) : appendE (.lst xs) (.ok v) = .ok (.lst (xs ++ [v])) := by
  show (if xs.length < most then _ else _) = _
  rw [if_pos (show _ < most from h)]
/-- an order as it is drawn -/
structure Ord (n : Nat) (G : List (Int × Int)) : Prop where
  row : ∃ row : List Int, row.Perm (ups n) ∧ ∀ p ∈ G, p ∈ upP row
  srt : sortP G = G
  clo : Clo G
theorem Ord.mem {n : Nat} {G : List (Int × Int)} (h : Ord n G) {p : Int × Int} (hp : p ∈ G) : (0 ≤ p.1 ∧ p.1 < n) ∧ (0 ≤ p.2 ∧ p.2 < n) := by
  obtain ⟨row, hr, hs⟩ := h.row
  have := mem_upP_mem (hs p hp)
  exact ⟨mem_ups.mp (hr.mem_iff.mp this.1), mem_ups.mp (hr.mem_iff.mp this.2)⟩
end Fj

/-! ## Mgrp -/
namespace Fj
/-! ### classes of a map, in the order of their first members -/
section
variable {κ : Type} [DecidableEq κ] (f : Nat → κ)
def fstB (t : Nat) : Bool := (List.range t).all fun u => decide (f u ≠ f t)
def repsL (i : Nat) : List Nat := (List.range i).filter (fstB f)
def clsL (i t : Nat) : List Nat := (List.range i).filter fun o => decide (f o = f t)
variable {f}
theorem fst_iff {t : Nat} : fstB f t = true ↔ ∀ u < t, f u ≠ f t := by
  unfold fstB
  simp
theorem mem_reps {i t : Nat} : t ∈ repsL f i ↔ t < i ∧ ∀ u < t, f u ≠ f t := by
  unfold repsL
  rw [List.mem_filter, List.mem_range, fst_iff]
theorem reps_succ (i : Nat) : repsL f (i + 1) = if fstB f i = true then repsL f i ++ [i] else repsL f i := by
  unfold repsL
  rw [List.range_succ, List.filter_append]
  by_cases h : fstB f i = true
  · rw [if_pos h, List.filter_cons_of_pos h]; rfl
  · rw [if_neg h, List.filter_cons_of_neg h]; simp
theorem cls_succ (i t : Nat) : clsL f (i + 1) t = if f i = f t then clsL f i t ++ [i] else clsL f i t := by
  unfold clsL
  rw [List.range_succ, List.filter_append]
  by_cases h : f i = f t
  · rw [if_pos h, List.filter_cons_of_pos (by simpa using h)]; rfl
  · rw [if_neg h, List.filter_cons_of_neg (by simpa using h)]; simp
theorem reps_inj {i a b : Nat} (ha : a ∈ repsL f i) (hb : b ∈ repsL f i) (h : f a = f b) : a = b := by
  have h1 := (mem_reps.mp ha).2
  have h2 := (mem_reps.mp hb).2
  by_cases c : a < b
  · exact absurd h (h2 a c)
  · by_cases c2 : b < a
    · exact absurd h.symm (h1 b c2)
    · omega
theorem range_split {t i : Nat} (h : t < i) : List.range i = List.range t ++ t :: (List.range i).drop (t + 1) := by
  conv => lhs; rw [← List.take_append_drop t (List.range i)]
  rw [List.take_range, Nat.min_eq_left (by omega)]
  congr 1
  rw [List.drop_eq_getElem_cons (by simpa using h)]
  simp
theorem cls_head {i t : Nat} (h : t ∈ repsL f i) : (clsL f i t)[0]? = some t := by
  obtain ⟨h1, h2⟩ := mem_reps.mp h
  unfold clsL
  rw [range_split h1, List.filter_append]
  have : (List.range t).filter (fun o => decide (f o = f t)) = [] := List.filter_eq_nil_iff.mpr fun u hu => by
    have := h2 u (List.mem_range.mp hu)
    simpa using this
  rw [this, List.nil_append, List.filter_cons_of_pos (by simp)]
  rfl
theorem cls_head_eq {i t : Nat} (h : t < i) : fstB f t = true ↔ (clsL f i t)[0]? = some t := by
  constructor
  · intro hf
    exact cls_head (mem_reps.mpr ⟨h, fst_iff.mp hf⟩)
  · intro hc
    refine fst_iff.mpr fun u hu e => ?_
    unfold clsL at hc
    rw [range_split h, List.filter_append] at hc
    have hm : u ∈ (List.range t).filter (fun o => decide (f o = f t)) := List.mem_filter.mpr ⟨List.mem_range.mpr hu, by simpa using e⟩
    cases hl : (List.range t).filter (fun o => decide (f o = f t)) with
    | nil => rw [hl] at hm; cases hm
    | cons x l =>
      rw [hl] at hc
      have hx : x = t := by simpa using hc
      have : x ∈ (List.range t).filter (fun o => decide (f o = f t)) := by rw [hl]; exact List.mem_cons_self
      have := List.mem_range.mp (List.mem_filter.mp this).1
      omega
theorem filter_one {p : Nat → Bool} {m j : Nat} (hj : j < m) (hp : p j = true) (hu : ∀ k < m, p k = true → k = j) : (List.range m).filter p = [j] := by
  rw [range_split hj, List.filter_append]
  have h1 : (List.range j).filter p = [] := List.filter_eq_nil_iff.mpr fun u hu' h => by
    have h3 := List.mem_range.mp hu'
    have := hu u (by omega) h
    omega
  have h2 : ((List.range m).drop (j + 1)).filter p = [] := List.filter_eq_nil_iff.mpr fun u hu' h => by
    rw [List.mem_iff_getElem?] at hu'
    obtain ⟨n, hn⟩ := hu'
    rw [List.getElem?_drop] at hn
    have hl := (List.getElem?_eq_some_iff.mp hn).1
    rw [List.length_range] at hl
    rw [List.getElem?_range hl] at hn
    have e := Option.some.inj hn
    have := hu u (by omega) h
    omega
  rw [h1, List.filter_cons_of_pos hp, h2]
  rfl
theorem at_inj {α : Type} : ∀ {l : List α} {i j : Nat} {x : α}, l.Nodup → l[i]? = some x → l[j]? = some x → i = j
  | [], i, j, x, _, h, _ => by simp at h
  | a :: l, 0, 0, x, _, _, _ => rfl
  | a :: l, 0, j + 1, x, hn, h1, h2 => by
    simp at h1 h2; subst h1
    exact absurd (List.mem_of_getElem? h2) (List.nodup_cons.mp hn).1
  | a :: l, i + 1, 0, x, hn, h1, h2 => by
    simp at h1 h2; subst h2
    exact absurd (List.mem_of_getElem? h1) (List.nodup_cons.mp hn).1
  | a :: l, i + 1, j + 1, x, hn, h1, h2 => by
    have h1 : l[i]? = some x := by simpa using h1
    have h2 : l[j]? = some x := by simpa using h2
    have := at_inj (List.nodup_cons.mp hn).2 h1 h2
    omega
/-- a thing that is like an earlier one -/
theorem not_first {i : Nat} (h : ¬ fstB f i = true) : ∃ (j t : Nat), (repsL f i)[j]? = some t ∧ f i = f t := by
  have : ∃ u, u < i ∧ f u = f i := by
    apply Classical.byContradiction
    intro hn
    exact h (fst_iff.mpr fun u hu e => hn ⟨u, hu, e⟩)
  obtain ⟨u, hu, e⟩ := this
  have key : ∀ n u, u ≤ n → u < i → f u = f i → ∃ t ∈ repsL f i, f t = f i := by
    intro n
    induction n with
    | zero =>
      intro u h0 h1 h2
      have : u = 0 := by omega
      subst this
      exact ⟨0, mem_reps.mpr ⟨h1, fun v hv => by omega⟩, h2⟩
    | succ n ih =>
      intro u h0 h1 h2
      by_cases hf : ∃ v, v < u ∧ f v = f u
      · obtain ⟨v, hv, e⟩ := hf
        exact ih v (by omega) (by omega) (e.trans h2)
      · exact ⟨u, mem_reps.mpr ⟨h1, fun v hv e => hf ⟨v, hv, e⟩⟩, h2⟩
  obtain ⟨t, ht, e2⟩ := key u u (Nat.le_refl _) hu e
  obtain ⟨j, hj⟩ := List.mem_iff_getElem?.mp ht
  exact ⟨j, t, hj, e2.symm⟩
theorem map_cls_first {i : Nat} (h : fstB f i = true) : (repsL f (i + 1)).map (clsL f (i + 1)) = (repsL f i).map (clsL f i) ++ [[i]] := by
  rw [reps_succ, if_pos h, List.map_append]
  congr 1
  · refine List.map_congr_left fun t ht => ?_
    rw [cls_succ, if_neg (fun e => (fst_iff.mp h) t (mem_reps.mp ht).1 e.symm)]
  · rw [List.map_cons, List.map_nil, cls_succ, if_pos rfl]
    have : clsL f i i = [] := List.filter_eq_nil_iff.mpr fun u hu => by
      have := fst_iff.mp h u (List.mem_range.mp hu)
      simpa using this
    rw [this]; rfl
theorem map_cls_later {i j t : Nat} (h : ¬ fstB f i = true) (hj : (repsL f i)[j]? = some t) (e : f i = f t) : (repsL f (i + 1)).map (clsL f (i + 1)) = ((repsL f i).map (clsL f i)).set j (clsL f i t ++ [i]) := by
  rw [reps_succ, if_neg h]
  apply List.ext_getElem?
  intro k
  rw [List.getElem?_set]
  by_cases hk : j = k
  · subst hk
    rw [if_pos rfl, if_pos (by rw [List.length_map]; exact (List.getElem?_eq_some_iff.mp hj).1), List.getElem?_map, hj]
    show some (clsL f (i + 1) t) = _
    rw [cls_succ, if_pos e]
  · rw [if_neg hk, List.getElem?_map, List.getElem?_map]
    cases hq : (repsL f i)[k]? with
    | none => rfl
    | some u =>
      show some _ = some _
      rw [cls_succ, if_neg]
      intro e2
      have hu := List.mem_of_getElem? hq
      have ht := List.mem_of_getElem? hj
      have := reps_inj hu ht (e2.symm.trans e)
      subst this
      have hnd : (repsL f i).Nodup := List.Pairwise.filter _ List.nodup_range
      exact hk (at_inj hnd hj hq)
end
end Fj

/-! ## Mdp -/
namespace Fj
/-! ### rows gone on with, the fewest of them -/
def IsMin (x : Int) (xs : List Int) : Prop := x ∈ xs ∧ ∀ y ∈ xs, x ≤ y
theorem IsMin.eq {x y : Int} {xs : List Int} (h : IsMin x xs) (h' : IsMin y xs) : x = y := by
  have := h.2 y h'.1
  have := h'.2 x h.1
  omega
theorem minI_min : ∀ {xs : List Int}, xs ≠ [] → IsMin (minI xs) xs
  | [], h => absurd rfl h
  | [x], _ => ⟨by simp [minI], fun y hy => by simp at hy; subst hy; simp [minI]⟩
  | x :: y :: xs, _ => by
    have ih := minI_min (xs := y :: xs) (by simp)
    have e : minI (x :: y :: xs) = min x (minI (y :: xs)) := rfl
    refine ⟨?_, fun z hz => ?_⟩
    · rw [e]
      by_cases h : x ≤ minI (y :: xs)
      · rw [Int.min_eq_left h]; exact List.mem_cons_self
      · rw [Int.min_eq_right (by omega)]; exact List.mem_cons_of_mem _ ih.1
    · rw [e]
      rcases List.mem_cons.mp hz with rfl | hz
      · exact Int.min_le_left ..
      · exact Int.le_trans (Int.min_le_right ..) (ih.2 z hz)
section
variable (fr : Nat → List Nat) (cs : Int → Nat → Int)
def rowsF : Nat → Nat → List (List Nat)
  | 0, _ => [[]]
  | k + 1, m => (fr m).flatMap fun t => (rowsF k (m ||| 1 <<< t)).map (t :: ·)
def jmp : Int → List Nat → Int
  | _, [] => 0
  | l, t :: r => cs l t + jmp t r
def bst (k m : Nat) (l : Int) : Int := minI ((rowsF fr k m).map (jmp cs l))
def cnt (k m : Nat) (l : Int) : Int := (((rowsF fr k m).filter fun r => decide (jmp cs l r = bst fr cs k m l)).length : Nat)
variable {fr cs}
theorem mem_rows_succ {k m : Nat} {r : List Nat} : r ∈ rowsF fr (k + 1) m ↔ ∃ t ∈ fr m, ∃ q ∈ rowsF fr k (m ||| 1 <<< t), r = t :: q := by
  show r ∈ (fr m).flatMap _ ↔ _
  rw [List.mem_flatMap]
  constructor
  · rintro ⟨t, h1, h2⟩
    obtain ⟨q, h3, rfl⟩ := List.mem_map.mp h2
    exact ⟨t, h1, q, h3, rfl⟩
  · rintro ⟨t, h1, q, h3, rfl⟩
    exact ⟨t, h1, List.mem_map_of_mem h3⟩
theorem bst_min {k m : Nat} {l : Int} (h : rowsF fr k m ≠ []) : IsMin (bst fr cs k m l) ((rowsF fr k m).map (jmp cs l)) := minI_min (by simpa using h)
theorem bst_succ {k m : Nat} {l : Int} (hne : fr m ≠ []) (h : ∀ t ∈ fr m, rowsF fr k (m ||| 1 <<< t) ≠ []) :
    bst fr cs (k + 1) m l = minI ((fr m).map fun t => bst fr cs k (m ||| 1 <<< t) t + cs l t) := by
  have h1 : IsMin (minI ((fr m).map fun t => bst fr cs k (m ||| 1 <<< t) t + cs l t)) ((fr m).map fun t => bst fr cs k (m ||| 1 <<< t) t + cs l t) := minI_min (by simpa using hne)
  have h2 : rowsF fr (k + 1) m ≠ [] := fun e => by
    obtain ⟨t, ht⟩ := List.exists_mem_of_ne_nil _ hne
    obtain ⟨q, hq⟩ := List.exists_mem_of_ne_nil _ (h t ht)
    have := mem_rows_succ.mpr ⟨t, ht, q, hq, rfl⟩
    rw [e] at this; cases this
  refine (bst_min h2).eq ⟨?_, fun y hy => ?_⟩
  · obtain ⟨t, ht, e⟩ := List.mem_map.mp h1.1
    obtain ⟨q, hq, e2⟩ := List.mem_map.mp (bst_min (cs := cs) (l := (t : Int)) (h t ht)).1
    refine List.mem_map.mpr ⟨t :: q, mem_rows_succ.mpr ⟨t, ht, q, hq, rfl⟩, ?_⟩
    rw [← e]
    show cs l t + jmp cs t q = _
    rw [e2]; omega
  · obtain ⟨r, hr, rfl⟩ := List.mem_map.mp hy
    obtain ⟨t, ht, q, hq, rfl⟩ := mem_rows_succ.mp hr
    have a := h1.2 _ (List.mem_map_of_mem ht)
    have b := (bst_min (cs := cs) (l := (t : Int)) (h t ht)).2 _ (List.mem_map_of_mem hq)
    show _ ≤ cs l t + jmp cs t q
    omega
theorem bst_le {k m : Nat} {l : Int} (hne : fr m ≠ []) (h : ∀ t ∈ fr m, rowsF fr k (m ||| 1 <<< t) ≠ []) {t : Nat} (ht : t ∈ fr m) : bst fr cs (k + 1) m l ≤ bst fr cs k (m ||| 1 <<< t) t + cs l t := by
  rw [bst_succ hne h]
  exact (minI_min (by simpa using hne)).2 _ (List.mem_map_of_mem (f := fun t => bst fr cs k (m ||| 1 <<< t) t + cs l t) ht)
theorem cnt_part {k m : Nat} {l B : Int} : ∀ {L : List Nat}, (∀ t ∈ L, rowsF fr k (m ||| 1 <<< t) ≠ [] ∧ B ≤ bst fr cs k (m ||| 1 <<< t) t + cs l t) →
    ((((L.flatMap fun t => (rowsF fr k (m ||| 1 <<< t)).map (t :: ·)).filter fun r => decide (jmp cs l r = B)).length : Nat) : Int) = ((L.filter fun t => decide (bst fr cs k (m ||| 1 <<< t) t + cs l t = B)).map fun t => cnt fr cs k (m ||| 1 <<< t) t).sum
  | [], _ => rfl
  | t :: L, h => by
    have ih := cnt_part (L := L) fun u hu => h u (List.mem_cons_of_mem _ hu)
    obtain ⟨h1, h2⟩ := h t List.mem_cons_self
    rw [List.flatMap_cons, List.filter_append, List.length_append, Int.natCast_add, ih, List.filter_map, List.length_map]
    have hm := bst_min (cs := cs) (l := (t : Int)) h1
    by_cases e : bst fr cs k (m ||| 1 <<< t) t + cs l t = B
    · rw [List.filter_cons_of_pos (by simpa using e), List.map_cons, List.sum_cons]
      congr 1
      unfold cnt
      congr 2
      refine List.filter_congr fun r _ => ?_
      show decide (cs l t + jmp cs t r = B) = _
      exact decide_eq_decide.mpr (by omega)
    · rw [List.filter_cons_of_neg (by simpa using e)]
      have z : (rowsF fr k (m ||| 1 <<< t)).filter ((fun r => decide (jmp cs l r = B)) ∘ fun x => t :: x) = [] := by
        refine List.filter_eq_nil_iff.mpr fun r hr => ?_
        have := hm.2 _ (List.mem_map_of_mem hr)
        show ¬ decide (cs l t + jmp cs t r = B) = true
        simp only [decide_eq_true_eq]
        omega
      rw [z]; simp
theorem cnt_succ {k m : Nat} {l : Int} (hne : fr m ≠ []) (h : ∀ t ∈ fr m, rowsF fr k (m ||| 1 <<< t) ≠ []) :
    cnt fr cs (k + 1) m l = (((fr m).filter fun t => decide (bst fr cs k (m ||| 1 <<< t) t + cs l t = bst fr cs (k + 1) m l)).map fun t => cnt fr cs k (m ||| 1 <<< t) t).sum := by
  unfold cnt
  exact cnt_part fun t ht => ⟨h t ht, bst_le hne h ht⟩
end

/-! ### masks -/
theorem bit_shl (a i : Nat) : (1 <<< a).testBit i = decide (a = i) := by
  rw [Nat.one_shiftLeft, Nat.testBit_two_pow]
theorem bit_put (m t i : Nat) : (m ||| 1 <<< t).testBit i = (m.testBit i || decide (t = i)) := by rw [Nat.testBit_or, bit_shl]
/-- what a thing waits for -/
def wn (F : List (Int × Int)) (b : Nat) : Nat := F.foldl (fun acc p => if p.2 = (b : Int) then acc ||| 1 <<< p.1.toNat else acc) 0
theorem wn_snoc (F : List (Int × Int)) (p : Int × Int) (b : Nat) : wn (F ++ [p]) b = if p.2 = (b : Int) then wn F b ||| 1 <<< p.1.toNat else wn F b := by
  unfold wn; rw [List.foldl_append]; rfl
theorem wn_bits (a b : Nat) : ∀ (F : List (Int × Int)) (acc : Nat), (∀ p ∈ F, 0 ≤ p.1) → (F.foldl (fun acc p => if p.2 = (b : Int) then acc ||| 1 <<< p.1.toNat else acc) acc).testBit a = (acc.testBit a || decide (((a : Int), (b : Int)) ∈ F))
  | [], acc, _ => by simp
  | p :: F, acc, h => by
    rw [List.foldl_cons, wn_bits a b F _ fun q hq => h q (List.mem_cons_of_mem _ hq)]
    have h0 := h p List.mem_cons_self
    by_cases e : p.2 = (b : Int)
    · rw [if_pos e, bit_put]
      by_cases g : p.1 = (a : Int)
      · have : p = ((a : Int), (b : Int)) := Prod.ext g e
        subst this
        simp
      · have n1 : ¬ p.1.toNat = a := by omega
        have n2 : ((a : Int), (b : Int)) ≠ p := fun z => g (by rw [← z])
        simp [n1, n2]
    · rw [if_neg e]
      have n2 : ((a : Int), (b : Int)) ≠ p := fun z => e (by rw [← z])
      simp [n2]
theorem wn_bit {F : List (Int × Int)} (h : ∀ p ∈ F, 0 ≤ p.1) (a b : Nat) : (wn F b).testBit a = decide (((a : Int), (b : Int)) ∈ F) := by
  unfold wn; rw [wn_bits a b F 0 h]; simp
theorem and_eq_iff (x m : Nat) : x &&& m = x ↔ ∀ i, x.testBit i = true → m.testBit i = true := by
  constructor
  · intro e i h
    rw [← e, Nat.testBit_and] at h
    exact (Bool.and_eq_true_iff.mp h).2
  · intro h
    refine Nat.eq_of_testBit_eq fun i => ?_
    rw [Nat.testBit_and]
    cases e : x.testBit i with
    | false => rfl
    | true => rw [h i e]; rfl
section
variable (n : Nat) (G : List (Int × Int))
def okB (m t : Nat) : Bool := wn G t &&& m == wn G t
def freeL (m : Nat) : List Nat := (List.range n).filter fun t => !m.testBit t && okB G m t
def thL (m : Nat) : List Nat := (List.range n).filter fun t => m.testBit t
def lowB (m : Nat) : Bool := (thL n m).all fun t => okB G m t
def remN (m : Nat) : Nat := ((List.range n).filter fun t => !m.testBit t).length
variable {n G}
theorem okB_iff (h0 : ∀ p ∈ G, 0 ≤ p.1) {m t : Nat} : okB G m t = true ↔ ∀ a : Nat, ((a : Int), (t : Int)) ∈ G → m.testBit a = true := by
  unfold okB
  rw [beq_iff_eq, and_eq_iff]
  constructor
  · exact fun h a ha => h a (by rw [wn_bit h0]; exact decide_eq_true ha)
  · exact fun h a ha => h a (by rw [wn_bit h0] at ha; exact of_decide_eq_true ha)
theorem mem_free {m t : Nat} : t ∈ freeL n G m ↔ t < n ∧ m.testBit t = false ∧ okB G m t = true := by
  unfold freeL; rw [List.mem_filter, List.mem_range]; simp
theorem mem_th {m t : Nat} : t ∈ thL n m ↔ t < n ∧ m.testBit t = true := by
  unfold thL; rw [List.mem_filter, List.mem_range]
theorem low_iff {m : Nat} : lowB n G m = true ↔ ∀ t < n, m.testBit t = true → okB G m t = true := by
  unfold lowB
  rw [List.all_eq_true]
  exact ⟨fun h t h1 h2 => h t (mem_th.mpr ⟨h1, h2⟩), fun h t ht => h t (mem_th.mp ht).1 (mem_th.mp ht).2⟩
theorem okB_mono (h0 : ∀ p ∈ G, 0 ≤ p.1) {m m' t : Nat} (h : ∀ i, m.testBit i = true → m'.testBit i = true) (ho : okB G m t = true) : okB G m' t = true :=
  (okB_iff h0).mpr fun a ha => h a ((okB_iff h0).mp ho a ha)
theorem low_put (h0 : ∀ p ∈ G, 0 ≤ p.1) {m t : Nat} (hl : lowB n G m = true) (ht : t ∈ freeL n G m) : lowB n G (m ||| 1 <<< t) = true := by
  obtain ⟨h1, h2, h3⟩ := mem_free.mp ht
  have hm : ∀ i, m.testBit i = true → (m ||| 1 <<< t).testBit i = true := fun i hi => by rw [bit_put, hi]; rfl
  refine low_iff.mpr fun u hu hb => okB_mono h0 hm ?_
  rw [bit_put] at hb
  rcases Bool.or_eq_true_iff.mp hb with hb | hb
  · exact low_iff.mp hl u hu hb
  · have := of_decide_eq_true hb; subst this; exact h3
theorem put_off {m t : Nat} (h : m.testBit t = false) : (m ||| 1 <<< t) ^^^ (1 <<< t) = m := by
  refine Nat.eq_of_testBit_eq fun i => ?_
  rw [Nat.testBit_xor, bit_put, bit_shl]
  by_cases e : t = i
  · subst e; simp [h]
  · simp [e]
theorem put_lt {m t : Nat} (h : m < 2 ^ n) (ht : t < n) : m ||| 1 <<< t < 2 ^ n := Nat.or_lt_two_pow h (by rw [Nat.one_shiftLeft]; exact Nat.pow_lt_pow_right (by omega) ht)
theorem lt_put {m t : Nat} (h : m.testBit t = false) : m < m ||| 1 <<< t := by
  have h1 : m ≤ m ||| 1 <<< t := Nat.left_le_or
  have h2 : m ≠ m ||| 1 <<< t := fun e => by
    have := bit_put m t t
    rw [← e, h] at this
    simp at this
  omega
theorem filter_drop_one {p : Nat → Bool} : ∀ {L : List Nat} {t : Nat}, L.Nodup → t ∈ L → p t = true → (L.filter p).length = (L.filter fun u => p u && !decide (t = u)).length + 1
  | [], _, _, h, _ => by cases h
  | u :: L, t, hn, h, hp => by
    obtain ⟨h1, h2⟩ := List.nodup_cons.mp hn
    by_cases e : t = u
    · subst e
      rw [List.filter_cons_of_pos hp, List.filter_cons_of_neg (by simp), List.length_cons]
      congr 2
      refine List.filter_congr fun x hx => ?_
      have : t ≠ x := fun e => h1 (e ▸ hx)
      simp [this]
    · have ht : t ∈ L := by rcases List.mem_cons.mp h with h | h; exact absurd h e; exact h
      have ih := filter_drop_one (p := p) h2 ht hp
      by_cases hu : p u = true
      · rw [List.filter_cons_of_pos hu, List.filter_cons_of_pos (by simp [hu, e]), List.length_cons, List.length_cons, ih]
      · rw [List.filter_cons_of_neg hu, List.filter_cons_of_neg (by simp [hu]), ih]
theorem rem_put {m t : Nat} (ht : t < n) (h : m.testBit t = false) : remN n m = remN n (m ||| 1 <<< t) + 1 := by
  unfold remN
  rw [filter_drop_one (p := fun t => !m.testBit t) List.nodup_range (List.mem_range.mpr ht) (by simp [h])]
  congr 2
  refine List.filter_congr fun u _ => ?_
  rw [bit_put]
  simp
theorem rem_zero : remN n 0 = n := by
  unfold remN
  rw [List.filter_eq_self.mpr (fun a _ => by simp), List.length_range]
theorem rem_none {m : Nat} (h : remN n m = 0) : freeL n G m = [] := by
  unfold remN at h
  have h := List.eq_nil_of_length_eq_zero h
  refine List.filter_eq_nil_iff.mpr fun t ht => ?_
  have := List.filter_eq_nil_iff.mp h t ht
  intro q
  exact this (Bool.and_eq_true_iff.mp q).1
/-- every lower set but the whole has a thing to go on with -/
def Goes (n : Nat) (G : List (Int × Int)) : Prop := ∀ m, lowB n G m = true → remN n m ≠ 0 → freeL n G m ≠ []
theorem rows_ne (h0 : ∀ p ∈ G, 0 ≤ p.1) (hg : Goes n G) : ∀ {k m : Nat}, lowB n G m = true → remN n m = k → rowsF (freeL n G) k m ≠ []
  | 0, m, _, _ => by simp [rowsF]
  | k + 1, m, hl, hr => fun e => by
    obtain ⟨t, ht⟩ := List.exists_mem_of_ne_nil _ (hg m hl (by omega))
    obtain ⟨h1, h2, _⟩ := mem_free.mp ht
    have := rem_put (n := n) h1 h2
    obtain ⟨q, hq⟩ := List.exists_mem_of_ne_nil _ (rows_ne h0 hg (k := k) (low_put h0 hl ht) (by omega))
    have := mem_rows_succ.mpr ⟨t, ht, q, hq, rfl⟩
    rw [e] at this; cases this
end

/-! ### standings -/
section
variable (n : Nat) (G : List (Int × Int))
def down (k : Nat) : List Nat := (List.range k).map fun i => k - i
def standsAt (m : Nat) : List (Nat × Int) := if lowB n G m = true then ((thL n m).filter fun l => lowB n G (m ^^^ 1 <<< l)).map fun l : Nat => (m, (l : Int)) else []
def standsL : List (Nat × Int) := (down (2 ^ n - 1)).flatMap (standsAt n G) ++ [(0, -1)]
variable {n G}
theorem mem_down {k m : Nat} : m ∈ down k ↔ 1 ≤ m ∧ m ≤ k := by
  unfold down
  rw [List.mem_map]
  constructor
  · rintro ⟨i, hi, rfl⟩; rw [List.mem_range] at hi; omega
  · intro h; exact ⟨k - m, by rw [List.mem_range]; omega, by omega⟩
theorem down_desc (k : Nat) : (down k).Pairwise fun a b => b < a := by
  unfold down
  rw [List.pairwise_map]
  refine List.Pairwise.imp_of_mem (fun {a b} ha hb h => ?_) (List.pairwise_lt_range)
  rw [List.mem_range] at ha hb
  omega
theorem mem_standsAt {m : Nat} {s : Nat × Int} : s ∈ standsAt n G m ↔ lowB n G m = true ∧ ∃ l : Nat, l < n ∧ m.testBit l = true ∧ lowB n G (m ^^^ 1 <<< l) = true ∧ s = (m, (l : Int)) := by
  unfold standsAt
  split
  · rename_i h
    rw [List.mem_map]
    constructor
    · rintro ⟨l, hl, rfl⟩
      obtain ⟨h1, h2⟩ := List.mem_filter.mp hl
      exact ⟨h, l, (mem_th.mp h1).1, (mem_th.mp h1).2, h2, rfl⟩
    · rintro ⟨_, l, h1, h2, h3, rfl⟩
      exact ⟨l, List.mem_filter.mpr ⟨mem_th.mpr ⟨h1, h2⟩, h3⟩, rfl⟩
  · rename_i h
    constructor
    · intro q; cases q
    · rintro ⟨q, _⟩; exact absurd q h
theorem stands_low {s : Nat × Int} (h : s ∈ standsL n G) : lowB n G s.1 = true := by
  unfold standsL at h
  rcases List.mem_append.mp h with h | h
  · obtain ⟨m, _, h2⟩ := List.mem_flatMap.mp h
    obtain ⟨h3, l, _, _, _, rfl⟩ := mem_standsAt.mp h2
    exact h3
  · rw [List.mem_singleton] at h
    subst h
    exact low_iff.mpr fun t _ h => by simp at h
theorem stands_lt {s : Nat × Int} (h : s ∈ standsL n G) : s.1 < 2 ^ n ∧ -1 ≤ s.2 ∧ s.2 < n := by
  have hp : 0 < 2 ^ n := Nat.two_pow_pos n
  unfold standsL at h
  rcases List.mem_append.mp h with h | h
  · obtain ⟨m, h1, h2⟩ := List.mem_flatMap.mp h
    obtain ⟨h3, l, h4, _, _, rfl⟩ := mem_standsAt.mp h2
    have := mem_down.mp h1
    exact ⟨by show m < _; omega, by show -1 ≤ (l : Int); omega, by show (l : Int) < n; omega⟩
  · rw [List.mem_singleton] at h
    subst h
    exact ⟨hp, by show (-1 : Int) ≤ -1; omega, by show (-1 : Int) < n; omega⟩
theorem stands_put (h0 : ∀ p ∈ G, 0 ≤ p.1) {m t : Nat} (hl : lowB n G m = true) (hm : m < 2 ^ n) (ht : t ∈ freeL n G m) : (m ||| 1 <<< t, (t : Int)) ∈ standsL n G := by
  obtain ⟨h1, h2, h3⟩ := mem_free.mp ht
  have := put_lt hm h1
  have := lt_put h2
  refine List.mem_append.mpr (.inl (List.mem_flatMap.mpr ⟨m ||| 1 <<< t, mem_down.mpr (by omega), ?_⟩))
  exact mem_standsAt.mpr ⟨low_put h0 hl ht, t, h1, by rw [bit_put]; simp, by rw [put_off h2]; exact hl, rfl⟩
theorem stands_desc : (standsL n G).Pairwise fun a b => b.1 ≤ a.1 := by
  unfold standsL
  rw [List.pairwise_append]
  refine ⟨List.pairwise_flatMap.mpr ⟨fun m _ => ?_, ?_⟩, List.pairwise_singleton _ _, fun a _ b hb => ?_⟩
  · refine List.Pairwise.imp_of_mem (R := fun _ _ => True) (fun {a b} ha hb _ => ?_) (List.pairwise_of_forall (fun _ _ => trivial))
    obtain ⟨_, l, _, _, _, rfl⟩ := mem_standsAt.mp ha
    obtain ⟨_, l', _, _, _, rfl⟩ := mem_standsAt.mp hb
    exact Nat.le_refl _
  · refine List.Pairwise.imp (fun {a b} h x hx y hy => ?_) (down_desc _)
    obtain ⟨_, l, _, _, _, rfl⟩ := mem_standsAt.mp hx
    obtain ⟨_, l', _, _, _, rfl⟩ := mem_standsAt.mp hy
    exact Nat.le_of_lt h
  · rw [List.mem_singleton] at hb; subst hb; exact Nat.zero_le _
theorem stands_nodup : (standsL n G).Nodup := by
  unfold standsL
  refine List.pairwise_append.mpr ⟨List.pairwise_flatMap.mpr ⟨fun m _ => ?_, ?_⟩, List.pairwise_singleton _ _, fun a ha b hb => ?_⟩
  · unfold standsAt
    split
    · refine List.pairwise_map.mpr (List.Pairwise.imp (fun {a b} h e => h ?_) ((List.nodup_range (n := n)).filter _ |>.filter _))
      have := (Prod.mk.inj e).2
      omega
    · exact List.Pairwise.nil
  · refine List.Pairwise.imp (fun {a b} h x hx y hy e => ?_) (down_desc _)
    obtain ⟨_, l, _, _, _, rfl⟩ := mem_standsAt.mp hx
    obtain ⟨_, l', _, _, _, rfl⟩ := mem_standsAt.mp hy
    have := (Prod.mk.inj e).1
    omega
  · obtain ⟨m, h1, h2⟩ := List.mem_flatMap.mp ha
    obtain ⟨_, l, _, _, _, rfl⟩ := mem_standsAt.mp h2
    rw [List.mem_singleton] at hb
    subst hb
    have := mem_down.mp h1
    intro e
    have := (Prod.mk.inj e).1
    omega
theorem ahead_in {α : Type} {L : List α} {R : α → α → Prop} (hp : L.Pairwise R) {i : Nat} {s e : α} (hs : L[i]? = some s) (he : e ∈ L) (hne : e ≠ s) (hR : ¬ R s e) : e ∈ L.take i := by
  obtain ⟨j, hj⟩ := List.mem_iff_getElem?.mp he
  by_cases h : j < i
  · exact List.mem_iff_getElem?.mpr ⟨j, by rw [List.getElem?_take_of_lt h]; exact hj⟩
  · by_cases e2 : j = i
    · subst e2; rw [hs] at hj; exact absurd (Option.some.inj hj).symm hne
    · refine absurd ?_ hR
      obtain ⟨hi', e3⟩ := List.getElem?_eq_some_iff.mp hs
      obtain ⟨hj', e4⟩ := List.getElem?_eq_some_iff.mp hj
      have := List.pairwise_iff_getElem.mp hp i j hi' hj' (by omega)
      rw [e3, e4] at this
      exact this
end
/-! ### the first of the fewest -/
section
variable {fr : Nat → List Nat} {cs : Int → Nat → Int}
def nxtT (fr : Nat → List Nat) (cs : Int → Nat → Int) (k m : Nat) (l : Int) : List Nat := (fr m).filter fun t => decide (bst fr cs k (m ||| 1 <<< t) t + cs l t = bst fr cs (k + 1) m l)
def ffL (fr : Nat → List Nat) (cs : Int → Nat → Int) : Nat → Nat → Int → List Nat
  | 0, _, _ => []
  | k + 1, m, l => (nxtT fr cs k m l).headD 0 :: ffL fr cs k (m ||| 1 <<< (nxtT fr cs k m l).headD 0) ((nxtT fr cs k m l).headD 0 : Nat)
def fewL (fr : Nat → List Nat) (cs : Int → Nat → Int) (k m : Nat) (l : Int) : List (List Nat) := (rowsF fr k m).filter fun r => decide (jmp cs l r = bst fr cs k m l)
theorem nxt_ne {k m : Nat} {l : Int} (hne : fr m ≠ []) (h : ∀ t ∈ fr m, rowsF fr k (m ||| 1 <<< t) ≠ []) : nxtT fr cs k m l ≠ [] := fun e => by
  have h1 : IsMin (minI ((fr m).map fun t => bst fr cs k (m ||| 1 <<< t) t + cs l t)) ((fr m).map fun t => bst fr cs k (m ||| 1 <<< t) t + cs l t) := minI_min (by simpa using hne)
  rw [← bst_succ hne h] at h1
  obtain ⟨t, ht, e2⟩ := List.mem_map.mp h1.1
  have : t ∈ nxtT fr cs k m l := List.mem_filter.mpr ⟨ht, decide_eq_true e2⟩
  rw [e] at this; cases this
theorem head_part {k m : Nat} {l B : Int} {ff : Nat → List Nat} : ∀ {L : List Nat}, (∀ t ∈ L, rowsF fr k (m ||| 1 <<< t) ≠ [] ∧ B ≤ bst fr cs k (m ||| 1 <<< t) t + cs l t ∧ (fewL fr cs k (m ||| 1 <<< t) t).head? = some (ff t)) →
    ∀ t0, (L.filter fun t => decide (bst fr cs k (m ||| 1 <<< t) t + cs l t = B)).head? = some t0 → ((L.flatMap fun t => (rowsF fr k (m ||| 1 <<< t)).map (t :: ·)).filter fun r => decide (jmp cs l r = B)).head? = some (t0 :: ff t0)
  | [], _, t0, h => by cases h
  | t :: L, h, t0, h0 => by
    obtain ⟨h1, h2, h3⟩ := h t List.mem_cons_self
    rw [List.flatMap_cons, List.filter_append, List.filter_map]
    have hm := bst_min (cs := cs) (l := (t : Int)) h1
    by_cases e : bst fr cs k (m ||| 1 <<< t) t + cs l t = B
    · rw [List.filter_cons_of_pos (by simpa using e)] at h0
      have e0 : t = t0 := by simpa using h0
      subst e0
      have z : (rowsF fr k (m ||| 1 <<< t)).filter ((fun r => decide (jmp cs l r = B)) ∘ fun x => t :: x) = fewL fr cs k (m ||| 1 <<< t) t := by
        unfold fewL
        refine List.filter_congr fun r _ => ?_
        show decide (cs l t + jmp cs t r = B) = _
        exact decide_eq_decide.mpr (by omega)
      rw [z, List.head?_append, List.head?_map, h3]
      rfl
    · rw [List.filter_cons_of_neg (by simpa using e)] at h0
      have z : (rowsF fr k (m ||| 1 <<< t)).filter ((fun r => decide (jmp cs l r = B)) ∘ fun x => t :: x) = [] := by
        refine List.filter_eq_nil_iff.mpr fun r hr => ?_
        have := hm.2 _ (List.mem_map_of_mem hr)
        show ¬ decide (cs l t + jmp cs t r = B) = true
        simp only [decide_eq_true_eq]
        omega
      rw [z, List.map_nil, List.nil_append]
      exact head_part (fun u hu => h u (List.mem_cons_of_mem _ hu)) t0 h0
end
theorem head_of_ne {α : Type} {L : List α} {d : α} (h : L ≠ []) : L.head? = some (L.headD d) := by
  cases L with
  | nil => exact absurd rfl h
  | cons a L => rfl
theorem few_head {n : Nat} {G : List (Int × Int)} {cs : Int → Nat → Int} (h0 : ∀ p ∈ G, 0 ≤ p.1) (hg : Goes n G) : ∀ {k m : Nat} {l : Int}, lowB n G m = true → remN n m = k → (fewL (freeL n G) cs k m l).head? = some (ffL (freeL n G) cs k m l)
  | 0, m, l, _, _ => by
    show ([[]].filter fun r => decide (jmp cs l r = bst (freeL n G) cs 0 m l)).head? = _
    rw [List.filter_cons_of_pos (by show decide ((0 : Int) = 0) = true; rfl)]
    rfl
  | k + 1, m, l, hl, hr => by
    have hne := hg m hl (by omega)
    have hrem : ∀ t ∈ freeL n G m, remN n (m ||| 1 <<< t) = k := fun t ht => by
      have := rem_put (n := n) (mem_free.mp ht).1 (mem_free.mp ht).2.1
      omega
    have hrow : ∀ t ∈ freeL n G m, rowsF (freeL n G) k (m ||| 1 <<< t) ≠ [] := fun t ht => rows_ne h0 hg (low_put h0 hl ht) (hrem t ht)
    exact head_part (ff := fun t => ffL (freeL n G) cs k (m ||| 1 <<< t) t) (fun t ht => ⟨hrow t ht, bst_le hne hrow ht, few_head h0 hg (low_put h0 hl ht) (hrem t ht)⟩) _ (head_of_ne (d := 0) (nxt_ne hne hrow))
/-! ### nothing ahead of anything -/
theorem free_nil (n m : Nat) : (freeL n [] m).length = remN n m := by
  unfold freeL remN
  congr 1
  refine List.filter_congr fun t _ => ?_
  have : okB [] m t = true := (okB_iff (G := []) (fun p h => by cases h)).mpr fun a h => by cases h
  rw [this, Bool.and_true]
def fac : Nat → Nat
  | 0 => 1
  | n + 1 => (n + 1) * fac n
theorem sum_const {α : Type} {f : α → Nat} {c : Nat} : ∀ {L : List α}, (∀ x ∈ L, f x = c) → (L.map f).sum = L.length * c
  | [], _ => by simp
  | x :: L, h => by
    rw [List.map_cons, List.sum_cons, sum_const (L := L) fun y hy => h y (List.mem_cons_of_mem _ hy), h x List.mem_cons_self, List.length_cons, Nat.add_mul]
    omega
theorem rows_nil (n : Nat) : ∀ {k m : Nat}, remN n m = k → (rowsF (freeL n []) k m).length = fac k
  | 0, m, _ => rfl
  | k + 1, m, h => by
    show ((freeL n [] m).flatMap _).length = _
    rw [List.length_flatMap, sum_const (c := fac k) fun t ht => ?_, free_nil, h]
    · rfl
    · rw [List.length_map]
      refine rows_nil n ?_
      have := rem_put (n := n) (mem_free.mp ht).1 (mem_free.mp ht).2.1
      omega
theorem goes_nil (n : Nat) : Goes n [] := fun m _ h e => h (by rw [← free_nil, e]; rfl)
end Fj

/-! ## Mcom -/
namespace Fj
open PySem
def ordD (n : Nat) (G : List (Int × Int)) : D := .tup [.int n, .tup (G.map encP)]
theorem idx_ord0 (n : Nat) (G : List (Int × Int)) : idxR (ordD n G) (.int 0) = .ok (.int n) := rfl
theorem idx_ord1 (n : Nat) (G : List (Int × Int)) : idxR (ordD n G) (.int 1) = .ok (.tup (G.map encP)) := rfl
theorem plain_ints : ∀ l : List Int, plainDs (l.map D.int) = true
  | [] => rfl
  | x :: l => by rw [List.map_cons]; unfold plainDs; rw [plain_ints l]; rfl
theorem dep_ints : ∀ l : List Int, depDs (l.map D.int) = 0
  | [] => rfl
  | x :: l => by rw [List.map_cons]; unfold depDs; rw [dep_ints l]; rfl
theorem eq_ints : ∀ a b : List Int, eqDs (a.map D.int) (b.map D.int) = decide (a = b)
  | [], [] => by simp [eqDs]
  | [], _ :: _ => by simp [eqDs]
  | _ :: _, [] => by simp [eqDs]
  | x :: a, y :: b => by
    rw [List.map_cons, List.map_cons]
    unfold eqDs
    rw [eq_ints a b]
    simp [eqD]
    by_cases h1 : x = y <;> by_cases h2 : a = b <;> simp [h1, h2]
theorem range2_up {a b : Int} (h0 : -1000000 ≤ a) (h1 : a ≤ 1000000) (h2 : -1000000 ≤ b) (h3 : b ≤ 1000000) : range2R (.int a) (.int b) = .ok ((List.range (b - a).toNat).map fun k : Nat => D.int (a + k)) := by
  show (if (big62 a && big62 b) = true then _ else _) = _
  rw [big62_of h0 h1, big62_of h2 h3, if_pos (show (true && true) = true from rfl)]; rfl
theorem encs_plain : ∀ G : List (Int × Int), plainDs (G.map encP) = true
  | [] => rfl
  | p :: G => by rw [List.map_cons]; unfold plainDs; rw [encs_plain G]; rfl
theorem encs_dep : ∀ G : List (Int × Int), depDs (G.map encP) ≤ 1
  | [] => by simp [depDs]
  | p :: G => by
    rw [List.map_cons]
    unfold depDs
    have := encs_dep G
    have h2 : depD (encP p) = 1 := rfl
    omega
theorem encs_fit (G : List (Int × Int)) : fitD (.tup (G.map encP)) = true := by
  unfold fitD plainD depD
  rw [encs_plain]
  have := encs_dep G
  simp; omega
theorem idx_enc0 (p : Int × Int) : idxR (encP p) (.int 0) = .ok (.int p.1) := rfl
theorem idx_enc1 (p : Int × Int) : idxR (encP p) (.int 1) = .ok (.int p.2) := rfl
mutual
theorem eqD_refl : ∀ d : D, plainD d = true → eqD d d = true
  | .non, _ => by simp [eqD]
  | .bl b, _ => by simp [eqD]
  | .int i, _ => by simp [eqD]
  | .str s, _ => by simp [eqD]
  | .tup xs, h => by unfold eqD; exact eqDs_refl xs (by simpa [plainD] using h)
  | .lst xs, h => by unfold eqD; exact eqDs_refl xs (by simpa [plainD] using h)
  | .dct _ _, h => by simp [plainD] at h
  | .fn _, h => by simp [plainD] at h
  | .exc _ _, h => by simp [plainD] at h
  | .scr _, h => by simp [plainD] at h
theorem eqDs_refl : ∀ xs : List D, plainDs xs = true → eqDs xs xs = true
  | [], _ => by simp [eqDs]
  | x :: xs, h => by
    unfold plainDs at h
    rw [Bool.and_eq_true] at h
    unfold eqDs
    rw [eqD_refl x h.1, eqDs_refl xs h.2]; rfl
end
theorem ne_self {d : D} (h : fitD d = true) : neR d d = .ok false := by
  unfold neR
  rw [h, eqD_refl d (fit_plain h)]; rfl
theorem eq_self {d : D} (h : fitD d = true) : eqR d d = .ok true := by
  unfold eqR
  rw [h, eqD_refl d (fit_plain h)]; rfl
theorem all_true (n : Nat) : allQ (.lst (List.replicate n (.bl true))) = .ok (.bl true) := by
  have : blsD (List.replicate n (.bl true)) = some (List.replicate n true) := by
    induction n with
    | zero => rfl
    | succ n ih => rw [List.replicate_succ]; unfold blsD; rw [ih]; rfl
  show (ofO (blsD (List.replicate n (.bl true)))).bind (fun bs => R.ok (D.bl (bs.all id))) = _
  rw [this]
  simp
theorem ord_small {n : Nat} {G : List (Int × Int)} (h : Ord n G) (hn : n ≤ 7) : G.length ≤ 21 := by
  obtain ⟨row, hr, hs⟩ := h.row
  have hnd : G.Nodup := by rw [← h.srt]; exact nodup_sortP G
  have h1 := len_sub hnd hs
  have h2 := upP_len row
  have hl : row.length ≤ 7 := by rw [hr.length_eq, ups_len]; exact hn
  have : row.length * (row.length - 1) ≤ 7 * 6 := Nat.mul_le_mul hl (by omega)
  omega

/-! ### in, == -/
theorem ints_fit_t (l : List Int) : fitD (.tup (l.map D.int)) = true := by
  unfold fitD plainD depD
  rw [plain_ints, dep_ints]; rfl
theorem ints_fit_l (l : List Int) : fitD (.lst (l.map D.int)) = true := by
  unfold fitD plainD depD
  rw [plain_ints, dep_ints]; rfl
theorem nats_fit_t (l : List Nat) : fitD (.tup (l.map fun t : Nat => D.int t)) = true := by
  have := ints_fit_t (l.map fun t : Nat => (t : Int))
  rw [List.map_map] at this; exact this
theorem nats_fit_l (l : List Nat) : fitD (.lst (l.map fun t : Nat => D.int t)) = true := by
  have := ints_fit_l (l.map fun t : Nat => (t : Int))
  rw [List.map_map] at this; exact this
theorem eqD_enc (p q : Int × Int) : eqD (encP p) (encP q) = decide (p = q) := by
  obtain ⟨a, b⟩ := p
  obtain ⟨c, d⟩ := q
  have e : eqD (encP (a, b)) (encP (c, d)) = ((a == c) && ((b == d) && true)) := by simp [encP, eqD, eqDs]
  rw [e, Bool.and_true, Bool.eq_iff_iff]
  simp
theorem any_enc (p : Int × Int) : ∀ G : List (Int × Int), (G.map encP).any (fun y => eqD y (encP p)) = decide (p ∈ G)
  | [] => by simp
  | q :: G => by
    rw [List.map_cons, List.any_cons, any_enc p G, eqD_enc, Bool.eq_iff_iff]
    simp only [Bool.or_eq_true, decide_eq_true_eq, List.mem_cons]
    exact ⟨fun h => h.imp_left Eq.symm, fun h => h.imp_left Eq.symm⟩
theorem in_pairs (a b : Int) (G : List (Int × Int)) : inR (.tup [.int a, .int b]) (.tup (G.map encP)) = .ok (decide ((a, b) ∈ G)) := by
  show (if (fitD (.tup [.int a, .int b]) && fitD (.tup (G.map encP))) = true then R.ok ((G.map encP).any fun y => eqD y (encP (a, b))) else _) = _
  rw [encs_fit, show fitD (.tup [.int a, .int b]) = true from rfl, if_pos (show (true && true) = true from rfl), any_enc]
theorem any_nat (x : Nat) : ∀ l : List Nat, (l.map fun t : Nat => D.int t).any (fun y => eqD y (.int x)) = decide (x ∈ l)
  | [] => by simp
  | q :: l => by
    have e : eqD (D.int q) (.int x) = decide (q = x) := by
      rw [show eqD (D.int q) (.int x) = ((q : Int) == (x : Int)) by simp [eqD], Bool.eq_iff_iff]
      simp only [beq_iff_eq, decide_eq_true_eq]; omega
    rw [List.map_cons, List.any_cons, any_nat x l, e, Bool.eq_iff_iff]
    simp only [Bool.or_eq_true, decide_eq_true_eq, List.mem_cons]
    exact ⟨fun h => h.imp_left Eq.symm, fun h => h.imp_left Eq.symm⟩
theorem in_nats_t (x : Nat) (l : List Nat) : inR (.int x) (.tup (l.map fun t : Nat => D.int t)) = .ok (decide (x ∈ l)) := by
  show (if (fitD (.int x) && fitD (.tup (l.map fun t : Nat => D.int t))) = true then R.ok ((l.map fun t : Nat => D.int t).any fun y => eqD y (.int x)) else _) = _
  rw [nats_fit_t, show fitD (.int x) = true from rfl, if_pos (show (true && true) = true from rfl), any_nat]
theorem in_nats_l (x : Nat) (l : List Nat) : inR (.int x) (.lst (l.map fun t : Nat => D.int t)) = .ok (decide (x ∈ l)) := by
  show (if (fitD (.int x) && fitD (.lst (l.map fun t : Nat => D.int t))) = true then R.ok ((l.map fun t : Nat => D.int t).any fun y => eqD y (.int x)) else _) = _
  rw [nats_fit_l, show fitD (.int x) = true from rfl, if_pos (show (true && true) = true from rfl), any_nat]
theorem bls_map {α : Type} (f : α → Bool) : ∀ xs : List α, blsD (xs.map fun x => .bl (f x)) = some (xs.map f)
  | [] => rfl
  | x :: xs => by rw [List.map_cons]; unfold blsD; rw [bls_map f xs]; rfl
theorem all_map {α : Type} (f : α → Bool) (xs : List α) : allQ (.lst (xs.map fun x => .bl (f x))) = .ok (.bl (xs.all f)) := by
  show (ofO (blsD (xs.map fun x => .bl (f x)))).bind (fun bs => R.ok (D.bl (bs.all id))) = _
  rw [bls_map]
  simp [Function.comp_def]
theorem ints_map {α : Type} (f : α → Int) : ∀ xs : List α, intsD (xs.map fun x => .int (f x)) = some (xs.map f)
  | [] => rfl
  | x :: xs => by rw [List.map_cons]; unfold intsD; rw [ints_map f xs]; rfl
theorem min_map {α : Type} (f : α → Int) {xs : List α} (h : xs ≠ []) : minR (.lst (xs.map fun x => .int (f x))) = .ok (.int (minI (xs.map f))) := by
  show (ofO (intsD (xs.map fun x => .int (f x)))).bind (fun ns => if ns.isEmpty then R.bad else R.ok (D.int (minI ns))) = _
  rw [ints_map]
  simp [h]
theorem sum_map {α : Type} (f : α → Int) (xs : List α) : sumR (.lst (xs.map fun x => .int (f x))) = .ok (.int (xs.map f).sum) := by
  show (ofO (intsD (xs.map fun x => .int (f x)))).bind (fun ns => R.ok (D.int ns.sum)) = _
  rw [ints_map]
  rfl
/-! ### bits -/
@[simp] theorem shl_one (t : Nat) (h : t ≤ 1000) : shlR (.int 1) (.int t) = .ok (.int (1 <<< t : Nat)) := by
  show (if (small 1 && decide (0 ≤ (t : Int)) && decide ((t : Int) ≤ 1000)) = true then R.ok (D.int (1 * 2 ^ (t : Int).toNat)) else .bad) = _
  have h2 : (t : Int) ≤ 1000 := by omega
  have h3 : (0 : Int) ≤ t := by omega
  rw [if_pos (by simp [h2, h3]; rfl), Int.toNat_natCast, Nat.one_shiftLeft, Int.one_mul, Int.natCast_pow]
  rfl
theorem bor_nat (a b : Nat) : borR (.int a) (.int b) = .ok (.int (a ||| b : Nat)) := by
  show (if (decide (0 ≤ (a : Int)) && decide (0 ≤ (b : Int))) = true then R.ok (D.int ((a : Int).toNat ||| (b : Int).toNat : Nat)) else .bad) = _
  rw [if_pos (by simp)]; rfl
theorem band_nat (a b : Nat) : bandR (.int a) (.int b) = .ok (.int (a &&& b : Nat)) := by
  show (if (decide (0 ≤ (a : Int)) && decide (0 ≤ (b : Int))) = true then R.ok (D.int ((a : Int).toNat &&& (b : Int).toNat : Nat)) else .bad) = _
  rw [if_pos (by simp)]; rfl
theorem bxor_nat (a b : Nat) : bxorR (.int a) (.int b) = .ok (.int (a ^^^ b : Nat)) := by
  show (if (decide (0 ≤ (a : Int)) && decide (0 ≤ (b : Int))) = true then R.ok (D.int ((a : Int).toNat ^^^ (b : Int).toNat : Nat)) else .bad) = _
  rw [if_pos (by simp)]; rfl
theorem shr_nat (a t : Nat) : shrR (.int a) (.int t) = .ok (.int (a / 2 ^ t : Nat)) := by
  show (if 0 ≤ (t : Int) then R.ok (D.int ((a : Int) / 2 ^ (t : Int).toNat)) else .bad) = _
  rw [if_pos (by omega), Int.toNat_natCast]
  rfl
theorem bit_of (a t : Nat) : a / 2 ^ t &&& 1 = if a.testBit t then 1 else 0 := by
  rw [Nat.and_one_is_mod, Nat.testBit_eq_decide_div_mod_eq]
  have : a / 2 ^ t % 2 < 2 := Nat.mod_lt _ (by decide)
  by_cases h : a / 2 ^ t % 2 = 1
  · simp [h]
  · have h2 : a / 2 ^ t % 2 = 0 := by omega
    simp [h2]
@[simp] theorem bandR_bit (a t : Nat) : (op2 bandR (op2 shrR (R.ok (.int a)) (R.ok (.int t))) (R.ok (.int 1))) = .ok (.int (if a.testBit t then 1 else 0)) := by
  rw [op2_ok, shr_nat, op2_ok, show (1 : Int) = ((1 : Nat) : Int) from rfl, band_nat, bit_of]
  split <;> rfl
@[simp] theorem eqR_nat (i j : Nat) : eqR (.int i) (.int j) = .ok (i == j) := by
  rw [eqR_int]
  congr 1
  rw [Bool.eq_iff_iff]; simp
  omega
/-! ### lists -/
theorem mul_rep {xs : List D} {n : Nat} (hn : n ≤ 1000) (hx : xs.length ≤ 100) : mulR (.lst xs) (.int n) = .ok (.lst (List.replicate n xs).flatten) := by
  have h1 : small (n : Int) = true := by unfold small; simp; omega
  have h2 : ((n : Int)) < 2 ^ 60 := by omega
  have h3 : -(2 ^ 60) < (n : Int) := by omega
  have h5 : xs.length * n ≤ 100 * 1000 := Nat.mul_le_mul hx hn
  have h4 : (xs.length * (n : Int).toNat ≤ most) := by rw [Int.toNat_natCast]; exact h5
  have hc : (small (n : Int) && decide (xs.length * (n : Int).toNat ≤ most) && decide ((n : Int) < 2 ^ 60) && decide (-(2 ^ 60) < (n : Int))) = true := by
    rw [h1, decide_eq_true h2, decide_eq_true h3, decide_eq_true h4]; rfl
  unfold mulR
  dsimp only
  rw [if_pos hc, Int.toNat_natCast]
theorem mul_zeros {n : Nat} (hn : n ≤ 1000) : mulR (.lst [.int 0]) (.int n) = .ok (.lst ((List.range n).map fun b => D.int (wn [] b : Nat))) := by
  rw [mul_rep hn (by simp), List.flatten_replicate_singleton]
  congr 2
  rw [show (fun b : Nat => D.int (wn [] b : Nat)) = fun _ => D.int 0 from rfl, List.map_const', List.length_range]
theorem ixN_nat {n i : Nat} (h : i < n) : ixN n (i : Int) = some i := by
  unfold ixN
  rw [if_pos (by omega), if_pos (by omega), Int.toNat_natCast]
theorem set_lst {xs : List D} {i : Nat} {v : D} (h : i < xs.length) : setR (.lst xs) (.int i) v = .ok (.lst (xs.set i v)) := by
  show (ofO (ixN xs.length (i : Int))).bind (fun j => R.ok (D.lst (xs.set j v))) = _
  rw [ixN_nat h]; rfl
theorem set_range {α : Type} {n b : Nat} (hb : b < n) {f : Nat → α} {v : α} : ((List.range n).map f).set b v = (List.range n).map fun x => if x = b then v else f x := by
  refine List.ext_getElem (by simp) fun i h1 h2 => ?_
  rw [List.getElem_set, List.getElem_map, List.getElem_map, List.getElem_range]
  by_cases e : b = i
  · rw [if_pos e, if_pos e.symm]
  · rw [if_neg e, if_neg (fun q => e q.symm)]
theorem rangeD_down {k : Nat} (hk : k ≤ 100000) : rangeDR (.int k) (.int 0) = .ok ((down k).map fun m : Nat => D.int m) := by
  show (if (big62 (k : Int) && big62 0) = true then R.ok (downI (k : Int) ((k : Int) - 0).toNat) else .bad) = _
  rw [big62_of (by omega) (by omega)]
  show R.ok (downI (k : Int) ((k : Int) - 0).toNat) = _
  rw [Int.sub_zero, Int.toNat_natCast]
  unfold downI down
  rw [List.map_map]
  congr 1
  refine List.map_congr_left fun i hi => ?_
  rw [List.mem_range] at hi
  show D.int ((k : Int) - (i : Int)) = D.int ((k - i : Nat) : Int)
  congr 1
  omega
theorem fm_bound {α β : Type} {f : α → List β} {c : Nat} : ∀ {L : List α}, (∀ x ∈ L, (f x).length ≤ c) → (L.flatMap f).length ≤ L.length * c
  | [], _ => Nat.zero_le _
  | x :: L, h => by
    have := fm_bound (L := L) fun y hy => h y (List.mem_cons_of_mem _ hy)
    have := h x List.mem_cons_self
    rw [List.flatMap_cons, List.length_append, List.length_cons, Nat.add_mul]
    omega
theorem extendE_ok {xs ys : List D} (h : xs.length + ys.length ≤ 100000) : extendE (.lst xs) (.ok (.lst ys)) = .ok (.lst (xs ++ ys)) := by
  show (if xs.length + ys.length ≤ most then _ else _) = _
  rw [if_pos (show _ ≤ most from h)]
theorem eq_nil {l : List Nat} : eqR (.lst (l.map fun t : Nat => D.int t)) (.lst []) = .ok (decide (l = [])) := by
  show (if (fitD (.lst (l.map fun t : Nat => D.int t)) && fitD (.lst [])) = true then R.ok (eqD (.lst (l.map fun t : Nat => D.int t)) (.lst [])) else _) = _
  rw [nats_fit_l]
  show R.ok (eqD (.lst (l.map fun t : Nat => D.int t)) (.lst [])) = _
  cases l with
  | nil => simp [eqD, eqDs]
  | cons a l => simp [eqD, eqDs]
theorem ne_nil {l : List Nat} (h : l ≠ []) : neR (.lst (l.map fun t : Nat => D.int t)) (.lst []) = .ok true := by
  show (if (fitD (.lst (l.map fun t : Nat => D.int t)) && fitD (.lst [])) = true then R.ok (!eqD (.lst (l.map fun t : Nat => D.int t)) (.lst [])) else _) = _
  rw [nats_fit_l]
  show R.ok (!eqD (.lst (l.map fun t : Nat => D.int t)) (.lst [])) = _
  cases l with
  | nil => exact absurd rfl h
  | cons a l => simp [eqD, eqDs]
/-! ### comprehensions with a state -/
theorem compS_gen {α S : Type} (enc : α → D) (J : Nat → List D → S → Prop) {f : D → S → R (Option D × S)} : ∀ {xs : List α} {k : Nat} {acc : List D} {s : S}, J k acc s →
    (∀ (i : Nat) (x : α) (acc : List D) (s : S), xs[i]? = some x → J (k + i) acc s → ∃ o s', f (enc x) s = .ok (o, s') ∧ J (k + i + 1) (acc ++ o.toList) s') →
    ∃ ys s', compS f (xs.map enc) s = .ok (ys, s') ∧ J (k + xs.length) (acc ++ ys) s'
  | [], k, acc, s, h, _ => ⟨[], s, rfl, by rw [List.append_nil]; exact h⟩
  | x :: xs, k, acc, s, h, hs => by
    obtain ⟨o, s1, e1, h1⟩ := hs 0 x acc s rfl h
    obtain ⟨ys, s2, e2, h2⟩ := compS_gen enc J (f := f) (xs := xs) (k := k + 1) h1 fun i y acc s hy hj => by
      have := hs (i + 1) y acc s (by simpa using hy) (by rw [show k + (i + 1) = k + 1 + i by omega]; exact hj)
      rwa [show k + (i + 1) + 1 = k + 1 + i + 1 by omega] at this
    refine ⟨o.toList ++ ys, s2, ?_, by rw [List.length_cons, show k + (xs.length + 1) = k + 1 + xs.length by omega, ← List.append_assoc]; exact h2⟩
    rw [List.map_cons]
    unfold compS
    rw [e1]
    simp only [R.nox_ok, R.ok_bind]
    rw [e2]
    cases o <;> rfl
theorem compX_gen {α S : Type} (enc : α → D) (J : Nat → List D → S → Prop) {f : D → S → R (Option D × S)} {xs : List α} {s : S} (hl : xs.length ≤ 100000) (h0 : J 0 [] s)
    (hs : ∀ (i : Nat) (x : α) (acc : List D) (s : S), xs[i]? = some x → J i acc s → ∃ o s', f (enc x) s = .ok (o, s') ∧ J (i + 1) (acc ++ o.toList) s') :
    ∃ ys s', compX (.ok (xs.map enc)) f s = .ok (.lst ys, s') ∧ J xs.length ys s' := by
  obtain ⟨ys, s', e, h⟩ := compS_gen enc J (f := f) (k := 0) (acc := []) h0 fun i x acc s hx hj => by
    rw [Nat.zero_add] at hj ⊢
    exact hs i x acc s hx hj
  rw [Nat.zero_add, List.nil_append] at h
  refine ⟨ys, s', ?_, h⟩
  unfold compX
  rw [R.ok_bind, if_pos (by rw [List.length_map]; exact hl), e]
  rfl
theorem popL_ok {S : Type} {gt : S → D} {up : S → D → S} {s s1 : S} {r : R (D × S)} {k : Nat} {xs xs0 : List D} {y : D} (h0 : gt s = .lst xs0) (hr : r = .ok (.int k, s1)) (h1 : gt s1 = .lst xs) (hk : k ≤ 1000000) (hy : xs[k]? = some y) :
    popL gt up s r = .ok (y, up s1 (.lst (xs.eraseIdx k))) := by
  unfold popL
  rw [h0]
  show popX gt up r = _
  unfold popX
  rw [hr, R.ok_bind]
  dsimp only
  rw [h1]
  have hl : k < xs.length := (List.getElem?_eq_some_iff.mp hy).1
  show ((if big62 (k : Int) = true then (ofO (ixN xs.length (k : Int))).bind fun j => (ofO xs[j]?).bind fun y => R.ok (y, D.lst (xs.eraseIdx j)) else .bad)).bind _ = _
  rw [big62_of (by omega) (by omega), if_pos rfl, ixN_nat hl, ofO_some, R.ok_bind, hy]
  rfl
theorem erase_perm {α : Type} : ∀ {xs : List α} {k : Nat} {y : α}, xs[k]? = some y → (y :: xs.eraseIdx k).Perm xs
  | [], k, y, h => by simp at h
  | x :: xs, 0, y, h => by simp at h; subst h; exact List.Perm.refl _
  | x :: xs, k + 1, y, h => by
    have ih := erase_perm (xs := xs) (k := k) (y := y) (by simpa using h)
    rw [List.eraseIdx_cons_succ]
    exact (List.Perm.swap x y _).trans (List.Perm.cons x ih)
theorem compX_go {α S : Type} (P : R (D × S) → Prop) (enc : α → D) (J : Nat → List D → S → Prop) {f : D → S → R (Option D × S)} {xs : List α} {s : S} (hl : xs.length ≤ 100000) (h0 : J 0 [] s)
    (hs : ∀ (i : Nat) (x : α) (acc : List D) (s : S), xs[i]? = some x → J i acc s → ∃ o s', f (enc x) s = .ok (o, s') ∧ J (i + 1) (acc ++ o.toList) s') (hk : ∀ ys s', J xs.length ys s' → P (.ok (.lst ys, s'))) : P (compX (.ok (xs.map enc)) f s) := by
  obtain ⟨ys, s', e, h⟩ := compX_gen enc J (f := f) hl h0 hs
  rw [e]
  exact hk ys s' h
theorem erase_map {α β : Type} (f : α → β) : ∀ (xs : List α) (k : Nat), (xs.map f).eraseIdx k = (xs.eraseIdx k).map f
  | [], _ => rfl
  | x :: xs, 0 => rfl
  | x :: xs, k + 1 => by rw [List.map_cons, List.eraseIdx_cons_succ, List.eraseIdx_cons_succ, List.map_cons, erase_map f xs k]
/-! ### an order's lower sets go on -/
theorem upP_before : ∀ {pre post : List Int} {x a : Int}, (pre ++ x :: post).Nodup → (a, x) ∈ upP (pre ++ x :: post) → a ∈ pre
  | [], post, x, a, hn, h => by
    have h : (a, x) ∈ post.map (fun y => (x, y)) ++ upP post := h
    obtain ⟨h1, _⟩ := List.nodup_cons.mp hn
    rcases List.mem_append.mp h with h | h
    · obtain ⟨y, hy, e⟩ := List.mem_map.mp h
      have e2 := (Prod.mk.inj e).2
      subst e2; exact absurd hy h1
    · exact absurd (mem_upP_mem h).2 h1
  | b :: pre, post, x, a, hn, h => by
    have h : (a, x) ∈ (pre ++ x :: post).map (fun y => (b, y)) ++ upP (pre ++ x :: post) := h
    rcases List.mem_append.mp h with h | h
    · obtain ⟨y, hy, e⟩ := List.mem_map.mp h
      rw [← (Prod.mk.inj e).1]; exact List.mem_cons_self
    · exact List.mem_cons_of_mem _ (upP_before (List.nodup_cons.mp hn).2 h)
theorem first_not {α : Type} (p : α → Bool) : ∀ {xs : List α}, (∃ x ∈ xs, p x = false) → ∃ pre x post, xs = pre ++ x :: post ∧ p x = false ∧ ∀ y ∈ pre, p y = true
  | [], h => by obtain ⟨x, h, _⟩ := h; cases h
  | x :: xs, h => by
    cases e : p x with
    | false => exact ⟨[], x, xs, rfl, e, fun y h => nomatch h⟩
    | true =>
      obtain ⟨y, hy, h2⟩ := h
      have hy : y ∈ xs := by
        rcases List.mem_cons.mp hy with rfl | hy
        · rw [e] at h2; cases h2
        · exact hy
      obtain ⟨pre, z, post, rfl, h3, h4⟩ := first_not p ⟨y, hy, h2⟩
      refine ⟨x :: pre, z, post, rfl, h3, fun w hw => ?_⟩
      rcases List.mem_cons.mp hw with rfl | hw
      · exact e
      · exact h4 w hw
theorem goes_ok {n : Nat} {G : List (Int × Int)} (h : Ord n G) : Goes n G := fun m hl hr => by
  have h0 : ∀ p ∈ G, 0 ≤ p.1 := fun p hp => (h.mem hp).1.1
  obtain ⟨row, hp, hs⟩ := h.row
  have hnd : row.Nodup := hp.nodup_iff.mpr (ups_nodup n)
  obtain ⟨t, ht⟩ : ∃ t, t ∈ (List.range n).filter fun t => !m.testBit t := List.exists_mem_of_length_pos (by unfold remN at hr; omega)
  obtain ⟨ht1, ht2⟩ := List.mem_filter.mp ht
  rw [List.mem_range] at ht1
  obtain ⟨pre, x, post, rfl, g1, g2⟩ := first_not (fun x : Int => m.testBit x.toNat) (xs := row) ⟨(t : Int), hp.mem_iff.mpr (mem_ups.mpr ⟨by omega, by omega⟩), by simpa using ht2⟩
  have hx := mem_ups.mp (hp.mem_iff.mp (List.mem_append_right pre List.mem_cons_self))
  have : x.toNat ∈ freeL n G m := mem_free.mpr ⟨by omega, g1, (okB_iff h0).mpr fun a ha => by
    rw [Int.toNat_of_nonneg hx.1] at ha
    have := g2 _ (upP_before hnd (hs _ ha))
    simpa using this⟩
  intro e
  rw [e] at this; cases this
theorem ord_mem {n : Nat} {G : List (Int × Int)} (h : Ord n G) : ∀ p ∈ G, (0 ≤ p.1 ∧ p.1 < n) ∧ (0 ≤ p.2 ∧ p.2 < n) := fun p hp => h.mem hp
theorem low_zero (n : Nat) (G : List (Int × Int)) : lowB n G 0 = true := low_iff.mpr fun t _ h => by simp at h
@[simp] theorem iterX_ok {S : Type} (d : D) (s : S) (f : D → R (List D)) : iterX (.ok (d, s)) f = (f d).bind fun ds => .ok (ds, s) := id rfl
@[simp] theorem forX_ok {S S2 : Type} (ds : List D) (s : S) (s0 : S → S2) (f : D → S2 → R (Fl S2 S2)) : forX (.ok (ds, s)) s0 f = forR ds (s0 s) f := id rfl
theorem bls_fit (b : Bool) : fitD (.bl b) = true := rfl
theorem while_go {S : Type} (J : Nat → S → Prop) {c : S → R Bool} {f : S → R (Fl S S)} (hs : ∀ k s, J (k + 1) s → c s = .ok true ∧ ∃ s', f s = .ok (.nx s') ∧ J k s') (h0 : ∀ s, J 0 s → c s = .ok false) : ∀ (k fuel : Nat) (s : S), k < fuel → J k s → ∃ s', whileR fuel s c f = .ok (.nx s') ∧ J 0 s'
  | 0, fuel + 1, s, _, h => by
    unfold whileR
    rw [h0 s h]
    exact ⟨s, rfl, h⟩
  | k + 1, fuel + 1, s, hf, h => by
    unfold whileR
    obtain ⟨e1, s1, e2, h1⟩ := hs k s h
    rw [e1]
    simp only [R.ok_bind, if_true]
    rw [e2]
    exact while_go J hs h0 k fuel s1 (by omega) h1
  | _, 0, _, hf, _ => absurd hf (by omega)
theorem while_gen {S S' B : Type} (P : R (Fl S' B) → Prop) (J : Nat → S → Prop) (k : Nat) {fuel : Nat} {s : S} {c : S → R Bool} {f : S → R (Fl S S)} {kk : S → R (Fl S' B)} (hf : k < fuel) (hJ : J k s) (hs : ∀ k s, J (k + 1) s → c s = .ok true ∧ ∃ s', f s = .ok (.nx s') ∧ J k s') (h0 : ∀ s, J 0 s → c s = .ok false)
    (hk : ∀ s, J 0 s → P (kk s)) : P (aftR (whileR fuel s c f) kk) := by
  obtain ⟨s', e, h⟩ := while_go J hs h0 k fuel s hf hJ
  rw [e]
  exact hk s' h
def down0 (k : Nat) : List Nat := (List.range (k + 1)).map fun i => k - i
theorem rangeD_down0 {k : Nat} (hk : k ≤ 100000) : rangeDR (.int k) (.int (-1)) = .ok ((down0 k).map fun m : Nat => D.int m) := by
  show (if (big62 (k : Int) && big62 (-1)) = true then R.ok (downI (k : Int) ((k : Int) - (-1)).toNat) else .bad) = _
  rw [big62_of (by omega) (by omega)]
  show R.ok (downI (k : Int) ((k : Int) - (-1)).toNat) = _
  rw [show ((k : Int) - (-1)).toNat = k + 1 by omega]
  unfold downI down0
  rw [List.map_map]
  congr 1
  refine List.map_congr_left fun i hi => ?_
  rw [List.mem_range] at hi
  show D.int ((k : Int) - (i : Int)) = D.int ((k - i : Nat) : Int)
  congr 1
  omega
theorem mem_down0 {k m : Nat} : m ∈ down0 k ↔ m ≤ k := by
  unfold down0
  rw [List.mem_map]
  constructor
  · rintro ⟨i, hi, rfl⟩; rw [List.mem_range] at hi; omega
  · intro h; exact ⟨k - m, by rw [List.mem_range]; omega, by omega⟩
theorem down0_desc (k : Nat) : (down0 k).Pairwise fun a b => b < a := by
  unfold down0
  rw [List.pairwise_map]
  refine List.Pairwise.imp_of_mem (fun {a b} ha hb h => ?_) (List.pairwise_lt_range)
  rw [List.mem_range] at ha hb
  omega
/-! ### rows of an order with one pair more -/
theorem upP_app {ys : List Int} {p : Int × Int} : ∀ {xs : List Int}, p ∈ upP (xs ++ ys) ↔ p ∈ upP xs ∨ (p.1 ∈ xs ∧ p.2 ∈ ys) ∨ p ∈ upP ys
  | [] => by simp [upP]
  | x :: xs => by
    have e : upP (x :: xs ++ ys) = (xs ++ ys).map (fun y => (x, y)) ++ upP (xs ++ ys) := rfl
    have e2 : upP (x :: xs) = xs.map (fun y => (x, y)) ++ upP xs := rfl
    rw [e, e2, List.mem_append, List.mem_append, upP_app (xs := xs), List.map_append, List.mem_append]
    have k : ∀ zs : List Int, p ∈ zs.map (fun y => (x, y)) ↔ p.1 = x ∧ p.2 ∈ zs := fun zs => by
      rw [List.mem_map]
      constructor
      · rintro ⟨y, hy, rfl⟩; exact ⟨rfl, hy⟩
      · rintro ⟨h1, h2⟩; exact ⟨p.2, h2, by rw [← h1]⟩
    rw [k, k, List.mem_cons]
    constructor
    · rintro ((h | h) | h | h | h)
      · exact .inl (.inl h)
      · exact .inr (.inl ⟨.inl h.1, h.2⟩)
      · exact .inl (.inr h)
      · exact .inr (.inl ⟨.inr h.1, h.2⟩)
      · exact .inr (.inr h)
    · rintro ((h | h) | ⟨h1 | h1, h2⟩ | h)
      · exact .inl (.inl h)
      · exact .inr (.inl h)
      · exact .inl (.inr ⟨h1, h2⟩)
      · exact .inr (.inr (.inl ⟨h1, h2⟩))
      · exact .inr (.inr (.inr h))
theorem upP_filter (P : Int → Bool) {p : Int × Int} (h1 : P p.1 = true) (h2 : P p.2 = true) : ∀ {xs : List Int}, p ∈ upP xs → p ∈ upP (xs.filter P)
  | [], h => h
  | x :: xs, h => by
    have h : p ∈ xs.map (fun y => (x, y)) ++ upP xs := h
    rcases List.mem_append.mp h with h | h
    · obtain ⟨y, hy, rfl⟩ := List.mem_map.mp h
      rw [List.filter_cons_of_pos (show P x = true from h1)]
      exact List.mem_append.mpr (.inl (List.mem_map_of_mem (List.mem_filter.mpr ⟨hy, h2⟩)))
    · have ih := upP_filter P h1 h2 h
      by_cases hx : P x = true
      · rw [List.filter_cons_of_pos hx]
        exact List.mem_append.mpr (.inr ih)
      · rw [List.filter_cons_of_neg hx]; exact ih
theorem ext_row {n : Nat} {G : List (Int × Int)} (h : Ord n G) {a b : Int} (ha : a ∈ ups n) (hb : b ∈ ups n) (hne : a ≠ b) (hba : (b, a) ∉ G) : ∃ row : List Int, row.Perm (ups n) ∧ (∀ p ∈ G, p ∈ upP row) ∧ (a, b) ∈ upP row := by
  obtain ⟨row, hp, hs⟩ := h.row
  let P : Int → Bool := fun x => decide (x = b ∨ (b, x) ∈ G)
  have hP : ∀ x, P x = true ↔ (x = b ∨ (b, x) ∈ G) := fun x => decide_eq_true_iff
  have hN : ∀ x, (!P x) = true ↔ ¬ (x = b ∨ (b, x) ∈ G) := fun x => by rw [Bool.not_eq_true', ← Bool.not_eq_true, hP]
  refine ⟨row.filter (fun x => !P x) ++ row.filter P, ?_, fun p hpG => ?_, ?_⟩
  · exact (List.perm_append_comm.trans (List.filter_append_perm P row)).trans hp
  · have hin := hs p hpG
    have hm := mem_upP_mem hin
    rw [upP_app]
    by_cases h1 : P p.1 = true
    · have h2 : P p.2 = true := (hP _).mpr (.inr (by
        rcases (hP _).mp h1 with e | e
        · rw [← e]; exact hpG
        · exact h.clo _ _ _ e hpG))
      exact .inr (.inr (upP_filter P h1 h2 hin))
    · have h1' : (!P p.1) = true := by rw [Bool.not_eq_true', ← Bool.not_eq_true]; exact h1
      by_cases h2 : P p.2 = true
      · exact .inr (.inl ⟨List.mem_filter.mpr ⟨hm.1, h1'⟩, List.mem_filter.mpr ⟨hm.2, h2⟩⟩)
      · have h2' : (!P p.2) = true := by rw [Bool.not_eq_true', ← Bool.not_eq_true]; exact h2
        exact .inl (upP_filter (fun x => !P x) h1' h2' hin)
  · rw [upP_app]
    refine .inr (.inl ⟨List.mem_filter.mpr ⟨hp.mem_iff.mpr ha, (hN _).mpr fun e => ?_⟩, List.mem_filter.mpr ⟨hp.mem_iff.mpr hb, (hP _).mpr (.inl rfl)⟩⟩)
    rcases e with e | e
    · exact hne e
    · exact hba e
theorem clo_one {ps G1 G2 : List (Int × Int)} (s1 : sortP G1 = G1) (s2 : sortP G2 = G2) (p1 : ∀ p ∈ ps, p ∈ G1) (p2 : ∀ p ∈ ps, p ∈ G2) (c1 : Clo G1) (c2 : Clo G2) (m1 : ∀ T : List (Int × Int), Clo T → (∀ p ∈ ps, p ∈ T) → ∀ p ∈ G1, p ∈ T) (m2 : ∀ T : List (Int × Int), Clo T → (∀ p ∈ ps, p ∈ T) → ∀ p ∈ G2, p ∈ T) : G1 = G2 := by
  rw [← s1, ← s2]
  exact sortP_congr fun p => ⟨m1 G2 c2 p2 p, m2 G1 c1 p1 p⟩
/-! ### the program's closing -/
theorem closed_while {U : List (Int × Int)} {c : D × D → R Bool} {f : D × D → R (Fl (D × D) (D × D))} (hU : ∀ a b c, (a, b) ∈ U → (b, c) ∈ U → (a, c) ∈ U) (hc : ∀ (F : List (Int × Int)) (m : Bool), c (.lst (F.map encP), .bl m) = .ok m)
    (hf : ∀ F : List (Int × Int), F.Nodup → (∀ p ∈ F, p ∈ U) → f (.lst (F.map encP), .bl true) = .ok (.nx (.lst ((stepP F).map encP), .bl (decide (F.length < (stepP F).length))))) :
    ∀ (n : Nat) (F : List (Int × Int)), F.Nodup → (∀ p ∈ F, p ∈ U) → sortP F = F → U.length + 2 ≤ n + F.length →
      ∃ G : List (Int × Int), whileR n (.lst (F.map encP), .bl true) c f = .ok (.nx (.lst (G.map encP), .bl false)) ∧ G.Nodup ∧ (∀ p ∈ G, p ∈ U) ∧ sortP G = G ∧ (∀ p ∈ F, p ∈ G) ∧ Clo G ∧ (∀ (T : List (Int × Int)), Clo T → (∀ p ∈ F, p ∈ T) → ∀ p ∈ G, p ∈ T)
  | 0, F, hn, hs, _, hm => by
    have := len_sub hn hs
    omega
  | n + 1, F, hn, hs, hF, hm => by
    unfold whileR
    rw [hc]
    simp only [R.ok_bind, if_true]
    rw [hf F hn hs]
    simp only [R.ok_bind]
    have hs1 : ∀ p ∈ stepP F, p ∈ U := fun p hp => by
      rcases mem_step.mp hp with h | ⟨b, h1, h2⟩
      · exact hs p h
      · exact hU _ _ _ (hs _ h1) (hs _ h2)
    have hsub : ∀ p ∈ F, p ∈ stepP F := fun p hp => mem_step.mpr (.inl hp)
    have hl := len_sub hn hs
    have hmin : ∀ (T : List (Int × Int)), Clo T → (∀ p ∈ F, p ∈ T) → ∀ p ∈ stepP F, p ∈ T := fun T hT h p hp => by
      rcases mem_step.mp hp with h' | ⟨b, h1, h2⟩
      · exact h p h'
      · exact hT _ _ _ (h _ h1) (h _ h2)
    by_cases e : F.length < (stepP F).length
    · rw [decide_eq_true e]
      obtain ⟨G, k1, k2, k3, k4, k5, k6, k7⟩ := closed_while hU hc hf n (stepP F) (step_nodup F) hs1 (step_sorted F) (by omega)
      exact ⟨G, k1, k2, k3, k4, fun p hp => k5 p (hsub p hp), k6, fun T hT h => k7 T hT (hmin T hT h)⟩
    · rw [decide_eq_false e]
      obtain ⟨n', rfl⟩ : ∃ n', n = n' + 1 := ⟨n - 1, by omega⟩
      unfold whileR
      rw [hc]
      refine ⟨stepP F, rfl, step_nodup F, hs1, step_sorted F, hsub, fun a b c h1 h2 => ?_, hmin⟩
      have hb := eq_of_len hn (step_nodup F) hsub (by omega)
      exact mem_step.mpr (.inr ⟨b, hb _ h1, hb _ h2⟩)
theorem closed_fin {row : List Int} {ps : List (Int × Int)} {n : Nat} {c : D × D → R Bool} {f : D × D → R (Fl (D × D) (D × D))} {S' B : Type} {kk : D × D → R (Fl S' B)} {out : R (Fl S' B) → R D} {ex : List (Int × Int) → D} (hn : row.Nodup) (h0 : ∀ x ∈ row, 0 ≤ x) (hl : row.length ≤ 7) (hs : ∀ p ∈ ps, p ∈ upP row) (hfu : 23 ≤ n)
    (hc : ∀ (F : List (Int × Int)) (m : Bool), c (.lst (F.map encP), .bl m) = .ok m)
    (hf : ∀ F : List (Int × Int), F.length + (moreP F).length < 64 → (∀ p ∈ F, 0 ≤ p.1 ∧ 0 ≤ p.2) → f (.lst (F.map encP), .bl true) = .ok (.nx (.lst ((stepP F).map encP), .bl (decide (F.length < (stepP F).length)))))
    (hk : ∀ G y, out (kk (.lst (G.map encP), y)) = .ok (ex G)) :
    ∃ G : List (Int × Int), out (aftR (whileR n (.lst ((sortP ps).map encP), .bl true) c f) kk) = .ok (ex G) ∧ G.Nodup ∧ (∀ p ∈ G, p ∈ upP row) ∧ sortP G = G ∧ (∀ p ∈ ps, p ∈ G) ∧ Clo G ∧ (∀ (T : List (Int × Int)), Clo T → (∀ p ∈ ps, p ∈ T) → ∀ p ∈ G, p ∈ T) := by
  have h7 := upP_len row
  have hU : (upP row).length ≤ 21 := by
    have : row.length * (row.length - 1) ≤ 7 * 6 := Nat.mul_le_mul hl (by omega)
    omega
  have hs1 : ∀ p ∈ sortP ps, p ∈ upP row := fun p hp => hs p (mem_sortP.mp hp)
  obtain ⟨G, k1, k2, k3, k4, k5, k6, k7⟩ := closed_while (U := upP row) (c := c) (f := f) (fun a b c => upP_trans hn) hc (fun F hF hFs => hf F (len_more_bound hn hF hFs hl) fun p hp => ⟨h0 _ (mem_upP_mem (hFs p hp)).1, h0 _ (mem_upP_mem (hFs p hp)).2⟩) n (sortP ps) (nodup_sortP _) hs1 (sortP_sortP _) (by omega)
  refine ⟨G, ?_, k2, k3, k4, fun p hp => k5 p (mem_sortP.mpr hp), k6, fun T hT h => k7 T hT fun p hp => h p (mem_sortP.mp hp)⟩
  rw [k1]
  exact hk G _
theorem encs_fit_l (G : List (Int × Int)) : fitD (.lst (G.map encP)) = true := by
  unfold fitD plainD depD
  rw [encs_plain]
  have := encs_dep G
  simp; omega
theorem in_pairs_l (a b : Int) (G : List (Int × Int)) : inR (.tup [.int a, .int b]) (.lst (G.map encP)) = .ok (decide ((a, b) ∈ G)) := by
  show (if (fitD (.tup [.int a, .int b]) && fitD (.lst (G.map encP))) = true then R.ok ((G.map encP).any fun y => eqD y (encP (a, b))) else _) = _
  rw [encs_fit_l, show fitD (.tup [.int a, .int b]) = true from rfl, if_pos (show (true && true) = true from rfl), any_enc]
theorem ord_fit (n : Nat) (G : List (Int × Int)) : fitD (ordD n G) = true := by
  have h1 := encs_fit G
  unfold fitD at h1 ⊢
  have h2 := encs_dep G
  unfold ordD
  simp only [plainD, plainDs, depD, depDs, encs_plain]
  simp; omega
def encT (t : Int × Int × Int) : D := .tup [.int t.1, .int t.2.1, .int t.2.2]
def ledL (F : List (Int × Int)) : List (Int × Int × Int) := F.flatMap fun p => (F.filter fun q => decide (q.1 = p.2)).map fun q => (p.1, p.2, q.2)
theorem led_more (F : List (Int × Int)) : (ledL F).map (fun t => (t.1, t.2.2)) = moreP F := by
  unfold ledL moreP
  rw [List.map_flatMap]
  congr 1
  funext p
  rw [List.map_map]; rfl
theorem led_len (F : List (Int × Int)) : (ledL F).length = (moreP F).length := by rw [← led_more, List.length_map]
theorem ne_encP (p q : Int × Int) : neR (encP p) (encP q) = .ok (!decide (p = q)) := by
  show (if (fitD (encP p) && fitD (encP q)) = true then R.ok (!eqD (encP p) (encP q)) else .bad) = _
  rw [eqD_enc]; rfl
end Fj

set_option maxHeartbeats 4000000
namespace Fj.K55
open PySem PySem.Spec PyProof.Rows L2 Fj
def topS (i : Nat) : Stmt := PySem.Challenge.pw_fewjumps_k55_pairs_put_and_steps_left.main.body.getD i (.Pass ⟨0, 0, 0, 0⟩)
def b__law_pen_of (a0 : D) : R (Fl Unit Empty) := (((op2 max2R (R.ok a0) (op2 subR (R.ok (.int 0)) (R.ok a0)))).bind fun v1 => (((lstE [(R.ok v1), (op1 intR (blE (op2 geR (R.ok v1) (op2 powR (R.ok (.int 10)) (R.ok (.int 18)))))), (op2 modR (R.ok v1) (R.ok (.int 1000003)))])).bind fun v2 => .ok (.rt v2 [])))
def c__law_pen_of (ds : List D) : R D := finP (ap1 b__law_pen_of ds)
theorem e__law_pen_of (a0 : D) : c__law_pen_of [a0] = finP (b__law_pen_of a0) := congrArg finP (ap1_eq _ _)
def b__law_next (a0 : D) : R (Fl Unit Empty) := (((op2 modR (op2 addR (R.ok a0) (R.ok (.int 7919))) (R.ok (.int 2147483647)))).bind fun v1 => (((op2 modR (op2 addR (op2 addR (op2 mulR (R.ok v1) (R.ok v1)) (op2 mulR (R.ok (.int 48271)) (R.ok v1))) (R.ok (.int 12345))) (R.ok (.int 2147483629)))).bind fun v2 => .ok (.rt v2 [])))
def c__law_next (ds : List D) : R D := finP (ap1 b__law_next ds)
theorem e__law_next (a0 : D) : c__law_next [a0] = finP (b__law_next a0) := congrArg finP (ap1_eq _ _)
def b__law_draw (a0 a1 : D) : R (Fl Unit Empty) := (ifE (op2 eqR (op2 idxR (R.ok a0) (R.ok (.int 1))) (R.ok (.int 1))) (endR (((op2 modR (op2 idxR (R.ok a0) (R.ok (.int 0))) (R.ok a1))).bind fun v1 => ((setE a0 (R.ok (.int 0)) (op2 fdivR (op2 idxR (R.ok a0) (R.ok (.int 0))) (R.ok a1))).bind fun v2 => (((R.ok v1)).bind fun v3 => .ok (.rt v3 [v2]))))) ((setE a0 (R.ok (.int 2)) ((allR [(op2 addR ((allR [(op2 idxR (R.ok a0) (R.ok (.int 2)))]).bind c__law_next) (R.ok (.int 7)))]).bind c__law_next)).bind fun v4 => (((op2 modR (op2 fdivR (op2 idxR (R.ok v4) (R.ok (.int 2))) (R.ok (.int 64))) (R.ok a1))).bind fun v5 => .ok (.rt v5 [v4]))))
def c__law_draw (ds : List D) : R (D × List D) := finR (ap2 b__law_draw ds)
theorem e__law_draw (a0 a1 : D) : c__law_draw [a0, a1] = finR (b__law_draw a0 a1) := congrArg finR (ap2_eq _ _ _)
def b__law_mixed (a0 a1 : D) : R (Fl Unit Empty) := (ownR (lstE []) fun v1 => (aftR (S := D × D) (((((R.ok a1)).bind range1R)).bind fun xs => forR xs (a0, v1) fun d5 s2 => (insX (fun (s : D × D) => s.2) (s2.1, s2.2) (consX (ioX c__law_draw 0 (fun (s : D × D) => s.1) (fun (s : D × D) (d : D) => (d, s.2)) (consX (pX (op2 addR (R.ok d5) (R.ok (.int 1))) (s2.1, s2.2)) (fun s11 => (R.ok ([], s11))))) (fun s9 => (consX (pX (R.ok d5) s9) (fun s12 => (R.ok ([], s12)))))) insertR fun v6 s7 => (R.ok (.nx (s7.1, v6))))) fun s3 => (((op1 tupleR (R.ok s3.2))).bind fun v13 => .ok (.rt v13 [s3.1]))))
def c__law_mixed (ds : List D) : R (D × List D) := finR (ap2 b__law_mixed ds)
theorem e__law_mixed (a0 a1 : D) : c__law_mixed [a0, a1] = finR (b__law_mixed a0 a1) := congrArg finR (ap2_eq _ _ _)
def b__law_closed (a0 : D) : R (Fl Unit Empty) := (((((R.ok a0)).bind sortSetR)).bind fun v1 => (((op1 negR (R.ok (.int 1)))).bind fun v2 => (aftR (S := D × D) (whileR 200 (v1, v2) (fun s3 => (op2 neR (R.ok s3.2) (op1 lenR (R.ok s3.1)))) fun s3 => (((op1 lenR (R.ok s3.1))).bind fun v6 => (((lstE [])).bind fun v7 => (aftR (S := D) (((((R.ok s3.1)).bind seqsR)).bind fun xs => forR xs v7 fun d17 s8 => un2 (fun d11 d12 => (((op2 addR (R.ok s8) (compE (((R.ok s3.1)).bind seqsR) (un2 fun x14 x15 => (op2 eqR (R.ok x14) (R.ok d12))) (un2 fun x14 x15 => (tupE [(R.ok d11), (R.ok x15)]))))).bind fun v13 => (R.ok (.nx v13)))) d17) fun s9 => (((((op2 addR (R.ok s3.1) (R.ok s9))).bind sortSetR)).bind fun v16 => (R.ok (.nx (v16, v6)))))))) fun s4 => (((op1 tupleR (R.ok s4.1))).bind fun v18 => .ok (.rt v18 [])))))
def c__law_closed (ds : List D) : R D := finP (ap1 b__law_closed ds)
theorem e__law_closed (a0 : D) : c__law_closed [a0] = finP (b__law_closed a0) := congrArg finP (ap1_eq _ _)
def b__law_order_of (a0 a1 : D) : R (Fl Unit Empty) := (bindX (opX idxR (lstX (consX (pX (R.ok a1) a0) (fun s6 => (consX (pX (R.ok a1) s6) (fun s7 => (consX (ioX c__law_draw 0 (fun (s : D) => s) (fun (_ d : D) => d) (consX (pX (op2 addR (R.ok a1) (R.ok (.int 1))) s7) (fun s10 => (R.ok ([], s10))))) (fun s8 => (R.ok ([], s8))))))))) (fun s4 => (ioX c__law_draw 0 (fun (s : D) => s) (fun (_ d : D) => d) (consX (pX (R.ok (.int 3)) s4) (fun s12 => (R.ok ([], s12))))))) fun v1 s2 => (bindX (ioX c__law_mixed 0 (fun (s : D) => s) (fun (_ d : D) => d) (consX (pX (R.ok v1) s2) (fun s17 => (R.ok ([], s17))))) fun v13 s14 => (bindX (opX addR (pX (R.ok (.int 1)) s14) (fun s21 => (ioX c__law_draw 0 (fun (s : D) => s) (fun (_ d : D) => d) (consX (pX (R.ok (.int 5)) s21) (fun s23 => (R.ok ([], s23))))))) fun v18 s19 => (ownR (lstE []) fun v24 => (aftR (S := D × D) (((((R.ok v1)).bind range1R)).bind fun xs => forR xs (s19, v24) fun d28 s25 => (aftR (S := D × D) (((((cutE (R.ok v13) (some (op2 addR (R.ok d28) (R.ok (.int 1)))) none)).bind seqsR)).bind fun xs => forR xs (s25.1, s25.2) fun d32 s29 => (seqR (S' := D × D) (ifX (opXT ltR (ioX c__law_draw 0 (fun (s : D) => s) (fun (_ d : D) => d) (consX (pX (R.ok (.int 8)) s29.1) (fun s37 => (R.ok ([], s37))))) (fun s35 => (pX (R.ok v18) s35))) (fun s33 => ((appendE s29.2 (tupE [(op2 idxR (R.ok v13) (R.ok d28)), (R.ok d32)])).bind fun v38 => (R.ok (.nx (s33, v38))))) (fun s33 => (R.ok (.nx (s33, s29.2))))) fun s39 => (R.ok (.nx (s39.1, s39.2))))) fun s30 => (R.ok (.nx (s30.1, s30.2))))) fun s26 => (((tupE [(R.ok v1), ((allR [(R.ok s26.2)]).bind c__law_closed)])).bind fun v41 => .ok (.rt v41 [s26.1])))))))
def c__law_order_of (ds : List D) : R (D × List D) := finR (ap2 b__law_order_of ds)
theorem e__law_order_of (a0 a1 : D) : c__law_order_of [a0, a1] = finR (b__law_order_of a0 a1) := congrArg finR (ap2_eq _ _ _)
def b__law_no_thing (a0 a1 : D) : R (Fl Unit Empty) := (bindX (lstX (consX (pX (R.ok a1) a0) (fun s5 => (consX (opX addR (pX (op2 addR (R.ok a1) (R.ok (.int 1))) s5) (fun s7 => (ioX c__law_draw 0 (fun (s : D) => s) (fun (_ d : D) => d) (consX (pX (op2 powR (R.ok (.int 10)) (R.ok (.int 9))) s7) (fun s9 => (R.ok ([], s9))))))) (fun s6 => (consX (pX (op1 negR (R.ok (.int 1))) s6) (fun s10 => (consX (pX (R.ok (.bl true)) s10) (fun s11 => (consX (pX (R.ok (.bl false)) s11) (fun s12 => (consX (pX (R.ok .non) s12) (fun s13 => (consX (pX (R.ok (.str [48])) s13) (fun s14 => (consX (pX (tupE [(R.ok (.int 0))]) s14) (fun s15 => (consX (pX (lstE [(R.ok (.int 0))]) s15) (fun s16 => (consX (pX (R.ok (.dct 0 [])) s16) (fun s17 => (R.ok ([], s17))))))))))))))))))))))) fun v1 s2 => (retX (opX idxR (pX (R.ok v1) s2) (fun s18 => (ioX c__law_draw 0 (fun (s : D) => s) (fun (_ d : D) => d) (consX (pX (R.ok (.int 10)) s18) (fun s20 => (R.ok ([], s20))))))) (fun s21 => [s21])))
def c__law_no_thing (ds : List D) : R (D × List D) := finR (ap2 b__law_no_thing ds)
theorem e__law_no_thing (a0 a1 : D) : c__law_no_thing [a0, a1] = finR (b__law_no_thing a0 a1) := congrArg finR (ap2_eq _ _ _)
def b__law_cell_at (a0 a1 : D) : R (Fl Unit Empty) := (ifE (op2 ltR (R.ok a1) (op1 lenR (R.ok a0))) (endR (((op2 idxR (R.ok a0) (R.ok a1))).bind fun v1 => .ok (.rt v1 []))) (((R.ok (.int 0))).bind fun v2 => .ok (.rt v2 [])))
def c__law_cell_at (ds : List D) : R D := finP (ap2 b__law_cell_at ds)
theorem e__law_cell_at (a0 a1 : D) : c__law_cell_at [a0, a1] = finP (b__law_cell_at a0 a1) := congrArg finP (ap2_eq _ _ _)
def b_is_whole (a0 : D) : R (Fl Unit Empty) := (((andV (blE (op1 (isaR isInt) (R.ok a0))) (blE (notT (op1 truT (blE (op1 (isaR isBool) (R.ok a0)))))))).bind fun v1 => .ok (.rt v1 []))
def c_is_whole (ds : List D) : R D := finP (ap1 b_is_whole ds)
theorem e_is_whole (a0 : D) : c_is_whole [a0] = finP (b_is_whole a0) := congrArg finP (ap1_eq _ _)
def b_check_thing (a0 a1 : D) : R (Fl Unit Empty) := (ifE (orT (notT (op1 truT ((allR [(R.ok a1)]).bind c_is_whole))) (orT (op2 ltR (R.ok a1) (R.ok (.int 0))) (op2 geR (R.ok a1) (op2 idxR (R.ok a0) (R.ok (.int 0)))))) (endR (R.ex (D.exc 0 []))) (R.ok (.nx ())))
def c_check_thing (ds : List D) : R D := finP (ap2 b_check_thing ds)
theorem e_check_thing (a0 a1 : D) : c_check_thing [a0, a1] = finP (b_check_thing a0 a1) := congrArg finP (ap2_eq _ _ _)
def b_check_two (a0 a1 a2 : D) : R (Fl Unit Empty) := ((((allR [(R.ok a0), (R.ok a1)]).bind c_check_thing)).bind fun _ => ((((allR [(R.ok a0), (R.ok a2)]).bind c_check_thing)).bind fun _ => (R.ok (.nx ()))))
def c_check_two (ds : List D) : R D := finP (ap3 b_check_two ds)
theorem e_check_two (a0 a1 a2 : D) : c_check_two [a0, a1, a2] = finP (b_check_two a0 a1 a2) := congrArg finP (ap3_eq _ _ _ _)
def b_check_pair (a0 a1 a2 : D) : R (Fl Unit Empty) := ((((allR [(R.ok a0), (R.ok a1), (R.ok a2)]).bind c_check_two)).bind fun _ => (ifE (orT (op2 eqR (R.ok a1) (R.ok a2)) (op2 inR (tupE [(R.ok a2), (R.ok a1)]) (op2 idxR (R.ok a0) (R.ok (.int 1))))) (endR (R.ex (D.exc 2 []))) (R.ok (.nx ()))))
def c_check_pair (ds : List D) : R D := finP (ap3 b_check_pair ds)
theorem e_check_pair (a0 a1 a2 : D) : c_check_pair [a0, a1, a2] = finP (b_check_pair a0 a1 a2) := congrArg finP (ap3_eq _ _ _ _)
def b_led_on (a0 : D) : R (Fl Unit Empty) := (ownR (lstE []) fun v1 => (aftR (S := D) (((((R.ok a0)).bind seqsR)).bind fun xs => forR xs v1 fun d10 s2 => un2 (fun d5 d6 => ((extendE s2 (compE (((R.ok a0)).bind seqsR) (un2 fun x8 x9 => (op2 eqR (R.ok x8) (R.ok d6))) (un2 fun x8 x9 => (tupE [(R.ok d5), (R.ok d6), (R.ok x9)])))).bind fun v7 => (R.ok (.nx v7)))) d10) fun s3 => (R.ok (.rt s3 []))))
def c_led_on (ds : List D) : R D := finP (ap1 b_led_on ds)
theorem e_led_on (a0 : D) : c_led_on [a0] = finP (b_led_on a0) := congrArg finP (ap1_eq _ _)
def b_closed (a0 : D) : R (Fl Unit Empty) := (((((R.ok a0)).bind sortSetR)).bind fun v1 => (((R.ok (.bl true))).bind fun v2 => (aftR (S := D × D) (whileR 200 (v1, v2) (fun s3 => (op1 truT (R.ok s3.2))) fun s3 => (((compE ((((allR [(R.ok s3.1)]).bind c_led_on)).bind seqsR) yesT (un3 fun x7 x8 x9 => (tupE [(R.ok x7), (R.ok x9)])))).bind fun v6 => (((((op2 addR (R.ok s3.1) (R.ok v6))).bind sortSetR)).bind fun v10 => (((blE (op2 gtR (op1 lenR (R.ok v10)) (op1 lenR (R.ok s3.1))))).bind fun v11 => (((R.ok v10)).bind fun v12 => (R.ok (.nx (v12, v11)))))))) fun s4 => (((R.ok s4.1)).bind fun v13 => .ok (.rt v13 [])))))
def c_closed (ds : List D) : R D := finP (ap1 b_closed ds)
theorem e_closed (a0 : D) : c_closed [a0] = finP (b_closed a0) := congrArg finP (ap1_eq _ _)
def b_paired (a0 a1 a2 : D) : R (Fl Unit Empty) := (((tupE [(op2 idxR (R.ok a0) (R.ok (.int 0))), (op1 tupleR ((allR [(op2 addR (op1 listR (op2 idxR (R.ok a0) (R.ok (.int 1)))) (lstE [(tupE [(R.ok a1), (R.ok a2)])]))]).bind c_closed))])).bind fun v1 => .ok (.rt v1 []))
def c_paired (ds : List D) : R D := finP (ap3 b_paired ds)
theorem e_paired (a0 a1 a2 : D) : c_paired [a0, a1, a2] = finP (b_paired a0 a1 a2) := congrArg finP (ap3_eq _ _ _ _)
def b_with_pair (a0 a1 a2 : D) : R (Fl Unit Empty) := ((((allR [(R.ok a0), (R.ok a1), (R.ok a2)]).bind c_check_pair)).bind fun _ => ((((allR [(R.ok a0), (R.ok a1), (R.ok a2)]).bind c_paired)).bind fun v1 => .ok (.rt v1 [])))
def c_with_pair (ds : List D) : R D := finP (ap3 b_with_pair ds)
theorem e_with_pair (a0 a1 a2 : D) : c_with_pair [a0, a1, a2] = finP (b_with_pair a0 a1 a2) := congrArg finP (ap3_eq _ _ _ _)
def b_left_step (a0 a1 a2 : D) : R (Fl Unit Empty) := (((tupE [(op2 idxR (R.ok a0) (R.ok (.int 0))), (op1 tupleR (compE (((op2 idxR (R.ok a0) (R.ok (.int 1)))).bind seqsR) (fun x1 => (op2 neR (R.ok x1) (tupE [(R.ok a1), (R.ok a2)]))) (fun x1 => (R.ok x1))))])).bind fun v2 => .ok (.rt v2 []))
def c_left_step (ds : List D) : R D := finP (ap3 b_left_step ds)
theorem e_left_step (a0 a1 a2 : D) : c_left_step [a0, a1, a2] = finP (b_left_step a0 a1 a2) := congrArg finP (ap3_eq _ _ _ _)
def b_steps_of (a0 : D) : R (Fl Unit Empty) := (((compE ((((allR [(op1 listR (op2 idxR (R.ok a0) (R.ok (.int 1))))]).bind c_led_on)).bind seqsR) yesT (un3 fun x2 x3 x4 => (tupE [(R.ok x2), (R.ok x4)])))).bind fun v1 => (((compE (((op2 idxR (R.ok a0) (R.ok (.int 1)))).bind seqsR) (fun x5 => (op2 notInR (R.ok x5) (R.ok v1))) (fun x5 => (R.ok x5)))).bind fun v6 => .ok (.rt v6 [])))
def c_steps_of (ds : List D) : R D := finP (ap1 b_steps_of ds)
theorem e_steps_of (a0 : D) : c_steps_of [a0] = finP (b_steps_of a0) := congrArg finP (ap1_eq _ _)
def b_without_step (a0 a1 a2 : D) : R (Fl Unit Empty) := ((((allR [(R.ok a0), (R.ok a1), (R.ok a2)]).bind c_check_two)).bind fun _ => (ifE (op2 notInR (tupE [(R.ok a1), (R.ok a2)]) ((allR [(R.ok a0)]).bind c_steps_of)) (endR (R.ex (D.exc 2 []))) ((((allR [(R.ok a0), (R.ok a1), (R.ok a2)]).bind c_left_step)).bind fun v1 => .ok (.rt v1 []))))
def c_without_step (ds : List D) : R D := finP (ap3 b_without_step ds)
theorem e_without_step (a0 a1 a2 : D) : c_without_step [a0, a1, a2] = finP (b_without_step a0 a1 a2) := congrArg finP (ap3_eq _ _ _ _)
def b__law_told (a0 a1 a2 a3 : D) : R (Fl Unit Empty) := (tryK [] (selE (selL [(0, c_with_pair), (1, c_without_step)]) (op2 idxR (lstE [(R.ok (.fn 0)), (R.ok (.fn 1))]) (R.ok a0)) (allR [(R.ok a1), (R.ok a2), (R.ok a3)])))
def c__law_told (ds : List D) : R D := finP (ap4 b__law_told ds)
theorem e__law_told (a0 a1 a2 a3 : D) : c__law_told [a0, a1, a2, a3] = finP (b__law_told a0 a1 a2 a3) := congrArg finP (ap4_eq _ _ _ _ _)
def b__law_whole (a0 : D) : R (Fl Unit Empty) := (((andV (blE (op1 (isaR isInt) (R.ok a0))) (blE (notT (op1 truT (blE (op1 (isaR isBool) (R.ok a0)))))))).bind fun v1 => .ok (.rt v1 []))
def c__law_whole (ds : List D) : R D := finP (ap1 b__law_whole ds)
theorem e__law_whole (a0 : D) : c__law_whole [a0] = finP (b__law_whole a0) := congrArg finP (ap1_eq _ _)
def b__law_order_is (a0 a1 : D) : R (Fl Unit Empty) := (ifE (orT (notT (op1 truT (blE (op1 (isaR isTuple) (R.ok a0))))) (orT (op2 neR (R.ok a0) (R.ok a1)) (orT (notT (op1 truT ((allR [(op2 idxR (R.ok a0) (R.ok (.int 0)))]).bind c__law_whole))) (notT (op1 truT (blE (op1 (isaR isTuple) (op2 idxR (R.ok a0) (R.ok (.int 1)))))))))) (endR (((R.ok (.bl false))).bind fun v1 => .ok (.rt v1 []))) (((op1 allQ (compE (((op2 idxR (R.ok a0) (R.ok (.int 1)))).bind seqsR) yesT (fun x2 => (andV (blE (op1 (isaR isTuple) (R.ok x2))) (andV ((allR [(op2 idxR (R.ok x2) (R.ok (.int 0)))]).bind c__law_whole) ((allR [(op2 idxR (R.ok x2) (R.ok (.int 1)))]).bind c__law_whole))))))).bind fun v3 => .ok (.rt v3 [])))
def c__law_order_is (ds : List D) : R D := finP (ap2 b__law_order_is ds)
theorem e__law_order_is (a0 a1 : D) : c__law_order_is [a0, a1] = finP (b__law_order_is a0 a1) := congrArg finP (ap2_eq _ _ _)
def b__law_two_right (a0 a1 a2 : D) : R (Fl Unit Empty) := ((((allR [(R.ok (.int 0)), (R.ok a0), (R.ok a1), (R.ok a2)]).bind c__law_told)).bind fun v1 => (seqR (S' := Unit) (ifE (orT (op2 eqR (R.ok a1) (R.ok a2)) (op2 inR (tupE [(R.ok a2), (R.ok a1)]) (op2 idxR (R.ok a0) (R.ok (.int 1))))) (ifE (op2 neR (R.ok v1) (R.ok (.str [110, 117, 109, 98, 101, 114]))) (endR (((R.ok (.bl false))).bind fun v2 => .ok (.rt v2 []))) (R.ok (.nx ()))) (ifE (notT (op1 truT ((allR [(R.ok v1), (tupE [(op2 idxR (R.ok a0) (R.ok (.int 0))), ((allR [(op2 addR (op1 listR (op2 idxR (R.ok a0) (R.ok (.int 1)))) (lstE [(tupE [(R.ok a1), (R.ok a2)])]))]).bind c__law_closed)])]).bind c__law_order_is))) (endR (((R.ok (.bl false))).bind fun v3 => .ok (.rt v3 []))) (R.ok (.nx ())))) fun _ => ((((allR [(R.ok (.int 1)), (R.ok a0), (R.ok a1), (R.ok a2)]).bind c__law_told)).bind fun v6 => (((compE (((op2 idxR (R.ok a0) (R.ok (.int 1)))).bind seqsR) (un2 fun x8 x9 => (andT (op2 eqR (R.ok x9) (R.ok a2)) (op2 inR (tupE [(R.ok a1), (R.ok x8)]) (op2 idxR (R.ok a0) (R.ok (.int 1)))))) (un2 fun x8 x9 => (R.ok x8)))).bind fun v7 => (ifE (orT (op2 notInR (tupE [(R.ok a1), (R.ok a2)]) (op2 idxR (R.ok a0) (R.ok (.int 1)))) (op2 neR (R.ok v7) (lstE []))) (endR (((blE (op2 eqR (R.ok v6) (R.ok (.str [110, 117, 109, 98, 101, 114]))))).bind fun v10 => .ok (.rt v10 []))) ((((allR [(R.ok v6), (tupE [(op2 idxR (R.ok a0) (R.ok (.int 0))), (op1 tupleR (compE (((op2 idxR (R.ok a0) (R.ok (.int 1)))).bind seqsR) (fun x11 => (op2 neR (R.ok x11) (tupE [(R.ok a1), (R.ok a2)]))) (fun x11 => (R.ok x11))))])]).bind c__law_order_is)).bind fun v12 => .ok (.rt v12 [])))))))
def c__law_two_right (ds : List D) : R D := finP (ap3 b__law_two_right ds)
theorem e__law_two_right (a0 a1 a2 : D) : c__law_two_right [a0, a1, a2] = finP (b__law_two_right a0 a1 a2) := congrArg finP (ap3_eq _ _ _ _)
def b_law (a0 : D) : R (Fl Unit Empty) := (aftR (S := Unit) (((((op2 addR (lstE [((allR [(R.ok a0), (R.ok (.int 0))]).bind c__law_cell_at)]) (cutE (R.ok a0) (some (R.ok (.int 1))) (some (R.ok (.int 8)))))).bind seqsR)).bind fun xs => forR xs () fun d4 _ => (ownR ((allR [(R.ok d4)]).bind c__law_pen_of) fun v5 => (bindX (ioX c__law_order_of 0 (fun (s : D) => s) (fun (_ d : D) => d) (consX (pX (R.ok (.int 7)) v5) (fun s10 => (R.ok ([], s10))))) fun v6 s7 => (aftR (S := Unit) (((((op2 idxR (R.ok v6) (R.ok (.int 0)))).bind range1R)).bind fun xs => forR xs () fun d14 _ => (ifE (notT (op1 truT (op1 allQ (compE (((op2 idxR (R.ok v6) (R.ok (.int 0)))).bind range1R) yesT (fun x15 => ((allR [(R.ok v6), (R.ok d14), (R.ok x15)]).bind c__law_two_right)))))) (endR (((R.ok (.bl false))).bind fun v16 => .ok (.rt v16 []))) (R.ok (.nx ())))) fun _ => (bindX (ioX c__law_no_thing 0 (fun (s : D) => s) (fun (_ d : D) => d) (consX (pX (op2 idxR (R.ok v6) (R.ok (.int 0))) s7) (fun s21 => (R.ok ([], s21))))) fun v17 s18 => (aftR (S := Unit) (((((R.ok (.int 2))).bind range1R)).bind fun xs => forR xs () fun d25 _ => (((lstE [(tupE [(R.ok v17), (R.ok v17)])])).bind fun v26 => (seqR (S' := D) (ifE (op2 gtR (op2 idxR (R.ok v6) (R.ok (.int 0))) (R.ok (.int 0))) (((op2 addR (R.ok v26) (lstE [(tupE [(R.ok v17), (R.ok (.int 0))]), (tupE [(R.ok (.int 0)), (R.ok v17)])]))).bind fun v27 => (R.ok (.nx v27))) (R.ok (.nx v26))) fun s28 => (ifE (op2 neR (compE (((R.ok s28)).bind seqsR) yesT (un2 fun x30 x31 => ((allR [(R.ok d25), (R.ok v6), (R.ok x30), (R.ok x31)]).bind c__law_told))) (op2 mulR (lstE [(R.ok (.str [116, 104, 105, 110, 103]))]) (op1 lenR (R.ok s28)))) (endR (((R.ok (.bl false))).bind fun v32 => .ok (.rt v32 []))) (R.ok (.nx ())))))) fun _ => (R.ok (.nx ())))))))) fun _ => (((R.ok (.bl true))).bind fun v33 => .ok (.rt v33 [])))
def c_law (ds : List D) : R D := finP (ap1 b_law ds)
theorem e_law (a0 : D) : c_law [a0] = finP (b_law a0) := congrArg finP (ap1_eq _ _)
/-! ### the pen -/
def Pen (p : D) : Prop := ∃ l b s : Int, p = .lst [.int l, .int b, .int s] ∧ 0 ≤ l ∧ 0 ≤ s ∧ s < 2147483629
theorem next_ok {s : Int} (h0 : 0 ≤ s) (h1 : s < 4294967296) : ∃ r : Int, c__law_next [.int s] = .ok (.int r) ∧ 0 ≤ r ∧ r < 2147483629 := by
  have a0 : 0 ≤ (s + 7919) % 2147483647 := Int.emod_nonneg _ (by decide)
  have a1 : (s + 7919) % 2147483647 < 2147483647 := Int.emod_lt_of_pos _ (by decide)
  have hs : small ((s + 7919) % 2147483647) = true := by unfold small; simp; omega
  have hs2 : small 48271 = true := by decide
  refine ⟨((s + 7919) % 2147483647 * ((s + 7919) % 2147483647) + 48271 * ((s + 7919) % 2147483647) + 12345) % 2147483629, ?_, Int.emod_nonneg _ (by decide), Int.emod_lt_of_pos _ (by decide)⟩
  simp [c__law_next, ap1, b__law_next, modR, addR, mulR, hs, hs2]
theorem draw_ok {p : D} {n : Int} (hp : Pen p) (h0 : 0 < n) (h1 : n < 1073741824) : ∃ (r : Int) (p' : D), c__law_draw [p, .int n] = .ok (.int r, [p']) ∧ 0 ≤ r ∧ r < n ∧ Pen p' := by
  obtain ⟨l, b, s, rfl, hl, hs0, hs1⟩ := hp
  have hfit : fitD (.int b) = true := rfl
  have hfit1 : fitD (.int 1) = true := rfl
  by_cases hb : b = 1
  · subst hb
    refine ⟨l % n, .lst [.int (l / n), .int 1, .int s], ?_, Int.emod_nonneg _ (by omega), Int.emod_lt_of_pos _ h0, _, _, _, rfl, Int.ediv_nonneg hl (by omega), hs0, hs1⟩
    simp [c__law_draw, ap2, b__law_draw, idxR, idxR0, atI, ixN, eqR, hfit1, eqD, modR, fdivR, h0, h1, setE, setR]
  · obtain ⟨r1, e1, g1, g2⟩ := next_ok hs0 (by omega)
    obtain ⟨r2, e2, g3, g4⟩ := next_ok (s := r1 + 7) (by omega) (by omega)
    refine ⟨r2 / 64 % n, .lst [.int l, .int b, .int r2], ?_, Int.emod_nonneg _ (by omega), Int.emod_lt_of_pos _ h0, _, _, _, rfl, hl, g3, g4⟩
    simp [c__law_draw, ap2, b__law_draw, idxR, idxR0, atI, ixN, eqR, hfit, hfit1, eqD, modR, fdivR, h0, h1, setE, setR, hb, e1, e2]
theorem pen_ok (c : Int) : ∃ p, c__law_pen_of [.int c] = .ok p ∧ (∃ xs, p = .lst xs) ∧ Pen p := by
  have h : small 10 = true := by decide
  have hm : 0 ≤ (if 0 - c > c then 0 - c else c) := by split <;> omega
  refine ⟨.lst [.int (if 0 - c > c then 0 - c else c), .int (b2 (decide (10 ^ 18 ≤ (if 0 - c > c then 0 - c else c)))), .int ((if 0 - c > c then 0 - c else c) % 1000003)], ?_, ⟨_, rfl⟩, _, _, _, rfl, hm, Int.emod_nonneg _ (by decide), Int.lt_trans (Int.emod_lt_of_pos _ (by decide)) (by decide)⟩
  simp [c__law_pen_of, ap1, b__law_pen_of, max2R, subR, lstE, intR, geR, powR, modR, h]
theorem cell_ok (ns : List Int) : ∃ c : Int, c__law_cell_at [.scr ns, .int 0] = .ok (.int c) := by
  cases ns with
  | nil => exact ⟨0, by simp [c__law_cell_at, ap2, b__law_cell_at, lenR]⟩
  | cons x ns => 
    refine ⟨x, ?_⟩
    have : (0 : Int) < (ns.length : Int) + 1 := by omega
    simp [c__law_cell_at, ap2, b__law_cell_at, lenR, idxR, idxR0, atI, ixN, this]
theorem closed_ok {row : List Int} (hn : row.Nodup) (h0 : ∀ x ∈ row, 0 ≤ x) (hl : row.length ≤ 7) {ps : List (Int × Int)} (hs : ∀ p ∈ ps, p ∈ upP row) (hps : ps.length < 64) :
    ∃ G : List (Int × Int), c__law_closed [.lst (ps.map encP)] = .ok (.tup (G.map encP)) ∧ G.Nodup ∧ (∀ p ∈ G, p ∈ upP row) ∧ sortP G = G ∧ (∀ p ∈ ps, p ∈ G) ∧ Clo G ∧ (∀ (T : List (Int × Int)), Clo T → (∀ p ∈ ps, p ∈ T) → ∀ p ∈ G, p ∈ T) := by
  have hnn : ∀ p ∈ upP row, 0 ≤ p.1 ∧ 0 ≤ p.2 := fun p hp => ⟨h0 _ (mem_upP_mem hp).1, h0 _ (mem_upP_mem hp).2⟩
  rw [e__law_closed]
  unfold b__law_closed
  simp only [R.ok_bind, sortSet_enc hps (fun p hp => hnn p (hs p hp)), op1_ok, negR_int]
  refine closure_fin (out := finP) (ex := fun G => .tup (G.map encP)) hn h0 hl hs (by decide) (fun F z => ?_) (fun F z hF hFn => ?_) (fun G y => ?_)
  · simp; rfl
  · simp only [op1_ok, lenR_lst, R.ok_bind, lstE_nil, seqsR_lst, List.length_map]
    refine for_go encP (fun k s => s = .lst ((((F.take k).flatMap fun p => (F.filter fun q => decide (q.1 = p.2)).map fun q => (p.1, q.2))).map encP)) rfl (fun i p s hp hs => ?_) (fun s hs => ?_)
    · subst hs
      refine ⟨_, ?_, rfl⟩
      have hpF : p ∈ F := List.mem_of_getElem? hp
      rw [take_succ_of hp, List.flatMap_append]
      simp only [encP, un2_tup]
      rw [compE_map (enc := encP) (fun q => decide (q.1 = p.2)) (fun q => encP (p.1, q.2)) (by show _ ≤ 100000; omega) (fun q hq => by simp [encP]; rfl) (fun q hq _ => by simp [encP])]
      have h1 := fm_take (fun p : Int × Int => (F.filter fun q => decide (q.1 = p.2)).map fun q => (p.1, q.2)) F (i + 1)
      rw [take_succ_of hp, List.flatMap_append, List.length_append] at h1
      have h2 : (F.flatMap fun p : Int × Int => (F.filter fun q => decide (q.1 = p.2)).map fun q => (p.1, q.2)) = moreP F := rfl
      rw [h2] at h1
      simp only [List.flatMap_cons, List.flatMap_nil, List.append_nil, List.length_map] at h1
      rw [op2_ok, add_lst (by simp only [List.length_map]; omega)]
      simp [List.map_map, Function.comp_def]
    · subst hs
      rw [List.take_of_length_le (Nat.le_refl _)]
      have e : (F.flatMap fun p => (F.filter fun q => decide (q.1 = p.2)).map fun q => (p.1, q.2)) = moreP F := rfl
      rw [e, op2_ok, add_lst (by simp; omega), R.ok_bind, ← List.map_append, sortSet_enc (by simp; omega) (fun p hp => by
        rcases List.mem_append.mp hp with h | h
        · exact hFn p h
        · obtain ⟨b, h1, h2⟩ := mem_more.mp h
          exact ⟨(hFn _ h1).1, (hFn _ h2).2⟩)]
      rfl
  · simp [tupleR]
theorem mixed_ok {p : D} (hp : Pen p) {n : Nat} (hn : n ≤ 1000) : ∃ (row : List Int) (p' : D), c__law_mixed [p, .int n] = .ok (.tup (row.map D.int), [p']) ∧ Pen p' ∧ row.Perm (ups n) := by
  rw [e__law_mixed]
  unfold b__law_mixed
  simp only [lstE_nil, ownR_lst, R.ok_bind, range1_up (show n ≤ 100000 by omega)]
  refine for_gen (fun r => ∃ (row : List Int) (p' : D), finR r = .ok (.tup (row.map D.int), [p']) ∧ Pen p' ∧ row.Perm (ups n)) (fun k : Nat => D.int k)
    (fun i s => ∃ row : List Int, s.2 = .lst (row.map D.int) ∧ Pen s.1 ∧ row.Perm (ups i)) ⟨[], rfl, hp, List.Perm.refl _⟩ (fun i x s hx hJ => ?_) (fun s hJ => ?_)
  · obtain ⟨row, e, hpen, hperm⟩ := hJ
    obtain ⟨s1, s2⟩ := s
    have e : s2 = .lst (row.map D.int) := e
    subst e
    have hi : i < n := by have := (List.getElem?_eq_some_iff.mp hx).1; simpa using this
    have hx' : x = i := by
      rw [List.getElem?_range hi] at hx
      exact (Option.some.inj hx).symm
    subst hx'
    have hlen : row.length = x := by rw [hperm.length_eq, ups_len]
    obtain ⟨r, p1, e1, g1, g2, g3⟩ := draw_ok (n := (x : Int) + 1) hpen (by omega) (by omega)
    refine ⟨(p1, .lst ((row.take r.toNat ++ [(x : Int)] ++ row.drop r.toNat).map D.int)), ?_, _, rfl, g3, ?_⟩
    · simp only [insX, isList, if_true, op2_ok, addR_int, pX_ok, consX_ok, R.ok_bind]
      rw [ioX_ok (d := .int r) (o := p1) (by exact e1)]
      simp only [consX_ok, R.ok_bind, two]
      rw [insertR_ok g1 (by omega) (by rw [List.length_map]; omega)]
      simp only [R.ok_bind, List.map_append, List.map_take, List.map_drop, List.map_cons, List.map_nil]
    · rw [ups_succ]
      exact (mid_perm row r.toNat (x : Int)).trans (hperm.append_right _)
  · obtain ⟨row, e, hpen, hperm⟩ := hJ
    refine ⟨row, s.1, ?_, hpen, by simpa using hperm⟩
    rw [e]; simp [tupleR]
theorem order_ok {p : D} (hp : Pen p) {m : Nat} (hm : m ≤ 7) : ∃ (n : Nat) (G : List (Int × Int)) (p' : D), c__law_order_of [p, .int m] = .ok (.tup [.int n, .tup (G.map encP)], [p']) ∧ n ≤ m ∧ Pen p' ∧ Ord n G := by
  rw [e__law_order_of]
  unfold b__law_order_of
  obtain ⟨r1, p1, e1, g1, g2, g3⟩ := draw_ok (n := (m : Int) + 1) hp (by omega) (by omega)
  obtain ⟨r2, p2, e2, g4, g5, g6⟩ := draw_ok (n := 3) g3 (by omega) (by omega)
  have hidx : ∃ n : Nat, n ≤ m ∧ idxR (.lst [.int m, .int m, .int r1]) (.int r2) = .ok (.int n) := by
    have : r2 = 0 ∨ r2 = 1 ∨ r2 = 2 := by omega
    rcases this with rfl | rfl | rfl
    · exact ⟨m, Nat.le_refl _, rfl⟩
    · exact ⟨m, Nat.le_refl _, rfl⟩
    · exact ⟨r1.toNat, by omega, by rw [Int.toNat_of_nonneg g1]; rfl⟩
  obtain ⟨n, hn, hidx⟩ := hidx
  obtain ⟨row, p3, e3, g7, hperm⟩ := mixed_ok g6 (n := n) (by omega)
  obtain ⟨r4, p4, e4, g8, g9, g10⟩ := draw_ok (n := 5) g7 (by omega) (by omega)
  have hlen : row.length = n := by rw [hperm.length_eq, ups_len]
  have hnd : row.Nodup := hperm.nodup_iff.mpr (ups_nodup n)
  simp only [op2_ok, addR_int, pX_ok, consX_ok, R.ok_bind]
  rw [ioX_ok (d := .int r1) (o := p1) (by exact e1)]
  simp only [consX_ok, R.ok_bind, lstX_ok, opX_ok, pX_ok]
  rw [ioX_ok (d := .int r2) (o := p2) (by exact e2)]
  simp only [R.ok_bind]
  rw [hidx]
  simp only [pX_ok, bindX_ok, consX_ok, R.ok_bind]
  rw [ioX_ok (d := .tup (row.map D.int)) (o := p3) (by exact e3)]
  simp only [pX_ok, bindX_ok, consX_ok, R.ok_bind, opX_ok]
  rw [ioX_ok (d := .int r4) (o := p4) (by exact e4)]
  simp only [pX_ok, bindX_ok, consX_ok, R.ok_bind, opX_ok, addR_int, lstE_nil, ownR_lst]
  rw [range1_up (show n ≤ 100000 by omega)]
  simp only [R.ok_bind]
  refine for_gen (fun r => ∃ (n : Nat) (G : List (Int × Int)) (p' : D), finR r = .ok (.tup [.int n, .tup (G.map encP)], [p']) ∧ n ≤ m ∧ Pen p' ∧ Ord n G) (fun k : Nat => D.int k)
    (fun i s => ∃ acc : List (Int × Int), s.2 = .lst (acc.map encP) ∧ Pen s.1 ∧ (∀ q ∈ acc, q ∈ upP row) ∧ acc.length ≤ 7 * i) ⟨[], rfl, g10, (fun q h => nomatch h), Nat.le_refl _⟩ (fun i x s hx hJ => ?_) (fun s hJ => ?_)
  · obtain ⟨acc, e, hpen, hacc, hal⟩ := hJ
    obtain ⟨s1, s2⟩ := s
    have e : s2 = .lst (acc.map encP) := e
    subst e
    have hi : i < n := by have := (List.getElem?_eq_some_iff.mp hx).1; simpa using this
    have hx' : x = i := by
      rw [List.getElem?_range hi] at hx
      exact (Option.some.inj hx).symm
    subst hx'
    obtain ⟨z, hz⟩ : ∃ z, row[x]? = some z := ⟨row[x]'(by omega), by simp [hlen, hi]⟩
    simp only [op2_ok, addR_int]
    rw [show ((x : Int) + 1) = ((x + 1 : Nat) : Int) by omega, cutE_from_tup]
    simp only [R.ok_bind, seqsR_tup]
    rw [← List.map_drop]
    refine for_gen (fun r : R (Fl (D × D) (D × D)) => ∃ s', r = .ok (.nx s') ∧ ∃ acc : List (Int × Int), s'.2 = .lst (acc.map encP) ∧ Pen s'.1 ∧ (∀ q ∈ acc, q ∈ upP row) ∧ acc.length ≤ 7 * (x + 1)) D.int (fun j s => ∃ acc : List (Int × Int), s.2 = .lst (acc.map encP) ∧ Pen s.1 ∧ (∀ q ∈ acc, q ∈ upP row) ∧ acc.length ≤ 7 * x + j) ⟨acc, rfl, hpen, hacc, by omega⟩ (fun j y s hy hJ => ?_) (fun s hJ => ?_)
    · obtain ⟨acc, e, hpen, hacc, hal⟩ := hJ
      obtain ⟨s1, s2⟩ := s
      have e : s2 = .lst (acc.map encP) := e
      subst e
      obtain ⟨r, p5, e5, g11, g12, g13⟩ := draw_ok (n := 8) hpen (by omega) (by omega)
      have hj : j < n := by have := (List.getElem?_eq_some_iff.mp hy).1; simp at this; omega
      simp only [pX_ok, consX_ok, R.ok_bind]
      rw [ioX_ok (d := .int r) (o := p5) (by exact e5)]
      simp only [opXT_ok, R.ok_bind, ltR_int, pXT_ok, ifX_ok]
      by_cases hlt : r < 1 + r4
      · rw [decide_eq_true hlt, if_pos rfl, idx_tup (x := .int z) (by rw [List.getElem?_map, hz]; rfl)]
        simp only [tupE_2]
        rw [appendE_ok (by rw [List.length_map]; omega)]
        simp only [R.ok_bind, seqR_nx]
        refine ⟨_, rfl, acc ++ [(z, y)], ?_, g13, fun q hq => ?_, by simp; omega⟩
        · simp [encP]
        · rcases List.mem_append.mp hq with h | h
          · exact hacc q h
          · rw [List.mem_singleton] at h
            subst h
            exact upP_at hz (List.mem_of_getElem? hy)
      · rw [decide_eq_false hlt]
        simp only [Bool.false_eq_true, if_false, seqR_nx]
        exact ⟨_, rfl, acc, rfl, g13, hacc, by omega⟩
    · obtain ⟨acc, e, hpen, hacc, hal⟩ := hJ
      refine ⟨_, rfl, acc, e, hpen, hacc, ?_⟩
      simp at hal; omega
  · obtain ⟨acc, e, hpen, hacc, hal⟩ := hJ
    obtain ⟨s1, s2⟩ := s
    have e : s2 = .lst (acc.map encP) := e
    subst e
    have h0 : ∀ x ∈ row, 0 ≤ x := fun x hx => (mem_ups.mp (hperm.mem_iff.mp hx)).1
    obtain ⟨G, k1, k2, k3, k4, k5, k6, k7⟩ := closed_ok hnd h0 (by omega) hacc (by simp at hal; omega)
    refine ⟨n, G, s1, ?_, hn, hpen, ⟨row, hperm, k3⟩, k4, k6⟩
    simp only [allR_ok, allR_nil, R.ok_bind]
    rw [k1]
    simp
theorem whole_ok (i : Int) : c__law_whole [.int i] = .ok (.bl true) := by
  rw [e__law_whole]
  unfold b__law_whole
  simp [isaR, isaOk, isInt, isBool, andV, truT, longD]
/-! ### the program's closing and steps -/
theorem led_ok {F : List (Int × Int)} (hF : F.length ≤ 1000) (hm : (moreP F).length ≤ 1000) : c_led_on [.lst (F.map encP)] = .ok (.lst ((ledL F).map encT)) := by
  rw [e_led_on]
  unfold b_led_on
  simp only [lstE_nil, ownR_lst, R.ok_bind, seqsR_lst]
  refine for_gen (fun r => finP r = _) encP (fun k s => s = .lst (((F.take k).flatMap fun p => (F.filter fun q => decide (q.1 = p.2)).map fun q => (p.1, p.2, q.2)).map encT)) rfl (fun i p s hp hs => ?_) (fun s hs => ?_)
  · subst hs
    refine ⟨_, ?_, rfl⟩
    rw [take_succ_of hp, List.flatMap_append]
    simp only [encP, un2_tup]
    rw [compE_map (enc := encP) (fun q => decide (q.1 = p.2)) (fun q => encT (p.1, p.2, q.2)) (by show _ ≤ 100000; omega) (fun q hq => by simp [encP]; rfl) (fun q hq _ => by simp [encP, encT])]
    have h1 := fm_take (fun p : Int × Int => (F.filter fun q => decide (q.1 = p.2)).map fun q => (p.1, p.2, q.2)) F (i + 1)
    rw [take_succ_of hp, List.flatMap_append, List.length_append] at h1
    have h2 : (F.flatMap fun p : Int × Int => (F.filter fun q => decide (q.1 = p.2)).map fun q => (p.1, p.2, q.2)) = ledL F := rfl
    rw [h2, led_len] at h1
    simp only [List.flatMap_cons, List.flatMap_nil, List.append_nil, List.length_map] at h1
    rw [extendE_ok (by simp only [List.length_map]; omega)]
    simp [List.map_map, Function.comp_def]
  · subst hs
    rw [List.take_of_length_le (Nat.le_refl _)]
    rfl
theorem far_ok {F : List (Int × Int)} (hm : (moreP F).length ≤ 1000) : compE (R.ok ((ledL F).map encT)) yesT (un3 fun x7 x8 x9 => tupE [R.ok x7, R.ok x9]) = .ok (.lst ((moreP F).map encP)) := by
  rw [compE_all (xs := ledL F) encT (fun t => encP (t.1, t.2.2)) (by rw [led_len]; show _ ≤ 100000; omega) (fun t _ => by simp [encT, encP])]
  rw [← led_more, List.map_map]
  rfl
theorem pclosed_ok {row : List Int} (hn : row.Nodup) (h0 : ∀ x ∈ row, 0 ≤ x) (hl : row.length ≤ 7) {ps : List (Int × Int)} (hs : ∀ p ∈ ps, p ∈ upP row) (hps : ps.length < 64) :
    ∃ G : List (Int × Int), c_closed [.lst (ps.map encP)] = .ok (.lst (G.map encP)) ∧ G.Nodup ∧ (∀ p ∈ G, p ∈ upP row) ∧ sortP G = G ∧ (∀ p ∈ ps, p ∈ G) ∧ Clo G ∧ (∀ (T : List (Int × Int)), Clo T → (∀ p ∈ ps, p ∈ T) → ∀ p ∈ G, p ∈ T) := by
  have hnn : ∀ p ∈ upP row, 0 ≤ p.1 ∧ 0 ≤ p.2 := fun p hp => ⟨h0 _ (mem_upP_mem hp).1, h0 _ (mem_upP_mem hp).2⟩
  rw [e_closed]
  unfold b_closed
  simp only [R.ok_bind, sortSet_enc hps (fun p hp => hnn p (hs p hp))]
  refine closed_fin (out := finP) (ex := fun G => .lst (G.map encP)) hn h0 hl hs (by decide) (fun F m => rfl) (fun F hF hFn => ?_) (fun G y => rfl)
  simp only [allR_ok, allR_nil, R.ok_bind]
  rw [led_ok (by omega) (by omega)]
  simp only [R.ok_bind, seqsR_lst]
  rw [far_ok (by omega)]
  simp only [R.ok_bind, op2_ok]
  rw [add_lst (by simp; omega), R.ok_bind, ← List.map_append, sortSet_enc (by rw [List.length_append]; omega) (fun p hp => by
    rcases List.mem_append.mp hp with h | h
    · exact hFn p h
    · obtain ⟨b, h1, h2⟩ := mem_more.mp h
      exact ⟨(hFn _ h1).1, (hFn _ h2).2⟩)]
  simp only [R.ok_bind, op1_ok, lenR_lst, List.length_map, op2_ok, gtR_int, blE_ok]
  rw [show sortP (F ++ moreP F) = stepP F from rfl, show decide ((F.length : Int) < ((stepP F).length : Int)) = decide (F.length < (stepP F).length) from decide_eq_decide.mpr (by omega)]
theorem ord_more {n : Nat} {G : List (Int × Int)} (h : Ord n G) (hn : n ≤ 7) : (moreP G).length ≤ 1000 := by
  obtain ⟨row, hr, hs⟩ := h.row
  have hnd : row.Nodup := hr.nodup_iff.mpr (ups_nodup n)
  have hG : G.Nodup := by rw [← h.srt]; exact nodup_sortP G
  have := len_more_bound hnd hG hs (by rw [hr.length_eq, ups_len]; exact hn)
  omega
theorem steps_ok {n : Nat} {G : List (Int × Int)} (hO : Ord n G) (hn : n ≤ 7) : c_steps_of [ordD n G] = .ok (.lst ((G.filter fun p => !decide (p ∈ moreP G)).map encP)) := by
  have hG := ord_small hO hn
  have hM := ord_more hO hn
  rw [e_steps_of]
  unfold b_steps_of
  simp only [op2_ok, idx_ord1, op1_ok, listR, seqsR_tup, R.ok_bind, allR_ok, allR_nil]
  rw [led_ok (by omega) hM]
  simp only [R.ok_bind, seqsR_lst]
  rw [far_ok hM]
  simp only [R.ok_bind]
  rw [compE_map (xs := G) encP (fun p => !decide (p ∈ moreP G)) encP (by show _ ≤ 100000; omega) (fun p hp => ?_) (fun _ _ _ => rfl)]
  · rfl
  · unfold notInR
    rw [show inR (encP p) (.lst ((moreP G).map encP)) = .ok (decide (p ∈ moreP G)) from in_pairs_l p.1 p.2 (moreP G)]
    rfl
theorem pwhole_ok (i : Int) : c_is_whole [.int i] = .ok (.bl true) := by
  rw [e_is_whole]
  unfold b_is_whole
  simp [isaR, isaOk, isInt, isBool, andV, truT, longD]
theorem check_ok {n : Nat} {G : List (Int × Int)} {t : Nat} (ht : t < n) : c_check_thing [ordD n G, .int t] = .ok .non := by
  rw [e_check_thing]
  unfold b_check_thing
  simp only [allR_ok, allR_nil, R.ok_bind, pwhole_ok, op1_ok, truT_bl, notT_ok, op2_ok, ltR_int, idx_ord0, geR_int]
  rw [decide_eq_false (show ¬ (t : Int) < 0 by omega), decide_eq_false (show ¬ (n : Int) ≤ (t : Int) by omega)]
  rfl
theorem two_ok {n : Nat} {G : List (Int × Int)} {a b : Nat} (ha : a < n) (hb : b < n) : c_check_two [ordD n G, .int a, .int b] = .ok .non := by
  rw [e_check_two]
  unfold b_check_two
  simp only [allR_ok, allR_nil, R.ok_bind, check_ok ha, check_ok hb]
  rfl
/-- what is no thing -/
def Odd (n : Nat) (d : D) : Prop := (isaOk d = true ∧ (isInt d = false ∨ isBool d = true)) ∨ ∃ i : Int, d = .int i ∧ (i < 0 ∨ (n : Int) ≤ i)
theorem check_odd {n : Nat} {G : List (Int × Int)} {d : D} (h : Odd n d) : c_check_thing [ordD n G, d] = .ex (.exc 0 []) := by
  rw [e_check_thing]
  unfold b_check_thing
  rcases h with ⟨h1, h2⟩ | ⟨i, rfl, h2⟩
  · have hw : c_is_whole [d] = .ok (.bl false) := by
      rw [e_is_whole]
      unfold b_is_whole
      unfold isaR
      rcases h2 with h2 | h2
      · simp [h1, h2, andV]
      · cases d with
        | bl b => rfl
        | _ => cases h2
    simp only [allR_ok, allR_nil, R.ok_bind, hw, op1_ok, truT_bl, notT_ok, Bool.not_false, orT_true, ifE_true, endR_ex, finP_ex]
  · simp only [allR_ok, allR_nil, R.ok_bind, pwhole_ok, op1_ok, truT_bl, notT_ok, op2_ok, ltR_int, idx_ord0, geR_int]
    have : (decide (i < 0) || decide ((n : Int) ≤ i)) = true := by rcases h2 with h | h <;> simp [h]
    simp only [Bool.not_true, orT_ok, Bool.false_or, this, ifE_true, endR_ex, finP_ex]
theorem two_odd {n : Nat} {G : List (Int × Int)} {x y : D} (h : Odd n x ∨ (∃ t : Nat, t < n ∧ x = .int t) ∧ Odd n y) : c_check_two [ordD n G, x, y] = .ex (.exc 0 []) := by
  rw [e_check_two]
  unfold b_check_two
  rcases h with h | ⟨⟨t, ht, rfl⟩, h⟩
  · simp only [allR_ok, allR_nil, R.ok_bind, check_odd h, R.ex_bind, finP_ex]
  · simp only [allR_ok, allR_nil, R.ok_bind, check_ok ht, check_odd h, R.ex_bind, finP_ex]
theorem told_odd {n : Nat} {G : List (Int × Int)} {w : Nat} (hw : w < 2) {x y : D} (h : Odd n x ∨ (∃ t : Nat, t < n ∧ x = .int t) ∧ Odd n y) : c__law_told [.int w, ordD n G, x, y] = .ok (.str [116, 104, 105, 110, 103]) := by
  have e1 : c_with_pair [ordD n G, x, y] = .ex (.exc 0 []) := by
    rw [e_with_pair]
    unfold b_with_pair
    have : c_check_pair [ordD n G, x, y] = .ex (.exc 0 []) := by
      rw [e_check_pair]
      unfold b_check_pair
      simp only [allR_ok, allR_nil, R.ok_bind, two_odd h, R.ex_bind, finP_ex]
    simp only [allR_ok, allR_nil, R.ok_bind, this, R.ex_bind, finP_ex]
  have e2 : c_without_step [ordD n G, x, y] = .ex (.exc 0 []) := by
    rw [e_without_step]
    unfold b_without_step
    simp only [allR_ok, allR_nil, R.ok_bind, two_odd h, R.ex_bind, finP_ex]
  rw [e__law_told]
  unfold b__law_told
  have hw : w = 0 ∨ w = 1 := by omega
  rcases hw with rfl | rfl
  · have : selE (selL [(0, c_with_pair), (1, c_without_step)]) (op2 idxR (lstE [R.ok (.fn 0), R.ok (.fn 1)]) (R.ok (.int (0 : Nat)))) (allR [R.ok (ordD n G), R.ok x, R.ok y]) = c_with_pair [ordD n G, x, y] := rfl
    rw [this, e1]; rfl
  · have : selE (selL [(0, c_with_pair), (1, c_without_step)]) (op2 idxR (lstE [R.ok (.fn 0), R.ok (.fn 1)]) (R.ok (.int (1 : Nat)))) (allR [R.ok (ordD n G), R.ok x, R.ok y]) = c_without_step [ordD n G, x, y] := rfl
    rw [this, e2]; rfl
theorem told_0 {o x y : D} : c__law_told [.int 0, o, x, y] = finP (tryK [] (c_with_pair [o, x, y])) := by
  rw [e__law_told]
  unfold b__law_told
  rfl
theorem told_1 {o x y : D} : c__law_told [.int 1, o, x, y] = finP (tryK [] (c_without_step [o, x, y])) := by
  rw [e__law_told]
  unfold b__law_told
  rfl
theorem order_is_ok (n : Nat) (G : List (Int × Int)) (hG : G.length ≤ 1000) : c__law_order_is [ordD n G, ordD n G] = .ok (.bl true) := by
  rw [e__law_order_is]
  unfold b__law_order_is
  have h1 : isaR isTuple (ordD n G) = .ok true := rfl
  have h2 : isaR isTuple (.tup (G.map encP)) = .ok true := rfl
  simp only [op1_ok, op2_ok, h1, h2, ne_self (ord_fit n G), idx_ord0, idx_ord1, allR_ok, allR_nil, R.ok_bind, whole_ok, blE_ok, truT_bl, notT_ok, Bool.not_true, orT_ok, Bool.or_false, ifE_false, seqsR_tup]
  rw [compE_all (xs := G) encP (fun _ => D.bl true) (by show _ ≤ 100000; omega) (fun p _ => ?_)]
  · rw [op1_ok, List.map_const', all_true]; rfl
  · have h3 : isaR isTuple (encP p) = .ok true := rfl
    simp only [h3, idx_enc0, idx_enc1, R.ok_bind, whole_ok, blE_ok, andV, truT_bl]
    rfl
theorem str_ne {s t : List Nat} (hs : fitD (.str s) = true) (ht : fitD (.str t) = true) : neR (.str s) (.str t) = .ok (!(s == t)) := by
  show (if (fitD (.str s) && fitD (.str t)) = true then R.ok (!eqD (.str s) (.str t)) else .bad) = _
  rw [hs, ht]
  simp [eqD]
theorem check_pair_ok {n : Nat} {G : List (Int × Int)} {a b : Nat} (ha : a < n) (hb : b < n) : c_check_pair [ordD n G, .int a, .int b] = if ((a : Int) == b || decide (((b : Int), (a : Int)) ∈ G)) = true then .ex (.exc 2 []) else .ok .non := by
  rw [e_check_pair]
  unfold b_check_pair
  simp only [allR_ok, allR_nil, R.ok_bind, two_ok ha hb, op2_ok, eqR_int, tupE_2, idx_ord1, in_pairs, orT_ok]
  cases ((a : Int) == b || decide (((b : Int), (a : Int)) ∈ G)) <;> rfl
theorem with_told {n : Nat} {G : List (Int × Int)} (hO : Ord n G) (hn : n ≤ 7) {a b : Nat} (ha : a < n) (hb : b < n) :
    (((a : Int) == b || decide (((b : Int), (a : Int)) ∈ G)) = true ∧ finP (tryK [] (c_with_pair [ordD n G, .int a, .int b])) = .ok (.str [110, 117, 109, 98, 101, 114])) ∨
    (((a : Int) == b || decide (((b : Int), (a : Int)) ∈ G)) = false ∧ ∃ G2 : List (Int × Int), finP (tryK [] (c_with_pair [ordD n G, .int a, .int b])) = .ok (ordD n G2) ∧ G2.length ≤ 1000 ∧ c__law_closed [.lst ((G ++ [((a : Int), (b : Int))]).map encP)] = .ok (.tup (G2.map encP))) := by
  have hG := ord_small hO hn
  rw [e_with_pair]
  unfold b_with_pair
  simp only [allR_ok, allR_nil, R.ok_bind]
  rw [check_pair_ok ha hb]
  cases hc : ((a : Int) == b || decide (((b : Int), (a : Int)) ∈ G)) with
  | true =>
    refine .inl ⟨rfl, ?_⟩
    rw [if_pos rfl, R.ex_bind]
    rfl
  | false =>
    refine .inr ⟨rfl, ?_⟩
    rw [if_neg Bool.false_ne_true, R.ok_bind]
    obtain ⟨hab, hba⟩ := Bool.or_eq_false_iff.mp hc
    have hab : (a : Int) ≠ b := by simpa using hab
    have hba : ((b : Int), (a : Int)) ∉ G := by simpa using hba
    obtain ⟨row, hr, hs, hin⟩ := ext_row hO (mem_ups.mpr ⟨by omega, by omega⟩) (mem_ups.mpr ⟨by omega, by omega⟩) hab hba
    have hnd : row.Nodup := hr.nodup_iff.mpr (ups_nodup n)
    have hlen : row.length ≤ 7 := by rw [hr.length_eq, ups_len]; exact hn
    have h0 : ∀ x ∈ row, 0 ≤ x := fun x hx => (mem_ups.mp (hr.mem_iff.mp hx)).1
    have hps : ∀ p ∈ G ++ [((a : Int), (b : Int))], p ∈ upP row := fun p hp => by
      rcases List.mem_append.mp hp with h | h
      · exact hs p h
      · rw [List.mem_singleton] at h; subst h; exact hin
    obtain ⟨G1, k1, k2, k3, k4, k5, k6, k7⟩ := closed_ok hnd h0 hlen hps (by rw [List.length_append]; show _ + 1 < 64; omega)
    obtain ⟨G2, m1, m2, m3, m4, m5, m6, m7⟩ := pclosed_ok hnd h0 hlen hps (by rw [List.length_append]; show _ + 1 < 64; omega)
    have hG12 : G2 = G1 := clo_one m4 k4 m5 k5 m6 k6 m7 k7
    subst hG12
    have hGl : G2.length ≤ 1000 := by
      have h1 := len_sub k2 k3
      have h2 := upP_len row
      have : row.length * (row.length - 1) ≤ 7 * 6 := Nat.mul_le_mul hlen (by omega)
      omega
    refine ⟨G2, ?_, hGl, k1⟩
    have e1 : c_paired [ordD n G, .int a, .int b] = .ok (ordD n G2) := by
      rw [e_paired]
      unfold b_paired
      simp only [op2_ok, idx_ord0, idx_ord1, op1_ok, listR, seqsR_tup, R.ok_bind, tupE_2, lstE_1]
      rw [add_lst (by simp; omega), show G.map encP ++ [D.tup [.int a, .int b]] = (G ++ [((a : Int), (b : Int))]).map encP by rw [List.map_append]; rfl]
      simp only [R.ok_bind, allR_ok, allR_nil]
      rw [m1]
      rfl
    rw [e1]
    rfl
theorem two_right {n : Nat} {G : List (Int × Int)} (hO : Ord n G) (hn : n ≤ 7) {a b : Nat} (ha : a < n) (hb : b < n) : c__law_two_right [ordD n G, .int a, .int b] = .ok (.bl true) := by
  have hG := ord_small hO hn
  have hGn : G.Nodup := by rw [← hO.srt]; exact nodup_sortP G
  have hnum : fitD (.str [110, 117, 109, 98, 101, 114]) = true := by decide
  rw [e__law_two_right]
  unfold b__law_two_right
  simp only [allR_ok, allR_nil, R.ok_bind, told_0, told_1]
  obtain ⟨v1, hv1, hv2⟩ : ∃ v1, finP (tryK [] (c_with_pair [ordD n G, .int a, .int b])) = .ok v1 ∧ ((((a : Int) == b || decide (((b : Int), (a : Int)) ∈ G)) = true ∧ v1 = .str [110, 117, 109, 98, 101, 114]) ∨
      (((a : Int) == b || decide (((b : Int), (a : Int)) ∈ G)) = false ∧ ∃ G2 : List (Int × Int), v1 = ordD n G2 ∧ G2.length ≤ 1000 ∧ c__law_closed [.lst ((G ++ [((a : Int), (b : Int))]).map encP)] = .ok (.tup (G2.map encP)))) := by
    rcases with_told hO hn ha hb with ⟨h1, h2⟩ | ⟨h1, G2, h2, h3, h4⟩
    · exact ⟨_, h2, .inl ⟨h1, rfl⟩⟩
    · exact ⟨_, h2, .inr ⟨h1, G2, rfl, h3, h4⟩⟩
  rw [hv1, R.ok_bind]
  refine seq_gen (fun r => finP r = .ok (.bl true)) (fun _ => True) ?_ (fun _ _ => ?_)
  · simp only [op2_ok, eqR_int, tupE_2, idx_ord0, idx_ord1, in_pairs, orT_ok, op1_ok, listR, seqsR_tup, R.ok_bind, lstE_1]
    rcases hv2 with ⟨h1, rfl⟩ | ⟨h1, G2, rfl, h3, h4⟩
    · rw [h1, ifE_true, ne_self hnum]
      exact ⟨(), rfl, trivial⟩
    · rw [h1, ifE_false, add_lst (by simp; omega), show G.map encP ++ [D.tup [.int a, .int b]] = (G ++ [((a : Int), (b : Int))]).map encP by rw [List.map_append]; rfl]
      simp only [R.ok_bind, allR_ok, allR_nil]
      rw [h4]
      simp only [tupE_2, R.ok_bind, allR_ok, allR_nil]
      rw [show D.tup [D.int n, .tup (G2.map encP)] = ordD n G2 from rfl, order_is_ok n G2 h3]
      exact ⟨(), rfl, trivial⟩
  · rw [e_without_step]
    unfold b_without_step
    simp only [allR_ok, allR_nil, R.ok_bind, two_ok ha hb, tupE_2, steps_ok hO hn, op2_ok, idx_ord1, seqsR_tup, in_pairs, notInR, in_pairs_l, eqR_int]
    rw [compE_map (xs := G) encP (fun q => decide (q.2 = (b : Int)) && decide (((a : Int), q.1) ∈ G)) (fun q => D.int q.1) (by show _ ≤ 100000; omega) (fun q _ => ?_) (fun q _ _ => rfl)]
    · simp only [R.ok_bind]
      have hmem : (((a : Int), (b : Int)) ∈ G.filter fun p => !decide (p ∈ moreP G)) ↔ ((a : Int), (b : Int)) ∈ G ∧ (G.filter fun q => decide (q.2 = (b : Int)) && decide (((a : Int), q.1) ∈ G)) = [] := by
        rw [List.mem_filter]
        refine and_congr_right fun h1 => ?_
        rw [Bool.not_eq_true', decide_eq_false_iff_not, mem_more, List.filter_eq_nil_iff]
        constructor
        · intro h q hq e
          obtain ⟨e1, e2⟩ := Bool.and_eq_true_iff.mp e
          have e1 := of_decide_eq_true e1
          exact h ⟨q.1, of_decide_eq_true e2, by show (q.1, (b : Int)) ∈ G; rw [← e1]; exact hq⟩
        · rintro h ⟨c, h2, h3⟩
          refine h (c, (b : Int)) h3 ?_
          simp only [decide_true, Bool.true_and, decide_eq_true_eq]
          exact h2
      have hbet : neR (.lst (List.map (fun q : Int × Int => D.int q.1) (G.filter fun q => decide (q.2 = (b : Int)) && decide (((a : Int), q.1) ∈ G)))) (.lst []) = .ok (!decide ((G.filter fun q => decide (q.2 = (b : Int)) && decide (((a : Int), q.1) ∈ G)) = [])) := by
        have hf : fitD (.lst (List.map (fun q : Int × Int => D.int q.1) (G.filter fun q => decide (q.2 = (b : Int)) && decide (((a : Int), q.1) ∈ G)))) = true := by
          have := ints_fit_l ((G.filter fun q => decide (q.2 = (b : Int)) && decide (((a : Int), q.1) ∈ G)).map fun q => q.1)
          rw [List.map_map] at this; exact this
        show (if (fitD _ && fitD (.lst [])) = true then R.ok (!eqD _ (.lst [])) else .bad) = _
        rw [hf]
        cases (G.filter fun q => decide (q.2 = (b : Int)) && decide (((a : Int), q.1) ∈ G)) with
        | nil => rfl
        | cons x l => simp [eqD, eqDs]; rfl
      simp only [lstE_nil, op2_ok, hbet, orT_ok]
      by_cases hst : (((a : Int), (b : Int)) ∈ G.filter fun p => !decide (p ∈ moreP G))
      · obtain ⟨g1, g2⟩ := hmem.mp hst
        rw [decide_eq_true hst, decide_eq_true g1, decide_eq_true g2]
        simp only [Bool.not_true, ifE_false, Bool.or_false]
        have hleft : compE (R.ok (G.map encP)) (fun x11 => neR x11 (.tup [.int a, .int b])) (fun x11 => R.ok x11) = .ok (.lst ((G.filter fun p => !decide (p = ((a : Int), (b : Int)))).map encP)) := by
          rw [compE_map (xs := G) encP (fun p => !decide (p = ((a : Int), (b : Int)))) encP (by show _ ≤ 100000; omega) (fun p _ => by exact ne_encP p ((a : Int), (b : Int))) (fun _ _ _ => rfl)]
        have e1 : c_left_step [ordD n G, .int a, .int b] = .ok (ordD n (G.filter fun p => !decide (p = ((a : Int), (b : Int))))) := by
          rw [e_left_step]
          unfold b_left_step
          simp only [op2_ok, idx_ord0, idx_ord1, R.ok_bind, seqsR_tup, tupE_2, hleft]
          rfl
        rw [e1, hleft]
        simp only [R.ok_bind, finP_rt, tryK_ok, op1_ok, tupleR, seqsR_lst, idx_ord0, tupE_2]
        have hGl : (G.filter fun p => !decide (p = ((a : Int), (b : Int)))).length ≤ 1000 := by
          have := List.length_filter_le (fun p => !decide (p = ((a : Int), (b : Int)))) G
          omega
        rw [show D.tup [D.int n, .tup ((G.filter fun p => !decide (p = ((a : Int), (b : Int)))).map encP)] = ordD n (G.filter fun p => !decide (p = ((a : Int), (b : Int)))) from rfl]
        simp only [allR_ok, allR_nil, R.ok_bind]
        rw [order_is_ok n _ hGl]
        rfl
      · have hor : (!decide (((a : Int), (b : Int)) ∈ G) || !decide ((G.filter fun q => decide (q.2 = (b : Int)) && decide (((a : Int), q.1) ∈ G)) = [])) = true := by
          by_cases g1 : ((a : Int), (b : Int)) ∈ G
          · have g2 : ¬ (G.filter fun q => decide (q.2 = (b : Int)) && decide (((a : Int), q.1) ∈ G)) = [] := fun g2 => hst (hmem.mpr ⟨g1, g2⟩)
            rw [decide_eq_false g2]; simp
          · rw [decide_eq_false g1]; rfl
        rw [decide_eq_false hst, hor]
        simp only [Bool.not_false, ifE_true, endR_ex, finP_ex]
        rw [show finP (tryK [] (R.ex (D.exc 2 []))) = .ok (.str [110, 117, 109, 98, 101, 114]) from rfl]
        simp only [R.ok_bind, eq_self hnum, blE_ok, endR_rt, finP_rt, ifE_true]
    · simp only [encP, un2_tup, eqR_int, op2_ok, tupE_2, in_pairs, andT_ok]
      rfl
theorem no_thing_ok {p : D} (hp : Pen p) {n : Nat} (hn : n ≤ 9) : ∃ (d : D) (p' : D), c__law_no_thing [p, .int n] = .ok (d, [p']) ∧ Odd n d := by
  rw [e__law_no_thing]
  unfold b__law_no_thing
  have hpow : powR (.int 10) (.int 9) = .ok (.int 1000000000) := rfl
  obtain ⟨r1, p1, e1, g1, g2, g3⟩ := draw_ok (n := 1000000000) hp (by omega) (by omega)
  obtain ⟨r2, p2, e2, g4, g5, g6⟩ := draw_ok (n := 10) g3 (by omega) (by omega)
  simp only [op2_ok, op1_ok, negR_int, addR_int, hpow, pX_ok, consX_ok, opX_ok, R.ok_bind, tupE_1, lstE_1]
  rw [ioX_ok (d := .int r1) (o := p1) (by exact e1)]
  simp only [op2_ok, addR_int, pX_ok, consX_ok, opX_ok, R.ok_bind, lstX_ok, bindX_ok]
  rw [ioX_ok (d := .int r2) (o := p2) (by exact e2)]
  simp only [R.ok_bind]
  have hr : r2 = 0 ∨ r2 = 1 ∨ r2 = 2 ∨ r2 = 3 ∨ r2 = 4 ∨ r2 = 5 ∨ r2 = 6 ∨ r2 = 7 ∨ r2 = 8 ∨ r2 = 9 := by omega
  rcases hr with rfl | rfl | rfl | rfl | rfl | rfl | rfl | rfl | rfl | rfl
  · exact ⟨.int n, p2, rfl, .inr ⟨_, rfl, .inr (Int.le_refl _)⟩⟩
  · exact ⟨.int (n + 1 + r1), p2, rfl, .inr ⟨_, rfl, .inr (by omega)⟩⟩
  · exact ⟨.int (-1), p2, rfl, .inr ⟨_, rfl, .inl (by omega)⟩⟩
  · exact ⟨.bl true, p2, rfl, .inl ⟨rfl, .inr rfl⟩⟩
  · exact ⟨.bl false, p2, rfl, .inl ⟨rfl, .inr rfl⟩⟩
  · exact ⟨.non, p2, rfl, .inl ⟨rfl, .inl rfl⟩⟩
  · exact ⟨.str [48], p2, rfl, .inl ⟨rfl, .inl rfl⟩⟩
  · exact ⟨.tup [.int 0], p2, rfl, .inl ⟨rfl, .inl rfl⟩⟩
  · exact ⟨.lst [.int 0], p2, rfl, .inl ⟨rfl, .inl rfl⟩⟩
  · exact ⟨.dct 0 [], p2, rfl, .inl ⟨rfl, .inl rfl⟩⟩
theorem law_true (ns : List Int) (hl : ns.length ≤ 63) : c_law [.scr ns] = .ok (.bl true) := by
  rw [e_law]
  unfold b_law
  obtain ⟨c0, hc⟩ := cell_ok ns
  have hcut : cutE (.ok (.scr ns)) (some (.ok (.int 1))) (some (.ok (.int 8))) = .ok (.lst ((cutL ns (some 1) (some 8)).map D.int)) := id rfl
  have hcl : (cutL ns (some 1) (some 8)).length ≤ 63 := by
    unfold cutL
    rw [List.length_take, List.length_drop]; omega
  simp only [allR_ok, allR_nil, R.ok_bind]
  rw [hc, hcut]
  simp only [lstE_1, op2_ok]
  rw [add_lst (by simp; omega)]
  simp only [R.ok_bind, seqsR_lst]
  rw [show [D.int c0] ++ (cutL ns (some 1) (some 8)).map D.int = (c0 :: cutL ns (some 1) (some 8)).map D.int from rfl]
  refine for_gen (fun r => finP r = .ok (.bl true)) D.int (fun _ _ => True) trivial (fun i x s hx _ => ⟨(), ?_, trivial⟩) (fun s _ => by simp)
  obtain ⟨p0, e0, ⟨xs0, rfl⟩, hp0⟩ := pen_ok x
  rw [e0, ownR_lst]
  obtain ⟨n, G, p1, e1, hn, hp1, hO⟩ := order_ok hp0 (m := 7) (by omega)
  simp only [pX_ok, consX_ok, R.ok_bind]
  rw [ioX_ok (d := ordD n G) (o := p1) (by exact e1)]
  simp only [bindX_ok, op2_ok, idx_ord0, R.ok_bind]
  rw [range1_up (show n ≤ 100000 by omega)]
  simp only [R.ok_bind]
  refine for_gen (fun r : R (Fl Unit Unit) => r = .ok (.nx ())) (fun k : Nat => D.int k) (fun _ _ => True) trivial (fun i a s ha _ => ⟨(), ?_, trivial⟩) (fun s _ => ?_)
  · have ha : a < n := List.mem_range.mp (List.mem_of_getElem? ha)
    rw [compE_all (xs := List.range n) (fun k : Nat => D.int k) (fun _ => D.bl true) (by rw [List.length_range]; show n ≤ 100000; omega) (fun b hb => by exact two_right hO (by omega) ha (List.mem_range.mp hb))]
    rw [op1_ok, List.map_const', all_true]
    rfl
  · obtain ⟨bad, p2, e2, hbad⟩ := no_thing_ok (n := n) hp1 (by omega)
    simp only [pX_ok, consX_ok, R.ok_bind]
    rw [ioX_ok (d := bad) (o := p2) (by exact e2)]
    have h2 : range1R (.int 2) = .ok ((List.range 2).map fun k : Nat => D.int k) := range1_up (n := 2) (by omega)
    simp only [bindX_ok, h2, R.ok_bind]
    refine for_gen (fun r : R (Fl Unit Unit) => r = .ok (.nx ())) (fun k : Nat => D.int k) (fun _ _ => True) trivial (fun i w s hw _ => ⟨(), ?_, trivial⟩) (fun s _ => rfl)
    have hw : w < 2 := List.mem_range.mp (List.mem_of_getElem? hw)
    have t0 : c__law_told [.int w, ordD n G, bad, bad] = .ok (.str [116, 104, 105, 110, 103]) := told_odd hw (.inl hbad)
    simp only [tupE_2, lstE_1, R.ok_bind, gtR_int]
    refine seq_gen (fun r : R (Fl Unit Unit) => r = .ok (.nx ())) (fun s28 => s28 = .lst [.tup [bad, bad]] ∨ (0 < n ∧ s28 = .lst [.tup [bad, bad], .tup [bad, .int 0], .tup [.int 0, bad]])) ?_ (fun s28 hs => ?_)
    · by_cases h0 : (0 : Int) < n
      · rw [decide_eq_true h0]
        exact ⟨_, rfl, .inr ⟨by omega, rfl⟩⟩
      · rw [decide_eq_false h0]
        exact ⟨_, rfl, .inl rfl⟩
    · rcases hs with rfl | ⟨h0, rfl⟩
      · have e : compE (seqsR (D.lst [.tup [bad, bad]])) yesT (un2 fun x30 x31 => c__law_told [.int w, ordD n G, x30, x31]) = .ok (.lst [.str [116, 104, 105, 110, 103]]) :=
          compE_all (xs := [bad]) (fun b => D.tup [b, b]) (fun _ => D.str [116, 104, 105, 110, 103]) (show (1 : Nat) ≤ 100000 by omega) (fun b hb => by
            rw [List.mem_singleton] at hb; subst hb; exact t0)
        rw [e, op1_ok, lenR_lst, op2_ok, show (([D.tup [bad, bad]].length : Nat) : Int) = ((1 : Nat) : Int) from rfl, mul_rep (n := 1) (by omega) (by simp), show (List.replicate 1 [D.str [116, 104, 105, 110, 103]]).flatten = [D.str [116, 104, 105, 110, 103]] from rfl, op2_ok, ne_self (by decide), ifE_false]
      · have t1 : c__law_told [.int w, ordD n G, bad, .int 0] = .ok (.str [116, 104, 105, 110, 103]) := told_odd hw (.inl hbad)
        have t2 : c__law_told [.int w, ordD n G, .int 0, bad] = .ok (.str [116, 104, 105, 110, 103]) := told_odd hw (.inr ⟨⟨0, h0, rfl⟩, hbad⟩)
        have e : compE (seqsR (D.lst [.tup [bad, bad], .tup [bad, .int 0], .tup [.int 0, bad]])) yesT (un2 fun x30 x31 => c__law_told [.int w, ordD n G, x30, x31]) = .ok (.lst [.str [116, 104, 105, 110, 103], .str [116, 104, 105, 110, 103], .str [116, 104, 105, 110, 103]]) :=
          compE_all (xs := [(bad, bad), (bad, D.int 0), (D.int 0, bad)]) (fun b : D × D => D.tup [b.1, b.2]) (fun _ => D.str [116, 104, 105, 110, 103]) (show (3 : Nat) ≤ 100000 by omega) (fun b hb => by
            rcases List.mem_cons.mp hb with rfl | hb
            · exact t0
            · rcases List.mem_cons.mp hb with rfl | hb
              · exact t1
              · rw [List.mem_singleton] at hb; subst hb; exact t2)
        rw [e, op1_ok, lenR_lst, op2_ok, show (([D.tup [bad, bad], .tup [bad, .int 0], .tup [.int 0, bad]].length : Nat) : Int) = ((3 : Nat) : Int) from rfl, mul_rep (n := 3) (by omega) (by simp), show (List.replicate 3 [D.str [116, 104, 105, 110, 103]]).flatten = [D.str [116, 104, 105, 110, 103], D.str [116, 104, 105, 110, 103], D.str [116, 104, 105, 110, 103]] from rfl, op2_ok, ne_self (by decide), ifE_false]
theorem sc__law_kind_of : FnScope ["_law_e", "_law_marks"] ["_law_e"] (defScope (topS 28)) := ⟨rfl, rfl, rfl, by decide +kernel, rfl, by decide +kernel, by decide +kernel⟩
theorem w__law_kind_of {P : Program} {w : World} {K : PySem.W.Frag} {mg : Str → Option Value} {base : Heap} {T : Tb} (bi : Bi mg) {J : Addr} {cs : Nat → Addr} (hT : T.cl = clT cs) (KN : KnK K mg cs J) {f : Addr} {fd : FuncData} (hF : Fun K "_law_kind_of" "_law_kind_of" (topS 28) f fd) (hb : Binds K fd ["_law_e"] []) (hg : mg "_law_kind_of" = some (.ref f)) : KindOf P w K mg base T 1 "_law_kind_of" f :=
  kind_fn (k := 0) (r := 1) (mkN := fun _ => [.un, .un]) (mkB := fun e => nomatch e) hF sc__law_kind_of hb hg bi hT rfl fun cdv A outer s H E a oe c T' hc g hz hf hx => by
    show Ss _ T' _ false [] _ _ [C.val (.exc c []), .un] _ (kindB c)
    unfold kindB
    exact (ss_asgH (i := 1) g rfl (.inl rfl) (.inl rfl) rfl rfl (Ev.lasting (ev_lst (evA_cons (Ev.lasting (ev_isE (u := .ref (cs 0)) (cv := .ref (cs 0)) (bb := (c == 0)) List.mem_cons_self (KN.ec c hc) hz hf hx (ev_var (i := 0) rfl rfl (.inl rfl) rfl rfl) (pe_glob rfl KN.g0 rfl rfl) (fun _ h => h) (KN.kit c 0 hc (by decide)) rfl bi.isinstance rfl rfl rfl)) (evA_cons (Ev.lasting (ev_isE (u := .ref (cs 1)) (cv := .ref (cs 1)) (bb := (c == 1)) List.mem_cons_self (KN.ec c hc) hz hf hx (ev_var (i := 0) rfl rfl (.inl rfl) rfl rfl) (pe_glob rfl KN.g1 rfl rfl) (fun _ h => h) (KN.kit c 1 hc (by decide)) rfl bi.isinstance rfl rfl rfl)) (evA_cons (Ev.lasting (ev_isE (u := .ref (cs 2)) (cv := .ref (cs 2)) (bb := (c == 2)) List.mem_cons_self (KN.ec c hc) hz hf hx (ev_var (i := 0) rfl rfl (.inl rfl) rfl rfl) (pe_glob rfl KN.g2 rfl rfl) (fun _ h => h) (KN.kit c 2 hc (by decide)) rfl bi.isinstance rfl rfl rfl)) (evA_cons (Ev.lasting (ev_isE (u := .ref (cs 3)) (cv := .ref (cs 3)) (bb := (c == 3)) List.mem_cons_self (KN.ec c hc) hz hf hx (ev_var (i := 0) rfl rfl (.inl rfl) rfl rfl) (pe_glob rfl KN.g3 rfl rfl) (fun _ h => h) (KN.kit c 3 hc (by decide)) rfl bi.isinstance rfl rfl rfl)) evA_nil rfl) rfl) rfl) rfl) (by simp))) (fun v1 => (ss_asgH (i := 1) g rfl (.inl rfl) (.inl rfl) rfl rfl (Ev.lasting (ev_bin op_addR does_add (Ev.loan (ev_var (i := 1) rfl rfl (.inl rfl) rfl rfl)) (Ev.lend (ev_lst (evA_cons (Ev.lasting (ev_isE (u := .ref (cs 4)) (cv := .ref (cs 4)) (bb := (c == 4)) List.mem_cons_self (KN.ec c hc) hz hf hx (ev_var (i := 0) rfl rfl (.inl rfl) rfl rfl) (pe_glob rfl KN.g4 rfl rfl) (fun _ h => h) (KN.kit c 4 hc (by decide)) rfl bi.isinstance rfl rfl rfl)) (evA_cons (Ev.lasting (ev_isE (u := .ref (cs 5)) (cv := .ref (cs 5)) (bb := (c == 5)) List.mem_cons_self (KN.ec c hc) hz hf hx (ev_var (i := 0) rfl rfl (.inl rfl) rfl rfl) (pe_glob rfl KN.g5 rfl rfl) (fun _ h => h) (KN.kit c 5 hc (by decide)) rfl bi.isinstance rfl rfl rfl)) (evA_cons (Ev.lasting (ev_isE (u := .ref (cs 6)) (cv := .ref (cs 6)) (bb := (c == 6)) List.mem_cons_self (KN.ec c hc) hz hf hx (ev_var (i := 0) rfl rfl (.inl rfl) rfl rfl) (pe_glob rfl KN.g6 rfl rfl) (fun _ h => h) (KN.kit c 6 hc (by decide)) rfl bi.isinstance rfl rfl rfl)) evA_nil rfl) rfl) rfl) (by simp))))) (fun v2 => (ss_ifE (mk := fun e => nomatch e) (EvW.t (evW_or (evT_not (evT_val (Ev.lend (ev_isE (u := .ty "ValueError") (cv := .type "ValueError") (bb := true) List.mem_cons_self (KN.ec c hc) hz hf hx (ev_var (i := 0) rfl rfl (.inl rfl) rfl rfl) (pe_bltn rfl KN.ve (by decide +kernel) rfl) (fun _ h => h) (KN.kitV c hc) rfl bi.isinstance rfl rfl rfl)) (fun _ => rfl))) (evW_or1 (evT_cmp (op_neH g) does_ne nx_ne rfl (Ev.lend (ev_lmeth (pe_bm PySem.F.plainAttrs_list PySem.F.slot_list_count PySem.F.type_list_count mt_countF pw (pa_cons pw pa_nil rfl) rfl rfl rfl rfl rfl) does_count (Ev.loan (ev_var (i := 1) rfl rfl (.inl rfl) rfl rfl)) (Ev.lend ev_bl))) (Ev.lend ev_int))))) (ss_ret rfl (Ev.lasting (ev_str (s := [111, 116, 104, 101, 114]) rfl))) (ss_ret rfl (ev_ixH (Ev.lend (ev_lst (evA_cons (Ev.lasting (ev_str (s := [116, 104, 105, 110, 103]) rfl)) (evA_cons (Ev.lasting (ev_str (s := [114, 111, 119]) rfl)) (evA_cons (Ev.lasting (ev_str (s := [110, 117, 109, 98, 101, 114]) rfl)) (evA_cons (Ev.lasting (ev_str (s := [108, 105, 110, 101]) rfl)) (evA_cons (Ev.lasting (ev_str (s := [111, 114, 100, 101, 114]) rfl)) (evA_cons (Ev.lasting (ev_str (s := [116, 101, 120, 116]) rfl)) (evA_cons (Ev.lasting (ev_str (s := [103, 114, 101, 97, 116]) rfl)) evA_nil rfl) rfl) rfl) rfl) rfl) rfl) rfl) (by simp))) (Ev.lend (ev_lmeth (pe_bm PySem.F.plainAttrs_list PySem.F.slot_list_index PySem.F.type_list_index mt_index pw (pa_cons pw pa_nil rfl) rfl rfl rfl rfl rfl) does_index (Ev.loan (ev_var (i := 1) rfl rfl (.inl rfl) rfl rfl)) (Ev.lend ev_bl))) (fun _ _ => rfl))))))))
theorem sc__law_pen_of : FnScope ["_law_cell", "_law_left"] ["_law_cell"] (defScope (topS 25)) := ⟨rfl, rfl, rfl, by decide +kernel, rfl, by decide +kernel, by decide +kernel⟩
theorem w__law_pen_of {P : Program} {w : World} {K : PySem.W.Frag} {mg : Str → Option Value} {base : Heap} {T : Tb} (bi : Bi mg) {f : Addr} {fd : FuncData} (hF : Fun K "_law_pen_of" "_law_pen_of" (topS 25) f fd) (hb : Binds K fd ["_law_cell"] []) (hg : mg "_law_pen_of" = some (.ref f)) :
    FD P w K mg base T 1 "_law_pen_of" f true [] 1 (pureM c__law_pen_of) :=
  fd_pure (k := 0) (j := 1) (mm := ap1 b__law_pen_of) (mkN := fun _ => [.un, .un]) (mkB := fun e => nomatch e) hF sc__law_pen_of rfl rfl hb hg bi fun cdv A outer s H E g tk ds hd => by
    obtain ⟨a0, rfl⟩ := len1 hd
    rw [ap1_eq]
    show Ss _ T _ _ [] _ _ [C.val a0, .un] _ _
    unfold b__law_pen_of
    exact (ss_asg (i := 1) g rfl (.inl rfl) (.inl rfl) rfl rfl (Ev.lasting (ev_b2 (call_max2 g.calm) does_max2 rfl g.bi.max (by decide +kernel) (Ev.loan (ev_var (i := 0) rfl rfl (.inl rfl) rfl rfl)) (Ev.lend (ev_bin op_sub does_sub (Ev.lend ev_int) (Ev.loan (ev_var (i := 0) rfl rfl (.inl rfl) rfl rfl)))) rfl rfl (by decide +kernel) rfl rfl)) (fun v1 => (ss_ret rfl (ev_lst (evA_cons (ev_var (i := 1) rfl rfl (.inl rfl) rfl rfl) (evA_cons (Ev.lasting (ev_t1 call_int1 does_int rfl g.bi.int (by decide +kernel) (Ev.lend (ev_cmp op_ge does_ge nx_ge rfl (Ev.loan (ev_var (i := 1) rfl rfl (.inl rfl) rfl rfl)) (Ev.lend (ev_bin op_pow does_pow (Ev.lend ev_int) (Ev.lend ev_int))))) rfl (by decide +kernel) rfl)) (evA_cons (Ev.lasting (ev_bin op_mod does_mod (Ev.loan (ev_var (i := 1) rfl rfl (.inl rfl) rfl rfl)) (Ev.lend ev_int))) evA_nil rfl) rfl) rfl) (by simp)))))

theorem sc__law_next : FnScope ["_law_seed"] ["_law_seed"] (defScope (topS 24)) := ⟨rfl, rfl, rfl, by decide +kernel, rfl, by decide +kernel, by decide +kernel⟩
theorem w__law_next {P : Program} {w : World} {K : PySem.W.Frag} {mg : Str → Option Value} {base : Heap} {T : Tb} (bi : Bi mg) {f : Addr} {fd : FuncData} (hF : Fun K "_law_next" "_law_next" (topS 24) f fd) (hb : Binds K fd ["_law_seed"] []) (hg : mg "_law_next" = some (.ref f)) :
    FD P w K mg base T 1 "_law_next" f true [] 1 (pureM c__law_next) :=
  fd_pure (k := 0) (j := 0) (mm := ap1 b__law_next) (mkN := fun _ => [.un]) (mkB := fun e => nomatch e) hF sc__law_next rfl rfl hb hg bi fun cdv A outer s H E g tk ds hd => by
    obtain ⟨a0, rfl⟩ := len1 hd
    rw [ap1_eq]
    show Ss _ T _ _ [] _ _ [C.val a0] _ _
    unfold b__law_next
    exact (ss_asg (i := 0) g rfl (.inl rfl) (.inl rfl) rfl rfl (Ev.lasting (ev_bin op_mod does_mod (Ev.lend (ev_bin op_addR does_add (Ev.loan (ev_var (i := 0) rfl rfl (.inl rfl) rfl rfl)) (Ev.lend ev_int))) (Ev.lend ev_int))) (fun v1 => (ss_ret rfl (ev_bin op_mod does_mod (Ev.lend (ev_bin op_addR does_add (Ev.lend (ev_bin op_addR does_add (Ev.lend (ev_bin op_mulR does_mul (Ev.loan (ev_var (i := 0) rfl rfl (.inl rfl) rfl rfl)) (Ev.loan (ev_var (i := 0) rfl rfl (.inl rfl) rfl rfl)))) (Ev.lend (ev_bin op_mulR does_mul (Ev.lend ev_int) (Ev.loan (ev_var (i := 0) rfl rfl (.inl rfl) rfl rfl)))))) (Ev.lend ev_int))) (Ev.lend ev_int)))))

theorem sc__law_draw : FnScope ["_law_pen", "_law_many", "_law_found"] ["_law_pen", "_law_many"] (defScope (topS 26)) := ⟨rfl, rfl, rfl, by decide +kernel, rfl, by decide +kernel, by decide +kernel⟩
theorem w__law_draw {P : Program} {w : World} {K : PySem.W.Frag} {mg : Str → Option Value} {base : Heap} {T : Tb} (bi : Bi mg) {f__law_next : Addr} (F__law_next : FD P w K mg base T 1 "_law_next" f__law_next true [] 1 (pureM c__law_next)) {f : Addr} {fd : FuncData} (hF : Fun K "_law_draw" "_law_draw" (topS 26) f fd) (hb : Binds K fd ["_law_pen", "_law_many"] []) (hg : mg "_law_draw" = some (.ref f)) :
    FD P w K mg base T 2 "_law_draw" f false [0] 2 c__law_draw :=
  fd_io (k := 1) (j := 1) (mm := ap2 b__law_draw) (mkN := fun _ => [.un, .un, .un]) (mkB := fun e => nomatch e) hF sc__law_draw rfl rfl hb hg bi (by decide) fun cdv A outer s H E g tk ds hd => by
    obtain ⟨a0, a1, rfl⟩ := len2 hd
    rw [ap2_eq]
    show Ss _ T _ _ [0] _ _ [C.own a0, C.val a1, .un] _ _
    unfold b__law_draw
    exact (ss_ifE (mk := fun e => nomatch e) (evT_cmp (op_eqQ g) does_eq nx_eq rfl (Ev.loan (ev_ix g (ev_own (i := 0) rfl rfl (.inl rfl) rfl rfl) (Ev.lend ev_int) (fun _ _ => rfl))) (Ev.lend ev_int)) (ss_asg (i := 2) g rfl (.inl rfl) (.inl rfl) rfl rfl (Ev.lasting (ev_bin op_mod does_mod (Ev.loan (ev_ix g (ev_own (i := 0) rfl rfl (.inl rfl) rfl rfl) (Ev.lend ev_int) (fun _ _ => rfl))) (Ev.loan (ev_var (i := 1) rfl rfl (.inl rfl) rfl rfl)))) (fun v1 => (ss_set (i := 0) g rfl rfl (.inl rfl) rfl rfl (Ev.lasting (ev_bin op_fdiv does_fdiv (Ev.loan (ev_ix g (ev_own (i := 0) rfl rfl (.inl rfl) rfl rfl) (Ev.lend ev_int) (fun _ _ => rfl))) (Ev.loan (ev_var (i := 1) rfl rfl (.inl rfl) rfl rfl)))) (Ev.lasting ev_int) rfl (fun _ => rfl) rfl rfl (fun v2 => (ss_ret rfl (ev_var (i := 2) rfl rfl (.inl rfl) rfl rfl)))))) (ss_set (i := 0) g rfl rfl (.inl rfl) rfl rfl (Ev.lasting (ev_call (fr := true) g F__law_next (by decide) tk rfl (evA_cons (Ev.lasting (ev_bin op_addR does_add (Ev.lend (ev_call (fr := true) g F__law_next (by decide) tk rfl (evA_cons (ev_ix g (ev_own (i := 0) rfl rfl (.inl rfl) rfl rfl) (Ev.lend ev_int) (fun _ _ => rfl)) evA_nil rfl) rfl rfl rfl rfl)) (Ev.lend ev_int))) evA_nil rfl) rfl rfl rfl rfl)) (Ev.lasting ev_int) rfl (fun _ => rfl) rfl rfl (fun v4 => (ss_ret rfl (Ev.lasting (ev_bin op_mod does_mod (Ev.lend (ev_bin op_fdiv does_fdiv (Ev.loan (ev_ix g (ev_own (i := 0) rfl rfl (.inl rfl) rfl rfl) (Ev.lend ev_int) (fun _ _ => rfl))) (Ev.lend ev_int))) (Ev.loan (ev_var (i := 1) rfl rfl (.inl rfl) rfl rfl))))))))

theorem sc__law_mixed : FnScope ["_law_pen", "_law_many", "_law_found", "_law_number"] ["_law_pen", "_law_many"] (defScope (topS 30)) := ⟨rfl, rfl, rfl, by decide +kernel, rfl, by decide +kernel, by decide +kernel⟩
theorem w__law_mixed {P : Program} {w : World} {K : PySem.W.Frag} {mg : Str → Option Value} {base : Heap} {T : Tb} (bi : Bi mg) {f__law_draw : Addr} (F__law_draw : FD P w K mg base T 2 "_law_draw" f__law_draw false [0] 2 c__law_draw) {f : Addr} {fd : FuncData} (hF : Fun K "_law_mixed" "_law_mixed" (topS 30) f fd) (hb : Binds K fd ["_law_pen", "_law_many"] []) (hg : mg "_law_mixed" = some (.ref f)) :
    FD P w K mg base T 3 "_law_mixed" f true [0] 2 c__law_mixed :=
  fd_io (k := 2) (j := 2) (mm := ap2 b__law_mixed) (mkN := fun _ => [.un, .un, .un, .un]) (mkB := fun e => nomatch e) hF sc__law_mixed rfl rfl hb hg bi (by decide) fun cdv A outer s H E g tk ds hd => by
    obtain ⟨a0, a1, rfl⟩ := len2 hd
    rw [ap2_eq]
    show Ss _ T _ _ [0] _ _ [C.own a0, C.val a1, .un, .un] _ _
    unfold b__law_mixed
    exact (ss_own (i := 2) g rfl (.inl rfl) (.inl rfl) rfl rfl (ev_lst evA_nil (by simp)) (fun v1 => (ss_for (mk := (fun (s4 : D × D) => [C.own s4.1, C.val a1, C.own s4.2, .un])) (s0 := (a0, v1)) (i := 3) g (passes_of rfl) rfl (.inl rfl) (.inl rfl) rfl (evI_rg1 g rfl (evA_cons (ev_var (i := 1) rfl rfl (.inl rfl) rfl rfl) evA_nil rfl) rfl) (.kp (.kp (.kp (.un .nil)))) rfl (fun d5 s2 => (ss_insertX (mk := (fun (s8 : D × D) => [C.own s8.1, C.val a1, C.own s8.2, C.val d5])) (s := (s2.1, s2.2)) (i := 2) (gt := (fun (s : D × D) => s.2)) (fun _ => rfl) rfl (evxA_cons (evx_io (fr := false) (i := 0) (q := 0) (r := 1) (gt := (fun (s : D × D) => s.1)) (up := (fun (s : D × D) (d : D) => (d, s.2))) g F__law_draw (by decide) tk rfl ⟨fun _ => rfl, fun _ _ => rfl⟩ (evxA_own (i := 0) rfl rfl (.inl rfl) rfl rfl (evxA_cons (EvX.lasting (evx_of (by decide) (ev_bin op_addR does_add (Ev.loan (ev_var (i := 3) rfl rfl (.inl rfl) rfl rfl)) (Ev.lend ev_int)))) (fun s11 => evxA_nil) rfl) rfl) rfl rfl rfl) (fun s9 => (evxA_cons (evx_of (by decide) (ev_var (i := 3) rfl rfl (.inl rfl) rfl rfl)) (fun s12 => evxA_nil) rfl)) rfl) (pe_bm PySem.F.plainAttrs_list PySem.F.slot_list_insert PySem.F.type_list_insert mt_insert (pe_var rfl (.inl rfl) rfl rfl) aw rfl rfl rfl rfl rfl) (fun v6 s7 => (ss_nil (.kp (.kp (.kp (.un .nil)))) rfl)))) (fun s3 => (ss_freeze (i := 2) rfl rfl (ss_ret rfl (ev_t1 call_tuple_of does_tuple rfl g.bi.tuple (by decide +kernel) (Ev.loan (ev_var (i := 2) rfl rfl (.inl rfl) rfl rfl)) rfl (by decide +kernel) rfl)))))))

theorem sc__law_closed : FnScope ["_law_pairs", "_law_found", "_law_size", "_law_more", "_law_a", "_law_b", "_law_c", "_law_d"] ["_law_pairs"] (defScope (topS 29)) := ⟨rfl, rfl, rfl, by decide +kernel, rfl, by decide +kernel, by decide +kernel⟩
theorem w__law_closed {P : Program} {w : World} {K : PySem.W.Frag} {mg : Str → Option Value} {base : Heap} {T : Tb} (bi : Bi mg) {f : Addr} {fd : FuncData} (hF : Fun K "_law_closed" "_law_closed" (topS 29) f fd) (hb : Binds K fd ["_law_pairs"] []) (hg : mg "_law_closed" = some (.ref f)) :
    FD P w K mg base T 1 "_law_closed" f true [] 1 (pureM c__law_closed) :=
  fd_pure (k := 0) (j := 7) (mm := ap1 b__law_closed) (mkN := fun _ => [.un, .un, .un, .un, .un, .un, .un, .un]) (mkB := fun e => nomatch e) hF sc__law_closed rfl rfl hb hg bi fun cdv A outer s H E g tk ds hd => by
    obtain ⟨a0, rfl⟩ := len1 hd
    rw [ap1_eq]
    show Ss _ T _ _ [] _ _ [C.val a0, .un, .un, .un, .un, .un, .un, .un] _ _
    unfold b__law_closed
    exact (ss_asg (i := 1) g rfl (.inl rfl) (.inl rfl) rfl rfl (Ev.lasting (ev_sortSet g rfl rfl (ev_var (i := 0) rfl rfl (.inl rfl) rfl rfl) rfl rfl)) (fun v1 => (ss_asg (i := 2) g rfl (.inl rfl) (.inl rfl) rfl rfl (Ev.lasting (does_un (Ev.lend ev_int))) (fun v2 => (ss_while (mk := (fun (s5 : D × D) => [C.val a0, C.val s5.1, C.val s5.2, .un, .un, .un, .un, .un])) (s0 := (v1, v2)) (n := 200) (passes_of rfl) (.kp (.kp (.kp (.un (.un (.un (.un (.un .nil)))))))) rfl (fun s3 => (evT_cmp (op_neQ g) does_ne nx_ne rfl (Ev.loan (ev_var (i := 2) rfl rfl (.inl rfl) rfl rfl)) (Ev.lend (ev_b1 call_lenQ does_len rfl g.bi.len (by decide +kernel) (Ev.loan (ev_var (i := 1) rfl rfl (.inl rfl) rfl rfl)) rfl (by decide +kernel) rfl)))) (fun s3 => (ss_asg (i := 2) g rfl (.inl rfl) (.inl rfl) rfl rfl (Ev.lasting (ev_b1 call_lenQ does_len rfl g.bi.len (by decide +kernel) (Ev.loan (ev_var (i := 1) rfl rfl (.inl rfl) rfl rfl)) rfl (by decide +kernel) rfl)) (fun v6 => (ss_asg (i := 3) g rfl (.inl rfl) (.inl rfl) rfl rfl (Ev.lasting (ev_lst evA_nil (by simp))) (fun v7 => (ss_for2 (mk := (fun (s10 : D) => [C.val a0, C.val s3.1, C.val v6, C.val s10, .un, .un, .un, .un])) (s0 := v7) (i := 4) (j := 5) g (passes_of rfl) ⟨rfl, (.inr rfl), (.inl rfl), rfl⟩ ⟨rfl, (.inr rfl), (.inl rfl), rfl⟩ (evI_seq (ev_var (i := 1) rfl rfl (.inl rfl) rfl rfl)) (.kp (.kp (.kp (.kp (.un (.un (.un (.un .nil)))))))) rfl (fun d11 d12 s8 => (ss_asg (i := 3) g rfl (.inl rfl) (.inl rfl) rfl rfl (Ev.lasting (ev_bin op_addR does_add (Ev.loan (ev_var (i := 3) rfl rfl (.inl rfl) rfl rfl)) (Ev.lend (Cm.ev (cm_comp2F (i := 6) (j := 7) g (by decide) ⟨rfl, (.inl rfl), (.inr rfl)⟩ ⟨rfl, (.inl rfl), (.inr rfl)⟩ (blkOk_by rfl) (EvI.w (evI_seq (ev_var (i := 1) rfl rfl (.inl rfl) rfl rfl))) (fun x14 x15 _ _ _ _ _ => (evT_cmp (op_eqQ (Gd.blk g _ _ _ _ _)) does_eq nx_eq rfl (Ev.loan (ev_var (i := 6) rfl rfl (.inl rfl) rfl rfl)) (Ev.loan (ev_var (i := 5) rfl rfl (.inr (.inl rfl)) rfl rfl)))) (fun x14 x15 _ _ _ _ _ => (Ev.lasting (ev_tup (evA_cons (ev_var (i := 4) rfl rfl (.inr (.inl rfl)) rfl rfl) (evA_cons (ev_var (i := 7) rfl rfl (.inl rfl) rfl rfl) evA_nil rfl) rfl) (by simp))))))))) (fun v13 => (ss_nil (.kp (.kp (.kp (.kp (.un (.un (.un (.un .nil)))))))) rfl)))) (fun s9 => (ss_asg (i := 1) g rfl (.inl rfl) (.inl rfl) rfl rfl (Ev.lasting (ev_sortSet g rfl rfl (Ev.lasting (ev_bin op_addR does_add (Ev.loan (ev_var (i := 1) rfl rfl (.inl rfl) rfl rfl)) (Ev.loan (ev_var (i := 3) rfl rfl (.inl rfl) rfl rfl)))) rfl rfl)) (fun v16 => (ss_nil (.kp (.kp (.kp (.un (.un (.un (.un (.un .nil)))))))) rfl)))))))))) (fun s4 => (ss_ret rfl (ev_t1 call_tuple_of does_tuple rfl g.bi.tuple (by decide +kernel) (Ev.loan (ev_var (i := 1) rfl rfl (.inl rfl) rfl rfl)) rfl (by decide +kernel) rfl))))))))

theorem sc__law_order_of : FnScope ["_law_pen", "_law_most", "_law_many", "_law_row", "_law_thin", "_law_found", "_law_spot", "_law_later"] ["_law_pen", "_law_most"] (defScope (topS 31)) := ⟨rfl, rfl, rfl, by decide +kernel, rfl, by decide +kernel, by decide +kernel⟩
theorem w__law_order_of {P : Program} {w : World} {K : PySem.W.Frag} {mg : Str → Option Value} {base : Heap} {T : Tb} (bi : Bi mg) {f__law_draw : Addr} (F__law_draw : FD P w K mg base T 2 "_law_draw" f__law_draw false [0] 2 c__law_draw) {f__law_mixed : Addr} (F__law_mixed : FD P w K mg base T 3 "_law_mixed" f__law_mixed true [0] 2 c__law_mixed) {f__law_closed : Addr} (F__law_closed : FD P w K mg base T 1 "_law_closed" f__law_closed true [] 1 (pureM c__law_closed)) {f : Addr} {fd : FuncData} (hF : Fun K "_law_order_of" "_law_order_of" (topS 31) f fd) (hb : Binds K fd ["_law_pen", "_law_most"] []) (hg : mg "_law_order_of" = some (.ref f)) :
    FD P w K mg base T 4 "_law_order_of" f true [0] 2 c__law_order_of :=
  fd_io (k := 3) (j := 6) (mm := ap2 b__law_order_of) (mkN := fun _ => [.un, .un, .un, .un, .un, .un, .un, .un]) (mkB := fun e => nomatch e) hF sc__law_order_of rfl rfl hb hg bi (by decide) fun cdv A outer s H E g tk ds hd => by
    obtain ⟨a0, a1, rfl⟩ := len2 hd
    rw [ap2_eq]
    show Ss _ T _ _ [0] _ _ [C.own a0, C.val a1, .un, .un, .un, .un, .un, .un] _ _
    unfold b__law_order_of
    exact (ss_asgX (mk := (fun (s3 : D) => [C.own s3, C.val a1, .un, .un, .un, .un, .un, .un])) (s := a0) (i := 2) g ⟨rfl, (.inl rfl), (.inl rfl), rfl⟩ rfl (evx_ix g (EvX.lasting (evx_lst (n := 3) (evxA_cons (evx_of (by decide) (ev_var (i := 1) rfl rfl (.inl rfl) rfl rfl)) (fun s6 => (evxA_cons (evx_of (by decide) (ev_var (i := 1) rfl rfl (.inl rfl) rfl rfl)) (fun s7 => (evxA_cons (evx_io (fr := false) (i := 0) (q := 0) (r := 1) (gt := (fun (s : D) => s)) (up := (fun (_ d : D) => d)) g F__law_draw (by decide) tk rfl ⟨fun _ => rfl, fun _ _ => rfl⟩ (evxA_own (i := 0) rfl rfl (.inl rfl) rfl rfl (evxA_cons (EvX.lasting (evx_of (by decide) (ev_bin op_addR does_add (Ev.loan (ev_var (i := 1) rfl rfl (.inl rfl) rfl rfl)) (Ev.lend ev_int)))) (fun s10 => evxA_nil) rfl) rfl) rfl rfl rfl) (fun s8 => evxA_nil) rfl)) rfl)) rfl) (by decide))) (fun s4 => (evx_io (fr := false) (i := 0) (q := 0) (r := 1) (gt := (fun (s : D) => s)) (up := (fun (_ d : D) => d)) g F__law_draw (by decide) tk rfl ⟨fun _ => rfl, fun _ _ => rfl⟩ (evxA_own (i := 0) rfl rfl (.inl rfl) rfl rfl (evxA_cons (EvX.lasting (evx_of (by decide) ev_int)) (fun s12 => evxA_nil) rfl) rfl) rfl rfl rfl)) (fun _ _ => rfl)) (fun v1 s2 => (ss_asgX (mk := (fun (s15 : D) => [C.own s15, C.val a1, C.val v1, .un, .un, .un, .un, .un])) (s := s2) (i := 3) g ⟨rfl, (.inl rfl), (.inl rfl), rfl⟩ rfl (EvX.lasting (evx_io (fr := true) (i := 0) (q := 0) (r := 1) (gt := (fun (s : D) => s)) (up := (fun (_ d : D) => d)) g F__law_mixed (by decide) tk rfl ⟨fun _ => rfl, fun _ _ => rfl⟩ (evxA_own (i := 0) rfl rfl (.inl rfl) rfl rfl (evxA_cons (evx_of (by decide) (ev_var (i := 2) rfl rfl (.inl rfl) rfl rfl)) (fun s17 => evxA_nil) rfl) rfl) rfl rfl rfl)) (fun v13 s14 => (ss_asgX (mk := (fun (s20 : D) => [C.own s20, C.val a1, C.val v1, C.val v13, .un, .un, .un, .un])) (s := s14) (i := 4) g ⟨rfl, (.inl rfl), (.inl rfl), rfl⟩ rfl (EvX.lasting (evx_bin op_addR does_add (EvX.lasting (evx_of (by decide) ev_int)) (fun s21 => (evx_io (fr := false) (i := 0) (q := 0) (r := 1) (gt := (fun (s : D) => s)) (up := (fun (_ d : D) => d)) g F__law_draw (by decide) tk rfl ⟨fun _ => rfl, fun _ _ => rfl⟩ (evxA_own (i := 0) rfl rfl (.inl rfl) rfl rfl (evxA_cons (EvX.lasting (evx_of (by decide) ev_int)) (fun s23 => evxA_nil) rfl) rfl) rfl rfl rfl)))) (fun v18 s19 => (ss_own (i := 5) g rfl (.inl rfl) (.inl rfl) rfl rfl (ev_lst evA_nil (by simp)) (fun v24 => (ss_for (mk := (fun (s27 : D × D) => [C.own s27.1, C.val a1, C.val v1, C.val v13, C.val v18, C.own s27.2, .un, .un])) (s0 := (s19, v24)) (i := 6) g (passes_of rfl) rfl (.inl rfl) (.inl rfl) rfl (evI_rg1 g rfl (evA_cons (ev_var (i := 2) rfl rfl (.inl rfl) rfl rfl) evA_nil rfl) rfl) (.kp (.kp (.kp (.kp (.kp (.kp (.un (.un .nil)))))))) rfl (fun d28 s25 => (ss_for (mk := (fun (s31 : D × D) => [C.own s31.1, C.val a1, C.val v1, C.val v13, C.val v18, C.own s31.2, C.val d28, .un])) (s0 := (s25.1, s25.2)) (i := 7) g (passes_of rfl) rfl (.inl rfl) (.inl rfl) rfl (evI_seq (Ev.lasting (ev_cut (Ev.loan (ev_var (i := 3) rfl rfl (.inl rfl) rfl rfl)) (Ev.lend (ev_bin op_addR does_add (Ev.loan (ev_var (i := 6) rfl rfl (.inl rfl) rfl rfl)) (Ev.lend ev_int))) trivial))) (.kp (.kp (.kp (.kp (.kp (.kp (.kp (.un .nil)))))))) rfl (fun d32 s29 => (ss_ifX (mk := (fun (s34 : D) => [C.own s34, C.val a1, C.val v1, C.val v13, C.val v18, C.own s29.2, C.val d28, C.val d32])) (s := s29.1) (mk2 := (fun (s40 : D × D) => [C.own s40.1, C.val a1, C.val v1, C.val v13, C.val v18, C.own s40.2, C.val d28, C.val d32])) (evxT_cmp (op_ltQ g) does_lt nx_lt rfl (evx_io (fr := false) (i := 0) (q := 0) (r := 1) (gt := (fun (s : D) => s)) (up := (fun (_ d : D) => d)) g F__law_draw (by decide) tk rfl ⟨fun _ => rfl, fun _ _ => rfl⟩ (evxA_own (i := 0) rfl rfl (.inl rfl) rfl rfl (evxA_cons (EvX.lasting (evx_of (by decide) ev_int)) (fun s37 => evxA_nil) rfl) rfl) rfl rfl rfl) (fun s35 => (evx_of (by decide) (ev_var (i := 4) rfl rfl (.inl rfl) rfl rfl)))) (fun s33 => (ss_append (i := 5) rfl rfl (.inl rfl) rfl rfl rfl (Ev.lasting (ev_tup (evA_cons (ev_ix g (Ev.loan (ev_var (i := 3) rfl rfl (.inl rfl) rfl rfl)) (Ev.loan (ev_var (i := 6) rfl rfl (.inl rfl) rfl rfl)) (fun _ _ => rfl)) (evA_cons (ev_var (i := 7) rfl rfl (.inl rfl) rfl rfl) evA_nil rfl) rfl) (by simp))) (pe_bm PySem.F.plainAttrs_list PySem.F.slot_list_append PySem.F.type_list_append mt_append (pe_var rfl (.inl rfl) rfl rfl) (pa_cons pw pa_nil rfl) rfl rfl rfl rfl rfl) (fun v38 => (ss_nil (.kp (.kp (.kp (.kp (.kp (.kp (.kp (.kp .nil)))))))) rfl)))) (fun s33 => (ss_nil (.kp (.kp (.kp (.kp (.kp (.kp (.kp (.kp .nil)))))))) rfl)) (fun s39 => (ss_nil (.kp (.kp (.kp (.kp (.kp (.kp (.kp (.un .nil)))))))) rfl)))) (fun s30 => (ss_nil (.kp (.kp (.kp (.kp (.kp (.kp (.un (.un .nil)))))))) rfl)))) (fun s26 => (ss_freeze (i := 5) rfl rfl (ss_ret rfl (ev_tup (evA_cons (ev_var (i := 2) rfl rfl (.inl rfl) rfl rfl) (evA_cons (Ev.lasting (ev_call (fr := true) g F__law_closed (by decide) tk rfl (evA_cons (ev_var (i := 5) rfl rfl (.inl rfl) rfl rfl) evA_nil rfl) rfl rfl rfl rfl)) evA_nil rfl) rfl) (by simp))))))))))))))

theorem sc__law_no_thing : FnScope ["_law_pen", "_law_many", "_law_odd"] ["_law_pen", "_law_many"] (defScope (topS 33)) := ⟨rfl, rfl, rfl, by decide +kernel, rfl, by decide +kernel, by decide +kernel⟩
theorem w__law_no_thing {P : Program} {w : World} {K : PySem.W.Frag} {mg : Str → Option Value} {base : Heap} {T : Tb} (bi : Bi mg) {f__law_draw : Addr} (F__law_draw : FD P w K mg base T 2 "_law_draw" f__law_draw false [0] 2 c__law_draw) {f : Addr} {fd : FuncData} (hF : Fun K "_law_no_thing" "_law_no_thing" (topS 33) f fd) (hb : Binds K fd ["_law_pen", "_law_many"] []) (hg : mg "_law_no_thing" = some (.ref f)) :
    FD P w K mg base T 3 "_law_no_thing" f false [0] 2 c__law_no_thing :=
  fd_io (k := 2) (j := 1) (mm := ap2 b__law_no_thing) (mkN := fun _ => [.un, .un, .un]) (mkB := fun e => nomatch e) hF sc__law_no_thing rfl rfl hb hg bi (by decide) fun cdv A outer s H E g tk ds hd => by
    obtain ⟨a0, a1, rfl⟩ := len2 hd
    rw [ap2_eq]
    show Ss _ T _ _ [0] _ _ [C.own a0, C.val a1, .un] _ _
    unfold b__law_no_thing
    exact (ss_asgX (mk := (fun (s3 : D) => [C.own s3, C.val a1, .un])) (s := a0) (i := 2) g ⟨rfl, (.inl rfl), (.inl rfl), rfl⟩ rfl (EvX.lasting (evx_lst (n := 10) (evxA_cons (evx_of (by decide) (ev_var (i := 1) rfl rfl (.inl rfl) rfl rfl)) (fun s5 => (evxA_cons (EvX.lasting (evx_bin op_addR does_add (EvX.lasting (evx_of (by decide) (ev_bin op_addR does_add (Ev.loan (ev_var (i := 1) rfl rfl (.inl rfl) rfl rfl)) (Ev.lend ev_int)))) (fun s7 => (evx_io (fr := false) (i := 0) (q := 0) (r := 1) (gt := (fun (s : D) => s)) (up := (fun (_ d : D) => d)) g F__law_draw (by decide) tk rfl ⟨fun _ => rfl, fun _ _ => rfl⟩ (evxA_own (i := 0) rfl rfl (.inl rfl) rfl rfl (evxA_cons (EvX.lasting (evx_of (by decide) (ev_bin op_pow does_pow (Ev.lend ev_int) (Ev.lend ev_int)))) (fun s9 => evxA_nil) rfl) rfl) rfl rfl rfl)))) (fun s6 => (evxA_cons (EvX.lasting (evx_of (by decide) (does_un (Ev.lend ev_int)))) (fun s10 => (evxA_cons (EvX.lasting (evx_of (by decide) ev_bl)) (fun s11 => (evxA_cons (EvX.lasting (evx_of (by decide) ev_bl)) (fun s12 => (evxA_cons (EvX.lasting (evx_of (by decide) ev_non)) (fun s13 => (evxA_cons (EvX.lasting (evx_of (by decide) (ev_str (s := [48]) rfl))) (fun s14 => (evxA_cons (EvX.lasting (evx_of (by decide) (ev_tup (evA_cons (Ev.lasting ev_int) evA_nil rfl) (by simp)))) (fun s15 => (evxA_cons (EvX.lasting (evx_of (by decide) (ev_lst (evA_cons (Ev.lasting ev_int) evA_nil rfl) (by simp)))) (fun s16 => (evxA_cons (EvX.lasting (evx_of (by decide) ev_dnew0)) (fun s17 => evxA_nil) rfl)) rfl)) rfl)) rfl)) rfl)) rfl)) rfl)) rfl)) rfl)) rfl) (by decide))) (fun v1 s2 => (ss_retX (mk := (fun (s22 : D) => [C.own s22, C.val a1, C.val v1])) (s := s2) (os := (fun s21 => [s21])) (fun _ => rfl) (evx_ix g (evx_of (by decide) (ev_var (i := 2) rfl rfl (.inl rfl) rfl rfl)) (fun s18 => (evx_io (fr := false) (i := 0) (q := 0) (r := 1) (gt := (fun (s : D) => s)) (up := (fun (_ d : D) => d)) g F__law_draw (by decide) tk rfl ⟨fun _ => rfl, fun _ _ => rfl⟩ (evxA_own (i := 0) rfl rfl (.inl rfl) rfl rfl (evxA_cons (EvX.lasting (evx_of (by decide) ev_int)) (fun s20 => evxA_nil) rfl) rfl) rfl rfl rfl)) (fun _ _ => rfl)))))

theorem sc__law_cell_at : FnScope ["_law_script", "_law_k"] ["_law_script", "_law_k"] (defScope (topS 23)) := ⟨rfl, rfl, rfl, by decide +kernel, rfl, by decide +kernel, by decide +kernel⟩
theorem w__law_cell_at {P : Program} {w : World} {K : PySem.W.Frag} {mg : Str → Option Value} {base : Heap} {T : Tb} (bi : Bi mg) {f : Addr} {fd : FuncData} (hF : Fun K "_law_cell_at" "_law_cell_at" (topS 23) f fd) (hb : Binds K fd ["_law_script", "_law_k"] []) (hg : mg "_law_cell_at" = some (.ref f)) :
    FD P w K mg base T 1 "_law_cell_at" f false [] 2 (pureM c__law_cell_at) :=
  fd_pure (k := 0) (j := 0) (mm := ap2 b__law_cell_at) (mkN := fun _ => [.un, .un]) (mkB := fun e => nomatch e) hF sc__law_cell_at rfl rfl hb hg bi fun cdv A outer s H E g tk ds hd => by
    obtain ⟨a0, a1, rfl⟩ := len2 hd
    rw [ap2_eq]
    show Ss _ T _ _ [] _ _ [C.val a0, C.val a1] _ _
    unfold b__law_cell_at
    exact (ss_ifE (mk := fun e => nomatch e) (evT_cmp (op_ltQ g) does_lt nx_lt rfl (Ev.loan (ev_var (i := 1) rfl rfl (.inl rfl) rfl rfl)) (Ev.lend (ev_b1 call_lenQ does_len rfl g.bi.len (by decide +kernel) (Ev.loan (ev_var (i := 0) rfl rfl (.inl rfl) rfl rfl)) rfl (by decide +kernel) rfl))) (ss_ret rfl (ev_ix g (Ev.loan (ev_var (i := 0) rfl rfl (.inl rfl) rfl rfl)) (Ev.loan (ev_var (i := 1) rfl rfl (.inl rfl) rfl rfl)) (fun _ _ => rfl))) (ss_ret rfl (Ev.lasting ev_int)))

theorem sc_is_whole : FnScope ["thing"] ["thing"] (defScope (topS 10)) := ⟨rfl, rfl, rfl, by decide +kernel, rfl, by decide +kernel, by decide +kernel⟩
theorem w_is_whole {P : Program} {w : World} {K : PySem.W.Frag} {mg : Str → Option Value} {base : Heap} {T : Tb} (bi : Bi mg) {f : Addr} {fd : FuncData} (hF : Fun K "is_whole" "is_whole" (topS 10) f fd) (hb : Binds K fd ["thing"] []) (hg : mg "is_whole" = some (.ref f)) :
    FD P w K mg base T 1 "is_whole" f false [] 1 (pureM c_is_whole) :=
  fd_pure (k := 0) (j := 0) (mm := ap1 b_is_whole) (mkN := fun _ => [.un]) (mkB := fun e => nomatch e) hF sc_is_whole rfl rfl hb hg bi fun cdv A outer s H E g tk ds hd => by
    obtain ⟨a0, rfl⟩ := len1 hd
    rw [ap1_eq]
    show Ss _ T _ _ [] _ _ [C.val a0] _ _
    unfold b_is_whole
    exact (ss_ret rfl (ev_and (Ev.lasting (ev_isa kit_int rfl g.bi.isinstance rfl g.bi.int (by decide +kernel) (Ev.loan (ev_var (i := 0) rfl rfl (.inl rfl) rfl rfl)) rfl (by decide +kernel) rfl)) (ev_one (Ev.lasting (ev_not (Ev.lend (ev_isa kit_bool rfl g.bi.isinstance rfl g.bi.bool (by decide +kernel) (Ev.loan (ev_var (i := 0) rfl rfl (.inl rfl) rfl rfl)) rfl (by decide +kernel) rfl)))))))

theorem sc_check_thing : FnScope ["order", "thing"] ["order", "thing"] (defScope (topS 13)) := ⟨rfl, rfl, rfl, by decide +kernel, rfl, by decide +kernel, by decide +kernel⟩
theorem w_check_thing {P : Program} {w : World} {K : PySem.W.Frag} {mg : Str → Option Value} {base : Heap} {T : Tb} (bi : Bi mg) {f_is_whole : Addr} (F_is_whole : FD P w K mg base T 1 "is_whole" f_is_whole false [] 1 (pureM c_is_whole)) {C_NoThing : Addr} (X_NoThing : ExCls K mg T 0 "NoThing" C_NoThing) {f : Addr} {fd : FuncData} (hF : Fun K "check_thing" "check_thing" (topS 13) f fd) (hb : Binds K fd ["order", "thing"] []) (hg : mg "check_thing" = some (.ref f)) :
    FD P w K mg base T 2 "check_thing" f true [] 2 (pureM c_check_thing) :=
  fd_pure (k := 1) (j := 0) (mm := ap2 b_check_thing) (mkN := fun _ => [.un, .un]) (mkB := fun e => nomatch e) hF sc_check_thing rfl rfl hb hg bi fun cdv A outer s H E g tk ds hd => by
    obtain ⟨a0, a1, rfl⟩ := len2 hd
    rw [ap2_eq]
    show Ss _ T _ _ [] _ _ [C.val a0, C.val a1] _ _
    unfold b_check_thing
    exact (ss_ifE (mk := fun e => nomatch e) (EvW.t (evW_or (evT_not (evT_val (Ev.loan (ev_call (fr := false) g F_is_whole (by decide) tk rfl (evA_cons (ev_var (i := 1) rfl rfl (.inl rfl) rfl rfl) evA_nil rfl) rfl rfl rfl rfl)) (fun _ => rfl))) (evW_or (evT_cmp (op_ltQ g) does_lt nx_lt rfl (Ev.loan (ev_var (i := 1) rfl rfl (.inl rfl) rfl rfl)) (Ev.lend ev_int)) (evW_or1 (evT_cmp op_ge does_ge nx_ge rfl (Ev.loan (ev_var (i := 1) rfl rfl (.inl rfl) rfl rfl)) (Ev.loan (ev_ix g (Ev.loan (ev_var (i := 0) rfl rfl (.inl rfl) rfl rfl)) (Ev.lend ev_int) (fun _ _ => rfl)))))))) (ss_raise g tk X_NoThing rfl rfl) (ss_nil (.un (.un .nil)) rfl))

theorem sc_check_two : FnScope ["order", "one", "other"] ["order", "one", "other"] (defScope (topS 16)) := ⟨rfl, rfl, rfl, by decide +kernel, rfl, by decide +kernel, by decide +kernel⟩
theorem w_check_two {P : Program} {w : World} {K : PySem.W.Frag} {mg : Str → Option Value} {base : Heap} {T : Tb} (bi : Bi mg) {f_check_thing : Addr} (F_check_thing : FD P w K mg base T 2 "check_thing" f_check_thing true [] 2 (pureM c_check_thing)) {f : Addr} {fd : FuncData} (hF : Fun K "check_two" "check_two" (topS 16) f fd) (hb : Binds K fd ["order", "one", "other"] []) (hg : mg "check_two" = some (.ref f)) :
    FD P w K mg base T 3 "check_two" f true [] 3 (pureM c_check_two) :=
  fd_pure (k := 2) (j := 0) (mm := ap3 b_check_two) (mkN := fun _ => [.un, .un, .un]) (mkB := fun e => nomatch e) hF sc_check_two rfl rfl hb hg bi fun cdv A outer s H E g tk ds hd => by
    obtain ⟨a0, a1, a2, rfl⟩ := len3 hd
    rw [ap3_eq]
    show Ss _ T _ _ [] _ _ [C.val a0, C.val a1, C.val a2] _ _
    unfold b_check_two
    exact (ss_expr rfl (ev_call (fr := true) g F_check_thing (by decide) tk rfl (evA_cons (ev_var (i := 0) rfl rfl (.inl rfl) rfl rfl) (evA_cons (ev_var (i := 1) rfl rfl (.inl rfl) rfl rfl) evA_nil rfl) rfl) rfl rfl rfl rfl) (fun _ => (ss_expr rfl (ev_call (fr := true) g F_check_thing (by decide) tk rfl (evA_cons (ev_var (i := 0) rfl rfl (.inl rfl) rfl rfl) (evA_cons (ev_var (i := 2) rfl rfl (.inl rfl) rfl rfl) evA_nil rfl) rfl) rfl rfl rfl rfl) (fun _ => (ss_nil (.un (.un (.un .nil))) rfl)))))

theorem sc_check_pair : FnScope ["order", "one", "other"] ["order", "one", "other"] (defScope (topS 18)) := ⟨rfl, rfl, rfl, by decide +kernel, rfl, by decide +kernel, by decide +kernel⟩
theorem w_check_pair {P : Program} {w : World} {K : PySem.W.Frag} {mg : Str → Option Value} {base : Heap} {T : Tb} (bi : Bi mg) {f_check_two : Addr} (F_check_two : FD P w K mg base T 3 "check_two" f_check_two true [] 3 (pureM c_check_two)) {C_NoNumber : Addr} (X_NoNumber : ExCls K mg T 2 "NoNumber" C_NoNumber) {f : Addr} {fd : FuncData} (hF : Fun K "check_pair" "check_pair" (topS 18) f fd) (hb : Binds K fd ["order", "one", "other"] []) (hg : mg "check_pair" = some (.ref f)) :
    FD P w K mg base T 4 "check_pair" f true [] 3 (pureM c_check_pair) :=
  fd_pure (k := 3) (j := 0) (mm := ap3 b_check_pair) (mkN := fun _ => [.un, .un, .un]) (mkB := fun e => nomatch e) hF sc_check_pair rfl rfl hb hg bi fun cdv A outer s H E g tk ds hd => by
    obtain ⟨a0, a1, a2, rfl⟩ := len3 hd
    rw [ap3_eq]
    show Ss _ T _ _ [] _ _ [C.val a0, C.val a1, C.val a2] _ _
    unfold b_check_pair
    exact (ss_expr rfl (ev_call (fr := true) g F_check_two (by decide) tk rfl (evA_cons (ev_var (i := 0) rfl rfl (.inl rfl) rfl rfl) (evA_cons (ev_var (i := 1) rfl rfl (.inl rfl) rfl rfl) (evA_cons (ev_var (i := 2) rfl rfl (.inl rfl) rfl rfl) evA_nil rfl) rfl) rfl) rfl rfl rfl rfl) (fun _ => (ss_ifE (mk := fun e => nomatch e) (EvW.t (evW_or (evT_cmp (op_eqQ g) does_eq nx_eq rfl (Ev.loan (ev_var (i := 1) rfl rfl (.inl rfl) rfl rfl)) (Ev.loan (ev_var (i := 2) rfl rfl (.inl rfl) rfl rfl))) (evW_or1 (evT_cmp (op_inQ g) does_in nx_in rfl (Ev.lend (ev_tup (evA_cons (ev_var (i := 2) rfl rfl (.inl rfl) rfl rfl) (evA_cons (ev_var (i := 1) rfl rfl (.inl rfl) rfl rfl) evA_nil rfl) rfl) (by simp))) (Ev.loan (ev_ix g (Ev.loan (ev_var (i := 0) rfl rfl (.inl rfl) rfl rfl)) (Ev.lend ev_int) (fun _ _ => rfl))))))) (ss_raise g tk X_NoNumber rfl rfl) (ss_nil (.un (.un (.un .nil))) rfl))))

theorem sc_led_on : FnScope ["pairs", "found", "a", "b", "c", "d"] ["pairs"] (defScope (topS 12)) := ⟨rfl, rfl, rfl, by decide +kernel, rfl, by decide +kernel, by decide +kernel⟩
theorem w_led_on {P : Program} {w : World} {K : PySem.W.Frag} {mg : Str → Option Value} {base : Heap} {T : Tb} (bi : Bi mg) {f : Addr} {fd : FuncData} (hF : Fun K "led_on" "led_on" (topS 12) f fd) (hb : Binds K fd ["pairs"] []) (hg : mg "led_on" = some (.ref f)) :
    FD P w K mg base T 1 "led_on" f true [] 1 (pureM c_led_on) :=
  fd_pure (k := 0) (j := 5) (mm := ap1 b_led_on) (mkN := fun _ => [.un, .un, .un, .un, .un, .un]) (mkB := fun e => nomatch e) hF sc_led_on rfl rfl hb hg bi fun cdv A outer s H E g tk ds hd => by
    obtain ⟨a0, rfl⟩ := len1 hd
    rw [ap1_eq]
    show Ss _ T _ _ [] _ _ [C.val a0, .un, .un, .un, .un, .un] _ _
    unfold b_led_on
    exact (ss_own (i := 1) g rfl (.inl rfl) (.inl rfl) rfl rfl (ev_lst evA_nil (by simp)) (fun v1 => (ss_for2 (mk := (fun (s4 : D) => [C.val a0, C.own s4, .un, .un, .un, .un])) (s0 := v1) (i := 2) (j := 3) g (passes_of rfl) ⟨rfl, (.inr rfl), (.inl rfl), rfl⟩ ⟨rfl, (.inr rfl), (.inl rfl), rfl⟩ (evI_seq (ev_var (i := 0) rfl rfl (.inl rfl) rfl rfl)) (.kp (.kp (.un (.un (.un (.un .nil)))))) rfl (fun d5 d6 s2 => (ss_extend (i := 1) rfl rfl (.inl rfl) rfl rfl rfl (Ev.lasting (Cm.ev (cm_comp2F (i := 4) (j := 5) g (by decide) ⟨rfl, (.inl rfl), (.inr rfl)⟩ ⟨rfl, (.inl rfl), (.inr rfl)⟩ (blkOk_by rfl) (EvI.w (evI_seq (ev_var (i := 0) rfl rfl (.inl rfl) rfl rfl))) (fun x8 x9 _ _ _ _ _ => (evT_cmp (op_eqQ (Gd.blk g _ _ _ _ _)) does_eq nx_eq rfl (Ev.loan (ev_var (i := 4) rfl rfl (.inl rfl) rfl rfl)) (Ev.loan (ev_var (i := 3) rfl rfl (.inr (.inl rfl)) rfl rfl)))) (fun x8 x9 _ _ _ _ _ => (Ev.lasting (ev_tup (evA_cons (ev_var (i := 2) rfl rfl (.inr (.inl rfl)) rfl rfl) (evA_cons (ev_var (i := 3) rfl rfl (.inr (.inl rfl)) rfl rfl) (evA_cons (ev_var (i := 5) rfl rfl (.inl rfl) rfl rfl) evA_nil rfl) rfl) rfl) (by simp))))))) (pe_bm PySem.F.plainAttrs_list PySem.F.slot_list_extend PySem.F.type_list_extend mt_extend (pe_var rfl (.inl rfl) rfl rfl) (pa_cons pw pa_nil rfl) rfl rfl rfl rfl rfl) (fun v7 => (ss_nil (.kp (.kp (.un (.un (.un (.un .nil)))))) rfl)))) (fun s3 => (ss_retOwn (i := 1) rfl rfl rfl (.inl rfl) rfl rfl rfl)))))

theorem sc_closed : FnScope ["pairs", "found", "more", "led", "a", "b", "d", "longer"] ["pairs"] (defScope (topS 11)) := ⟨rfl, rfl, rfl, by decide +kernel, rfl, by decide +kernel, by decide +kernel⟩
theorem w_closed {P : Program} {w : World} {K : PySem.W.Frag} {mg : Str → Option Value} {base : Heap} {T : Tb} (bi : Bi mg) {f_led_on : Addr} (F_led_on : FD P w K mg base T 1 "led_on" f_led_on true [] 1 (pureM c_led_on)) {f : Addr} {fd : FuncData} (hF : Fun K "closed" "closed" (topS 11) f fd) (hb : Binds K fd ["pairs"] []) (hg : mg "closed" = some (.ref f)) :
    FD P w K mg base T 2 "closed" f false [] 1 (pureM c_closed) :=
  fd_pure (k := 1) (j := 7) (mm := ap1 b_closed) (mkN := fun _ => [.un, .un, .un, .un, .un, .un, .un, .un]) (mkB := fun e => nomatch e) hF sc_closed rfl rfl hb hg bi fun cdv A outer s H E g tk ds hd => by
    obtain ⟨a0, rfl⟩ := len1 hd
    rw [ap1_eq]
    show Ss _ T _ _ [] _ _ [C.val a0, .un, .un, .un, .un, .un, .un, .un] _ _
    unfold b_closed
    exact (ss_asg (i := 1) g rfl (.inl rfl) (.inl rfl) rfl rfl (Ev.lasting (ev_sortSet g rfl rfl (ev_var (i := 0) rfl rfl (.inl rfl) rfl rfl) rfl rfl)) (fun v1 => (ss_asg (i := 2) g rfl (.inl rfl) (.inl rfl) rfl rfl (Ev.lasting ev_bl) (fun v2 => (ss_while (mk := (fun (s5 : D × D) => [C.val a0, C.val s5.1, C.val s5.2, .un, .un, .un, .un, .un])) (s0 := (v1, v2)) (n := 200) (passes_of rfl) (.kp (.kp (.kp (.un (.un (.un (.un (.un .nil)))))))) rfl (fun s3 => (evT_val (Ev.loan (ev_var (i := 2) rfl rfl (.inl rfl) rfl rfl)) (fun _ => rfl))) (fun s3 => (ss_asgC (i := 3) rfl rfl rfl rfl (Cm.lasting (cm_comp3 (i := 4) (j := 5) (l := 6) g (by decide) (by decide) (by decide) ⟨rfl, (.inl rfl), (.inr rfl)⟩ ⟨rfl, (.inl rfl), (.inr rfl)⟩ ⟨rfl, (.inl rfl), (.inr rfl)⟩ (blkOk_by rfl) (EvI.w (evI_seq (Ev.lasting (ev_call (fr := true) g F_led_on (by decide) tk rfl (evA_cons (ev_var (i := 1) rfl rfl (.inl rfl) rfl rfl) evA_nil rfl) rfl rfl rfl rfl)))) (fun x7 x8 x9 _ _ _ _ _ => (Ev.lasting (ev_tup (evA_cons (ev_var (i := 4) rfl rfl (.inl rfl) rfl rfl) (evA_cons (ev_var (i := 6) rfl rfl (.inl rfl) rfl rfl) evA_nil rfl) rfl) (by simp)))))) (fun v6 => (ss_asg (i := 7) g rfl (.inl rfl) (.inl rfl) rfl rfl (Ev.lasting (ev_sortSet g rfl rfl (Ev.lasting (ev_bin op_addR does_add (Ev.loan (ev_var (i := 1) rfl rfl (.inl rfl) rfl rfl)) (Ev.loan (ev_var (i := 3) rfl rfl (.inl rfl) rfl rfl)))) rfl rfl)) (fun v10 => (ss_asg (i := 2) g rfl (.inl rfl) (.inl rfl) rfl rfl (Ev.lasting (ev_cmp op_gt does_gt nx_gt rfl (Ev.lend (ev_b1 call_lenQ does_len rfl g.bi.len (by decide +kernel) (Ev.loan (ev_var (i := 7) rfl rfl (.inl rfl) rfl rfl)) rfl (by decide +kernel) rfl)) (Ev.lend (ev_b1 call_lenQ does_len rfl g.bi.len (by decide +kernel) (Ev.loan (ev_var (i := 1) rfl rfl (.inl rfl) rfl rfl)) rfl (by decide +kernel) rfl)))) (fun v11 => (ss_asg (i := 1) g rfl (.inl rfl) (.inl rfl) rfl rfl (ev_var (i := 7) rfl rfl (.inl rfl) rfl rfl) (fun v12 => (ss_nil (.kp (.kp (.kp (.un (.un (.un (.un (.un .nil)))))))) rfl)))))))))) (fun s4 => (ss_ret rfl (ev_var (i := 1) rfl rfl (.inl rfl) rfl rfl))))))))

theorem sc_paired : FnScope ["order", "one", "other"] ["order", "one", "other"] (defScope (topS 17)) := ⟨rfl, rfl, rfl, by decide +kernel, rfl, by decide +kernel, by decide +kernel⟩
theorem w_paired {P : Program} {w : World} {K : PySem.W.Frag} {mg : Str → Option Value} {base : Heap} {T : Tb} (bi : Bi mg) {f_closed : Addr} (F_closed : FD P w K mg base T 2 "closed" f_closed false [] 1 (pureM c_closed)) {f : Addr} {fd : FuncData} (hF : Fun K "paired" "paired" (topS 17) f fd) (hb : Binds K fd ["order", "one", "other"] []) (hg : mg "paired" = some (.ref f)) :
    FD P w K mg base T 3 "paired" f true [] 3 (pureM c_paired) :=
  fd_pure (k := 2) (j := 0) (mm := ap3 b_paired) (mkN := fun _ => [.un, .un, .un]) (mkB := fun e => nomatch e) hF sc_paired rfl rfl hb hg bi fun cdv A outer s H E g tk ds hd => by
    obtain ⟨a0, a1, a2, rfl⟩ := len3 hd
    rw [ap3_eq]
    show Ss _ T _ _ [] _ _ [C.val a0, C.val a1, C.val a2] _ _
    unfold b_paired
    exact (ss_ret rfl (ev_tup (evA_cons (ev_ix g (Ev.loan (ev_var (i := 0) rfl rfl (.inl rfl) rfl rfl)) (Ev.lend ev_int) (fun _ _ => rfl)) (evA_cons (Ev.lasting (ev_t1 call_tuple_of does_tuple rfl g.bi.tuple (by decide +kernel) (Ev.loan (ev_call (fr := false) g F_closed (by decide) tk rfl (evA_cons (Ev.lasting (ev_bin op_addR does_add (Ev.lend (ev_t1 call_list_of does_list rfl g.bi.list (by decide +kernel) (Ev.loan (ev_ix g (Ev.loan (ev_var (i := 0) rfl rfl (.inl rfl) rfl rfl)) (Ev.lend ev_int) (fun _ _ => rfl))) rfl (by decide +kernel) rfl)) (Ev.lend (ev_lst (evA_cons (Ev.lasting (ev_tup (evA_cons (ev_var (i := 1) rfl rfl (.inl rfl) rfl rfl) (evA_cons (ev_var (i := 2) rfl rfl (.inl rfl) rfl rfl) evA_nil rfl) rfl) (by simp))) evA_nil rfl) (by simp))))) evA_nil rfl) rfl rfl rfl rfl)) rfl (by decide +kernel) rfl)) evA_nil rfl) rfl) (by simp)))

theorem sc_with_pair : FnScope ["order", "one", "other"] ["order", "one", "other"] (defScope (topS 19)) := ⟨rfl, rfl, rfl, by decide +kernel, rfl, by decide +kernel, by decide +kernel⟩
theorem w_with_pair {P : Program} {w : World} {K : PySem.W.Frag} {mg : Str → Option Value} {base : Heap} {T : Tb} (bi : Bi mg) {f_check_pair : Addr} (F_check_pair : FD P w K mg base T 4 "check_pair" f_check_pair true [] 3 (pureM c_check_pair)) {f_paired : Addr} (F_paired : FD P w K mg base T 3 "paired" f_paired true [] 3 (pureM c_paired)) {f : Addr} {fd : FuncData} (hF : Fun K "with_pair" "with_pair" (topS 19) f fd) (hb : Binds K fd ["order", "one", "other"] []) (hg : mg "with_pair" = some (.ref f)) :
    FD P w K mg base T 5 "with_pair" f true [] 3 (pureM c_with_pair) :=
  fd_pure (k := 4) (j := 0) (mm := ap3 b_with_pair) (mkN := fun _ => [.un, .un, .un]) (mkB := fun e => nomatch e) hF sc_with_pair rfl rfl hb hg bi fun cdv A outer s H E g tk ds hd => by
    obtain ⟨a0, a1, a2, rfl⟩ := len3 hd
    rw [ap3_eq]
    show Ss _ T _ _ [] _ _ [C.val a0, C.val a1, C.val a2] _ _
    unfold b_with_pair
    exact (ss_expr rfl (ev_call (fr := true) g F_check_pair (by decide) tk rfl (evA_cons (ev_var (i := 0) rfl rfl (.inl rfl) rfl rfl) (evA_cons (ev_var (i := 1) rfl rfl (.inl rfl) rfl rfl) (evA_cons (ev_var (i := 2) rfl rfl (.inl rfl) rfl rfl) evA_nil rfl) rfl) rfl) rfl rfl rfl rfl) (fun _ => (ss_ret rfl (ev_call (fr := true) g F_paired (by decide) tk rfl (evA_cons (ev_var (i := 0) rfl rfl (.inl rfl) rfl rfl) (evA_cons (ev_var (i := 1) rfl rfl (.inl rfl) rfl rfl) (evA_cons (ev_var (i := 2) rfl rfl (.inl rfl) rfl rfl) evA_nil rfl) rfl) rfl) rfl rfl rfl rfl))))

theorem sc_left_step : FnScope ["order", "one", "other", "pair"] ["order", "one", "other"] (defScope (topS 20)) := ⟨rfl, rfl, rfl, by decide +kernel, rfl, by decide +kernel, by decide +kernel⟩
theorem w_left_step {P : Program} {w : World} {K : PySem.W.Frag} {mg : Str → Option Value} {base : Heap} {T : Tb} (bi : Bi mg) {f : Addr} {fd : FuncData} (hF : Fun K "left_step" "left_step" (topS 20) f fd) (hb : Binds K fd ["order", "one", "other"] []) (hg : mg "left_step" = some (.ref f)) :
    FD P w K mg base T 1 "left_step" f true [] 3 (pureM c_left_step) :=
  fd_pure (k := 0) (j := 1) (mm := ap3 b_left_step) (mkN := fun _ => [.un, .un, .un, .un]) (mkB := fun e => nomatch e) hF sc_left_step rfl rfl hb hg bi fun cdv A outer s H E g tk ds hd => by
    obtain ⟨a0, a1, a2, rfl⟩ := len3 hd
    rw [ap3_eq]
    show Ss _ T _ _ [] _ _ [C.val a0, C.val a1, C.val a2, .un] _ _
    unfold b_left_step
    exact (ss_ret rfl (ev_tup (evA_cons (ev_ix g (Ev.loan (ev_var (i := 0) rfl rfl (.inl rfl) rfl rfl)) (Ev.lend ev_int) (fun _ _ => rfl)) (evA_cons (Ev.lasting (ev_t1 call_tuple_of does_tuple rfl g.bi.tuple (by decide +kernel) (Ev.lend (Cm.ev (cm_compF (i := 3) g ⟨rfl, (.inl rfl), (.inr rfl)⟩ (blkOk_by rfl) (EvI.w (evI_seq (ev_ix g (Ev.loan (ev_var (i := 0) rfl rfl (.inl rfl) rfl rfl)) (Ev.lend ev_int) (fun _ _ => rfl)))) (fun x1 _ _ _ _ _ => (evT_cmp (op_neQ (Gd.blk g _ _ _ _ _)) does_ne nx_ne rfl (Ev.loan (ev_var (i := 3) rfl rfl (.inl rfl) rfl rfl)) (Ev.lend (ev_tup (evA_cons (ev_var (i := 1) rfl rfl (.inr (.inl rfl)) rfl rfl) (evA_cons (ev_var (i := 2) rfl rfl (.inr (.inl rfl)) rfl rfl) evA_nil rfl) rfl) (by simp))))) (fun x1 _ _ _ _ _ => (ev_var (i := 3) rfl rfl (.inl rfl) rfl rfl))))) rfl (by decide +kernel) rfl)) evA_nil rfl) rfl) (by simp)))

theorem sc_steps_of : FnScope ["order", "far", "a", "b", "d", "pair"] ["order"] (defScope (topS 14)) := ⟨rfl, rfl, rfl, by decide +kernel, rfl, by decide +kernel, by decide +kernel⟩
theorem w_steps_of {P : Program} {w : World} {K : PySem.W.Frag} {mg : Str → Option Value} {base : Heap} {T : Tb} (bi : Bi mg) {f_led_on : Addr} (F_led_on : FD P w K mg base T 1 "led_on" f_led_on true [] 1 (pureM c_led_on)) {f : Addr} {fd : FuncData} (hF : Fun K "steps_of" "steps_of" (topS 14) f fd) (hb : Binds K fd ["order"] []) (hg : mg "steps_of" = some (.ref f)) :
    FD P w K mg base T 2 "steps_of" f true [] 1 (pureM c_steps_of) :=
  fd_pure (k := 1) (j := 5) (mm := ap1 b_steps_of) (mkN := fun _ => [.un, .un, .un, .un, .un, .un]) (mkB := fun e => nomatch e) hF sc_steps_of rfl rfl hb hg bi fun cdv A outer s H E g tk ds hd => by
    obtain ⟨a0, rfl⟩ := len1 hd
    rw [ap1_eq]
    show Ss _ T _ _ [] _ _ [C.val a0, .un, .un, .un, .un, .un] _ _
    unfold b_steps_of
    exact (ss_asg (i := 1) g rfl (.inr rfl) (.inl rfl) rfl rfl (Ev.lasting (Cm.ev (cm_comp3 (i := 2) (j := 3) (l := 4) g (by decide) (by decide) (by decide) ⟨rfl, (.inl rfl), (.inr rfl)⟩ ⟨rfl, (.inl rfl), (.inr rfl)⟩ ⟨rfl, (.inl rfl), (.inr rfl)⟩ (blkOk_by rfl) (EvI.w (evI_seq (Ev.lasting (ev_call (fr := true) g F_led_on (by decide) tk rfl (evA_cons (Ev.lasting (ev_t1 call_list_of does_list rfl g.bi.list (by decide +kernel) (Ev.loan (ev_ix g (Ev.loan (ev_var (i := 0) rfl rfl (.inl rfl) rfl rfl)) (Ev.lend ev_int) (fun _ _ => rfl))) rfl (by decide +kernel) rfl)) evA_nil rfl) rfl rfl rfl rfl)))) (fun x2 x3 x4 _ _ _ _ _ => (Ev.lasting (ev_tup (evA_cons (ev_var (i := 2) rfl rfl (.inl rfl) rfl rfl) (evA_cons (ev_var (i := 4) rfl rfl (.inl rfl) rfl rfl) evA_nil rfl) rfl) (by simp))))))) (fun v1 => (ss_ret rfl (Cm.ev (cm_compF (i := 5) g ⟨rfl, (.inl rfl), (.inr rfl)⟩ (blkOk_by rfl) (EvI.w (evI_seq (ev_ix g (Ev.loan (ev_var (i := 0) rfl rfl (.inl rfl) rfl rfl)) (Ev.lend ev_int) (fun _ _ => rfl)))) (fun x5 _ _ _ _ _ => (evT_cmp (op_notInQ (Gd.blk g _ _ _ _ _)) does_notIn nx_notIn rfl (Ev.loan (ev_var (i := 5) rfl rfl (.inl rfl) rfl rfl)) (Ev.loan (ev_var (i := 1) rfl rfl (.inr (.inl rfl)) rfl rfl)))) (fun x5 _ _ _ _ _ => (ev_var (i := 5) rfl rfl (.inl rfl) rfl rfl)))))))

theorem sc_without_step : FnScope ["order", "one", "other"] ["order", "one", "other"] (defScope (topS 21)) := ⟨rfl, rfl, rfl, by decide +kernel, rfl, by decide +kernel, by decide +kernel⟩
theorem w_without_step {P : Program} {w : World} {K : PySem.W.Frag} {mg : Str → Option Value} {base : Heap} {T : Tb} (bi : Bi mg) {f_check_two : Addr} (F_check_two : FD P w K mg base T 3 "check_two" f_check_two true [] 3 (pureM c_check_two)) {f_left_step : Addr} (F_left_step : FD P w K mg base T 1 "left_step" f_left_step true [] 3 (pureM c_left_step)) {f_steps_of : Addr} (F_steps_of : FD P w K mg base T 2 "steps_of" f_steps_of true [] 1 (pureM c_steps_of)) {C_NoNumber : Addr} (X_NoNumber : ExCls K mg T 2 "NoNumber" C_NoNumber) {f : Addr} {fd : FuncData} (hF : Fun K "without_step" "without_step" (topS 21) f fd) (hb : Binds K fd ["order", "one", "other"] []) (hg : mg "without_step" = some (.ref f)) :
    FD P w K mg base T 4 "without_step" f true [] 3 (pureM c_without_step) :=
  fd_pure (k := 3) (j := 0) (mm := ap3 b_without_step) (mkN := fun _ => [.un, .un, .un]) (mkB := fun e => nomatch e) hF sc_without_step rfl rfl hb hg bi fun cdv A outer s H E g tk ds hd => by
    obtain ⟨a0, a1, a2, rfl⟩ := len3 hd
    rw [ap3_eq]
    show Ss _ T _ _ [] _ _ [C.val a0, C.val a1, C.val a2] _ _
    unfold b_without_step
    exact (ss_expr rfl (ev_call (fr := true) g F_check_two (by decide) tk rfl (evA_cons (ev_var (i := 0) rfl rfl (.inl rfl) rfl rfl) (evA_cons (ev_var (i := 1) rfl rfl (.inl rfl) rfl rfl) (evA_cons (ev_var (i := 2) rfl rfl (.inl rfl) rfl rfl) evA_nil rfl) rfl) rfl) rfl rfl rfl rfl) (fun _ => (ss_ifE (mk := fun e => nomatch e) (evT_cmp (op_notInQ g) does_notIn nx_notIn rfl (Ev.lend (ev_tup (evA_cons (ev_var (i := 1) rfl rfl (.inl rfl) rfl rfl) (evA_cons (ev_var (i := 2) rfl rfl (.inl rfl) rfl rfl) evA_nil rfl) rfl) (by simp))) (Ev.lend (ev_call (fr := true) g F_steps_of (by decide) tk rfl (evA_cons (ev_var (i := 0) rfl rfl (.inl rfl) rfl rfl) evA_nil rfl) rfl rfl rfl rfl))) (ss_raise g tk X_NoNumber rfl rfl) (ss_ret rfl (ev_call (fr := true) g F_left_step (by decide) tk rfl (evA_cons (ev_var (i := 0) rfl rfl (.inl rfl) rfl rfl) (evA_cons (ev_var (i := 1) rfl rfl (.inl rfl) rfl rfl) (evA_cons (ev_var (i := 2) rfl rfl (.inl rfl) rfl rfl) evA_nil rfl) rfl) rfl) rfl rfl rfl rfl)))))

theorem sc__law_told : FnScope ["_law_way", "_law_order", "_law_one", "_law_other", "_law_e"] ["_law_way", "_law_order", "_law_one", "_law_other"] (defScope (topS 34)) := ⟨rfl, rfl, rfl, by decide +kernel, rfl, by decide +kernel, by decide +kernel⟩
theorem w__law_told {P : Program} {w : World} {K : PySem.W.Frag} {mg : Str → Option Value} {base : Heap} {T : Tb} (bi : Bi mg) {f_with_pair : Addr} (F_with_pair : FD P w K mg base T 5 "with_pair" f_with_pair true [] 3 (pureM c_with_pair)) {f_without_step : Addr} (F_without_step : FD P w K mg base T 4 "without_step" f_without_step true [] 3 (pureM c_without_step)) (V_with_pair : T.fn 0 = some f_with_pair) (V_without_step : T.fn 1 = some f_without_step) {fK J : Addr} {cs : Nat → Addr} (hT : T.cl = clT cs) (KN : KnK K mg cs J) (KD : KindOf P w K mg base T 1 "_law_kind_of" fK) {f : Addr} {fd : FuncData} (hF : Fun K "_law_told" "_law_told" (topS 34) f fd) (hb : Binds K fd ["_law_way", "_law_order", "_law_one", "_law_other"] []) (hg : mg "_law_told" = some (.ref f)) :
    FD P w K mg base T 6 "_law_told" f false [] 4 (pureM c__law_told) :=
  fd_pure (k := 5) (j := 1) (mm := ap4 b__law_told) (mkN := fun _ => [.un, .un, .un, .un, .un]) (mkB := fun e => nomatch e) hF sc__law_told rfl rfl hb hg bi fun cdv A outer s H E g tk ds hd => by
    obtain ⟨a0, a1, a2, a3, rfl⟩ := len4 hd
    rw [ap4_eq]
    show Ss _ T _ _ [] _ _ [C.val a0, C.val a1, C.val a2, C.val a3, .un] _ _
    unfold b__law_told
    exact (ss_tryK (i := 4) g KD (by decide) tk rfl rfl rfl rfl rfl rfl rfl ⟨rfl, rfl, .inl KN.gJ⟩ (hcl_of hT KN) (.inl rfl) rfl rfl rfl rfl (fun W pn xe g2 tk2 po => (ev_callV (n := 3) g2 tk2 (ev_ix g2 (Ev.lend (ev_lst (evA_cons (Ev.lasting (ev_fn rfl F_with_pair.gl V_with_pair rfl)) (evA_cons (Ev.lasting (ev_fn rfl F_without_step.gl V_without_step rfl)) evA_nil rfl) rfl) (by simp))) (Ev.loan (ev_var (i := 0) rfl rfl (.inl rfl) rfl rfl)) (fun _ _ => rfl)) (sel_cons V_with_pair (F_with_pair.sel (by decide)) (sel_cons V_without_step (F_without_step.sel (by decide)) sel_nil)) (evA_cons (ev_var (i := 1) rfl rfl (.inl rfl) rfl rfl) (evA_cons (ev_var (i := 2) rfl rfl (.inl rfl) rfl rfl) (evA_cons (ev_var (i := 3) rfl rfl (.inl rfl) rfl rfl) evA_nil rfl) rfl) rfl) rfl rfl rfl rfl)) (fun _ h => by rw [h]; rfl) (fun _ => rfl))

theorem sc__law_whole : FnScope ["_law_found"] ["_law_found"] (defScope (topS 27)) := ⟨rfl, rfl, rfl, by decide +kernel, rfl, by decide +kernel, by decide +kernel⟩
theorem w__law_whole {P : Program} {w : World} {K : PySem.W.Frag} {mg : Str → Option Value} {base : Heap} {T : Tb} (bi : Bi mg) {f : Addr} {fd : FuncData} (hF : Fun K "_law_whole" "_law_whole" (topS 27) f fd) (hb : Binds K fd ["_law_found"] []) (hg : mg "_law_whole" = some (.ref f)) :
    FD P w K mg base T 1 "_law_whole" f false [] 1 (pureM c__law_whole) :=
  fd_pure (k := 0) (j := 0) (mm := ap1 b__law_whole) (mkN := fun _ => [.un]) (mkB := fun e => nomatch e) hF sc__law_whole rfl rfl hb hg bi fun cdv A outer s H E g tk ds hd => by
    obtain ⟨a0, rfl⟩ := len1 hd
    rw [ap1_eq]
    show Ss _ T _ _ [] _ _ [C.val a0] _ _
    unfold b__law_whole
    exact (ss_ret rfl (ev_and (Ev.lasting (ev_isa kit_int rfl g.bi.isinstance rfl g.bi.int (by decide +kernel) (Ev.loan (ev_var (i := 0) rfl rfl (.inl rfl) rfl rfl)) rfl (by decide +kernel) rfl)) (ev_one (Ev.lasting (ev_not (Ev.lend (ev_isa kit_bool rfl g.bi.isinstance rfl g.bi.bool (by decide +kernel) (Ev.loan (ev_var (i := 0) rfl rfl (.inl rfl) rfl rfl)) rfl (by decide +kernel) rfl)))))))

theorem sc__law_order_is : FnScope ["_law_found", "_law_due", "_law_pair"] ["_law_found", "_law_due"] (defScope (topS 32)) := ⟨rfl, rfl, rfl, by decide +kernel, rfl, by decide +kernel, by decide +kernel⟩
theorem w__law_order_is {P : Program} {w : World} {K : PySem.W.Frag} {mg : Str → Option Value} {base : Heap} {T : Tb} (bi : Bi mg) {f__law_whole : Addr} (F__law_whole : FD P w K mg base T 1 "_law_whole" f__law_whole false [] 1 (pureM c__law_whole)) {f : Addr} {fd : FuncData} (hF : Fun K "_law_order_is" "_law_order_is" (topS 32) f fd) (hb : Binds K fd ["_law_found", "_law_due"] []) (hg : mg "_law_order_is" = some (.ref f)) :
    FD P w K mg base T 2 "_law_order_is" f true [] 2 (pureM c__law_order_is) :=
  fd_pure (k := 1) (j := 1) (mm := ap2 b__law_order_is) (mkN := fun _ => [.un, .un, .un]) (mkB := fun e => nomatch e) hF sc__law_order_is rfl rfl hb hg bi fun cdv A outer s H E g tk ds hd => by
    obtain ⟨a0, a1, rfl⟩ := len2 hd
    rw [ap2_eq]
    show Ss _ T _ _ [] _ _ [C.val a0, C.val a1, .un] _ _
    unfold b__law_order_is
    exact (ss_ifE (mk := fun e => nomatch e) (EvW.t (evW_or (evT_not (evT_val (Ev.lend (ev_isa kit_tuple rfl g.bi.isinstance rfl g.bi.tuple (by decide +kernel) (Ev.loan (ev_var (i := 0) rfl rfl (.inl rfl) rfl rfl)) rfl (by decide +kernel) rfl)) (fun _ => rfl))) (evW_or (evT_cmp (op_neQ g) does_ne nx_ne rfl (Ev.loan (ev_var (i := 0) rfl rfl (.inl rfl) rfl rfl)) (Ev.loan (ev_var (i := 1) rfl rfl (.inl rfl) rfl rfl))) (evW_or (evT_not (evT_val (Ev.loan (ev_call (fr := false) g F__law_whole (by decide) tk rfl (evA_cons (ev_ix g (Ev.loan (ev_var (i := 0) rfl rfl (.inl rfl) rfl rfl)) (Ev.lend ev_int) (fun _ _ => rfl)) evA_nil rfl) rfl rfl rfl rfl)) (fun _ => rfl))) (evW_or1 (evT_not (evT_val (Ev.lend (ev_isa kit_tuple rfl g.bi.isinstance rfl g.bi.tuple (by decide +kernel) (Ev.loan (ev_ix g (Ev.loan (ev_var (i := 0) rfl rfl (.inl rfl) rfl rfl)) (Ev.lend ev_int) (fun _ _ => rfl))) rfl (by decide +kernel) rfl)) (fun _ => rfl)))))))) (ss_ret rfl ev_bl) (ss_ret rfl (ev_b1 (cr_all g.calm) does_all rfl g.bi.all (by decide +kernel) (Ev.lend (Cm.ev (cm_comp (i := 2) g ⟨rfl, (.inl rfl), (.inr rfl)⟩ (blkOk_by rfl) (EvI.w (evI_seq (ev_ix g (Ev.loan (ev_var (i := 0) rfl rfl (.inl rfl) rfl rfl)) (Ev.lend ev_int) (fun _ _ => rfl)))) (fun x2 _ _ _ _ _ => (ev_and (Ev.lasting (ev_isa kit_tuple rfl (Gd.blk g _ _ _ _ _).bi.isinstance rfl (Gd.blk g _ _ _ _ _).bi.tuple (by decide +kernel) (Ev.loan (ev_var (i := 2) rfl rfl (.inl rfl) rfl rfl)) rfl (by decide +kernel) rfl)) (ev_and (ev_call (fr := false) (Gd.blk g _ _ _ _ _) F__law_whole (by decide) takesF rfl (evA_cons (ev_ix (Gd.blk g _ _ _ _ _) (Ev.loan (ev_var (i := 2) rfl rfl (.inl rfl) rfl rfl)) (Ev.lend ev_int) (fun _ _ => rfl)) evA_nil rfl) rfl rfl rfl rfl) (ev_one (ev_call (fr := false) (Gd.blk g _ _ _ _ _) F__law_whole (by decide) takesF rfl (evA_cons (ev_ix (Gd.blk g _ _ _ _ _) (Ev.loan (ev_var (i := 2) rfl rfl (.inl rfl) rfl rfl)) (Ev.lend ev_int) (fun _ _ => rfl)) evA_nil rfl) rfl rfl rfl rfl)))))))) rfl (by decide +kernel) rfl)))

theorem sc__law_two_right : FnScope ["_law_order", "_law_one", "_law_other", "_law_found", "_law_between", "_law_a", "_law_b", "_law_pair"] ["_law_order", "_law_one", "_law_other"] (defScope (topS 35)) := ⟨rfl, rfl, rfl, by decide +kernel, rfl, by decide +kernel, by decide +kernel⟩
theorem w__law_two_right {P : Program} {w : World} {K : PySem.W.Frag} {mg : Str → Option Value} {base : Heap} {T : Tb} (bi : Bi mg) {f__law_closed : Addr} (F__law_closed : FD P w K mg base T 1 "_law_closed" f__law_closed true [] 1 (pureM c__law_closed)) {f__law_told : Addr} (F__law_told : FD P w K mg base T 6 "_law_told" f__law_told false [] 4 (pureM c__law_told)) {f__law_order_is : Addr} (F__law_order_is : FD P w K mg base T 2 "_law_order_is" f__law_order_is true [] 2 (pureM c__law_order_is)) {f : Addr} {fd : FuncData} (hF : Fun K "_law_two_right" "_law_two_right" (topS 35) f fd) (hb : Binds K fd ["_law_order", "_law_one", "_law_other"] []) (hg : mg "_law_two_right" = some (.ref f)) :
    FD P w K mg base T 7 "_law_two_right" f true [] 3 (pureM c__law_two_right) :=
  fd_pure (k := 6) (j := 5) (mm := ap3 b__law_two_right) (mkN := fun _ => [.un, .un, .un, .un, .un, .un, .un, .un]) (mkB := fun e => nomatch e) hF sc__law_two_right rfl rfl hb hg bi fun cdv A outer s H E g tk ds hd => by
    obtain ⟨a0, a1, a2, rfl⟩ := len3 hd
    rw [ap3_eq]
    show Ss _ T _ _ [] _ _ [C.val a0, C.val a1, C.val a2, .un, .un, .un, .un, .un] _ _
    unfold b__law_two_right
    exact (ss_asg (i := 3) g rfl (.inl rfl) (.inl rfl) rfl rfl (ev_call (fr := false) g F__law_told (by decide) tk rfl (evA_cons (Ev.lasting ev_int) (evA_cons (ev_var (i := 0) rfl rfl (.inr (.inl rfl)) rfl rfl) (evA_cons (ev_var (i := 1) rfl rfl (.inr (.inl rfl)) rfl rfl) (evA_cons (ev_var (i := 2) rfl rfl (.inr (.inl rfl)) rfl rfl) evA_nil rfl) rfl) rfl) rfl) rfl rfl rfl rfl) (fun v1 => (ss_if (mk := (fun (_ : Unit) => [C.val a0, C.val a1, C.val a2, C.val v1, .un, .un, .un, .un])) (EvW.t (evW_or (evT_cmp (op_eqQ g) does_eq nx_eq rfl (Ev.loan (ev_var (i := 1) rfl rfl (.inr (.inl rfl)) rfl rfl)) (Ev.loan (ev_var (i := 2) rfl rfl (.inr (.inl rfl)) rfl rfl))) (evW_or1 (evT_cmp (op_inQ g) does_in nx_in rfl (Ev.lend (ev_tup (evA_cons (ev_var (i := 2) rfl rfl (.inr (.inl rfl)) rfl rfl) (evA_cons (ev_var (i := 1) rfl rfl (.inr (.inl rfl)) rfl rfl) evA_nil rfl) rfl) (by simp))) (Ev.loan (ev_ix g (Ev.loan (ev_var (i := 0) rfl rfl (.inr (.inl rfl)) rfl rfl)) (Ev.lend ev_int) (fun _ _ => rfl))))))) (ss_ifE (mk := fun e => nomatch e) (evT_cmp (op_neQ g) does_ne nx_ne rfl (Ev.loan (ev_var (i := 3) rfl rfl (.inl rfl) rfl rfl)) (Ev.lend (ev_str (s := [110, 117, 109, 98, 101, 114]) rfl))) (ss_ret rfl ev_bl) (ss_nil (.kp (.kp (.kp (.kp (.un (.un (.un (.un .nil)))))))) rfl)) (ss_ifE (mk := fun e => nomatch e) (evT_not (evT_val (Ev.lend (ev_call (fr := true) g F__law_order_is (by decide) tk rfl (evA_cons (ev_var (i := 3) rfl rfl (.inl rfl) rfl rfl) (evA_cons (Ev.lasting (ev_tup (evA_cons (ev_ix g (Ev.loan (ev_var (i := 0) rfl rfl (.inr (.inl rfl)) rfl rfl)) (Ev.lend ev_int) (fun _ _ => rfl)) (evA_cons (Ev.lasting (ev_call (fr := true) g F__law_closed (by decide) tk rfl (evA_cons (Ev.lasting (ev_bin op_addR does_add (Ev.lend (ev_t1 call_list_of does_list rfl g.bi.list (by decide +kernel) (Ev.loan (ev_ix g (Ev.loan (ev_var (i := 0) rfl rfl (.inr (.inl rfl)) rfl rfl)) (Ev.lend ev_int) (fun _ _ => rfl))) rfl (by decide +kernel) rfl)) (Ev.lend (ev_lst (evA_cons (Ev.lasting (ev_tup (evA_cons (ev_var (i := 1) rfl rfl (.inr (.inl rfl)) rfl rfl) (evA_cons (ev_var (i := 2) rfl rfl (.inr (.inl rfl)) rfl rfl) evA_nil rfl) rfl) (by simp))) evA_nil rfl) (by simp))))) evA_nil rfl) rfl rfl rfl rfl)) evA_nil rfl) rfl) (by simp))) evA_nil rfl) rfl) rfl rfl rfl rfl)) (fun _ => rfl))) (ss_ret rfl ev_bl) (ss_nil (.kp (.kp (.kp (.kp (.un (.un (.un (.un .nil)))))))) rfl)) (fun _ => (ss_asg (i := 3) g rfl (.inl rfl) (.inl rfl) rfl rfl (ev_call (fr := false) g F__law_told (by decide) tk rfl (evA_cons (Ev.lasting ev_int) (evA_cons (ev_var (i := 0) rfl rfl (.inr (.inl rfl)) rfl rfl) (evA_cons (ev_var (i := 1) rfl rfl (.inr (.inl rfl)) rfl rfl) (evA_cons (ev_var (i := 2) rfl rfl (.inr (.inl rfl)) rfl rfl) evA_nil rfl) rfl) rfl) rfl) rfl rfl rfl rfl) (fun v6 => (ss_asgC (i := 4) rfl rfl rfl rfl (Cm.lasting (cm_comp2F (i := 5) (j := 6) g (by decide) ⟨rfl, (.inl rfl), (.inr rfl)⟩ ⟨rfl, (.inl rfl), (.inr rfl)⟩ (blkOk_by rfl) (EvI.w (evI_seq (ev_ix g (Ev.loan (ev_var (i := 0) rfl rfl (.inr (.inl rfl)) rfl rfl)) (Ev.lend ev_int) (fun _ _ => rfl)))) (fun x8 x9 _ _ _ _ _ => (EvW.t (evW_and (evT_cmp (op_eqQ (Gd.blk g _ _ _ _ _)) does_eq nx_eq rfl (Ev.loan (ev_var (i := 6) rfl rfl (.inl rfl) rfl rfl)) (Ev.loan (ev_var (i := 2) rfl rfl (.inr (.inl rfl)) rfl rfl))) (evW_and1 (evT_cmp (op_inQ (Gd.blk g _ _ _ _ _)) does_in nx_in rfl (Ev.lend (ev_tup (evA_cons (ev_var (i := 1) rfl rfl (.inr (.inl rfl)) rfl rfl) (evA_cons (ev_var (i := 5) rfl rfl (.inl rfl) rfl rfl) evA_nil rfl) rfl) (by simp))) (Ev.loan (ev_ix (Gd.blk g _ _ _ _ _) (Ev.loan (ev_var (i := 0) rfl rfl (.inr (.inl rfl)) rfl rfl)) (Ev.lend ev_int) (fun _ _ => rfl)))))))) (fun x8 x9 _ _ _ _ _ => (ev_var (i := 5) rfl rfl (.inl rfl) rfl rfl)))) (fun v7 => (ss_ifE (mk := fun e => nomatch e) (EvW.t (evW_or (evT_cmp (op_notInQ g) does_notIn nx_notIn rfl (Ev.lend (ev_tup (evA_cons (ev_var (i := 1) rfl rfl (.inr (.inl rfl)) rfl rfl) (evA_cons (ev_var (i := 2) rfl rfl (.inr (.inl rfl)) rfl rfl) evA_nil rfl) rfl) (by simp))) (Ev.loan (ev_ix g (Ev.loan (ev_var (i := 0) rfl rfl (.inr (.inl rfl)) rfl rfl)) (Ev.lend ev_int) (fun _ _ => rfl)))) (evW_or1 (evT_cmp (op_neQ g) does_ne nx_ne rfl (Ev.loan (ev_var (i := 4) rfl rfl (.inl rfl) rfl rfl)) (Ev.lend (ev_lst evA_nil (by simp))))))) (ss_ret rfl (ev_cmp (op_eqQ g) does_eq nx_eq rfl (Ev.loan (ev_var (i := 3) rfl rfl (.inl rfl) rfl rfl)) (Ev.lend (ev_str (s := [110, 117, 109, 98, 101, 114]) rfl)))) (ss_ret rfl (ev_call (fr := true) g F__law_order_is (by decide) tk rfl (evA_cons (ev_var (i := 3) rfl rfl (.inl rfl) rfl rfl) (evA_cons (Ev.lasting (ev_tup (evA_cons (ev_ix g (Ev.loan (ev_var (i := 0) rfl rfl (.inr (.inl rfl)) rfl rfl)) (Ev.lend ev_int) (fun _ _ => rfl)) (evA_cons (Ev.lasting (ev_t1 call_tuple_of does_tuple rfl g.bi.tuple (by decide +kernel) (Ev.lend (Cm.ev (cm_compF (i := 7) g ⟨rfl, (.inl rfl), (.inr rfl)⟩ (blkOk_by rfl) (EvI.w (evI_seq (ev_ix g (Ev.loan (ev_var (i := 0) rfl rfl (.inr (.inl rfl)) rfl rfl)) (Ev.lend ev_int) (fun _ _ => rfl)))) (fun x11 _ _ _ _ _ => (evT_cmp (op_neQ (Gd.blk g _ _ _ _ _)) does_ne nx_ne rfl (Ev.loan (ev_var (i := 7) rfl rfl (.inl rfl) rfl rfl)) (Ev.lend (ev_tup (evA_cons (ev_var (i := 1) rfl rfl (.inr (.inl rfl)) rfl rfl) (evA_cons (ev_var (i := 2) rfl rfl (.inr (.inl rfl)) rfl rfl) evA_nil rfl) rfl) (by simp))))) (fun x11 _ _ _ _ _ => (ev_var (i := 7) rfl rfl (.inl rfl) rfl rfl))))) rfl (by decide +kernel) rfl)) evA_nil rfl) rfl) (by simp))) evA_nil rfl) rfl) rfl rfl rfl rfl)))))))))))

theorem sc_law : FnScope ["_law_script", "_law_cell", "_law_pen", "_law_order", "_law_one", "_law_other", "_law_bad", "_law_way", "_law_some"] ["_law_script"] (defScope (topS 36)) := ⟨rfl, rfl, rfl, by decide +kernel, rfl, by decide +kernel, by decide +kernel⟩
theorem w_law {P : Program} {w : World} {K : PySem.W.Frag} {mg : Str → Option Value} {base : Heap} {T : Tb} (bi : Bi mg) {f__law_pen_of : Addr} (F__law_pen_of : FD P w K mg base T 1 "_law_pen_of" f__law_pen_of true [] 1 (pureM c__law_pen_of)) {f__law_order_of : Addr} (F__law_order_of : FD P w K mg base T 4 "_law_order_of" f__law_order_of true [0] 2 c__law_order_of) {f__law_no_thing : Addr} (F__law_no_thing : FD P w K mg base T 3 "_law_no_thing" f__law_no_thing false [0] 2 c__law_no_thing) {f__law_cell_at : Addr} (F__law_cell_at : FD P w K mg base T 1 "_law_cell_at" f__law_cell_at false [] 2 (pureM c__law_cell_at)) {f__law_told : Addr} (F__law_told : FD P w K mg base T 6 "_law_told" f__law_told false [] 4 (pureM c__law_told)) {f__law_two_right : Addr} (F__law_two_right : FD P w K mg base T 7 "_law_two_right" f__law_two_right true [] 3 (pureM c__law_two_right)) {f : Addr} {fd : FuncData} (hF : Fun K "law" "law" (topS 36) f fd) :
    FnOk P w K mg base (CX P w) 8 f fd ["_law_script"] (spI K T true [] 1 (pureM c_law)) :=
  fn_pure (k := 7) (j := 8) (mm := ap1 b_law) (mkN := fun _ => [.un, .un, .un, .un, .un, .un, .un, .un, .un]) (mkB := fun e => nomatch e) hF sc_law rfl rfl bi fun cdv A outer s H E g tk ds hd => by
    obtain ⟨a0, rfl⟩ := len1 hd
    rw [ap1_eq]
    show Ss _ T _ _ [] _ _ [C.val a0, .un, .un, .un, .un, .un, .un, .un, .un] _ _
    unfold b_law
    exact (ss_for (mk := (fun (_ : Unit) => [C.val a0, .un, .un, .un, .un, .un, .un, .un, .un])) (s0 := ()) (i := 1) g (passes_of rfl) rfl (.inl rfl) (.inl rfl) rfl (evI_seq (Ev.lasting (ev_bin op_addR does_add (Ev.lend (ev_lst (evA_cons (ev_call (fr := false) g F__law_cell_at (by decide) tk rfl (evA_cons (ev_var (i := 0) rfl rfl (.inl rfl) rfl rfl) (evA_cons (Ev.lasting ev_int) evA_nil rfl) rfl) rfl rfl rfl rfl) evA_nil rfl) (by simp))) (Ev.lend (ev_cut (Ev.loan (ev_var (i := 0) rfl rfl (.inl rfl) rfl rfl)) (Ev.lend ev_int) (Ev.lend ev_int)))))) (.kp (.un (.un (.un (.un (.un (.un (.un (.un .nil))))))))) rfl (fun d4 _ => (ss_own (i := 2) g rfl (.inl rfl) (.inl rfl) rfl rfl (ev_call (fr := true) g F__law_pen_of (by decide) tk rfl (evA_cons (ev_var (i := 1) rfl rfl (.inl rfl) rfl rfl) evA_nil rfl) rfl rfl rfl rfl) (fun v5 => (ss_asgX (mk := (fun (s8 : D) => [C.val a0, C.val d4, C.own s8, .un, .un, .un, .un, .un, .un])) (s := v5) (i := 3) g ⟨rfl, (.inr rfl), (.inl rfl), rfl⟩ rfl (EvX.lasting (evx_io (fr := true) (i := 2) (q := 0) (r := 1) (gt := (fun (s : D) => s)) (up := (fun (_ d : D) => d)) g F__law_order_of (by decide) tk rfl ⟨fun _ => rfl, fun _ _ => rfl⟩ (evxA_own (i := 2) rfl rfl (.inl rfl) rfl rfl (evxA_cons (EvX.lasting (evx_of (by decide) ev_int)) (fun s10 => evxA_nil) rfl) rfl) rfl rfl rfl)) (fun v6 s7 => (ss_for (mk := (fun (_ : Unit) => [C.val a0, C.val d4, C.own s7, C.val v6, .un, .un, .un, .un, .un])) (s0 := ()) (i := 4) g (passes_of rfl) rfl (.inr rfl) (.inl rfl) rfl (evI_rg1 g rfl (evA_cons (ev_ix g (Ev.loan (ev_var (i := 3) rfl rfl (.inr (.inl rfl)) rfl rfl)) (Ev.lend ev_int) (fun _ _ => rfl)) evA_nil rfl) rfl) (.kp (.kp (.kp (.kp (.un (.un (.un (.un (.un .nil))))))))) rfl (fun d14 _ => (ss_ifE (mk := fun e => nomatch e) (evT_not (evT_val (Ev.lend (ev_b1 (cr_all g.calm) does_all rfl g.bi.all (by decide +kernel) (Ev.lend (Cm.ev (cm_comp (i := 5) g ⟨rfl, (.inl rfl), (.inr rfl)⟩ (blkOk_by rfl) (EvI.w (evI_rg1 g rfl (evA_cons (ev_ix g (Ev.loan (ev_var (i := 3) rfl rfl (.inr (.inl rfl)) rfl rfl)) (Ev.lend ev_int) (fun _ _ => rfl)) evA_nil rfl) rfl)) (fun x15 _ _ _ _ _ => (Ev.lasting (ev_call (fr := true) (Gd.blk g _ _ _ _ _) F__law_two_right (by decide) takesF rfl (evA_cons (ev_var (i := 3) rfl rfl (.inr (.inl rfl)) rfl rfl) (evA_cons (ev_var (i := 4) rfl rfl (.inr (.inl rfl)) rfl rfl) (evA_cons (ev_var (i := 5) rfl rfl (.inl rfl) rfl rfl) evA_nil rfl) rfl) rfl) rfl rfl rfl rfl)))))) rfl (by decide +kernel) rfl)) (fun _ => rfl))) (ss_ret rfl ev_bl) (ss_nil (.kp (.kp (.kp (.kp (.un (.un (.un (.un (.un .nil))))))))) rfl))) (fun _ => (ss_asgX (mk := (fun (s19 : D) => [C.val a0, C.val d4, C.own s19, C.val v6, .un, .un, .un, .un, .un])) (s := s7) (i := 6) g ⟨rfl, (.inl rfl), (.inl rfl), rfl⟩ rfl (evx_io (fr := false) (i := 2) (q := 0) (r := 1) (gt := (fun (s : D) => s)) (up := (fun (_ d : D) => d)) g F__law_no_thing (by decide) tk rfl ⟨fun _ => rfl, fun _ _ => rfl⟩ (evxA_own (i := 2) rfl rfl (.inl rfl) rfl rfl (evxA_cons (evx_of (by decide) (ev_ix g (Ev.loan (ev_var (i := 3) rfl rfl (.inr (.inl rfl)) rfl rfl)) (Ev.lend ev_int) (fun _ _ => rfl))) (fun s21 => evxA_nil) rfl) rfl) rfl rfl rfl) (fun v17 s18 => (ss_for (mk := (fun (_ : Unit) => [C.val a0, C.val d4, C.own s18, C.val v6, .un, .un, C.val v17, .un, .un])) (s0 := ()) (i := 7) g (passes_of rfl) rfl (.inr rfl) (.inl rfl) rfl (evI_rg1 g rfl (evA_cons (Ev.lasting ev_int) evA_nil rfl) rfl) (.kp (.kp (.kp (.kp (.un (.un (.kp (.un (.un .nil))))))))) rfl (fun d25 _ => (ss_asg (i := 8) g rfl (.inl rfl) (.inl rfl) rfl rfl (Ev.lasting (ev_lst (evA_cons (Ev.lasting (ev_tup (evA_cons (ev_var (i := 6) rfl rfl (.inl rfl) rfl rfl) (evA_cons (ev_var (i := 6) rfl rfl (.inl rfl) rfl rfl) evA_nil rfl) rfl) (by simp))) evA_nil rfl) (by simp))) (fun v26 => (ss_if (mk := (fun (s29 : D) => [C.val a0, C.val d4, C.own s18, C.val v6, .un, .un, C.val v17, C.val d25, C.val s29])) (evT_cmp op_gt does_gt nx_gt rfl (Ev.loan (ev_ix g (Ev.loan (ev_var (i := 3) rfl rfl (.inr (.inl rfl)) rfl rfl)) (Ev.lend ev_int) (fun _ _ => rfl))) (Ev.lend ev_int)) (ss_asg (i := 8) g rfl (.inl rfl) (.inl rfl) rfl rfl (Ev.lasting (ev_bin op_addR does_add (Ev.loan (ev_var (i := 8) rfl rfl (.inl rfl) rfl rfl)) (Ev.lend (ev_lst (evA_cons (Ev.lasting (ev_tup (evA_cons (ev_var (i := 6) rfl rfl (.inl rfl) rfl rfl) (evA_cons (Ev.lasting ev_int) evA_nil rfl) rfl) (by simp))) (evA_cons (Ev.lasting (ev_tup (evA_cons (Ev.lasting ev_int) (evA_cons (ev_var (i := 6) rfl rfl (.inl rfl) rfl rfl) evA_nil rfl) rfl) (by simp))) evA_nil rfl) rfl) (by simp))))) (fun v27 => (ss_nil (.kp (.kp (.kp (.kp (.un (.un (.kp (.kp (.kp .nil))))))))) rfl))) (ss_nil (.kp (.kp (.kp (.kp (.un (.un (.kp (.kp (.kp .nil))))))))) rfl) (fun s28 => (ss_ifE (mk := fun e => nomatch e) (evT_cmp (op_neQ g) does_ne nx_ne rfl (Ev.lend (Cm.ev (cm_comp2 (i := 4) (j := 5) g (by decide) ⟨rfl, (.inl rfl), (.inr rfl)⟩ ⟨rfl, (.inl rfl), (.inr rfl)⟩ (blkOk_by rfl) (EvI.w (evI_seq (ev_var (i := 8) rfl rfl (.inl rfl) rfl rfl))) (fun x30 x31 _ _ _ _ _ => (ev_call (fr := false) (Gd.blk g _ _ _ _ _) F__law_told (by decide) takesF rfl (evA_cons (ev_var (i := 7) rfl rfl (.inr (.inl rfl)) rfl rfl) (evA_cons (ev_var (i := 3) rfl rfl (.inr (.inl rfl)) rfl rfl) (evA_cons (ev_var (i := 4) rfl rfl (.inl rfl) rfl rfl) (evA_cons (ev_var (i := 5) rfl rfl (.inl rfl) rfl rfl) evA_nil rfl) rfl) rfl) rfl) rfl rfl rfl rfl))))) (Ev.lend (ev_bin op_mulR does_mul (Ev.lend (ev_lst (evA_cons (Ev.lasting (ev_str (s := [116, 104, 105, 110, 103]) rfl)) evA_nil rfl) (by simp))) (Ev.lend (ev_b1 call_lenQ does_len rfl g.bi.len (by decide +kernel) (Ev.loan (ev_var (i := 8) rfl rfl (.inl rfl) rfl rfl)) rfl (by decide +kernel) rfl))))) (ss_ret rfl ev_bl) (ss_nil (.kp (.kp (.kp (.kp (.un (.un (.kp (.un (.un .nil))))))))) rfl))))))) (fun _ => (ss_nil (.kp (.un (.un (.un (.un (.un (.un (.un (.un .nil))))))))) rfl)))))))))))) (fun _ => (ss_ret rfl ev_bl)))

/-! ### what the top has written; the law's own head -/
theorem all_mk {l : PySem.W.OpenLaw} {w : World} {K : PySem.W.Frag} {h : Heap} {mg : Str → Option Value} {fa f0 f1 f2 f3 f4 f5 f6 f7 f8 f9 f10 f11 f12 f13 f14 f15 f16 f17 f18 f19 f20 f21 f22 f23 f24 : Addr} (X : K.In h) (G : h.Ns mainGlobals mg) (hfa : mg "law" = some (.ref fa))
    {od0 an0 : Option Addr} {sl0 : Array (Option Value)} {oc0 kV0 dc0 pm0 cd0 ct0 : Value}
    (a0 : PySem.W.nsIn K mainGlobals "_law_kind_of" = some (some (.ref f0))) (l0 : K.lookup f0 = some ⟨oc0, od0, .func (PySem.W.fnOf "_law_kind_of" "_law_kind_of" (defArgs (topS 28)) (defBody (topS 28)) (defScope (topS 28)) .none kV0 dc0 pm0 an0 cd0 ct0), sl0⟩) (c0 : PySem.W.codeIn K cd0 "_law_kind_of" = true) (k0 : PySem.W.keepIn K (.ref f0) = true)
    {od1 an1 : Option Addr} {sl1 : Array (Option Value)} {oc1 kV1 dc1 pm1 cd1 ct1 : Value}
    (a1 : PySem.W.nsIn K mainGlobals "_law_pen_of" = some (some (.ref f1))) (l1 : K.lookup f1 = some ⟨oc1, od1, .func (PySem.W.fnOf "_law_pen_of" "_law_pen_of" (defArgs (topS 25)) (defBody (topS 25)) (defScope (topS 25)) .none kV1 dc1 pm1 an1 cd1 ct1), sl1⟩) (c1 : PySem.W.codeIn K cd1 "_law_pen_of" = true) (k1 : PySem.W.keepIn K (.ref f1) = true)
    {od2 an2 : Option Addr} {sl2 : Array (Option Value)} {oc2 kV2 dc2 pm2 cd2 ct2 : Value}
    (a2 : PySem.W.nsIn K mainGlobals "_law_next" = some (some (.ref f2))) (l2 : K.lookup f2 = some ⟨oc2, od2, .func (PySem.W.fnOf "_law_next" "_law_next" (defArgs (topS 24)) (defBody (topS 24)) (defScope (topS 24)) .none kV2 dc2 pm2 an2 cd2 ct2), sl2⟩) (c2 : PySem.W.codeIn K cd2 "_law_next" = true) (k2 : PySem.W.keepIn K (.ref f2) = true)
    {od3 an3 : Option Addr} {sl3 : Array (Option Value)} {oc3 kV3 dc3 pm3 cd3 ct3 : Value}
    (a3 : PySem.W.nsIn K mainGlobals "_law_draw" = some (some (.ref f3))) (l3 : K.lookup f3 = some ⟨oc3, od3, .func (PySem.W.fnOf "_law_draw" "_law_draw" (defArgs (topS 26)) (defBody (topS 26)) (defScope (topS 26)) .none kV3 dc3 pm3 an3 cd3 ct3), sl3⟩) (c3 : PySem.W.codeIn K cd3 "_law_draw" = true) (k3 : PySem.W.keepIn K (.ref f3) = true)
    {od4 an4 : Option Addr} {sl4 : Array (Option Value)} {oc4 kV4 dc4 pm4 cd4 ct4 : Value}
    (a4 : PySem.W.nsIn K mainGlobals "_law_mixed" = some (some (.ref f4))) (l4 : K.lookup f4 = some ⟨oc4, od4, .func (PySem.W.fnOf "_law_mixed" "_law_mixed" (defArgs (topS 30)) (defBody (topS 30)) (defScope (topS 30)) .none kV4 dc4 pm4 an4 cd4 ct4), sl4⟩) (c4 : PySem.W.codeIn K cd4 "_law_mixed" = true) (k4 : PySem.W.keepIn K (.ref f4) = true)
    {od5 an5 : Option Addr} {sl5 : Array (Option Value)} {oc5 kV5 dc5 pm5 cd5 ct5 : Value}
    (a5 : PySem.W.nsIn K mainGlobals "_law_closed" = some (some (.ref f5))) (l5 : K.lookup f5 = some ⟨oc5, od5, .func (PySem.W.fnOf "_law_closed" "_law_closed" (defArgs (topS 29)) (defBody (topS 29)) (defScope (topS 29)) .none kV5 dc5 pm5 an5 cd5 ct5), sl5⟩) (c5 : PySem.W.codeIn K cd5 "_law_closed" = true) (k5 : PySem.W.keepIn K (.ref f5) = true)
    {od6 an6 : Option Addr} {sl6 : Array (Option Value)} {oc6 kV6 dc6 pm6 cd6 ct6 : Value}
    (a6 : PySem.W.nsIn K mainGlobals "_law_order_of" = some (some (.ref f6))) (l6 : K.lookup f6 = some ⟨oc6, od6, .func (PySem.W.fnOf "_law_order_of" "_law_order_of" (defArgs (topS 31)) (defBody (topS 31)) (defScope (topS 31)) .none kV6 dc6 pm6 an6 cd6 ct6), sl6⟩) (c6 : PySem.W.codeIn K cd6 "_law_order_of" = true) (k6 : PySem.W.keepIn K (.ref f6) = true)
    {od7 an7 : Option Addr} {sl7 : Array (Option Value)} {oc7 kV7 dc7 pm7 cd7 ct7 : Value}
    (a7 : PySem.W.nsIn K mainGlobals "_law_no_thing" = some (some (.ref f7))) (l7 : K.lookup f7 = some ⟨oc7, od7, .func (PySem.W.fnOf "_law_no_thing" "_law_no_thing" (defArgs (topS 33)) (defBody (topS 33)) (defScope (topS 33)) .none kV7 dc7 pm7 an7 cd7 ct7), sl7⟩) (c7 : PySem.W.codeIn K cd7 "_law_no_thing" = true) (k7 : PySem.W.keepIn K (.ref f7) = true)
    {od8 an8 : Option Addr} {sl8 : Array (Option Value)} {oc8 kV8 dc8 pm8 cd8 ct8 : Value}
    (a8 : PySem.W.nsIn K mainGlobals "_law_cell_at" = some (some (.ref f8))) (l8 : K.lookup f8 = some ⟨oc8, od8, .func (PySem.W.fnOf "_law_cell_at" "_law_cell_at" (defArgs (topS 23)) (defBody (topS 23)) (defScope (topS 23)) .none kV8 dc8 pm8 an8 cd8 ct8), sl8⟩) (c8 : PySem.W.codeIn K cd8 "_law_cell_at" = true) (k8 : PySem.W.keepIn K (.ref f8) = true)
    {od9 an9 : Option Addr} {sl9 : Array (Option Value)} {oc9 kV9 dc9 pm9 cd9 ct9 : Value}
    (a9 : PySem.W.nsIn K mainGlobals "is_whole" = some (some (.ref f9))) (l9 : K.lookup f9 = some ⟨oc9, od9, .func (PySem.W.fnOf "is_whole" "is_whole" (defArgs (topS 10)) (defBody (topS 10)) (defScope (topS 10)) .none kV9 dc9 pm9 an9 cd9 ct9), sl9⟩) (c9 : PySem.W.codeIn K cd9 "is_whole" = true) (k9 : PySem.W.keepIn K (.ref f9) = true)
    {od10 an10 : Option Addr} {sl10 : Array (Option Value)} {oc10 kV10 dc10 pm10 cd10 ct10 : Value}
    (a10 : PySem.W.nsIn K mainGlobals "check_thing" = some (some (.ref f10))) (l10 : K.lookup f10 = some ⟨oc10, od10, .func (PySem.W.fnOf "check_thing" "check_thing" (defArgs (topS 13)) (defBody (topS 13)) (defScope (topS 13)) .none kV10 dc10 pm10 an10 cd10 ct10), sl10⟩) (c10 : PySem.W.codeIn K cd10 "check_thing" = true) (k10 : PySem.W.keepIn K (.ref f10) = true)
    {od11 an11 : Option Addr} {sl11 : Array (Option Value)} {oc11 kV11 dc11 pm11 cd11 ct11 : Value}
    (a11 : PySem.W.nsIn K mainGlobals "check_two" = some (some (.ref f11))) (l11 : K.lookup f11 = some ⟨oc11, od11, .func (PySem.W.fnOf "check_two" "check_two" (defArgs (topS 16)) (defBody (topS 16)) (defScope (topS 16)) .none kV11 dc11 pm11 an11 cd11 ct11), sl11⟩) (c11 : PySem.W.codeIn K cd11 "check_two" = true) (k11 : PySem.W.keepIn K (.ref f11) = true)
    {od12 an12 : Option Addr} {sl12 : Array (Option Value)} {oc12 kV12 dc12 pm12 cd12 ct12 : Value}
    (a12 : PySem.W.nsIn K mainGlobals "check_pair" = some (some (.ref f12))) (l12 : K.lookup f12 = some ⟨oc12, od12, .func (PySem.W.fnOf "check_pair" "check_pair" (defArgs (topS 18)) (defBody (topS 18)) (defScope (topS 18)) .none kV12 dc12 pm12 an12 cd12 ct12), sl12⟩) (c12 : PySem.W.codeIn K cd12 "check_pair" = true) (k12 : PySem.W.keepIn K (.ref f12) = true)
    {od13 an13 : Option Addr} {sl13 : Array (Option Value)} {oc13 kV13 dc13 pm13 cd13 ct13 : Value}
    (a13 : PySem.W.nsIn K mainGlobals "led_on" = some (some (.ref f13))) (l13 : K.lookup f13 = some ⟨oc13, od13, .func (PySem.W.fnOf "led_on" "led_on" (defArgs (topS 12)) (defBody (topS 12)) (defScope (topS 12)) .none kV13 dc13 pm13 an13 cd13 ct13), sl13⟩) (c13 : PySem.W.codeIn K cd13 "led_on" = true) (k13 : PySem.W.keepIn K (.ref f13) = true)
    {od14 an14 : Option Addr} {sl14 : Array (Option Value)} {oc14 kV14 dc14 pm14 cd14 ct14 : Value}
    (a14 : PySem.W.nsIn K mainGlobals "closed" = some (some (.ref f14))) (l14 : K.lookup f14 = some ⟨oc14, od14, .func (PySem.W.fnOf "closed" "closed" (defArgs (topS 11)) (defBody (topS 11)) (defScope (topS 11)) .none kV14 dc14 pm14 an14 cd14 ct14), sl14⟩) (c14 : PySem.W.codeIn K cd14 "closed" = true) (k14 : PySem.W.keepIn K (.ref f14) = true)
    {od15 an15 : Option Addr} {sl15 : Array (Option Value)} {oc15 kV15 dc15 pm15 cd15 ct15 : Value}
    (a15 : PySem.W.nsIn K mainGlobals "paired" = some (some (.ref f15))) (l15 : K.lookup f15 = some ⟨oc15, od15, .func (PySem.W.fnOf "paired" "paired" (defArgs (topS 17)) (defBody (topS 17)) (defScope (topS 17)) .none kV15 dc15 pm15 an15 cd15 ct15), sl15⟩) (c15 : PySem.W.codeIn K cd15 "paired" = true) (k15 : PySem.W.keepIn K (.ref f15) = true)
    {od16 an16 : Option Addr} {sl16 : Array (Option Value)} {oc16 kV16 dc16 pm16 cd16 ct16 : Value}
    (a16 : PySem.W.nsIn K mainGlobals "with_pair" = some (some (.ref f16))) (l16 : K.lookup f16 = some ⟨oc16, od16, .func (PySem.W.fnOf "with_pair" "with_pair" (defArgs (topS 19)) (defBody (topS 19)) (defScope (topS 19)) .none kV16 dc16 pm16 an16 cd16 ct16), sl16⟩) (c16 : PySem.W.codeIn K cd16 "with_pair" = true) (k16 : PySem.W.keepIn K (.ref f16) = true)
    {od17 an17 : Option Addr} {sl17 : Array (Option Value)} {oc17 kV17 dc17 pm17 cd17 ct17 : Value}
    (a17 : PySem.W.nsIn K mainGlobals "left_step" = some (some (.ref f17))) (l17 : K.lookup f17 = some ⟨oc17, od17, .func (PySem.W.fnOf "left_step" "left_step" (defArgs (topS 20)) (defBody (topS 20)) (defScope (topS 20)) .none kV17 dc17 pm17 an17 cd17 ct17), sl17⟩) (c17 : PySem.W.codeIn K cd17 "left_step" = true) (k17 : PySem.W.keepIn K (.ref f17) = true)
    {od18 an18 : Option Addr} {sl18 : Array (Option Value)} {oc18 kV18 dc18 pm18 cd18 ct18 : Value}
    (a18 : PySem.W.nsIn K mainGlobals "steps_of" = some (some (.ref f18))) (l18 : K.lookup f18 = some ⟨oc18, od18, .func (PySem.W.fnOf "steps_of" "steps_of" (defArgs (topS 14)) (defBody (topS 14)) (defScope (topS 14)) .none kV18 dc18 pm18 an18 cd18 ct18), sl18⟩) (c18 : PySem.W.codeIn K cd18 "steps_of" = true) (k18 : PySem.W.keepIn K (.ref f18) = true)
    {od19 an19 : Option Addr} {sl19 : Array (Option Value)} {oc19 kV19 dc19 pm19 cd19 ct19 : Value}
    (a19 : PySem.W.nsIn K mainGlobals "without_step" = some (some (.ref f19))) (l19 : K.lookup f19 = some ⟨oc19, od19, .func (PySem.W.fnOf "without_step" "without_step" (defArgs (topS 21)) (defBody (topS 21)) (defScope (topS 21)) .none kV19 dc19 pm19 an19 cd19 ct19), sl19⟩) (c19 : PySem.W.codeIn K cd19 "without_step" = true) (k19 : PySem.W.keepIn K (.ref f19) = true)
    {od20 an20 : Option Addr} {sl20 : Array (Option Value)} {oc20 kV20 dc20 pm20 cd20 ct20 : Value}
    (a20 : PySem.W.nsIn K mainGlobals "_law_told" = some (some (.ref f20))) (l20 : K.lookup f20 = some ⟨oc20, od20, .func (PySem.W.fnOf "_law_told" "_law_told" (defArgs (topS 34)) (defBody (topS 34)) (defScope (topS 34)) .none kV20 dc20 pm20 an20 cd20 ct20), sl20⟩) (c20 : PySem.W.codeIn K cd20 "_law_told" = true) (k20 : PySem.W.keepIn K (.ref f20) = true)
    {od21 an21 : Option Addr} {sl21 : Array (Option Value)} {oc21 kV21 dc21 pm21 cd21 ct21 : Value}
    (a21 : PySem.W.nsIn K mainGlobals "_law_whole" = some (some (.ref f21))) (l21 : K.lookup f21 = some ⟨oc21, od21, .func (PySem.W.fnOf "_law_whole" "_law_whole" (defArgs (topS 27)) (defBody (topS 27)) (defScope (topS 27)) .none kV21 dc21 pm21 an21 cd21 ct21), sl21⟩) (c21 : PySem.W.codeIn K cd21 "_law_whole" = true) (k21 : PySem.W.keepIn K (.ref f21) = true)
    {od22 an22 : Option Addr} {sl22 : Array (Option Value)} {oc22 kV22 dc22 pm22 cd22 ct22 : Value}
    (a22 : PySem.W.nsIn K mainGlobals "_law_order_is" = some (some (.ref f22))) (l22 : K.lookup f22 = some ⟨oc22, od22, .func (PySem.W.fnOf "_law_order_is" "_law_order_is" (defArgs (topS 32)) (defBody (topS 32)) (defScope (topS 32)) .none kV22 dc22 pm22 an22 cd22 ct22), sl22⟩) (c22 : PySem.W.codeIn K cd22 "_law_order_is" = true) (k22 : PySem.W.keepIn K (.ref f22) = true)
    {od23 an23 : Option Addr} {sl23 : Array (Option Value)} {oc23 kV23 dc23 pm23 cd23 ct23 : Value}
    (a23 : PySem.W.nsIn K mainGlobals "_law_two_right" = some (some (.ref f23))) (l23 : K.lookup f23 = some ⟨oc23, od23, .func (PySem.W.fnOf "_law_two_right" "_law_two_right" (defArgs (topS 35)) (defBody (topS 35)) (defScope (topS 35)) .none kV23 dc23 pm23 an23 cd23 ct23), sl23⟩) (c23 : PySem.W.codeIn K cd23 "_law_two_right" = true) (k23 : PySem.W.keepIn K (.ref f23) = true)
    {od24 an24 : Option Addr} {sl24 : Array (Option Value)} {oc24 kV24 dc24 pm24 cd24 ct24 : Value}
    (a24 : PySem.W.nsIn K mainGlobals "law" = some (some (.ref f24))) (l24 : K.lookup f24 = some ⟨oc24, od24, .func (PySem.W.fnOf "law" "law" (defArgs (topS 36)) (defBody (topS 36)) (defScope (topS 36)) .none kV24 dc24 pm24 an24 cd24 ct24), sl24⟩) (c24 : PySem.W.codeIn K cd24 "law" = true) (k24 : PySem.W.keepIn K (.ref f24) = true)
    (z0 : PySem.W.nsIn K mainGlobals "len" = some none)
    (z1 : PySem.W.nsIn K mainGlobals "isinstance" = some none)
    (z2 : PySem.W.nsIn K mainGlobals "int" = some none)
    (z3 : PySem.W.nsIn K mainGlobals "bool" = some none)
    (z4 : PySem.W.nsIn K mainGlobals "str" = some none)
    (z5 : PySem.W.nsIn K mainGlobals "tuple" = some none)
    (z6 : PySem.W.nsIn K mainGlobals "list" = some none)
    (z7 : PySem.W.nsIn K mainGlobals "dict" = some none)
    (z8 : PySem.W.nsIn K mainGlobals "set" = some none)
    (z9 : PySem.W.nsIn K mainGlobals "sorted" = some none)
    (z10 : PySem.W.nsIn K mainGlobals "range" = some none)
    (z11 : PySem.W.nsIn K mainGlobals "sum" = some none)
    (z12 : PySem.W.nsIn K mainGlobals "min" = some none)
    (z13 : PySem.W.nsIn K mainGlobals "max" = some none)
    (z14 : PySem.W.nsIn K mainGlobals "all" = some none)
    (z15 : PySem.W.nsIn K mainGlobals "any" = some none)
    (z16 : PySem.W.nsIn K mainGlobals "zip" = some none)
    (z17 : PySem.W.nsIn K mainGlobals "enumerate" = some none)
    {e0 : Addr} (qa0 : PySem.W.nsIn K mainGlobals "NoThing" = some (some (.ref e0))) (qt0 : PySem.W.typeIn K (.ref e0) = some (.type "type"))
    (qi0 : PySem.W.isClsIn K e0 = true)
    {e1 : Addr} (qa1 : PySem.W.nsIn K mainGlobals "NoRow" = some (some (.ref e1))) (qt1 : PySem.W.typeIn K (.ref e1) = some (.type "type"))
    (qi1 : PySem.W.isClsIn K e1 = true)
    {e2 : Addr} (qa2 : PySem.W.nsIn K mainGlobals "NoNumber" = some (some (.ref e2))) (qt2 : PySem.W.typeIn K (.ref e2) = some (.type "type"))
    (qi2 : PySem.W.isClsIn K e2 = true)
    {e3 : Addr} (qa3 : PySem.W.nsIn K mainGlobals "NoLine" = some (some (.ref e3))) (qt3 : PySem.W.typeIn K (.ref e3) = some (.type "type"))
    (qi3 : PySem.W.isClsIn K e3 = true)
    {e4 : Addr} (qa4 : PySem.W.nsIn K mainGlobals "NoOrder" = some (some (.ref e4))) (qt4 : PySem.W.typeIn K (.ref e4) = some (.type "type"))
    (qi4 : PySem.W.isClsIn K e4 = true)
    {e5 : Addr} (qa5 : PySem.W.nsIn K mainGlobals "NoText" = some (some (.ref e5))) (qt5 : PySem.W.typeIn K (.ref e5) = some (.type "type"))
    (qi5 : PySem.W.isClsIn K e5 = true)
    {e6 : Addr} (qa6 : PySem.W.nsIn K mainGlobals "TooGreat" = some (some (.ref e6))) (qt6 : PySem.W.typeIn K (.ref e6) = some (.type "type"))
    (qi6 : PySem.W.isClsIn K e6 = true)
    (qx0 : PySem.W.excIn K e0 bmVE "ValueError.__new__" = true) (qk0 : PySem.W.keepIn K (.ref e0) = true)
    (qx2 : PySem.W.excIn K e2 bmVE "ValueError.__new__" = true) (qk2 : PySem.W.keepIn K (.ref e2) = true)
    {eJ : Addr} (qaJ : PySem.W.nsIn K mainGlobals "JumpError" = some (some (.ref eJ))) (qtJ : PySem.W.typeIn K (.ref eJ) = some (.type "type")) (qiJ : PySem.W.isClsIn K eJ = true) (qbJ : PySem.W.subIn K (.ref eJ) (.type "BaseException") = some true) (qve : PySem.W.nsIn K mainGlobals "ValueError" = some none)
    (qn : PySem.W.specialIn K (.builtin "object.__class__") "__get__" = some (some (.builtin "getset_descriptor.__get__"))) (qh : PySem.W.takesIn K (.builtin "object.__class__") = some true)
    (qb0 : PySem.W.subIn K (.ref e0) (.type "BaseException") = some true)
    (qb1 : PySem.W.subIn K (.ref e1) (.type "BaseException") = some true)
    (qb2 : PySem.W.subIn K (.ref e2) (.type "BaseException") = some true)
    (qb3 : PySem.W.subIn K (.ref e3) (.type "BaseException") = some true)
    (qg0 : PySem.W.findIn K (.ref e0) "__getattribute__" = some (some (.builtin "BaseException.__getattribute__"))) (qu0 : PySem.W.findIn K (.ref e0) "__getattr__" = some none) (qd0 : PySem.W.hasDictIn K e0 = true) (qc0 : PySem.W.findIn K (.ref e0) "__class__" = some (some (.builtin "object.__class__"))) (qm0 : PySem.W.mroIn K e0 (.type "object") = some true) (qv0 : PySem.W.subIn K (.ref e0) (.type "ValueError") = some true) (qj0 : PySem.W.subIn K (.ref e0) (.ref eJ) = some true)
    (qs00 : PySem.W.subIn K (.ref e0) (.ref e0) = some true)
    (qs01 : PySem.W.subIn K (.ref e0) (.ref e1) = some false)
    (qs02 : PySem.W.subIn K (.ref e0) (.ref e2) = some false)
    (qs03 : PySem.W.subIn K (.ref e0) (.ref e3) = some false)
    (qs04 : PySem.W.subIn K (.ref e0) (.ref e4) = some false)
    (qs05 : PySem.W.subIn K (.ref e0) (.ref e5) = some false)
    (qs06 : PySem.W.subIn K (.ref e0) (.ref e6) = some false)
    (qg1 : PySem.W.findIn K (.ref e1) "__getattribute__" = some (some (.builtin "BaseException.__getattribute__"))) (qu1 : PySem.W.findIn K (.ref e1) "__getattr__" = some none) (qd1 : PySem.W.hasDictIn K e1 = true) (qc1 : PySem.W.findIn K (.ref e1) "__class__" = some (some (.builtin "object.__class__"))) (qm1 : PySem.W.mroIn K e1 (.type "object") = some true) (qv1 : PySem.W.subIn K (.ref e1) (.type "ValueError") = some true) (qj1 : PySem.W.subIn K (.ref e1) (.ref eJ) = some true)
    (qs10 : PySem.W.subIn K (.ref e1) (.ref e0) = some false)
    (qs11 : PySem.W.subIn K (.ref e1) (.ref e1) = some true)
    (qs12 : PySem.W.subIn K (.ref e1) (.ref e2) = some false)
    (qs13 : PySem.W.subIn K (.ref e1) (.ref e3) = some false)
    (qs14 : PySem.W.subIn K (.ref e1) (.ref e4) = some false)
    (qs15 : PySem.W.subIn K (.ref e1) (.ref e5) = some false)
    (qs16 : PySem.W.subIn K (.ref e1) (.ref e6) = some false)
    (qg2 : PySem.W.findIn K (.ref e2) "__getattribute__" = some (some (.builtin "BaseException.__getattribute__"))) (qu2 : PySem.W.findIn K (.ref e2) "__getattr__" = some none) (qd2 : PySem.W.hasDictIn K e2 = true) (qc2 : PySem.W.findIn K (.ref e2) "__class__" = some (some (.builtin "object.__class__"))) (qm2 : PySem.W.mroIn K e2 (.type "object") = some true) (qv2 : PySem.W.subIn K (.ref e2) (.type "ValueError") = some true) (qj2 : PySem.W.subIn K (.ref e2) (.ref eJ) = some true)
    (qs20 : PySem.W.subIn K (.ref e2) (.ref e0) = some false)
    (qs21 : PySem.W.subIn K (.ref e2) (.ref e1) = some false)
    (qs22 : PySem.W.subIn K (.ref e2) (.ref e2) = some true)
    (qs23 : PySem.W.subIn K (.ref e2) (.ref e3) = some false)
    (qs24 : PySem.W.subIn K (.ref e2) (.ref e4) = some false)
    (qs25 : PySem.W.subIn K (.ref e2) (.ref e5) = some false)
    (qs26 : PySem.W.subIn K (.ref e2) (.ref e6) = some false)
    (qg3 : PySem.W.findIn K (.ref e3) "__getattribute__" = some (some (.builtin "BaseException.__getattribute__"))) (qu3 : PySem.W.findIn K (.ref e3) "__getattr__" = some none) (qd3 : PySem.W.hasDictIn K e3 = true) (qc3 : PySem.W.findIn K (.ref e3) "__class__" = some (some (.builtin "object.__class__"))) (qm3 : PySem.W.mroIn K e3 (.type "object") = some true) (qv3 : PySem.W.subIn K (.ref e3) (.type "ValueError") = some true) (qj3 : PySem.W.subIn K (.ref e3) (.ref eJ) = some true)
    (qs30 : PySem.W.subIn K (.ref e3) (.ref e0) = some false)
    (qs31 : PySem.W.subIn K (.ref e3) (.ref e1) = some false)
    (qs32 : PySem.W.subIn K (.ref e3) (.ref e2) = some false)
    (qs33 : PySem.W.subIn K (.ref e3) (.ref e3) = some true)
    (qs34 : PySem.W.subIn K (.ref e3) (.ref e4) = some false)
    (qs35 : PySem.W.subIn K (.ref e3) (.ref e5) = some false)
    (qs36 : PySem.W.subIn K (.ref e3) (.ref e6) = some false) :
    ∃ fd : FuncData, (∀ (s : Shared) (v : Value), BindsTo s fd ⟨[v], []⟩ [("_law_script", v)]) ∧ ∀ base : Heap, K.In base → base.Ns mainGlobals mg → FnOk l.prog w K mg base (CX l.prog w) 8 fa fd ["_law_script"] (spE K true c_law) := by
  have e := hfa.symm.trans (PySem.W.mg_of X G a24)
  cases e
  have bi : Bi mg := ⟨PySem.W.mg_none_of X G z0, PySem.W.mg_none_of X G z1, PySem.W.mg_none_of X G z2, PySem.W.mg_none_of X G z3, PySem.W.mg_none_of X G z4, PySem.W.mg_none_of X G z5, PySem.W.mg_none_of X G z6, PySem.W.mg_none_of X G z7, PySem.W.mg_none_of X G z8, PySem.W.mg_none_of X G z9, PySem.W.mg_none_of X G z10, PySem.W.mg_none_of X G z11, PySem.W.mg_none_of X G z12, PySem.W.mg_none_of X G z13, PySem.W.mg_none_of X G z14, PySem.W.mg_none_of X G z15, PySem.W.mg_none_of X G z16, PySem.W.mg_none_of X G z17⟩
  have KN : KnK K mg (fun c : Nat => ([e0, e1, e2, e3, e4, e5, e6] : List Addr).getD c 0) eJ := ⟨PySem.W.mg_of X G qa0, PySem.W.mg_of X G qa1, PySem.W.mg_of X G qa2, PySem.W.mg_of X G qa3, PySem.W.mg_of X G qa4, PySem.W.mg_of X G qa5, PySem.W.mg_of X G qa6, PySem.W.mg_of X G qaJ, PySem.W.mg_none_of X G qve, ?_, ?_, ?_, ?_⟩
  rotate_left
  · intro c j hc hj
    have hc : c = 0 ∨ c = 1 ∨ c = 2 ∨ c = 3 := by omega
    have hj : j = 0 ∨ j = 1 ∨ j = 2 ∨ j = 3 ∨ j = 4 ∨ j = 5 ∨ j = 6 := by omega
    rcases hc with rfl | rfl | rfl | rfl
    · rcases hj with rfl | rfl | rfl | rfl | rfl | rfl | rfl
      · exact kit_of qi0 qt0 qs00 qs00
      · exact kit_of qi1 qt1 qs01 qs00
      · exact kit_of qi2 qt2 qs02 qs00
      · exact kit_of qi3 qt3 qs03 qs00
      · exact kit_of qi4 qt4 qs04 qs00
      · exact kit_of qi5 qt5 qs05 qs00
      · exact kit_of qi6 qt6 qs06 qs00
    · rcases hj with rfl | rfl | rfl | rfl | rfl | rfl | rfl
      · exact kit_of qi0 qt0 qs10 qs11
      · exact kit_of qi1 qt1 qs11 qs11
      · exact kit_of qi2 qt2 qs12 qs11
      · exact kit_of qi3 qt3 qs13 qs11
      · exact kit_of qi4 qt4 qs14 qs11
      · exact kit_of qi5 qt5 qs15 qs11
      · exact kit_of qi6 qt6 qs16 qs11
    · rcases hj with rfl | rfl | rfl | rfl | rfl | rfl | rfl
      · exact kit_of qi0 qt0 qs20 qs22
      · exact kit_of qi1 qt1 qs21 qs22
      · exact kit_of qi2 qt2 qs22 qs22
      · exact kit_of qi3 qt3 qs23 qs22
      · exact kit_of qi4 qt4 qs24 qs22
      · exact kit_of qi5 qt5 qs25 qs22
      · exact kit_of qi6 qt6 qs26 qs22
    · rcases hj with rfl | rfl | rfl | rfl | rfl | rfl | rfl
      · exact kit_of qi0 qt0 qs30 qs33
      · exact kit_of qi1 qt1 qs31 qs33
      · exact kit_of qi2 qt2 qs32 qs33
      · exact kit_of qi3 qt3 qs33 qs33
      · exact kit_of qi4 qt4 qs34 qs33
      · exact kit_of qi5 qt5 qs35 qs33
      · exact kit_of qi6 qt6 qs36 qs33
  · intro c hc
    have hc : c = 0 ∨ c = 1 ∨ c = 2 ∨ c = 3 := by omega
    rcases hc with rfl | rfl | rfl | rfl
    · exact kit_ve qv0
    · exact kit_ve qv1
    · exact kit_ve qv2
    · exact kit_ve qv3
  · intro c hc
    have hc : c = 0 ∨ c = 1 ∨ c = 2 ∨ c = 3 := by omega
    rcases hc with rfl | rfl | rfl | rfl
    · exact exm_of4 qiJ qtJ qbJ qj0
    · exact exm_of4 qiJ qtJ qbJ qj1
    · exact exm_of4 qiJ qtJ qbJ qj2
    · exact exm_of4 qiJ qtJ qbJ qj3
  · intro c hc
    have hc : c = 0 ∨ c = 1 ∨ c = 2 ∨ c = 3 := by omega
    rcases hc with rfl | rfl | rfl | rfl
    · exact ⟨qg0, qu0, qb0, qd0, qc0, qn, qh, qm0⟩
    · exact ⟨qg1, qu1, qb1, qd1, qc1, qn, qh, qm1⟩
    · exact ⟨qg2, qu2, qb2, qd2, qc2, qn, qh, qm2⟩
    · exact ⟨qg3, qu3, qb3, qd3, qc3, qn, qh, qm3⟩
  have Y0 : ExCls K mg (⟨(fun k : Nat => ([f16, f19] : List Addr)[k]?), clT (fun c : Nat => ([e0, e1, e2, e3, e4, e5, e6] : List Addr).getD c 0), none⟩ : Tb) 0 "NoThing" e0 := ⟨rfl, PySem.W.mg_of X G qa0, qx0, qk0, qb0, qt0⟩
  have Y2 : ExCls K mg (⟨(fun k : Nat => ([f16, f19] : List Addr)[k]?), clT (fun c : Nat => ([e0, e1, e2, e3, e4, e5, e6] : List Addr).getD c 0), none⟩ : Tb) 2 "NoNumber" e2 := ⟨rfl, PySem.W.mg_of X G qa2, qx2, qk2, qb2, qt2⟩
  have F0 := fun_mk (st := topS 28) l0 c0 k0
  have b0 := F0.binds (ps := ["_law_e"]) fun _ _ _ _ _ _ us hl => match us, hl with | [_], _ => rfl
  have F1 := fun_mk (st := topS 25) l1 c1 k1
  have b1 := F1.binds (ps := ["_law_cell"]) fun _ _ _ _ _ _ us hl => match us, hl with | [_], _ => rfl
  have F2 := fun_mk (st := topS 24) l2 c2 k2
  have b2 := F2.binds (ps := ["_law_seed"]) fun _ _ _ _ _ _ us hl => match us, hl with | [_], _ => rfl
  have F3 := fun_mk (st := topS 26) l3 c3 k3
  have b3 := F3.binds (ps := ["_law_pen", "_law_many"]) fun _ _ _ _ _ _ us hl => match us, hl with | [_, _], _ => rfl
  have F4 := fun_mk (st := topS 30) l4 c4 k4
  have b4 := F4.binds (ps := ["_law_pen", "_law_many"]) fun _ _ _ _ _ _ us hl => match us, hl with | [_, _], _ => rfl
  have F5 := fun_mk (st := topS 29) l5 c5 k5
  have b5 := F5.binds (ps := ["_law_pairs"]) fun _ _ _ _ _ _ us hl => match us, hl with | [_], _ => rfl
  have F6 := fun_mk (st := topS 31) l6 c6 k6
  have b6 := F6.binds (ps := ["_law_pen", "_law_most"]) fun _ _ _ _ _ _ us hl => match us, hl with | [_, _], _ => rfl
  have F7 := fun_mk (st := topS 33) l7 c7 k7
  have b7 := F7.binds (ps := ["_law_pen", "_law_many"]) fun _ _ _ _ _ _ us hl => match us, hl with | [_, _], _ => rfl
  have F8 := fun_mk (st := topS 23) l8 c8 k8
  have b8 := F8.binds (ps := ["_law_script", "_law_k"]) fun _ _ _ _ _ _ us hl => match us, hl with | [_, _], _ => rfl
  have F9 := fun_mk (st := topS 10) l9 c9 k9
  have b9 := F9.binds (ps := ["thing"]) fun _ _ _ _ _ _ us hl => match us, hl with | [_], _ => rfl
  have F10 := fun_mk (st := topS 13) l10 c10 k10
  have b10 := F10.binds (ps := ["order", "thing"]) fun _ _ _ _ _ _ us hl => match us, hl with | [_, _], _ => rfl
  have F11 := fun_mk (st := topS 16) l11 c11 k11
  have b11 := F11.binds (ps := ["order", "one", "other"]) fun _ _ _ _ _ _ us hl => match us, hl with | [_, _, _], _ => rfl
  have F12 := fun_mk (st := topS 18) l12 c12 k12
  have b12 := F12.binds (ps := ["order", "one", "other"]) fun _ _ _ _ _ _ us hl => match us, hl with | [_, _, _], _ => rfl
  have F13 := fun_mk (st := topS 12) l13 c13 k13
  have b13 := F13.binds (ps := ["pairs"]) fun _ _ _ _ _ _ us hl => match us, hl with | [_], _ => rfl
  have F14 := fun_mk (st := topS 11) l14 c14 k14
  have b14 := F14.binds (ps := ["pairs"]) fun _ _ _ _ _ _ us hl => match us, hl with | [_], _ => rfl
  have F15 := fun_mk (st := topS 17) l15 c15 k15
  have b15 := F15.binds (ps := ["order", "one", "other"]) fun _ _ _ _ _ _ us hl => match us, hl with | [_, _, _], _ => rfl
  have F16 := fun_mk (st := topS 19) l16 c16 k16
  have b16 := F16.binds (ps := ["order", "one", "other"]) fun _ _ _ _ _ _ us hl => match us, hl with | [_, _, _], _ => rfl
  have F17 := fun_mk (st := topS 20) l17 c17 k17
  have b17 := F17.binds (ps := ["order", "one", "other"]) fun _ _ _ _ _ _ us hl => match us, hl with | [_, _, _], _ => rfl
  have F18 := fun_mk (st := topS 14) l18 c18 k18
  have b18 := F18.binds (ps := ["order"]) fun _ _ _ _ _ _ us hl => match us, hl with | [_], _ => rfl
  have F19 := fun_mk (st := topS 21) l19 c19 k19
  have b19 := F19.binds (ps := ["order", "one", "other"]) fun _ _ _ _ _ _ us hl => match us, hl with | [_, _, _], _ => rfl
  have F20 := fun_mk (st := topS 34) l20 c20 k20
  have b20 := F20.binds (ps := ["_law_way", "_law_order", "_law_one", "_law_other"]) fun _ _ _ _ _ _ us hl => match us, hl with | [_, _, _, _], _ => rfl
  have F21 := fun_mk (st := topS 27) l21 c21 k21
  have b21 := F21.binds (ps := ["_law_found"]) fun _ _ _ _ _ _ us hl => match us, hl with | [_], _ => rfl
  have F22 := fun_mk (st := topS 32) l22 c22 k22
  have b22 := F22.binds (ps := ["_law_found", "_law_due"]) fun _ _ _ _ _ _ us hl => match us, hl with | [_, _], _ => rfl
  have F23 := fun_mk (st := topS 35) l23 c23 k23
  have b23 := F23.binds (ps := ["_law_order", "_law_one", "_law_other"]) fun _ _ _ _ _ _ us hl => match us, hl with | [_, _, _], _ => rfl
  have F24 := fun_mk (st := topS 36) l24 c24 k24
  have b24 := F24.binds (ps := ["_law_script"]) fun _ _ _ _ _ _ us hl => match us, hl with | [_], _ => rfl
  refine ⟨PySem.W.fnOf "law" "law" (defArgs (topS 36)) (defBody (topS 36)) (defScope (topS 36)) .none kV24 dc24 pm24 an24 cd24 ct24, fun s v => .of_eq rfl, fun base _ _ => ?_⟩
  have W0 := w__law_kind_of (P := l.prog) (w := w) (base := base) (T := (⟨(fun k : Nat => ([f16, f19] : List Addr)[k]?), clT (fun c : Nat => ([e0, e1, e2, e3, e4, e5, e6] : List Addr).getD c 0), none⟩ : Tb)) bi rfl KN F0 b0 (PySem.W.mg_of X G a0)
  have W1 := w__law_pen_of (P := l.prog) (w := w) (base := base) (T := (⟨(fun k : Nat => ([f16, f19] : List Addr)[k]?), clT (fun c : Nat => ([e0, e1, e2, e3, e4, e5, e6] : List Addr).getD c 0), none⟩ : Tb)) bi  F1 b1 (PySem.W.mg_of X G a1)
  have W2 := w__law_next (P := l.prog) (w := w) (base := base) (T := (⟨(fun k : Nat => ([f16, f19] : List Addr)[k]?), clT (fun c : Nat => ([e0, e1, e2, e3, e4, e5, e6] : List Addr).getD c 0), none⟩ : Tb)) bi  F2 b2 (PySem.W.mg_of X G a2)
  have W3 := w__law_draw (P := l.prog) (w := w) (base := base) (T := (⟨(fun k : Nat => ([f16, f19] : List Addr)[k]?), clT (fun c : Nat => ([e0, e1, e2, e3, e4, e5, e6] : List Addr).getD c 0), none⟩ : Tb)) bi W2 F3 b3 (PySem.W.mg_of X G a3)
  have W4 := w__law_mixed (P := l.prog) (w := w) (base := base) (T := (⟨(fun k : Nat => ([f16, f19] : List Addr)[k]?), clT (fun c : Nat => ([e0, e1, e2, e3, e4, e5, e6] : List Addr).getD c 0), none⟩ : Tb)) bi W3 F4 b4 (PySem.W.mg_of X G a4)
  have W5 := w__law_closed (P := l.prog) (w := w) (base := base) (T := (⟨(fun k : Nat => ([f16, f19] : List Addr)[k]?), clT (fun c : Nat => ([e0, e1, e2, e3, e4, e5, e6] : List Addr).getD c 0), none⟩ : Tb)) bi  F5 b5 (PySem.W.mg_of X G a5)
  have W6 := w__law_order_of (P := l.prog) (w := w) (base := base) (T := (⟨(fun k : Nat => ([f16, f19] : List Addr)[k]?), clT (fun c : Nat => ([e0, e1, e2, e3, e4, e5, e6] : List Addr).getD c 0), none⟩ : Tb)) bi W3 W4 W5 F6 b6 (PySem.W.mg_of X G a6)
  have W7 := w__law_no_thing (P := l.prog) (w := w) (base := base) (T := (⟨(fun k : Nat => ([f16, f19] : List Addr)[k]?), clT (fun c : Nat => ([e0, e1, e2, e3, e4, e5, e6] : List Addr).getD c 0), none⟩ : Tb)) bi W3 F7 b7 (PySem.W.mg_of X G a7)
  have W8 := w__law_cell_at (P := l.prog) (w := w) (base := base) (T := (⟨(fun k : Nat => ([f16, f19] : List Addr)[k]?), clT (fun c : Nat => ([e0, e1, e2, e3, e4, e5, e6] : List Addr).getD c 0), none⟩ : Tb)) bi  F8 b8 (PySem.W.mg_of X G a8)
  have W9 := w_is_whole (P := l.prog) (w := w) (base := base) (T := (⟨(fun k : Nat => ([f16, f19] : List Addr)[k]?), clT (fun c : Nat => ([e0, e1, e2, e3, e4, e5, e6] : List Addr).getD c 0), none⟩ : Tb)) bi  F9 b9 (PySem.W.mg_of X G a9)
  have W10 := w_check_thing (P := l.prog) (w := w) (base := base) (T := (⟨(fun k : Nat => ([f16, f19] : List Addr)[k]?), clT (fun c : Nat => ([e0, e1, e2, e3, e4, e5, e6] : List Addr).getD c 0), none⟩ : Tb)) bi W9 Y0 F10 b10 (PySem.W.mg_of X G a10)
  have W11 := w_check_two (P := l.prog) (w := w) (base := base) (T := (⟨(fun k : Nat => ([f16, f19] : List Addr)[k]?), clT (fun c : Nat => ([e0, e1, e2, e3, e4, e5, e6] : List Addr).getD c 0), none⟩ : Tb)) bi W10 F11 b11 (PySem.W.mg_of X G a11)
  have W12 := w_check_pair (P := l.prog) (w := w) (base := base) (T := (⟨(fun k : Nat => ([f16, f19] : List Addr)[k]?), clT (fun c : Nat => ([e0, e1, e2, e3, e4, e5, e6] : List Addr).getD c 0), none⟩ : Tb)) bi W11 Y2 F12 b12 (PySem.W.mg_of X G a12)
  have W13 := w_led_on (P := l.prog) (w := w) (base := base) (T := (⟨(fun k : Nat => ([f16, f19] : List Addr)[k]?), clT (fun c : Nat => ([e0, e1, e2, e3, e4, e5, e6] : List Addr).getD c 0), none⟩ : Tb)) bi  F13 b13 (PySem.W.mg_of X G a13)
  have W14 := w_closed (P := l.prog) (w := w) (base := base) (T := (⟨(fun k : Nat => ([f16, f19] : List Addr)[k]?), clT (fun c : Nat => ([e0, e1, e2, e3, e4, e5, e6] : List Addr).getD c 0), none⟩ : Tb)) bi W13 F14 b14 (PySem.W.mg_of X G a14)
  have W15 := w_paired (P := l.prog) (w := w) (base := base) (T := (⟨(fun k : Nat => ([f16, f19] : List Addr)[k]?), clT (fun c : Nat => ([e0, e1, e2, e3, e4, e5, e6] : List Addr).getD c 0), none⟩ : Tb)) bi W14 F15 b15 (PySem.W.mg_of X G a15)
  have W16 := w_with_pair (P := l.prog) (w := w) (base := base) (T := (⟨(fun k : Nat => ([f16, f19] : List Addr)[k]?), clT (fun c : Nat => ([e0, e1, e2, e3, e4, e5, e6] : List Addr).getD c 0), none⟩ : Tb)) bi W12 W15 F16 b16 (PySem.W.mg_of X G a16)
  have W17 := w_left_step (P := l.prog) (w := w) (base := base) (T := (⟨(fun k : Nat => ([f16, f19] : List Addr)[k]?), clT (fun c : Nat => ([e0, e1, e2, e3, e4, e5, e6] : List Addr).getD c 0), none⟩ : Tb)) bi  F17 b17 (PySem.W.mg_of X G a17)
  have W18 := w_steps_of (P := l.prog) (w := w) (base := base) (T := (⟨(fun k : Nat => ([f16, f19] : List Addr)[k]?), clT (fun c : Nat => ([e0, e1, e2, e3, e4, e5, e6] : List Addr).getD c 0), none⟩ : Tb)) bi W13 F18 b18 (PySem.W.mg_of X G a18)
  have W19 := w_without_step (P := l.prog) (w := w) (base := base) (T := (⟨(fun k : Nat => ([f16, f19] : List Addr)[k]?), clT (fun c : Nat => ([e0, e1, e2, e3, e4, e5, e6] : List Addr).getD c 0), none⟩ : Tb)) bi W11 W17 W18 Y2 F19 b19 (PySem.W.mg_of X G a19)
  have W20 := w__law_told (P := l.prog) (w := w) (base := base) (T := (⟨(fun k : Nat => ([f16, f19] : List Addr)[k]?), clT (fun c : Nat => ([e0, e1, e2, e3, e4, e5, e6] : List Addr).getD c 0), none⟩ : Tb)) bi W16 W19 rfl rfl rfl KN W0 F20 b20 (PySem.W.mg_of X G a20)
  have W21 := w__law_whole (P := l.prog) (w := w) (base := base) (T := (⟨(fun k : Nat => ([f16, f19] : List Addr)[k]?), clT (fun c : Nat => ([e0, e1, e2, e3, e4, e5, e6] : List Addr).getD c 0), none⟩ : Tb)) bi  F21 b21 (PySem.W.mg_of X G a21)
  have W22 := w__law_order_is (P := l.prog) (w := w) (base := base) (T := (⟨(fun k : Nat => ([f16, f19] : List Addr)[k]?), clT (fun c : Nat => ([e0, e1, e2, e3, e4, e5, e6] : List Addr).getD c 0), none⟩ : Tb)) bi W21 F22 b22 (PySem.W.mg_of X G a22)
  have W23 := w__law_two_right (P := l.prog) (w := w) (base := base) (T := (⟨(fun k : Nat => ([f16, f19] : List Addr)[k]?), clT (fun c : Nat => ([e0, e1, e2, e3, e4, e5, e6] : List Addr).getD c 0), none⟩ : Tb)) bi W5 W20 W22 F23 b23 (PySem.W.mg_of X G a23)
  exact (w_law (T := (⟨(fun k : Nat => ([f16, f19] : List Addr)[k]?), clT (fun c : Nat => ([e0, e1, e2, e3, e4, e5, e6] : List Addr).getD c 0), none⟩ : Tb)) bi W1 W6 W7 W8 W20 W23 F24).imp fun vs H Q E h => h _

end Fj.K55
open PySem PySem.W PyProof.Rows
set_option maxHeartbeats 0 in
theorem PySem.Challenge.cw_fewjumps_k55_pairs_put_and_steps_left_holds : PySem.Challenge.rw_fewjumps_k55_pairs_put_and_steps_left.Holds := by
  w_on; o_law; k_head; (case hw => w_witness2)
  k_fill
  refine L2.walk_of (l := PySem.Challenge.rw_fewjumps_k55_pairs_put_and_steps_left) (n := 63) (k := 8) (x := "_law_script") (CX := fun w => L2.CX (PySem.Challenge.rw_fewjumps_k55_pairs_put_and_steps_left).prog w) (sp := fun w => Fj.spE _ true Fj.K55.c_law) rfl (by decide) rfl ⟨rfl, by decide, by decide⟩ (fun w h Y => PySem.W.kIn_of Y) ?F (fun _ _ a ns hl _ hS => Fj.law_endE hS (Fj.K55.law_true ns hl)) (fun _ _ _ _ _ h => by
    obtain ⟨_, _, _, _, _, _, _, _, _, _, _, _, h⟩ := h
    exact h)
  case F =>
    intro w mg fa h KX G hmg
    refine' Fj.K55.all_mk KX G hmg ?a0 ?l0 ?c0 ?k0 ?a1 ?l1 ?c1 ?k1 ?a2 ?l2 ?c2 ?k2 ?a3 ?l3 ?c3 ?k3 ?a4 ?l4 ?c4 ?k4 ?a5 ?l5 ?c5 ?k5 ?a6 ?l6 ?c6 ?k6 ?a7 ?l7 ?c7 ?k7 ?a8 ?l8 ?c8 ?k8 ?a9 ?l9 ?c9 ?k9 ?a10 ?l10 ?c10 ?k10 ?a11 ?l11 ?c11 ?k11 ?a12 ?l12 ?c12 ?k12 ?a13 ?l13 ?c13 ?k13 ?a14 ?l14 ?c14 ?k14 ?a15 ?l15 ?c15 ?k15 ?a16 ?l16 ?c16 ?k16 ?a17 ?l17 ?c17 ?k17 ?a18 ?l18 ?c18 ?k18 ?a19 ?l19 ?c19 ?k19 ?a20 ?l20 ?c20 ?k20 ?a21 ?l21 ?c21 ?k21 ?a22 ?l22 ?c22 ?k22 ?a23 ?l23 ?c23 ?k23 ?a24 ?l24 ?c24 ?k24 ?z0 ?z1 ?z2 ?z3 ?z4 ?z5 ?z6 ?z7 ?z8 ?z9 ?z10 ?z11 ?z12 ?z13 ?z14 ?z15 ?z16 ?z17 ?qa0 ?qt0 ?qi0 ?qa1 ?qt1 ?qi1 ?qa2 ?qt2 ?qi2 ?qa3 ?qt3 ?qi3 ?qa4 ?qt4 ?qi4 ?qa5 ?qt5 ?qi5 ?qa6 ?qt6 ?qi6 ?qx0 ?qk0 ?qx2 ?qk2 ?qaJ ?qtJ ?qiJ ?qbJ ?qve ?qn ?qh ?qb0 ?qb1 ?qb2 ?qb3 ?qg0 ?qu0 ?qd0 ?qc0 ?qm0 ?qv0 ?qj0 ?qs00 ?qs01 ?qs02 ?qs03 ?qs04 ?qs05 ?qs06 ?qg1 ?qu1 ?qd1 ?qc1 ?qm1 ?qv1 ?qj1 ?qs10 ?qs11 ?qs12 ?qs13 ?qs14 ?qs15 ?qs16 ?qg2 ?qu2 ?qd2 ?qc2 ?qm2 ?qv2 ?qj2 ?qs20 ?qs21 ?qs22 ?qs23 ?qs24 ?qs25 ?qs26 ?qg3 ?qu3 ?qd3 ?qc3 ?qm3 ?qv3 ?qj3 ?qs30 ?qs31 ?qs32 ?qs33 ?qs34 ?qs35 ?qs36
    (case a0 => k_is); (case l0 => k_is); (case c0 => k_is); (case k0 => k_is); (case a1 => k_is); (case l1 => k_is); (case c1 => k_is); (case k1 => k_is); (case a2 => k_is); (case l2 => k_is); (case c2 => k_is); (case k2 => k_is); (case a3 => k_is); (case l3 => k_is); (case c3 => k_is); (case k3 => k_is); (case a4 => k_is); (case l4 => k_is); (case c4 => k_is); (case k4 => k_is); (case a5 => k_is); (case l5 => k_is); (case c5 => k_is); (case k5 => k_is); (case a6 => k_is); (case l6 => k_is); (case c6 => k_is); (case k6 => k_is); (case a7 => k_is); (case l7 => k_is); (case c7 => k_is); (case k7 => k_is); (case a8 => k_is); (case l8 => k_is); (case c8 => k_is); (case k8 => k_is); (case a9 => k_is); (case l9 => k_is); (case c9 => k_is); (case k9 => k_is); (case a10 => k_is); (case l10 => k_is); (case c10 => k_is); (case k10 => k_is); (case a11 => k_is); (case l11 => k_is); (case c11 => k_is); (case k11 => k_is); (case a12 => k_is); (case l12 => k_is); (case c12 => k_is); (case k12 => k_is); (case a13 => k_is); (case l13 => k_is); (case c13 => k_is); (case k13 => k_is); (case a14 => k_is); (case l14 => k_is); (case c14 => k_is); (case k14 => k_is); (case a15 => k_is); (case l15 => k_is); (case c15 => k_is); (case k15 => k_is); (case a16 => k_is); (case l16 => k_is); (case c16 => k_is); (case k16 => k_is); (case a17 => k_is); (case l17 => k_is); (case c17 => k_is); (case k17 => k_is); (case a18 => k_is); (case l18 => k_is); (case c18 => k_is); (case k18 => k_is); (case a19 => k_is); (case l19 => k_is); (case c19 => k_is); (case k19 => k_is); (case a20 => k_is); (case l20 => k_is); (case c20 => k_is); (case k20 => k_is); (case a21 => k_is); (case l21 => k_is); (case c21 => k_is); (case k21 => k_is); (case a22 => k_is); (case l22 => k_is); (case c22 => k_is); (case k22 => k_is); (case a23 => k_is); (case l23 => k_is); (case c23 => k_is); (case k23 => k_is); (case a24 => k_is); (case l24 => k_is); (case c24 => k_is); (case k24 => k_is); (case z0 => k_is); (case z1 => k_is); (case z2 => k_is); (case z3 => k_is); (case z4 => k_is); (case z5 => k_is); (case z6 => k_is); (case z7 => k_is); (case z8 => k_is); (case z9 => k_is); (case z10 => k_is); (case z11 => k_is); (case z12 => k_is); (case z13 => k_is); (case z14 => k_is); (case z15 => k_is); (case z16 => k_is); (case z17 => k_is); (case qa0 => k_is); (case qt0 => k_is); (case qi0 => k_is); (case qa1 => k_is); (case qt1 => k_is); (case qi1 => k_is); (case qa2 => k_is); (case qt2 => k_is); (case qi2 => k_is); (case qa3 => k_is); (case qt3 => k_is); (case qi3 => k_is); (case qa4 => k_is); (case qt4 => k_is); (case qi4 => k_is); (case qa5 => k_is); (case qt5 => k_is); (case qi5 => k_is); (case qa6 => k_is); (case qt6 => k_is); (case qi6 => k_is); (case qx0 => k_exc); (case qk0 => k_is); (case qx2 => k_exc); (case qk2 => k_is); (case qaJ => k_is); (case qtJ => k_is); (case qiJ => k_is); (case qbJ => k_is); (case qve => k_is); (case qn => k_is); (case qh => k_is); (case qb0 => k_is); (case qb1 => k_is); (case qb2 => k_is); (case qb3 => k_is); (case qg0 => k_is); (case qu0 => k_is); (case qd0 => k_is); (case qc0 => k_is); (case qm0 => k_is); (case qv0 => k_is); (case qj0 => k_is); (case qs00 => k_is); (case qs01 => k_is); (case qs02 => k_is); (case qs03 => k_is); (case qs04 => k_is); (case qs05 => k_is); (case qs06 => k_is); (case qg1 => k_is); (case qu1 => k_is); (case qd1 => k_is); (case qc1 => k_is); (case qm1 => k_is); (case qv1 => k_is); (case qj1 => k_is); (case qs10 => k_is); (case qs11 => k_is); (case qs12 => k_is); (case qs13 => k_is); (case qs14 => k_is); (case qs15 => k_is); (case qs16 => k_is); (case qg2 => k_is); (case qu2 => k_is); (case qd2 => k_is); (case qc2 => k_is); (case qm2 => k_is); (case qv2 => k_is); (case qj2 => k_is); (case qs20 => k_is); (case qs21 => k_is); (case qs22 => k_is); (case qs23 => k_is); (case qs24 => k_is); (case qs25 => k_is); (case qs26 => k_is); (case qg3 => k_is); (case qu3 => k_is); (case qd3 => k_is); (case qc3 => k_is); (case qm3 => k_is); (case qv3 => k_is); (case qj3 => k_is); (case qs30 => k_is); (case qs31 => k_is); (case qs32 => k_is); (case qs33 => k_is); (case qs34 => k_is); (case qs35 => k_is); (case qs36 => k_is)
