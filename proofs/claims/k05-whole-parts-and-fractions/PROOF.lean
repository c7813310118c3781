import PyProof.Rows.All
import HandS.ForMost
import HandS.Wide
import KE.DataCmp
import KE.DataAny
import KE.DataIsa
import KE.KDictKeyed
import KE.SortData
import PyProof.ReprRoads
import HandS.TupAny
import HandS.TupMul
import HandS.Style
import HandS.NoneIn
import HandS.Star
import HandS.Codes
import HandS.HeadEnd
import HandS.Defaults
import HandS.Head0
import HandS.Head1
import HandS.Head2
import HandS.HeadHook1
import HandS.HeadHook2
import PyProof.Rows.RegStrFacts
import PySem.Challenge.RW_turnsthatfit_k05_whole_parts_and_fractio
set_option Elab.async false
set_option linter.all false
set_option maxRecDepth 100000
set_option maxHeartbeats 0
/-! The pure side: Python values as trees, environments, and what a body does as a Lean function. -/
namespace L3
open PySem
abbrev D := PyData
mutual
def D.beq : D → D → Bool
  | .none, .none => true
  | .bool a, .bool b => a == b
  | .int a, .int b => a == b
  | .str a, .str b => decide (a = b)
  | .list a, .list b => D.beqs a b
  | .tuple a, .tuple b => D.beqs a b
  | .dict a, .dict b => D.beqk a b
  | _, _ => false
def D.beqs : List D → List D → Bool
  | [], [] => true
  | a :: r, b :: t => D.beq a b && D.beqs r t
  | _, _ => false
def D.beqk : List (D × D) → List (D × D) → Bool
  | [], [] => true
  | (a, c) :: r, (b, d) :: t => D.beq a b && D.beq c d && D.beqk r t
  | _, _ => false
end
mutual
theorem D.beq_refl : ∀ a : D, D.beq a a = true
  | .none => rfl
  | .bool b => by simp [D.beq]
  | .int b => by simp [D.beq]
  | .str b => by simp [D.beq]
  | .list a => by simp [D.beq, D.beqs_refl a]
  | .tuple a => by simp [D.beq, D.beqs_refl a]
  | .dict a => by simp [D.beq, D.beqk_refl a]
theorem D.beqs_refl : ∀ a : List D, D.beqs a a = true
  | [] => rfl
  | a :: r => by simp [D.beqs, D.beq_refl a, D.beqs_refl r]
theorem D.beqk_refl : ∀ a : List (D × D), D.beqk a a = true
  | [] => rfl
  | (a, c) :: r => by simp [D.beqk, D.beq_refl a, D.beq_refl c, D.beqk_refl r]
end
mutual
theorem D.of_beq : ∀ a b : D, D.beq a b = true → a = b
  | .none, b, h => by cases b <;> simp_all [D.beq]
  | .bool a, b, h => by cases b <;> simp_all [D.beq]
  | .int a, b, h => by cases b <;> simp_all [D.beq]
  | .str a, b, h => by cases b <;> simp_all [D.beq]
  | .list a, b, h => by
    cases b with
    | list c => rw [D.of_beqs a c (by simpa [D.beq] using h)]
    | _ => simp [D.beq] at h
  | .tuple a, b, h => by
    cases b with
    | tuple c => rw [D.of_beqs a c (by simpa [D.beq] using h)]
    | _ => simp [D.beq] at h
  | .dict a, b, h => by
    cases b with
    | dict c => rw [D.of_beqk a c (by simpa [D.beq] using h)]
    | _ => simp [D.beq] at h
theorem D.of_beqs : ∀ a b : List D, D.beqs a b = true → a = b
  | [], b, h => by cases b <;> simp_all [D.beqs]
  | a :: r, b, h => by
    cases b with
    | nil => simp [D.beqs] at h
    | cons c t =>
      simp only [D.beqs, Bool.and_eq_true] at h
      rw [D.of_beq a c h.1, D.of_beqs r t h.2]
theorem D.of_beqk : ∀ a b : List (D × D), D.beqk a b = true → a = b
  | [], b, h => by cases b <;> simp_all [D.beqk]
  | (a, c) :: r, b, h => by
    cases b with
    | nil => simp [D.beqk] at h
    | cons e t =>
      obtain ⟨b, d⟩ := e
      simp only [D.beqk, Bool.and_eq_true] at h
      rw [D.of_beq a b h.1.1, D.of_beq c d h.1.2, D.of_beqk r t h.2]
end
instance : DecidableEq D := fun a b => if h : D.beq a b = true then .isTrue (D.of_beq a b h) else .isFalse fun e => h (e ▸ D.beq_refl a)
/-- a drawing of numbers from the script: one dict and its list, known by reference -/
structure Src where
  cells : List Int
  left : Int
  mixed : Int
  turn : Int
  deriving DecidableEq
/-- what a name owns: a list or a dict that it alone may change -/
inductive Own where
  | lst (xs : List D)
  | dic (kvs : List (D × D))
  | src (s : Src)
/-- what a name holds; fx: it came by reference and goes back to the caller -/
inductive Cell where
  | un
  | scr (ns : List Int)
  | val (d : D)
  | own (fx : Bool) (o : Own)
/-- how a value comes: read in place, standing, new -/
inductive Kind where
  | r | c | f
  deriving DecidableEq
abbrev Env := List Cell
abbrev P := Env → Option D
abbrev T := Env → Option Bool
abbrev E := Env → Option (Env × Cell)
abbrev TE' := Env → Option (Env × Bool)
inductive Out where
  | nx | bk | ct | rt (c : Cell)
abbrev Sm := Env → Option (Env × Out)
abbrev Fn := List Cell → Option (List Cell × Cell)
def Cell.toD : Cell → Option D
  | .val d => some d
  | .own _ (.lst xs) => some (.list xs)
  | .own _ (.dic kvs) => some (.dict kvs)
  | _ => none
/-! ### the operations -/
def mulOk (a b : Int) : Bool := decide (a.natAbs.log2 + b.natAbs.log2 < 1000000 ∨ a.natAbs < 18446744073709551616 ∨ b.natAbs < 18446744073709551616)
def divOk (b : Int) : Bool := decide (b ≠ 0 ∧ b.natAbs.log2 < 9000)
def len24 (n : Nat) : Bool := decide (n ≤ 16777216)
def dAdd : D → D → Option D
  | .int a, .int b => some (.int (a + b))
  | .str a, .str b => if len24 (a.length + b.length) then some (.str (a ++ b)) else none
  | .tuple a, .tuple b => if len24 (a.length + b.length) then some (.tuple (a ++ b)) else none
  | .list a, .list b => if len24 (a.length + b.length) then some (.list (a ++ b)) else none
  | _, _ => none
def dSub : D → D → Option D
  | .int a, .int b => some (.int (a - b))
  | _, _ => none
def dMul : D → D → Option D
  | .int a, .int b => if mulOk a b then some (.int (a * b)) else none
  | _, _ => none
/-- list * int -/
def dRep : D → D → Option D
  | .list a, .int k => if decide (k.natAbs < 9223372036854775808) && len24 (a.length * k.toNat) then some (.list (List.replicate k.toNat a).flatten) else none
  | _, _ => none
def dFdiv : D → D → Option D
  | .int a, .int b => if divOk b then some (.int (a.fdiv b)) else none
  | _, _ => none
def dMod : D → D → Option D
  | .int a, .int b => if b = 0 then none else some (.int (a.fmod b))
  | _, _ => none
def dNeg : D → Option D
  | .int a => some (.int (-a))
  | _ => none
def dLt : D → D → Option D
  | .int a, .int b => some (.bool (decide (a < b)))
  | _, _ => none
def dLe : D → D → Option D
  | .int a, .int b => some (.bool (decide (a ≤ b)))
  | _, _ => none
def dGt : D → D → Option D
  | .int a, .int b => some (.bool (decide (b < a)))
  | _, _ => none
def dGe : D → D → Option D
  | .int a, .int b => some (.bool (decide (b ≤ a)))
  | _, _ => none
def okD (a : D) : Bool := a.plain && decide (a.depth ≤ 50)
/-- a list against the empty one -/
def emp : D → D → Bool
  | .list _, .list [] => true
  | _, _ => false
def dEq (a b : D) : Option D := if (okD a && okD b) || emp a b then some (.bool (PyData.eqv a b)) else none
def dNe (a b : D) : Option D := if (okD a && okD b) || emp a b then some (.bool (!PyData.eqv a b)) else none
/-- a is None, the right side written -/
def dIsN (a : D) : D → Option D
  | .none => some (.bool (decide (a = .none)))
  | _ => none
def dNotN (a : D) : D → Option D
  | .none => some (.bool (!decide (a = .none)))
  | _ => none
def seqOf : D → Option (List D)
  | .list xs => some xs
  | .tuple xs => some xs
  | _ => none
def dIn (x c : D) : Option D := match seqOf c with
  | some xs => if okD x && PyData.plainAll xs && decide (PyData.depthAll xs ≤ 50) then some (.bool (xs.any fun y => PyData.eqv y x)) else none
  | none => none
def dNotIn (x c : D) : Option D := match seqOf c with
  | some xs => if okD x && PyData.plainAll xs && decide (PyData.depthAll xs ≤ 50) then some (.bool (!xs.any fun y => PyData.eqv y x)) else none
  | none => none
def dIx : D → D → Option D
  | .list xs, .int i => L2.atI xs i
  | .tuple xs, .int i => L2.atI xs i
  | .str z, .int i => if len24 z.length then (match L2.atI z.cps.toList i with | some c => some (.str ⟨#[c]⟩) | none => none) else none
  | _, _ => none
def dLen : D → Option D
  | .str s => if len24 s.length then some (.int s.length) else none
  | .list xs => some (.int xs.length)
  | .tuple xs => some (.int xs.length)
  | _ => none
def dAbs : D → Option D
  | .int a => some (.int (if a < 0 then -a else a))
  | _ => none
def dInt : D → Option D
  | .int a => some (.int a)
  | .bool b => some (.int (if b then 1 else 0))
  | _ => none
def dMax2 : D → D → Option D
  | .int i, .int j => some (.int (if j > i then j else i))
  | _, _ => none
def dMin2 : D → D → Option D
  | .int i, .int j => some (.int (if j < i then j else i))
  | _, _ => none
def dTuple : D → Option D
  | .list xs => some (.tuple xs)
  | .tuple xs => some (.tuple xs)
  | _ => none
def dList : D → Option D
  | .list xs => some (.list xs)
  | .tuple xs => some (.list xs)
  | _ => none
def dTup (xs : List D) : Option D := if len24 xs.length then some (.tuple xs) else none
def dLst (xs : List D) : Option D := if len24 xs.length then some (.list xs) else none
mutual
def noList : D → Bool
  | .list _ => false
  | .tuple xs => noLists xs
  | .dict kvs => noListk kvs
  | _ => true
def noLists : List D → Bool
  | [] => true
  | x :: r => noList x && noLists r
def noListk : List (D × D) → Bool
  | [] => true
  | (k, x) :: r => noList k && noList x && noListk r
end
def dRepr (d : D) : Option D := if d.showable && decide (d.depth ≤ 50) && (!d.hasDict || noList d) && len24 d.shown.length then some (.str d.shown) else none
/-- all, any of whole numbers and truth values -/
def small1 : D → Bool
  | .int _ | .bool _ | .none => true
  | _ => false
def dAll (c : D) : Option D := match seqOf c with | some xs => if xs.all small1 then some (.bool (xs.all PyData.truthy)) else none | none => none
def dAny (c : D) : Option D := match seqOf c with | some xs => if xs.all small1 then some (.bool (xs.any PyData.truthy)) else none | none => none
def dIsInt (d : D) : Option D := some (.bool d.isInt)
def dIsBool (d : D) : Option D := some (.bool d.isBool)
def dIsStr (d : D) : Option D := some (.bool d.isStr)
def dIsTuple (d : D) : Option D := some (.bool d.isTuple)
def dIsList (d : D) : Option D := some (.bool d.isList)
def dIsDict (d : D) : Option D := some (.bool d.isDict)
/-- xs[a:b], each bound left out or an int -/
def cutD (xs : List D) (lo hi : Option Int) : List D := (xs.drop (HT.sIx xs.length 0 lo)).take (HT.sIx xs.length xs.length hi - HT.sIx xs.length 0 lo)
def dCut (a b : Option Int) : D → Option D
  | .list xs => some (.list (cutD xs a b))
  | .tuple xs => some (.tuple (cutD xs a b))
  | _ => none
def dRev : D → Option D
  | .list xs => some (.list xs.reverse)
  | .tuple xs => some (.tuple xs.reverse)
  | _ => none
def dRevL : D → Option D
  | .list xs => some (.list xs.reverse)
  | _ => none
def dRevT : D → Option D
  | .tuple xs => some (.tuple xs.reverse)
  | _ => none
def dPow : D → D → Option D
  | .int i, .int j => if 0 ≤ j ∧ j ≤ 1000000 ∧ i.natAbs < 2 ^ 64 then some (.int (i ^ j.toNat)) else none
  | _, _ => none
mutual
/-- nothing within that could be changed -/
def noref : D → Bool
  | .list _ => false
  | .dict _ => false
  | .tuple xs => norefs xs
  | _ => true
def norefs : List D → Bool
  | [] => true
  | x :: r => noref x && norefs r
end
/-! ### pure expressions -/
def pVar (i : Nat) : P := fun ρ => match ρ[i]? with | some (.val d) => some d | _ => none
/-- an owned name, read in place -/
def pOwn (i : Nat) : P := fun ρ => match ρ[i]? with | some (.val d) => some d | some (.own _ (.lst xs)) => some (.list xs) | some (.own _ (.dic kvs)) => some (.dict kvs) | _ => none
def pC (d : D) : P := fun _ => some d
def p1 (f : D → Option D) (a : P) : P := fun ρ => match a ρ with | some x => f x | none => none
def p2 (f : D → D → Option D) (a b : P) : P := fun ρ => match a ρ with | some x => (match b ρ with | some y => f x y | none => none) | none => none
def evs : List P → Env → Option (List D)
  | [], _ => some []
  | a :: r, ρ => match a ρ with | some x => (match evs r ρ with | some xs => some (x :: xs) | none => none) | none => none
/-- items of a display, starred ones walked -/
def evsS : List (Bool × P) → Env → Option (List D)
  | [], _ => some []
  | (false, a) :: r, ρ => match a ρ with | some x => (match evsS r ρ with | some xs => some (x :: xs) | none => none) | none => none
  | (true, a) :: r, ρ => match a ρ with | some x => (match seqOf x with | some ys => (match evsS r ρ with | some xs => some (ys ++ xs) | none => none) | none => none) | none => none
def pNS (f : List D → Option D) (as : List (Bool × P)) : P := fun ρ => match evsS as ρ with | some xs => f xs | none => none
/-- a op b op' c -/
def pChain (f g : D → D → Option D) (a b c : P) : P := fun ρ => match a ρ with
  | some x => (match b ρ with
    | some y => (match f x y with
      | some (.bool true) => (match c ρ with | some z => g y z | none => none)
      | some (.bool false) => some (.bool false)
      | _ => none)
    | none => none)
  | none => none
def pN (f : List D → Option D) (as : List P) : P := fun ρ => match evs as ρ with | some xs => f xs | none => none
def pO : Option P → Env → Option (Option Int)
  | none, _ => some none
  | some a, ρ => match a ρ with | some (.int i) => some (some i) | _ => none
def pCut (a : P) (lo hi : Option P) : P := fun ρ => match a ρ with
  | some x => (match pO lo ρ with | some l => (match pO hi ρ with | some h => dCut l h x | none => none) | none => none)
  | none => none
def pIf (t : T) (a b : P) : P := fun ρ => match t ρ with | some true => a ρ | some false => b ρ | none => none
/-! ### tests -/
def tV (a : P) : T := fun ρ => match a ρ with | some (.bool b) => some b | _ => none
def tNot (t : T) : T := fun ρ => match t ρ with | some b => some (!b) | none => none
def tAnd (t u : T) : T := fun ρ => match t ρ with | some true => u ρ | some false => some false | none => none
def tOr (t u : T) : T := fun ρ => match t ρ with | some true => some true | some false => u ρ | none => none
def pT (t : T) : P := fun ρ => match t ρ with | some b => some (.bool b) | none => none
/-! ### effects -/
def eP (p : P) : E := fun ρ => match p ρ with | some d => some (ρ, .val d) | none => none
/-- a new list -/
def eF (p : P) : E := fun ρ => match p ρ with | some (.list xs) => some (ρ, .own false (.lst xs)) | some (.dict kvs) => some (ρ, .own false (.dic kvs)) | _ => none
/-- an owned name gives away what it owns -/
def eMv (i : Nat) : E := fun ρ => match ρ[i]? with | some (.own false o) => some (ρ.set i .un, .own false o) | _ => none
/-- a result: what is new may be owned -/
def cellOf (k : Kind) (d : D) : Cell := match k, d with
  | .f, .list xs => .own false (.lst xs)
  | .f, .dict kvs => .own false (.dic kvs)
  | _, d => .val d
def e1 (k : Kind) (f : D → Option D) (a : E) : E := fun ρ => match a ρ with
  | some (ρ1, c) => (match c.toD with | some x => (match f x with | some d => some (ρ1, cellOf k d) | none => none) | none => none)
  | none => none
def e2 (k : Kind) (f : D → D → Option D) (a b : E) : E := fun ρ => match a ρ with
  | some (ρ1, c) => (match c.toD with
    | some x => (match b ρ1 with
      | some (ρ2, c2) => (match c2.toD with | some y => (match f x y with | some d => some (ρ2, cellOf k d) | none => none) | none => none)
      | none => none)
    | none => none)
  | none => none
def eevs : List E → Env → Option (Env × List D)
  | [], ρ => some (ρ, [])
  | a :: r, ρ => match a ρ with
    | some (ρ1, c) => (match c.toD with
      | some x => (match eevs r ρ1 with | some (ρ2, xs) => some (ρ2, x :: xs) | none => none)
      | none => none)
    | none => none
def eN (k : Kind) (f : List D → Option D) (as : List E) : E := fun ρ => match eevs as ρ with
  | some (ρ1, xs) => (match f xs with | some d => some (ρ1, cellOf k d) | none => none)
  | none => none
def isLst : Option Cell → Bool
  | some (.own _ (.lst _)) => true
  | _ => false
/-- xs[i] where xs is owned and read in place, i may change other things -/
def eIxO (i : Nat) (a : E) : E := fun ρ => if isLst ρ[i]? then (match a ρ with
  | some (ρ1, c) => (match c.toD, ρ1[i]? with
    | some y, some (.own _ (.lst xs)) => (match dIx (.list xs) y with | some d => some (ρ1, .val d) | none => none)
    | _, _ => none)
  | none => none) else none
def eIf (t : TE') (a b : E) : E := fun ρ => match t ρ with | some (ρ1, true) => a ρ1 | some (ρ1, false) => b ρ1 | none => none
def tP (t : T) : TE' := fun ρ => match t ρ with | some b => some (ρ, b) | none => none
def tVE (a : E) : TE' := fun ρ => match a ρ with | some (ρ1, .val (.bool b)) => some (ρ1, b) | _ => none
def tNotE (t : TE') : TE' := fun ρ => match t ρ with | some (ρ1, b) => some (ρ1, !b) | none => none
def tAndE (t u : TE') : TE' := fun ρ => match t ρ with | some (ρ1, true) => u ρ1 | r => r
def tOrE (t u : TE') : TE' := fun ρ => match t ρ with | some (ρ1, false) => u ρ1 | r => r
def eT (t : TE') : E := fun ρ => match t ρ with | some (ρ1, b) => some (ρ1, .val (.bool b)) | none => none
/-- xs.pop() -/
def ePop (i : Nat) : E := fun ρ => match ρ[i]? with
  | some (.own fx (.lst xs)) => (match xs.getLast? with | some x => some (ρ.set i (.own fx (.lst xs.dropLast)), .val x) | none => none)
  | _ => none
/-- a call with values alone -/
def pCall (F : Fn) (as : List P) : P := fun ρ => match evs as ρ with
  | some xs => (match F (xs.map .val) with | some (_, c) => c.toD | none => none)
  | none => none
/-- .. whose result holds no list, so that owned names may be handed in -/
def pCallB (F : Fn) (as : List P) : P := fun ρ => match pCall F as ρ with
  | some d => if noref d then some d else none
  | none => none
/-! ### targets -/
def put (i : Nat) (c : Cell) (ρ : Env) : Option Env := match ρ[i]? with | some (.own true _) => none | some _ => some (ρ.set i c) | none => none
inductive Pat where
  | nm (i : Nat)
  | tp (ps : List Pat)
  | tl (ps : List Pat)
mutual
/-- the places that a target stores -/
def Pat.slots : Pat → List Nat
  | .nm i => [i]
  | .tp ps => slotsAll ps
  | .tl ps => slotsAll ps
def slotsAll : List Pat → List Nat
  | [] => []
  | p :: ps => p.slots ++ slotsAll ps
end
mutual
def bind : Pat → D → Env → Option Env
  | .nm i, d, ρ => put i (.val d) ρ
  | .tp ps, .tuple xs, ρ => binds ps xs ρ
  | .tp _, _, _ => none
  | .tl ps, .list xs, ρ => binds ps xs ρ
  | .tl _, _, _ => none
def binds : List Pat → List D → Env → Option Env
  | [], [], ρ => some ρ
  | p :: ps, x :: xs, ρ => (match bind p x ρ with | some ρ1 => binds ps xs ρ1 | none => none)
  | _, _, _ => none
end
/-! ### statements -/
def sNx : Sm := fun ρ => some (ρ, .nx)
def sSeq (a b : Sm) : Sm := fun ρ => match a ρ with | some (ρ1, .nx) => b ρ1 | r => r
/-- name = value -/
def sVal (i : Nat) (a : E) : Sm := fun ρ => match a ρ with
  | some (ρ1, c) => (match c.toD with | some d => (match put i (.val d) ρ1 with | some ρ2 => some (ρ2, .nx) | none => none) | none => none)
  | none => none
/-- name = a new thing, owned -/
def sOwn (i : Nat) (a : E) : Sm := fun ρ => match a ρ with
  | some (ρ1, .own false o) => (match put i (.own false o) ρ1 with | some ρ2 => some (ρ2, .nx) | none => none)
  | _ => none
def sPat (p : Pat) (a : E) : Sm := fun ρ => match a ρ with
  | some (ρ1, c) => (match c.toD with | some d => (match bind p d ρ1 with | some ρ2 => some (ρ2, .nx) | none => none) | none => none)
  | none => none
def sEx (a : E) : Sm := fun ρ => match a ρ with | some (ρ1, _) => some (ρ1, .nx) | none => none
def sRet (a : E) : Sm := fun ρ => match a ρ with | some (ρ1, c) => some (ρ1, .rt c) | none => none
def sIf (t : TE') (a b : Sm) : Sm := fun ρ => match t ρ with | some (ρ1, true) => a ρ1 | some (ρ1, false) => b ρ1 | none => none
def sApp (i : Nat) (a : E) : Sm := fun ρ => if isLst ρ[i]? then (match a ρ with
  | some (ρ1, c) => (match c.toD, ρ1[i]? with
    | some d, some (.own fx (.lst xs)) => if decide (xs.length < 16777216) then some (ρ1.set i (.own fx (.lst (xs ++ [d]))), .nx) else none
    | _, _ => none)
  | none => none) else none
/-- xs.extend(e), e a list -/
def sExt (i : Nat) (a : E) : Sm := fun ρ => if isLst ρ[i]? then (match a ρ with
  | some (ρ1, c) => (match c.toD, ρ1[i]? with
    | some (.list ys), some (.own fx (.lst xs)) => if len24 (xs.length + ys.length) then some (ρ1.set i (.own fx (.lst (xs ++ ys))), .nx) else none
    | _, _ => none)
  | none => none) else none
def forL (p : Pat) (b : Sm) : List D → Sm
  | [], ρ => some (ρ, .nx)
  | x :: r, ρ => match bind p x ρ with
    | some ρ1 => (match b ρ1 with
      | some (ρ2, .nx) => forL p b r ρ2
      | some (ρ2, .ct) => forL p b r ρ2
      | some (ρ2, .bk) => some (ρ2, .nx)
      | some (ρ2, .rt c) => some (ρ2, .rt c)
      | none => none)
    | none => none
/-- what a loop walks: the items, found once -/
abbrev Ie := Env → Option (Env × List D)
def iP (a : P) : Ie := fun ρ => match a ρ with | some d => (match seqOf d with | some xs => some (ρ, xs) | none => none) | none => none
def iE (a : E) : Ie := fun ρ => match a ρ with | some (ρ1, c) => (match c.toD with | some d => (match seqOf d with | some xs => some (ρ1, xs) | none => none) | none => none) | none => none
def rangeD (lo hi : Int) : List D := (List.range (hi - lo).toNat).map fun (k : Nat) => .int (lo + k)
def r62 (i : Int) : Bool := decide (i.natAbs.log2 < 62)
def iR (lo hi : P) : Ie := fun ρ => match lo ρ, hi ρ with
  | some (.int i), some (.int j) => if r62 i && r62 j then some (ρ, rangeD i j) else none
  | _, _ => none
def iRE (as : List E) : Ie := fun ρ => match eevs as ρ with
  | some (ρ1, [.int j]) => if r62 j then some (ρ1, rangeD 0 j) else none
  | some (ρ1, [.int i, .int j]) => if r62 i && r62 j then some (ρ1, rangeD i j) else none
  | _ => none
def sFor (p : Pat) (a : Ie) (b : Sm) : Sm := fun ρ => match a ρ with
  | some (ρ1, xs) => forL p b xs ρ1
  | none => none
def whileF (t : TE') (b : Sm) (ρ : Env) : Option (Env × Out) :=
  match t ρ with
  | some (ρ1, true) => (match b ρ1 with
    | some (ρ2, .nx) => whileF t b ρ2
    | some (ρ2, .ct) => whileF t b ρ2
    | some (ρ2, .bk) => some (ρ2, .nx)
    | some (ρ2, .rt c) => some (ρ2, .rt c)
    | none => none)
  | some (ρ1, false) => some (ρ1, .nx)
  | none => none partial_fixpoint
def sWhile (t : TE') (b : Sm) : Sm := whileF t b
/-! ### comprehensions: vs are the block's own names -/
def wipeE : List Nat → Env → Env
  | [], ρ => ρ
  | v :: vs, ρ => (wipeE vs ρ).set v .un
def isOwn : Cell → Bool
  | .own _ _ => true
  | _ => false
def freeAt (vs : List Nat) (ρ : Env) : Bool := vs.all fun i => match ρ[i]? with | some c => !isOwn c | none => false
def restore : List Nat → Env → Env → Env
  | [], _, ρ' => ρ'
  | v :: vs, ρ, ρ' => (restore vs ρ ρ').set v (ρ.getD v .un)
def compL (vs : List Nat) (p : Pat) (t : TE') (e : E) : List D → Env → Option (Env × List D)
  | [], ρ => some (ρ, [])
  | x :: r, ρ => match bind p x ρ with
    | some ρ1 => (match t ρ1 with
      | some (ρ2, true) => (match e ρ2 with
        | some (ρ3, c) => (match c.toD with
          | some y => (match compL vs p t e r (wipeE vs ρ3) with | some (ρ4, ys) => some (ρ4, y :: ys) | none => none)
          | none => none)
        | none => none)
      | some (ρ2, false) => compL vs p t e r (wipeE vs ρ2)
      | none => none)
    | none => none
/-- [e for p in a if t] -/
def eComp (vs : List Nat) (p : Pat) (a : Ie) (t : TE') (e : E) : E := fun ρ => match a ρ with
  | some (ρ1, xs) => if freeAt vs ρ1 && len24 xs.length then (match compL vs p t e xs (wipeE vs ρ1) with
      | some (ρ', ys) => some (restore vs ρ1 ρ', .own false (.lst ys))
      | none => none) else none
  | none => none
/-- .. where nothing is changed -/
def compP (p : Pat) (t : T) (e : P) (ρ : Env) : List D → Option (List D)
  | [] => some []
  | x :: r => match bind p x ρ with
    | some ρ1 => (match t ρ1 with
      | some true => (match e ρ1 with
        | some y => (match compP p t e ρ r with | some ys => some (y :: ys) | none => none)
        | none => none)
      | some false => compP p t e ρ r
      | none => none)
    | none => none
/-- what a comprehension walks that changes nothing -/
abbrev Ip := Env → Option (List D)
def ipP (a : P) : Ip := fun ρ => match a ρ with | some d => seqOf d | none => none
def ipR (lo hi : P) : Ip := fun ρ => match lo ρ, hi ρ with
  | some (.int i), some (.int j) => if r62 i && r62 j then some (rangeD i j) else none
  | _, _ => none
def pComp (vs : List Nat) (p : Pat) (a : Ip) (t : T) (e : P) : P := fun ρ => match a ρ with
  | some xs => if freeAt vs ρ && len24 xs.length then (match compP p t e (wipeE vs ρ) xs with | some ys => some (.list ys) | none => none) else none
  | none => none
def tYesP : T := fun _ => some true
def tYesE : TE' := fun ρ => some (ρ, true)
/-- by number of arguments -/
def l1 (f : D → Option D) : List D → Option D
  | [x] => f x
  | _ => none
def l2 (f : D → D → Option D) : List D → Option D
  | [x, y] => f x y
  | _ => none
/-! ### a def -/
/-- what goes back to the caller: what came by reference -/
def backs : List Cell → Env → List Cell
  | [], _ => []
  | .own true _ :: r, c :: ρ => c :: backs r ρ
  | _ :: r, ρ => .un :: backs r ρ.tail
def mkFn (np n : Nat) (g : Sm) : Fn := fun cs => if cs.length = np then (match g (cs ++ List.replicate (n - np) .un) with
  | some (ρ, .nx) => some (backs cs ρ, .val .none)
  | some (ρ, .rt c) => some (backs cs ρ, c)
  | _ => none) else none
/-- a call with values, that may change things ahead of it -/
def eCallV (F : Fn) (as : List E) : E := fun ρ => match eevs as ρ with
  | some (ρ1, ds) => (match F (ds.map .val) with | some (_, c) => some (ρ1, c) | none => none)
  | none => none
/-- .. whose first argument is owned and goes by reference -/
def isOwnO : Option Cell → Bool
  | some (.own _ _) => true
  | _ => false
def eCallR (F : Fn) (i : Nat) (as : List E) : E := fun ρ => if isOwnO ρ[i]? then (match eevs as ρ with
  | some (ρ1, ds) => (match ρ1[i]? with
    | some (.own fx o) => (match F (.own true o :: ds.map .val) with
      | some (.own _ o' :: _, c) => some (ρ1.set i (.own fx o'), c)
      | _ => none)
    | _ => none)
  | none => none) else none
/-! ### a drawing's source -/
def Src.get (s : Src) (k : Str) : Option Int := if k = "left" then some s.left else if k = "mixed" then some s.mixed else if k = "turn" then some s.turn else none
def Src.put (s : Src) (k : Str) (n : Int) : Option Src := if k = "left" then some { s with left := n } else if k = "mixed" then some { s with mixed := n } else if k = "turn" then some { s with turn := n } else none
def pSrc (i : Nat) (k : Str) : P := fun ρ => match ρ[i]? with
  | some (.own _ (.src s)) => (match s.get k with | some n => some (.int n) | none => none)
  | _ => none
def pSrcC (i : Nat) : P := fun ρ => match ρ[i]? with
  | some (.own _ (.src s)) => some (.list (s.cells.map .int))
  | _ => none
def sSrcPut (i : Nat) (k : Str) (a : P) : Sm := fun ρ => match a ρ, ρ[i]? with
  | some (.int n), some (.own fx (.src s)) => (match s.put k n with | some s' => some (ρ.set i (.own fx (.src s')), .nx) | none => none)
  | _, _ => none
/-- source[k] = source['cells'].pop() -/
def sSrcPop (i : Nat) (k : Str) : Sm := fun ρ => match ρ[i]? with
  | some (.own fx (.src s)) => (match s.cells.getLast? with
    | some n => (match ({ s with cells := s.cells.dropLast } : Src).put k n with | some s' => some (ρ.set i (.own fx (.src s')), .nx) | none => none)
    | none => none)
  | _ => none
def intsOf : List D → Option (List Int)
  | [] => some []
  | .int n :: r => (match intsOf r with | some ns => some (n :: ns) | none => none)
  | _ => none
/-- {'cells': .., 'left': .., 'mixed': .., 'turn': ..} -/
def eSrc (a b c d : P) : E := fun ρ => match a ρ, b ρ, c ρ, d ρ with
  | some (.list xs), some (.int l), some (.int m), some (.int t) => (match intsOf xs with | some ns => some (ρ, .own false (.src ⟨ns, l, m, t⟩)) | none => none)
  | _, _, _, _ => none
/-- the script -/
def iScr (i : Nat) : Ie := fun ρ => match ρ[i]? with | some (.scr ns) => some (ρ, ns.map .int) | _ => none
def ipScr (i : Nat) : Ip := fun ρ => match ρ[i]? with | some (.scr ns) => some (ns.map .int) | _ => none
/-- _law_source(script) -/
def eCallS (F : Fn) (i : Nat) : E := fun ρ => match ρ[i]? with
  | some (.scr ns) => (match F [.scr ns] with | some (_, c) => some (ρ, c) | none => none)
  | _ => none
/-! ### a, b = x, y -/
def ecells : List E → Env → Option (Env × List Cell)
  | [], ρ => some (ρ, [])
  | a :: r, ρ => match a ρ with
    | some (ρ1, c) => (match ecells r ρ1 with | some (ρ2, cs) => some (ρ2, c :: cs) | none => none)
    | none => none
def puts : List Nat → List Cell → Env → Option Env
  | [], [], ρ => some ρ
  | i :: is, c :: cs, ρ => (match put i c ρ with | some ρ1 => puts is cs ρ1 | none => none)
  | _, _, _ => none
def sPar (is : List Nat) (fs : List E) : Sm := fun ρ => match ecells fs ρ with
  | some (ρ1, cs) => (match puts is cs ρ1 with | some ρ2 => some (ρ2, .nx) | none => none)
  | none => none
/-- frozen names ahead of a statement -/
def sFrzs : List Nat → Sm → Sm
  | [], g => g
  | i :: is, g => fun ρ => match ρ[i]? with
    | some (.own false o) => (match (Cell.own false o).toD with | some d => sFrzs is g (ρ.set i (.val d)) | none => none)
    | some (.val _) => sFrzs is g ρ
    | _ => none
end L3
/-! How trees stand in the heap; environments; the standard readings. -/
namespace L3
open PySem PySem.Spec PyProof.Rows L2
mutual
def keyOf : D → Option NestedKey
  | .none => some .none
  | .int i => some (.num i)
  | .str x => some (.text x)
  | .tuple xs => (keysOf xs).map .tup
  | _ => none
def keysOf : List D → Option (List NestedKey)
  | [] => some []
  | x :: xs => match keyOf x, keysOf xs with | some k, some ks => some (k :: ks) | _, _ => none
end
/-- a dict's object by its entries: hash, key, value -/
def DRaw (a : Addr) (ents : List (Int × V × V)) : Heap → Prop := fun h => ∃ o es ep, h.get? a = some o ∧ o.ExactDict ∧ o.data = .dict es ep ∧
  Paired (fun (p : Int × V × V) (e : DictEntry) => e.hash = p.1 ∧ RelV p.2.1 e.key ∧ RelV p.2.2 e.val) ents es.toList
def DAt (H : Hp) (a : Addr) (ents : List (Int × V × V)) : Prop := (a == sysModules) = false ∧ ents.length ≤ sizeLine ∧ H a = some (.ext (DRaw a ents))
section
variable (w : World) (K : PySem.W.Frag)
mutual
def Rep (M : Addr → Prop) (H : Hp) : D → V → Prop
  | .none, v => v = .non
  | .bool b, v => v = .bl b
  | .int i, v => v = .int i
  | .str s, v => v = .str s
  | .tuple xs, v => ∃ a vs, v = .ref a ∧ SqT K H a vs ∧ Reps M H xs vs
  | .list xs, v => ∃ a vs, v = .ref a ∧ ¬ M a ∧ H a = some (.lst vs) ∧ Reps M H xs vs
  | .dict kvs, v => ∃ a ents, v = .ref a ∧ ¬ M a ∧ DAt H a ents ∧ RepK M H kvs ents ∧ (kvs.map (·.1)).Nodup
def Reps (M : Addr → Prop) (H : Hp) : List D → List V → Prop
  | [], vs => vs = []
  | x :: xs, vs => ∃ v r, vs = v :: r ∧ Rep M H x v ∧ Reps M H xs r
def RepK (M : Addr → Prop) (H : Hp) : List (D × D) → List (Int × V × V) → Prop
  | [], es => es = []
  | (k, x) :: r, es => ∃ n kv v t, es = (n, kv, v) :: t ∧ Rep M H k kv ∧ (∃ nk, keyOf k = some nk ∧ n = nk.hash w) ∧ Rep M H x v ∧ RepK M H r t
end
end
/-- what is kept but for what O says -/
structure Ext (O : Addr → Prop) (H H' : Hp) : Prop where
  keep : ∀ a o, H a = some o → ¬ O a → H' a = some o
  tup : ∀ a vs, H a = some (.tup vs) → H' a = some (.tup vs)
  frz : ∀ a o u, H a = some (.frz o u) → H' a = some (.frz o u)
theorem Ext.refl {O : Addr → Prop} (H : Hp) : Ext O H H := ⟨fun _ _ h _ => h, fun _ _ h => h, fun _ _ _ h => h⟩
theorem Ext.same {O : Addr → Prop} {H H' : Hp} (s : Same H H') : Ext O H H' := ⟨fun a o h _ => s a o h, fun a vs h => s _ _ h, fun a o u h => s _ _ h⟩
section
variable {w : World} {K : PySem.W.Frag} {M M' O : Addr → Prop} {H H' H2 : Hp}
theorem Ext.sqT (e : Ext O H H') {a : Addr} {vs : List V} (h : SqT K H a vs) : SqT K H' a vs := by
  rcases h with (h | ⟨o, h⟩) | h
  · exact .inl (.inl (e.tup _ _ h))
  · exact .inl (.inr ⟨o, e.frz _ _ _ h⟩)
  · exact .inr h
theorem Ext.dat (e : Ext O H H') {a : Addr} {es : List (Int × V × V)} (n : ¬ O a) (h : DAt H a es) : DAt H' a es := ⟨h.1, h.2.1, e.keep _ _ h.2.2 n⟩
mutual
theorem Rep.ext (e : Ext O H H') (hO : ∀ a, O a → M a) (hM : ∀ a, H a ≠ none → M' a → M a) : ∀ (d : D) (v : V), Rep w K M H d v → Rep w K M' H' d v
  | .none, _, h => h
  | .bool _, _, h => h
  | .int _, _, h => h
  | .str _, _, h => h
  | .tuple xs, v, h => by
    obtain ⟨a, vs, e1, h1, h2⟩ := h
    exact ⟨a, vs, e1, e.sqT h1, Reps.ext e hO hM xs vs h2⟩
  | .list xs, v, h => by
    obtain ⟨a, vs, e1, n, h1, h2⟩ := h
    refine ⟨a, vs, e1, fun m => n ?_, e.keep _ _ h1 (fun o => n (hO a o)), Reps.ext e hO hM xs vs h2⟩
    exact hM a (by rw [h1]; simp) m
  | .dict kvs, v, h => by
    obtain ⟨a, es, e1, n, h1, h2, nd⟩ := h
    exact ⟨a, es, e1, fun m => n (hM a (by rw [h1.2.2]; simp) m), e.dat (fun o => n (hO a o)) h1, RepK.ext e hO hM kvs es h2, nd⟩
theorem Reps.ext (e : Ext O H H') (hO : ∀ a, O a → M a) (hM : ∀ a, H a ≠ none → M' a → M a) : ∀ (ds : List D) (vs : List V), Reps w K M H ds vs → Reps w K M' H' ds vs
  | [], _, h => h
  | x :: xs, vs, h => by
    obtain ⟨v, r, e1, h1, h2⟩ := h
    exact ⟨v, r, e1, Rep.ext e hO hM x v h1, Reps.ext e hO hM xs r h2⟩
theorem RepK.ext (e : Ext O H H') (hO : ∀ a, O a → M a) (hM : ∀ a, H a ≠ none → M' a → M a) : ∀ (ds : List (D × D)) (es : List (Int × V × V)), RepK w K M H ds es → RepK w K M' H' ds es
  | [], _, h => h
  | (k, x) :: xs, es, h => by
    obtain ⟨n, kv, v, t, e1, h1, h2, h3, h4⟩ := h
    exact ⟨n, kv, v, t, e1, Rep.ext e hO hM k kv h1, h2, Rep.ext e hO hM x v h3, RepK.ext e hO hM xs t h4⟩
end
theorem Rep.weak (hM : ∀ a, M' a → M a) {d : D} {v : V} (h : Rep w K M H d v) : Rep w K M' H d v :=
  Rep.ext (O := fun _ => False) (Ext.refl H) (fun _ z => z.elim) (fun a _ => hM a) d v h
theorem Reps.weak (hM : ∀ a, M' a → M a) {d : List D} {v : List V} (h : Reps w K M H d v) : Reps w K M' H d v :=
  Reps.ext (O := fun _ => False) (Ext.refl H) (fun _ z => z.elim) (fun a _ => hM a) d v h
theorem RepK.weak (hM : ∀ a, M' a → M a) {d : List (D × D)} {v : List (Int × V × V)} (h : RepK w K M H d v) : RepK w K M' H d v :=
  RepK.ext (O := fun _ => False) (Ext.refl H) (fun _ z => z.elim) (fun a _ => hM a) d v h
theorem Rep.same (s : Same H H') {d : D} {v : V} (h : Rep w K M H d v) : Rep w K M H' d v :=
  Rep.ext (O := fun _ => False) (Ext.same s) (fun _ z => z.elim) (fun a _ m => m) d v h
theorem Reps.same (s : Same H H') {d : List D} {v : List V} (h : Reps w K M H d v) : Reps w K M H' d v :=
  Reps.ext (O := fun _ => False) (Ext.same s) (fun _ z => z.elim) (fun a _ m => m) d v h
theorem RepK.same (s : Same H H') {d : List (D × D)} {v : List (Int × V × V)} (h : RepK w K M H d v) : RepK w K M H' d v :=
  RepK.ext (O := fun _ => False) (Ext.same s) (fun _ z => z.elim) (fun a _ m => m) d v h
theorem Reps.length : ∀ {ds : List D} {vs : List V}, Reps w K M H ds vs → vs.length = ds.length
  | [], vs, h => by rw [show vs = [] from h]; rfl
  | x :: xs, vs, h => by
    obtain ⟨v, r, e1, _, h2⟩ := h
    rw [e1, List.length_cons, List.length_cons, Reps.length h2]
theorem RepK.length : ∀ {ds : List (D × D)} {vs : List (Int × V × V)}, RepK w K M H ds vs → vs.length = ds.length
  | [], vs, h => by rw [show vs = [] from h]; rfl
  | (k, x) :: xs, vs, h => by
    obtain ⟨n, kv, v, t, e1, _, _, _, h4⟩ := h
    rw [e1, List.length_cons, List.length_cons, RepK.length h4]
theorem Reps.append : ∀ {xs ys : List D} {us vs : List V}, Reps w K M H xs us → Reps w K M H ys vs → Reps w K M H (xs ++ ys) (us ++ vs)
  | [], _, us, _, h, h' => by rw [show us = [] from h]; exact h'
  | x :: xs, _, us, _, h, h' => by
    obtain ⟨v, r, e1, h1, h2⟩ := h
    subst e1
    exact ⟨v, _, rfl, h1, Reps.append h2 h'⟩
theorem Reps.take : ∀ {xs : List D} {us : List V} (n : Nat), Reps w K M H xs us → Reps w K M H (xs.take n) (us.take n)
  | _, us, 0, h => by simp [Reps]
  | [], us, n + 1, h => by rw [show us = [] from h]; simp [Reps]
  | x :: xs, us, n + 1, h => by
    obtain ⟨v, r, e1, h1, h2⟩ := h
    subst e1
    exact ⟨v, _, rfl, h1, Reps.take n h2⟩
theorem Reps.drop : ∀ {xs : List D} {us : List V} (n : Nat), Reps w K M H xs us → Reps w K M H (xs.drop n) (us.drop n)
  | _, us, 0, h => by simpa using h
  | [], us, n + 1, h => by rw [show us = [] from h]; simp [Reps]
  | x :: xs, us, n + 1, h => by
    obtain ⟨v, r, e1, h1, h2⟩ := h
    subst e1
    exact Reps.drop n h2
theorem Reps.get : ∀ {xs : List D} {us : List V} {i : Nat} {x : D}, Reps w K M H xs us → xs[i]? = some x → ∃ u, us[i]? = some u ∧ Rep w K M H x u
  | [], us, i, x, h, e => by simp at e
  | y :: xs, us, 0, x, h, e => by
    obtain ⟨v, r, e1, h1, h2⟩ := h
    subst e1
    simp at e; subst e
    exact ⟨v, rfl, h1⟩
  | y :: xs, us, i + 1, x, h, e => by
    obtain ⟨v, r, e1, h1, h2⟩ := h
    subst e1
    exact Reps.get (i := i) h2 (by simpa using e)
theorem Reps.getV {xs : List D} {us : List V} {i : Nat} {u : V} (h : Reps w K M H xs us) (e : us[i]? = some u) : ∃ x, xs[i]? = some x ∧ Rep w K M H x u := by
  have hl := h.length
  have hi : i < us.length := (List.getElem?_eq_some_iff.mp e).1
  have hx : i < xs.length := by omega
  obtain ⟨u', e', r⟩ := h.get (i := i) (x := xs[i]) (by simp [hx])
  rw [e] at e'; cases e'
  exact ⟨xs[i], by simp [hx], r⟩
theorem Reps.reverse : ∀ {xs : List D} {us : List V}, Reps w K M H xs us → Reps w K M H xs.reverse us.reverse
  | [], us, h => by rw [show us = [] from h]; simp [Reps]
  | x :: xs, us, h => by
    obtain ⟨v, r, e1, h1, h2⟩ := h
    subst e1
    simp only [List.reverse_cons]
    exact (Reps.reverse h2).append ⟨v, [], rfl, h1, rfl⟩
theorem Reps.replicate {xs : List D} {us : List V} (h : Reps w K M H xs us) : ∀ n, Reps w K M H (List.replicate n xs).flatten (List.replicate n us).flatten
  | 0 => by simp [Reps]
  | n + 1 => by
    rw [List.replicate_succ, List.replicate_succ, List.flatten_cons, List.flatten_cons]
    exact h.append (Reps.replicate h n)
theorem Reps.one {x : D} {v : V} (h : Rep w K M H x v) : Reps w K M H [x] [v] := ⟨v, [], rfl, h, rfl⟩
end
/-- a list or a dict that is read in place: its own address is not asked -/
def Rd1 (w : World) (K : PySem.W.Frag) (M : Addr → Prop) (H : Hp) : D → V → Prop
  | .list xs, v => ∃ a vs, v = .ref a ∧ H a = some (.lst vs) ∧ Reps w K M H xs vs
  | .dict kvs, v => ∃ a ents, v = .ref a ∧ DAt H a ents ∧ RepK w K M H kvs ents ∧ (kvs.map (·.1)).Nodup
  | d, v => Rep w K M H d v
/-- a new one -/
def New1 (w : World) (K : PySem.W.Frag) (M : Addr → Prop) (H H' : Hp) : D → V → Prop
  | .list xs, v => ∃ a vs, v = .ref a ∧ H a = none ∧ H' a = some (.lst vs) ∧ Reps w K (fun x => M x ∨ x = a) H' xs vs
  | .dict kvs, v => ∃ a ents, v = .ref a ∧ H a = none ∧ DAt H' a ents ∧ RepK w K (fun x => M x ∨ x = a) H' kvs ents ∧ (kvs.map (·.1)).Nodup
  | d, v => Rep w K M H' d v
def Res (w : World) (K : PySem.W.Frag) (k : Kind) (M : Addr → Prop) (H H' : Hp) (d : D) (v : V) : Prop :=
  match k with
  | .r => Rd1 w K M H' d v
  | .c => Rep w K M H' d v
  | .f => New1 w K M H H' d v
section
variable {w : World} {K : PySem.W.Frag} {M M' O : Addr → Prop} {H H' H2 : Hp} {d : D} {v : V}
theorem Rep.rd1 (h : Rep w K M H d v) : Rd1 w K M H d v := by
  cases d with
  | list xs => obtain ⟨a, vs, e, _, h1, h2⟩ := h; exact ⟨a, vs, e, h1, h2⟩
  | dict xs => obtain ⟨a, vs, e, _, h1, h2⟩ := h; exact ⟨a, vs, e, h1, h2⟩
  | none => exact h
  | bool b => exact h
  | int b => exact h
  | str b => exact h
  | tuple b => exact h
theorem New1.rep (h : New1 w K M H H' d v) (al : ∀ a, M a → H a ≠ none) : Rep w K M H' d v := by
  cases d with
  | list xs =>
    obtain ⟨a, vs, e, n, h1, h2⟩ := h
    exact ⟨a, vs, e, fun m => al a m n, h1, h2.weak fun _ m => .inl m⟩
  | dict xs =>
    obtain ⟨a, vs, e, n, h1, h2, nd⟩ := h
    exact ⟨a, vs, e, fun m => al a m n, h1, h2.weak fun _ m => .inl m, nd⟩
  | none => exact h
  | bool b => exact h
  | int b => exact h
  | str b => exact h
  | tuple b => exact h
theorem Rd1.same (s : Same H H') (h : Rd1 w K M H d v) : Rd1 w K M H' d v := by
  cases d with
  | list xs => obtain ⟨a, vs, e, h1, h2⟩ := h; exact ⟨a, vs, e, s _ _ h1, h2.same s⟩
  | dict xs => obtain ⟨a, vs, e, h1, h2, nd⟩ := h; exact ⟨a, vs, e, ⟨h1.1, h1.2.1, s _ _ h1.2.2⟩, h2.same s, nd⟩
  | none => exact h
  | bool b => exact h
  | int b => exact h
  | str b => exact h
  | tuple b => exact Rep.same (d := .tuple b) s h
theorem Rd1.weak (hM : ∀ a, M' a → M a) (h : Rd1 w K M H d v) : Rd1 w K M' H d v := by
  cases d with
  | list xs => obtain ⟨a, vs, e, h1, h2⟩ := h; exact ⟨a, vs, e, h1, h2.weak hM⟩
  | dict xs => obtain ⟨a, vs, e, h1, h2, nd⟩ := h; exact ⟨a, vs, e, h1, h2.weak hM, nd⟩
  | none => exact h
  | bool b => exact h
  | int b => exact h
  | str b => exact h
  | tuple b => exact Rep.weak (d := .tuple b) hM h
theorem Res.rd1 {k : Kind} (h : Res w K k M H H' d v) (al : ∀ a, M a → H a ≠ none) : Rd1 w K M H' d v := by
  cases k with
  | r => exact h
  | c => exact Rep.rd1 (show Rep w K M H' d v from h)
  | f => exact (New1.rep h al).rd1
theorem Res.rep {k : Kind} (h : Res w K k M H H' d v) (al : ∀ a, M a → H a ≠ none) (hk : k ≠ .r) : Rep w K M H' d v := by
  cases k with
  | r => exact absurd rfl hk
  | c => exact h
  | f => exact New1.rep h al
end
/-! ### environments -/
def OwnOk (w : World) (K : PySem.W.Frag) (M : Addr → Prop) (H : Hp) (o : Own) (v : V) (as : List Addr) : Prop :=
  match o with
  | .lst xs => ∃ a vs, v = .ref a ∧ as = [a] ∧ H a = some (.lst vs) ∧ Reps w K M H xs vs
  | .dic kvs => ∃ a ents, v = .ref a ∧ as = [a] ∧ DAt H a ents ∧ RepK w K M H kvs ents ∧ (kvs.map (·.1)).Nodup
  | .src s => ∃ a c, v = .ref a ∧ as = [a, c] ∧ H a = some (.dK [(.inr "cells", .ref c), (.inr "left", .int s.left), (.inr "mixed", .int s.mixed), (.inr "turn", .int s.turn)]) ∧ H c = some (.lst (s.cells.map .int))
def CellOk (w : World) (K : PySem.W.Frag) (M : Addr → Prop) (H : Hp) (c : Cell) (ov : Option V) (as : List Addr) : Prop :=
  match c with
  | .un => as = []
  | .scr ns => as = [] ∧ ∃ a, ov = some (.ref a) ∧ ((∃ o, H a = some (.frz o (.lst (ns.map .int)))) ∨ (∀ H', SqL K H' a (ns.map .int)))
  | .val d => as = [] ∧ ∃ v, ov = some v ∧ Rep w K M H d v
  | .own _ o => ∃ v, ov = some v ∧ OwnOk w K M H o v as
/-- what may change, or is the callers' own -/
def mu (B : Addr → Prop) (A : Nat → List Addr) : Addr → Prop := fun x => B x ∨ ∃ i, x ∈ A i
structure Rel (w : World) (K : PySem.W.Frag) (B : Addr → Prop) (ρ : Env) (σ : L2.St) (A : Nat → List Addr) (H : Hp) : Prop where
  len : ρ.length = σ.length
  cell : ∀ i c, ρ[i]? = some c → CellOk w K (mu B A) H c ((σ[i]?).join) (A i)
  out : ∀ i, ρ.length ≤ i → A i = []
  aliveB : ∀ x, B x → H x ≠ none
  apart : ∀ i x, x ∈ A i → ¬ B x
  one : ∀ i j x, x ∈ A i → x ∈ A j → i = j
/-- from one state to another -/
structure Step (w : World) (K : PySem.W.Frag) (B : Addr → Prop) (ρ : Env) (σ : L2.St) (A : Nat → List Addr) (H : Hp) (ρ' : Env) (σ' : L2.St) (A' : Nat → List Addr) (H' : Hp) : Prop where
  rel : Rel w K B ρ' σ' A' H'
  ext : Ext (fun x => ∃ i, x ∈ A i) H H'
  sub : ∀ i x, x ∈ A' i → (∃ j, x ∈ A j) ∨ H x = none
  fix : ∀ (i : Nat) (o : Own), ρ[i]? = some (Cell.own true o) → (∃ o', ρ'[i]? = some (Cell.own true o')) ∧ σ'[i]? = σ[i]?
/-- a result: a value, or something new that stands nowhere else -/
def ResC (w : World) (K : PySem.W.Frag) (B : Addr → Prop) (ρ' : Env) (σ' : L2.St) (A A' : Nat → List Addr) (H H' : Hp) (c : Cell) (v : V) : Prop :=
  match c with
  | .un => False
  | .scr _ => False
  | .val d => Rep w K (mu B A') H' d v
  | .own fx o => fx = false ∧ ∃ as, OwnOk w K (fun x => mu B A' x ∨ x ∈ as) H' o v as ∧ (∀ x ∈ as, ¬ mu B A' x ∧ ((∃ j, x ∈ A j) ∨ H x = none)) ∧ Rel w K (fun x => B x ∨ x ∈ as) ρ' σ' A' H'
section
variable {w : World} {K : PySem.W.Frag} {B : Addr → Prop} {ρ ρ1 ρ2 : Env} {σ σ1 σ2 : L2.St} {A A1 A2 : Nat → List Addr} {H H1 H2 : Hp}
theorem OwnOk.alive {M : Addr → Prop} {o : Own} {v : V} {as : List Addr} (h : OwnOk w K M H o v as) : ∀ x ∈ as, H x ≠ none ∧ (∀ vs, H x ≠ some (.tup vs)) ∧ ∀ ob u, H x ≠ some (.frz ob u) := by
  cases o with
  | lst xs =>
    obtain ⟨a, vs, _, e, h1, _⟩ := h
    subst e
    intro x hx
    rw [List.mem_singleton.mp hx, h1]
    simp
  | dic xs =>
    obtain ⟨a, vs, _, e, h1, _⟩ := h
    subst e
    intro x hx
    rw [List.mem_singleton.mp hx, h1.2.2]
    simp
  | src s =>
    obtain ⟨a, c, _, e, h1, h2⟩ := h
    subst e
    intro x hx
    rcases List.mem_cons.mp hx with rfl | hx
    · rw [h1]; simp
    · rw [List.mem_singleton.mp hx, h2]; simp
theorem Rel.own {i : Nat} {x : Addr} (R : Rel w K B ρ σ A H) (h : x ∈ A i) : ∃ fx o v, ρ[i]? = some (Cell.own fx o) ∧ σ[i]? = some (some v) ∧ OwnOk w K (mu B A) H o v (A i) := by
  have hi : i < ρ.length := by
    rcases Nat.lt_or_ge i ρ.length with q | q
    · exact q
    · rw [R.out i q] at h; cases h
  have hc := R.cell i ρ[i] (by simp [hi])
  cases e : ρ[i] with
  | un => rw [e] at hc; rw [show A i = [] from hc] at h; cases h
  | val d => rw [e] at hc; rw [show A i = [] from hc.1] at h; cases h
  | scr d => rw [e] at hc; rw [show A i = [] from hc.1] at h; cases h
  | own fx o =>
    rw [e] at hc
    obtain ⟨v, e1, e2⟩ := hc
    refine ⟨fx, o, v, by simp [hi, e], ?_, e2⟩
    cases q : σ[i]? with
    | none => rw [q] at e1; cases e1
    | some y => rw [q] at e1; exact congrArg some e1
theorem Rel.alive (R : Rel w K B ρ σ A H) : ∀ x, mu B A x → H x ≠ none := by
  rintro x (h | ⟨i, h⟩)
  · exact R.aliveB x h
  · obtain ⟨fx, o, v, _, _, ok⟩ := R.own h
    exact (ok.alive x h).1
theorem Rel.notup (R : Rel w K B ρ σ A H) {i : Nat} {x : Addr} (h : x ∈ A i) : (∀ vs, H x ≠ some (.tup vs)) ∧ ∀ ob u, H x ≠ some (.frz ob u) := by
  obtain ⟨fx, o, v, _, _, ok⟩ := R.own h
  exact (ok.alive x h).2
theorem OwnOk.same {M : Addr → Prop} {o : Own} {v : V} {as : List Addr} (s : Same H H1) (h : OwnOk w K M H o v as) : OwnOk w K M H1 o v as := by
  cases o with
  | lst xs => obtain ⟨a, vs, e1, e, h1, h2⟩ := h; exact ⟨a, vs, e1, e, s _ _ h1, h2.same s⟩
  | dic xs => obtain ⟨a, vs, e1, e, h1, h2, nd⟩ := h; exact ⟨a, vs, e1, e, ⟨h1.1, h1.2.1, s _ _ h1.2.2⟩, h2.same s, nd⟩
  | src t => obtain ⟨a, c, e1, e, h1, h2⟩ := h; exact ⟨a, c, e1, e, s _ _ h1, s _ _ h2⟩
theorem OwnOk.weak {M M' : Addr → Prop} (hM : ∀ a, M' a → M a) {o : Own} {v : V} {as : List Addr} (h : OwnOk w K M H o v as) : OwnOk w K M' H o v as := by
  cases o with
  | lst xs => obtain ⟨a, vs, e1, e, h1, h2⟩ := h; exact ⟨a, vs, e1, e, h1, h2.weak hM⟩
  | dic xs => obtain ⟨a, vs, e1, e, h1, h2, nd⟩ := h; exact ⟨a, vs, e1, e, h1, h2.weak hM, nd⟩
  | src t => obtain ⟨a, c, e1, e, h1, h2⟩ := h; exact ⟨a, c, e1, e, h1, h2⟩
theorem OwnOk.ext {O M M' : Addr → Prop} (e : Ext O H H1) (hO : ∀ a, O a → M a) (hM : ∀ a, H a ≠ none → M' a → M a) {o : Own} {v : V} {as : List Addr} (hn : ∀ x ∈ as, ¬ O x)
    (h : OwnOk w K M H o v as) : OwnOk w K M' H1 o v as := by
  cases o with
  | lst xs =>
    obtain ⟨a, vs, e1, e2, h1, h2⟩ := h
    exact ⟨a, vs, e1, e2, e.keep _ _ h1 (hn a (by simp [e2])), h2.ext e hO hM⟩
  | dic xs =>
    obtain ⟨a, vs, e1, e2, h1, h2, nd⟩ := h
    exact ⟨a, vs, e1, e2, e.dat (hn a (by simp [e2])) h1, h2.ext e hO hM, nd⟩
  | src t =>
    obtain ⟨a, c, e1, e2, h1, h2⟩ := h
    exact ⟨a, c, e1, e2, e.keep _ _ h1 (hn a (by simp [e2])), e.keep _ _ h2 (hn c (by simp [e2]))⟩
theorem CellOk.same {M : Addr → Prop} {c : Cell} {v : Option V} {as : List Addr} (s : Same H H1) (h : CellOk w K M H c v as) : CellOk w K M H1 c v as := by
  cases c with
  | un => exact h
  | scr ns => obtain ⟨e, a, e1, r⟩ := h; exact ⟨e, a, e1, r.imp (fun ⟨o, z⟩ => ⟨o, s _ _ z⟩) id⟩
  | val d => obtain ⟨e, v, e1, r⟩ := h; exact ⟨e, v, e1, r.same s⟩
  | own fx o => obtain ⟨v, e1, r⟩ := h; exact ⟨v, e1, r.same s⟩
theorem Rel.same (s : Same H H1) (R : Rel w K B ρ σ A H) : Rel w K B ρ σ A H1 :=
  ⟨R.len, fun i c e => (R.cell i c e).same s, R.out, fun x b z => by
    cases q : H x with
    | none => exact R.aliveB x b q
    | some o => (rw [s x o q] at z; cases z), R.apart, R.one⟩
theorem Step.refl (R : Rel w K B ρ σ A H) : Step w K B ρ σ A H ρ σ A H := ⟨R, .refl H, fun i x h => .inl ⟨i, h⟩, fun i o h => ⟨⟨o, h⟩, rfl⟩⟩
theorem Step.same (s : Same H H1) (R : Rel w K B ρ σ A H) : Step w K B ρ σ A H ρ σ A H1 := ⟨R.same s, .same s, fun i x h => .inl ⟨i, h⟩, fun i o h => ⟨⟨o, h⟩, rfl⟩⟩
theorem Step.trans (R : Rel w K B ρ σ A H) (a : Step w K B ρ σ A H ρ1 σ1 A1 H1) (b : Step w K B ρ1 σ1 A1 H1 ρ2 σ2 A2 H2) : Step w K B ρ σ A H ρ2 σ2 A2 H2 where
  rel := b.rel
  ext := ⟨fun x o h n => b.ext.keep x o (a.ext.keep x o h n) (fun ⟨i, m⟩ => (a.sub i x m).elim (fun z => n z) fun z => by rw [z] at h; cases h), fun x vs h => b.ext.tup _ _ (a.ext.tup _ _ h), fun x o u h => b.ext.frz _ _ _ (a.ext.frz _ _ _ h)⟩
  sub := fun i x h => by
    rcases b.sub i x h with ⟨j, z⟩ | z
    · exact a.sub j x z
    · by_cases q : ∃ j, x ∈ A j
      · exact .inl q
      · refine .inr ?_
        cases e : H x with
        | none => rfl
        | some o => rw [a.ext.keep x o e q] at z; cases z
  fix := fun i o h => by
    obtain ⟨⟨o', e1⟩, e2⟩ := a.fix i o h
    obtain ⟨e3, e4⟩ := b.fix i o' e1
    exact ⟨e3, e4.trans e2⟩
/-- a value that stood at the start of a step -/
theorem Step.rep (R : Rel w K B ρ σ A H) (s : Step w K B ρ σ A H ρ1 σ1 A1 H1) {d : D} {v : V} (h : Rep w K (mu B A) H d v) : Rep w K (mu B A1) H1 d v :=
  h.ext s.ext (fun a z => .inr z) (fun a n m => by
    rcases m with m | ⟨i, m⟩
    · exact .inl m
    · rcases s.sub i a m with z | z
      · exact .inr z
      · exact absurd z n)
theorem Step.reps (R : Rel w K B ρ σ A H) (s : Step w K B ρ σ A H ρ1 σ1 A1 H1) {d : List D} {v : List V} (h : Reps w K (mu B A) H d v) : Reps w K (mu B A1) H1 d v :=
  h.ext s.ext (fun a z => .inr z) (fun a n m => by
    rcases m with m | ⟨i, m⟩
    · exact .inl m
    · rcases s.sub i a m with z | z
      · exact .inr z
      · exact absurd z n)
theorem mu_or {N : Addr → Prop} {x : Addr} : mu (fun x => B x ∨ N x) A x ↔ mu B A x ∨ N x := by
  unfold mu
  constructor
  · rintro ((h | h) | h)
    · exact .inl (.inl h)
    · exact .inr h
    · exact .inl (.inr h)
  · rintro ((h | h) | h)
    · exact .inl (.inl h)
    · exact .inr h
    · exact .inl (.inr h)
theorem CellOk.ext {O M M' : Addr → Prop} (e : Ext O H H1) (hO : ∀ a, O a → M a) (hM : ∀ a, H a ≠ none → M' a → M a) {c : Cell} {v : Option V} {as : List Addr} (hn : ∀ x ∈ as, ¬ O x) (h : CellOk w K M H c v as) : CellOk w K M' H1 c v as := by
  cases c with
  | un => exact h
  | scr ns => obtain ⟨e1, a, e2, r⟩ := h; exact ⟨e1, a, e2, r.imp (fun ⟨o, z⟩ => ⟨o, e.frz _ _ _ z⟩) id⟩
  | val d => obtain ⟨e1, v, e2, r⟩ := h; exact ⟨e1, v, e2, r.ext e hO hM⟩
  | own fx o => obtain ⟨v, e2, r⟩ := h; exact ⟨v, e2, r.ext e hO hM hn⟩
/-- things that were not there are not within -/
theorem Rel.protect {N : Addr → Prop} (R : Rel w K B ρ σ A H) (s : Same H H1) (hN : ∀ x, N x → H x = none ∧ H1 x ≠ none) : Rel w K (fun x => B x ∨ N x) ρ σ A H1 where
  len := R.len
  cell := fun i c e => (R.cell i c e).ext (O := fun _ => False) (Ext.same s) (fun _ z => z.elim) (fun a n m => by
    rcases mu_or.mp m with m | m
    · exact m
    · exact absurd (hN a m).1 n) (fun _ _ z => z)
  out := R.out
  aliveB := fun x h => by
    rcases h with h | h
    · exact (R.same s).aliveB x h
    · exact (hN x h).2
  apart := fun i x h z => by
    rcases z with z | z
    · exact R.apart i x h z
    · exact R.alive x (.inr ⟨i, h⟩) (hN x z).1
  one := R.one
end
end L3
/-! Operations on values, told by trees. -/
namespace L3
open PySem PySem.Spec PyProof.Rows L2
section
variable {X : Cx} {pins : List (Addr × Obj)} {σ : L2.St} {H H1 H' : Hp} {s : Shared} {M : Addr → Prop} {w : World} {K : PySem.W.Frag}
theorem Vals.nil_inv {us : List Value} (h : Vals [] us) : us = [] := by cases h; rfl
theorem Vals.cons_inv {x : V} {xs : List V} {us : List Value} (h : Vals (x :: xs) us) : ∃ u r, us = u :: r ∧ RelV x u ∧ Vals xs r := by
  cases h with
  | cons a b => exact ⟨_, _, rfl, a, b⟩
theorem paired_map {α β γ δ : Type} {F : α → β → Prop} {G : γ → δ → Prop} (f : α → γ) (g : β → δ) (h : ∀ a b, F a b → G (f a) (g b)) : ∀ {l : List α} {m : List β}, Paired F l m → Paired G (l.map f) (m.map g)
  | _, _, .nil => .nil
  | _, _, .cons r t => .cons (h _ _ r) (paired_map f g h t)
mutual
theorem Rep.reads (I : Inv X pins σ H s) : ∀ (d : D) (v : V) (u : Value), Rep X.w X.K M H d v → RelV v u → ∃ as, Reads s.heap u d as ∧ (noList d = true → sysModules ∉ as)
  | .none, v, u, h, r => by rw [show v = .non from h] at r; cases r; exact ⟨_, .none, fun _ => by simp⟩
  | .bool b, v, u, h, r => by rw [show v = .bl b from h] at r; cases r; exact ⟨_, .bool b, fun _ => by simp⟩
  | .int i, v, u, h, r => by rw [show v = .int i from h] at r; obtain ⟨t, rfl⟩ := r; exact ⟨_, .int i t, fun _ => by simp⟩
  | .str x, v, u, h, r => by rw [show v = .str x from h] at r; obtain ⟨t, rfl⟩ := r; exact ⟨_, .str x t, fun _ => by simp⟩
  | .tuple xs, v, u, h, r => by
    obtain ⟨a, vs, e, h1, h2⟩ := h
    rw [e] at r; cases r
    obtain ⟨its, rv, ⟨o, ho, hc, n, hd⟩, _⟩ := I.tuple h1
    obtain ⟨as, ra, na⟩ := Reps.reads I xs vs its h2 rv
    exact ⟨as, .tuple ho hc hd (by simpa using ra), fun z => na (by simpa [noList] using z)⟩
  | .list xs, v, u, h, r => by
    obtain ⟨a, vs, e, _, h1, h2⟩ := h
    rw [e] at r; cases r
    obtain ⟨its, rv, ⟨o, n, ho, hc, _, hd⟩, _⟩ := I.list (SqL.of h1)
    obtain ⟨as, ra, na⟩ := Reps.reads I xs vs its h2 rv
    exact ⟨_, .list ho hc hd (by simpa using ra), fun z => by simp [noList] at z⟩
  | .dict kvs, v, u, h, r => by
    obtain ⟨a, es, e, _, h1, h2, nd⟩ := h
    rw [e] at r; cases r
    obtain ⟨⟨o, ents, ep, ho, hx, hd, hp⟩, _⟩ := I.hok a _ h1.2.2
    obtain ⟨as, bs, ra, rb, na⟩ := RepK.reads I kvs es ents.toList h2 hp
    refine ⟨_, .dict ho hx.1 hd ra rb, fun z => ?_⟩
    have z' := na (by simpa [noList] using z)
    intro hm
    rcases List.mem_append.mp hm with hm | hm
    · rcases List.mem_cons.mp hm with hm | hm
      · have := h1.1
        rw [← hm] at this
        simp at this
      · exact z'.1 hm
    · exact z'.2 hm
theorem Reps.reads (I : Inv X pins σ H s) : ∀ (ds : List D) (vs : List V) (us : List Value), Reps X.w X.K M H ds vs → Vals vs us → ∃ as, ReadsAll s.heap us ds as ∧ (noLists ds = true → sysModules ∉ as)
  | [], vs, us, h, r => by rw [show vs = [] from h] at r; cases r; exact ⟨_, .nil, fun _ => by simp⟩
  | x :: xs, vs, us, h, r => by
    obtain ⟨v, t, e, h1, h2⟩ := h
    rw [e] at r
    obtain ⟨u, q, rfl, r1, r2⟩ := Vals.cons_inv r
    obtain ⟨as, ra, na⟩ := Rep.reads I x v u h1 r1
    obtain ⟨bs, rb, nb⟩ := Reps.reads I xs t q h2 r2
    refine ⟨_, .cons ra rb, fun z => ?_⟩
    simp only [noLists, Bool.and_eq_true] at z
    intro hm
    rcases List.mem_append.mp hm with hm | hm
    · exact na z.1 hm
    · exact nb z.2 hm
theorem RepK.reads (I : Inv X pins σ H s) : ∀ (kvs : List (D × D)) (es : List (Int × V × V)) (ents : List DictEntry), RepK X.w X.K M H kvs es → Paired (fun (p : Int × V × V) (e : DictEntry) => e.hash = p.1 ∧ RelV p.2.1 e.key ∧ RelV p.2.2 e.val) es ents →
    ∃ as bs, ReadsAll s.heap (ents.map (·.key)) (kvs.map (·.1)) as ∧ ReadsAll s.heap (ents.map (·.val)) (kvs.map (·.2)) bs ∧ (noListk kvs = true → sysModules ∉ as ∧ sysModules ∉ bs)
  | [], es, ents, h, r => by rw [show es = [] from h] at r; cases r; exact ⟨_, _, .nil, .nil, fun _ => by simp⟩
  | (k, x) :: xs, es, ents, h, r => by
    obtain ⟨n, kv, v, t, e, h1, _, h3, h4⟩ := h
    rw [e] at r
    cases r with
    | cons r1 r2 =>
      obtain ⟨as, ra, na⟩ := Rep.reads I k kv _ h1 r1.2.1
      obtain ⟨bs, rb, nb⟩ := Rep.reads I x v _ h3 r1.2.2
      obtain ⟨cs, ds, rc, rd, nc⟩ := RepK.reads I xs t _ h4 r2
      refine ⟨_, _, .cons ra rc, .cons rb rd, fun z => ?_⟩
      simp only [noListk, Bool.and_eq_true] at z
      have z' := nc z.2
      refine ⟨fun hm => ?_, fun hm => ?_⟩
      · rcases List.mem_append.mp hm with hm | hm
        · exact na z.1.1 hm
        · exact z'.1 hm
      · rcases List.mem_append.mp hm with hm | hm
        · exact nb z.1.2 hm
        · exact z'.2 hm
end
theorem Rd1.rep0 {d : D} {v : V} (h : Rd1 w K M H d v) : Rep w K (fun _ => False) H d v := by
  cases d with
  | list xs => obtain ⟨a, vs, e, h1, h2⟩ := h; exact ⟨a, vs, e, fun z => z, h1, h2.weak fun _ z => z.elim⟩
  | dict xs => obtain ⟨a, vs, e, h1, h2⟩ := h; exact ⟨a, vs, e, fun z => z, h1, h2.1.weak fun _ z => z.elim, h2.2⟩
  | none => exact h
  | bool b => exact h
  | int b => exact h
  | str b => exact h
  | tuple b => exact Rep.weak (d := .tuple b) (M := M) (fun _ z => z.elim) h
theorem Rd1.reads {d : D} {v : V} {u : Value} (I : Inv X pins σ H s) (h : Rd1 X.w X.K M H d v) (r : RelV v u) : ∃ as, Reads s.heap u d as ∧ (noList d = true → sysModules ∉ as) := Rep.reads I d v u h.rep0 r
theorem Rd1.seq {d : D} {v : V} {xs : List D} (h : Rd1 w K M H d v) (e : seqOf d = some xs) : ∃ p vs, v = .ref p ∧ (SqL K H p vs ∨ SqT K H p vs) ∧ Reps w K M H xs vs := by
  cases d with
  | list ys => cases e; obtain ⟨a, vs, e, h1, h2⟩ := h; exact ⟨a, vs, e, .inl (SqL.of h1), h2⟩
  | tuple ys => cases e; obtain ⟨a, vs, e, h1, h2⟩ := h; exact ⟨a, vs, e, .inr h1, h2⟩
  | none => cases e
  | bool b => cases e
  | int b => cases e
  | str b => cases e
  | dict b => cases e
end
/-- what an operation asks -/
def rD (w : World) (K : PySem.W.Frag) (k : Kind) (op : D → D → Option D) : R2 := fun x y H Q => ∃ M dx dy d, (∀ a, M a → H a ≠ none) ∧ Rd1 w K M H dx x ∧ Rd1 w K M H dy y ∧ op dx dy = some d ∧
  ∀ v H', Same H H' → Res w K k M H H' d v → Q v H'
def uD (w : World) (K : PySem.W.Frag) (k : Kind) (op : D → Option D) : V → Hp → VK → Prop := fun x H Q => ∃ M dx d, (∀ a, M a → H a ≠ none) ∧ Rd1 w K M H dx x ∧ op dx = some d ∧
  ∀ v H', Same H H' → Res w K k M H H' d v → Q v H'
def cD (w : World) (K : PySem.W.Frag) (k : Kind) (op : List D → Option D) : List V → Hp → VK → Prop := fun xs H Q => ∃ M ds d, (∀ a, M a → H a ≠ none) ∧ Paired (Rd1 w K M H) ds xs ∧ op ds = some d ∧
  ∀ v H', Same H H' → Res w K k M H H' d v → Q v H'
section
variable {X : Cx}
theorem oimp {f : Value → Value → Sem Value} {r r' : R2} (h : OpR X f r) (i : ∀ x y H Q, r' x y H Q → r x y H Q) : OpR X f r' := fun pins s σ H x y v u Q I rx ry q => h pins s σ H x y v u Q I rx ry (i _ _ _ _ q)
theorem uimp {f : Value → Sem Value} {r r' : V → Hp → VK → Prop} (h : UnR X f r) (i : ∀ x H Q, r' x H Q → r x H Q) : UnR X f r' := fun pins s σ H x v Q I rx q => h pins s σ H x v Q I rx (i _ _ _ q)
theorem cimp {f : Value} {r r' : List V → Hp → VK → Prop} (h : CallR X f r) (i : ∀ x H Q, r' x H Q → r x H Q) : CallR X f r' := fun pins s σ H xs us Q I rs q => h pins s σ H xs us Q I rs (i _ _ _ q)
theorem ximp {r r' : R2} (h : IxR X r) (i : ∀ x y H Q, r' x y H Q → r x y H Q) : IxR X r' := fun value slice pins s σ H x y v u Q I rx ry q hs => h value slice pins s σ H x y v u Q I rx ry (i _ _ _ _ q) hs
/-! ### ints -/
theorem oSub : OpR X (binaryOp .Sub) (rD X.w X.K .c dSub) := oimp op_sub fun x y H Q h => by
  obtain ⟨M, dx, dy, d, al, hx, hy, e, q⟩ := h
  cases dx with
  | int i =>
    cases dy with
    | int j => cases e; exact ⟨i, j, hx, hy, q _ _ (Same.refl H) rfl⟩
    | _ => cases e
  | _ => cases e
theorem oMul : OpR X (binaryOp .Mult) (rD X.w X.K .c dMul) := oimp (op_mulW.or op_mul) fun x y H Q h => by
  obtain ⟨M, dx, dy, d, al, hx, hy, e, q⟩ := h
  cases dx with
  | int i =>
    cases dy with
    | int j =>
      simp only [dMul] at e
      split at e
      · rename_i hc
        cases e
        have hc := of_decide_eq_true hc
        rcases hc with hc | hc
        · exact .inl ⟨i, j, hx, hy, hc, q _ _ (Same.refl H) rfl⟩
        · refine .inr ⟨i, j, hx, hy, ?_, q _ _ (Same.refl H) rfl⟩
          unfold CMul
          omega
      · cases e
    | _ => cases e
  | _ => cases e
theorem oFdiv : OpR X (binaryOp .FloorDiv) (rD X.w X.K .c dFdiv) := by
  have h : OpR X (binaryOp .FloorDiv) (rI (fun _ j => j ≠ 0 ∧ j.natAbs.log2 < 9000) fun i j => .int (i.fdiv j)) := opI fun i j _ _ _ _ _ hc q =>
    floordiv_int hc.1 q (.inl (PyProof.noPylong_of_log2 hc.2))
  refine oimp h fun x y H Q h => ?_
  obtain ⟨M, dx, dy, d, al, hx, hy, e, q⟩ := h
  cases dx with
  | int i =>
    cases dy with
    | int j =>
      simp only [dFdiv] at e
      split at e
      · rename_i hc
        cases e
        exact ⟨i, j, hx, hy, of_decide_eq_true hc, q _ _ (Same.refl H) rfl⟩
      · cases e
    | _ => cases e
  | _ => cases e
theorem oMod : OpR X (binaryOp .Mod) (rD X.w X.K .c dMod) := oimp op_modN fun x y H Q h => by
  obtain ⟨M, dx, dy, d, al, hx, hy, e, q⟩ := h
  cases dx with
  | int i =>
    cases dy with
    | int j =>
      simp only [dMod] at e
      split at e
      · cases e
      · rename_i hc
        cases e
        exact ⟨i, j, hx, hy, hc, q _ _ (Same.refl H) rfl⟩
    | _ => cases e
  | _ => cases e
theorem oPow : OpR X (binaryOp .Pow) (rD X.w X.K .c dPow) := oimp op_pow fun x y H Q h => by
  obtain ⟨M, dx, dy, d, al, hx, hy, e, q⟩ := h
  cases dx with
  | int i =>
    cases dy with
    | int j =>
      simp only [dPow] at e
      split at e
      · rename_i hc
        cases e
        exact ⟨i, j, hx, hy, hc, q _ _ (Same.refl H) rfl⟩
      · cases e
    | _ => cases e
  | _ => cases e
theorem oLt : OpR X (compareOp .Lt) (rD X.w X.K .c dLt) := oimp op_lt fun x y H Q h => by
  obtain ⟨M, dx, dy, d, al, hx, hy, e, q⟩ := h
  cases dx with
  | int i => cases dy with
    | int j => cases e; exact ⟨i, j, hx, hy, q _ _ (Same.refl H) rfl⟩
    | _ => cases e
  | _ => cases e
theorem oLe : OpR X (compareOp .LtE) (rD X.w X.K .c dLe) := oimp op_le fun x y H Q h => by
  obtain ⟨M, dx, dy, d, al, hx, hy, e, q⟩ := h
  cases dx with
  | int i => cases dy with
    | int j => cases e; exact ⟨i, j, hx, hy, q _ _ (Same.refl H) rfl⟩
    | _ => cases e
  | _ => cases e
theorem oGt : OpR X (compareOp .Gt) (rD X.w X.K .c dGt) := oimp op_gt fun x y H Q h => by
  obtain ⟨M, dx, dy, d, al, hx, hy, e, q⟩ := h
  cases dx with
  | int i => cases dy with
    | int j => cases e; exact ⟨i, j, hx, hy, q _ _ (Same.refl H) rfl⟩
    | _ => cases e
  | _ => cases e
theorem oGe : OpR X (compareOp .GtE) (rD X.w X.K .c dGe) := oimp op_ge fun x y H Q h => by
  obtain ⟨M, dx, dy, d, al, hx, hy, e, q⟩ := h
  cases dx with
  | int i => cases dy with
    | int j => cases e; exact ⟨i, j, hx, hy, q _ _ (Same.refl H) rfl⟩
    | _ => cases e
  | _ => cases e
theorem oNeg : UnR X (unaryOp .USub) (uD X.w X.K .c dNeg) := uimp un_neg fun x H Q h => by
  obtain ⟨M, dx, d, al, hx, e, q⟩ := h
  cases dx with
  | int i => cases e; exact ⟨i, hx, q _ _ (Same.refl H) rfl⟩
  | _ => cases e
/-! ### + and * -/
theorem len24_ok {n : Nat} (h : len24 n = true) : n ≤ sizeLine := by rw [sizeLine_eq]; exact of_decide_eq_true h
theorem same_new {H : Hp} {p : Addr} {o : HO} (h : H p = none) : Same H (upd H p o) := fun b x e => by
  rw [upd_ne (ne_of_none e h)]
  exact e
theorem rd_lst {pins : List (Addr × Obj)} {σ : L2.St} {H : Hp} {s : Shared} {a : Addr} {xs : List V} (I : Inv X pins σ H s) (h : Rd H a (.lst xs)) : ∃ (its : List Value) (n : Nat), Vals xs its ∧ s.heap.get? a = some { cls := .type "list", data := .seq its.toArray n } ∧ xs.length ≤ sizeLine := by
  obtain ⟨z, its, n, r, e⟩ := h.ok I.hok
  exact ⟨its, n, r, e, z⟩
theorem addL : OpR X (binaryOp .Add) (fun x y H Q => ∃ l b xs zs, x = .ref l ∧ y = .ref b ∧ Rd H l (.lst xs) ∧ Rd H b (.lst zs) ∧ xs.length + zs.length ≤ sizeLine ∧ ∀ p, H p = none → Q (.ref p) (upd H p (.lst (xs ++ zs)))) := by
  intro pins s σ H x y v u Q I rx ry h
  obtain ⟨l, b, xs, zs, rfl, rfl, hH, hB, hz, q⟩ := h
  cases rx
  cases ry
  obtain ⟨its, n, r, e, z⟩ := rd_lst I hH
  obtain ⟨its2, n2, r2, e2, z2⟩ := rd_lst I hB
  have hl := r.length
  have hl2 := r2.length
  refine PySem.P.add_list e e2 ?_ (by rw [List.size_toArray, List.size_toArray]; omega)
  have ea : its.toArray ++ its2.toArray = (its ++ its2).toArray := by simp
  rw [ea]
  exact ⟨.ref _, _, I.lnew (t' := s.toks) (r.append r2) (by rw [List.length_append]; omega), rfl, q _ I.fresh⟩
theorem oAdd : OpR X (binaryOp .Add) (rD X.w X.K .f dAdd) := oimp (op_add.or (op_add_str.or (op_catA.or addL))) fun x y H Q h => by
  obtain ⟨M, dx, dy, d, al, hx, hy, e, q⟩ := h
  cases dx with
  | int i => cases dy with
    | int j => cases e; exact .inl ⟨i, j, hx, hy, q _ _ (Same.refl H) rfl⟩
    | _ => cases e
  | str i => cases dy with
    | str j =>
      simp only [dAdd] at e
      split at e
      · rename_i hc
        cases e
        exact .inr (.inl ⟨i, j, hx, hy, len24_ok hc, q _ _ (Same.refl H) rfl⟩)
      · cases e
    | _ => cases e
  | tuple i => cases dy with
    | tuple j =>
      simp only [dAdd] at e
      split at e
      · rename_i hc
        cases e
        obtain ⟨a, vs, e1, h1, h2⟩ := hx
        obtain ⟨b, us, e2, k1, k2⟩ := hy
        have g1 := h2.length
        have g2 := k2.length
        refine .inr (.inr (.inl ⟨a, b, vs, us, e1, e2, h1, k1, by have := len24_ok hc; omega, fun z => ?_, fun _ z => ?_, fun _ _ p hp => ?_⟩))
        · subst z
          have : i = [] := List.eq_nil_of_length_eq_zero g1.symm
          subst this
          exact q _ _ (Same.refl H) ⟨b, us, rfl, k1, k2⟩
        · subst z
          have : j = [] := List.eq_nil_of_length_eq_zero g2.symm
          subst this
          exact q _ _ (Same.refl H) ⟨a, vs, rfl, h1, by rw [List.append_nil]; exact h2⟩
        · have sm := same_new (o := .tup (vs ++ us)) hp
          exact q _ _ sm ⟨p, vs ++ us, rfl, SqT.of upd_same, (h2.append k2).same sm⟩
      · cases e
    | _ => cases e
  | list i => cases dy with
    | list j =>
      simp only [dAdd] at e
      split at e
      · rename_i hc
        cases e
        obtain ⟨a, vs, e1, h1, h2⟩ := hx
        obtain ⟨b, us, e2, k1, k2⟩ := hy
        have g1 := h2.length
        have g2 := k2.length
        refine .inr (.inr (.inr ⟨a, b, vs, us, e1, e2, .inl h1, .inl k1, by have := len24_ok hc; omega, fun p hp => ?_⟩))
        have sm := same_new (o := .lst (vs ++ us)) hp
        refine q _ _ sm ⟨p, vs ++ us, rfl, hp, upd_same, ?_⟩
        refine ((h2.append k2).ext (O := fun _ => False) (M' := fun x => M x ∨ x = p) (Ext.same sm) (fun _ z => z.elim) (fun a n m => ?_))
        rcases m with m | m
        · exact m
        · subst m; exact absurd hp n
      · cases e
    | _ => cases e
  | _ => cases e
end
end L3
/-! More operations on values. -/
namespace L3
open PySem PySem.Spec PyProof.Rows L2
section
variable {X : Cx}
theorem okD_of {a : D} (h : okD a = true) : a.plain = true ∧ a.depth ≤ 50 := by
  simp only [okD, Bool.and_eq_true, decide_eq_true_eq] at h
  exact h
theorem rlen {h : Heap} : ∀ {vs : List Value} {ds : List D} {as : List Addr}, ReadsAll h vs ds as → vs.length = ds.length
  | _, _, _, .nil => rfl
  | _, _, _, .cons _ t => by rw [List.length_cons, List.length_cons, rlen t]
theorem emp_inv {a b : D} (h : emp a b = true) : ∃ xs, a = .list xs ∧ b = .list [] := by
  cases a with
  | list xs =>
    cases b with
    | list ys =>
      cases ys with
      | nil => exact ⟨xs, rfl, rfl⟩
      | cons y r => cases h
    | _ => cases h
  | _ => cases h
theorem oEq (hu : X.A.units + 64 < cLine) : OpR X (compareOp .Eq) (rD X.w X.K .c dEq) := by
  intro pins s σ H x y v u Q I rx ry h
  obtain ⟨M, dx, dy, d, al, hx, hy, e, q⟩ := h
  simp only [dEq] at e
  split at e
  · rename_i hc
    cases e
    obtain ⟨as, r1, _⟩ := Rd1.reads I hx rx
    obtain ⟨bs, r2, _⟩ := Rd1.reads I hy ry
    have go : ∀ (a1 : okD dx = true) (a2 : okD dy = true), wpAny (model X.prog X.w) X.A (_ : Sem Value) (EP X pins σ Q) X.xe s := fun a1 a2 =>
      SeqAt.eq_plain r1 r2 (okD_of a1).1 (okD_of a2).1 (by have := (okD_of a1).2; omega) ⟨.bl _, H, I, rfl, q _ _ (Same.refl H) rfl⟩
    rw [Bool.or_eq_true, Bool.and_eq_true] at hc
    rcases hc with hc | hc
    · exact go hc.1 hc.2
    · obtain ⟨xs, rfl, rfl⟩ := emp_inv hc
      cases xs with
      | nil => exact go rfl rfl
      | cons x0 xr =>
        cases r1 with
        | list k1 k2 k3 k4 =>
          cases r2 with
          | list m1 m2 m3 m4 =>
            refine SeqAt.RcAt.lists_lengths ⟨_, k1, k2, _, k3⟩ ⟨_, m1, m2, _, m3⟩ ?_ (by omega) X.prog X.w _ _ ⟨.bl false, H, I, rfl, q _ _ (Same.refl H) rfl⟩
            have e1 := rlen k4
            have e2 := rlen m4
            simp at e1 e2
            simp [e1, e2]
  · cases e
theorem oNe (hu : X.A.units + 64 < cLine) : OpR X (compareOp .NotEq) (rD X.w X.K .c dNe) := by
  intro pins s σ H x y v u Q I rx ry h
  obtain ⟨M, dx, dy, d, al, hx, hy, e, q⟩ := h
  simp only [dNe] at e
  split at e
  · rename_i hc
    cases e
    obtain ⟨as, r1, _⟩ := Rd1.reads I hx rx
    obtain ⟨bs, r2, _⟩ := Rd1.reads I hy ry
    have go : ∀ (a1 : okD dx = true) (a2 : okD dy = true), wpAny (model X.prog X.w) X.A (_ : Sem Value) (EP X pins σ Q) X.xe s := fun a1 a2 =>
      SeqAt.ne_plain r1 r2 (okD_of a1).1 (okD_of a2).1 (by have := (okD_of a1).2; omega) ⟨.bl _, H, I, rfl, q _ _ (Same.refl H) rfl⟩
    rw [Bool.or_eq_true, Bool.and_eq_true] at hc
    rcases hc with hc | hc
    · exact go hc.1 hc.2
    · obtain ⟨xs, rfl, rfl⟩ := emp_inv hc
      cases xs with
      | nil => exact go rfl rfl
      | cons x0 xr =>
        cases r1 with
        | list k1 k2 k3 k4 =>
          cases r2 with
          | list m1 m2 m3 m4 =>
            refine SeqAt.RcNeAt.lists_lengths ⟨_, k1, k2, _, k3⟩ ⟨_, m1, m2, _, m3⟩ ?_ (by omega) X.prog X.w _ _ ⟨.bl true, H, I, rfl, q _ _ (Same.refl H) rfl⟩
            have e1 := rlen k4
            have e2 := rlen m4
            simp at e1 e2
            simp [e1, e2]
  · cases e
theorem oIn (hu : X.A.units + 64 < cLine) : OpR X (compareOp .In) (rD X.w X.K .c dIn) := by
  intro pins s σ H x y v u Q I rx ry h
  obtain ⟨M, dx, dy, d, al, hx, hy, e, q⟩ := h
  simp only [dIn] at e
  obtain ⟨as, r1, _⟩ := Rd1.reads I hx rx
  obtain ⟨bs, r2, _⟩ := Rd1.reads I hy ry
  cases dy with
  | list xs =>
    simp only [seqOf] at e
    split at e
    · rename_i hc
      cases e
      rw [Bool.and_eq_true, Bool.and_eq_true, decide_eq_true_eq] at hc
      obtain ⟨p1, z1⟩ := okD_of hc.1.1
      exact SeqAt.in_list_data r2 r1 hc.1.2 p1 (by have := hc.2; omega) ⟨.bl _, H, I, rfl, q _ _ (Same.refl H) rfl⟩
    · cases e
  | tuple xs =>
    simp only [seqOf] at e
    split at e
    · rename_i hc
      cases e
      rw [Bool.and_eq_true, Bool.and_eq_true, decide_eq_true_eq] at hc
      obtain ⟨p1, z1⟩ := okD_of hc.1.1
      exact SeqAt.in_tuple_data r2 r1 hc.1.2 p1 (by have := hc.2; omega) ⟨.bl _, H, I, rfl, q _ _ (Same.refl H) rfl⟩
    · cases e
  | _ => cases e
theorem oNotIn (hu : X.A.units + 64 < cLine) : OpR X (compareOp .NotIn) (rD X.w X.K .c dNotIn) := by
  intro pins s σ H x y v u Q I rx ry h
  obtain ⟨M, dx, dy, d, al, hx, hy, e, q⟩ := h
  simp only [dNotIn] at e
  obtain ⟨as, r1, _⟩ := Rd1.reads I hx rx
  obtain ⟨bs, r2, _⟩ := Rd1.reads I hy ry
  cases dy with
  | list xs =>
    simp only [seqOf] at e
    split at e
    · rename_i hc
      cases e
      rw [Bool.and_eq_true, Bool.and_eq_true, decide_eq_true_eq] at hc
      obtain ⟨p1, z1⟩ := okD_of hc.1.1
      exact SeqAt.notIn_list_data r2 r1 hc.1.2 p1 (by have := hc.2; omega) ⟨.bl _, H, I, rfl, q _ _ (Same.refl H) rfl⟩
    · cases e
  | tuple xs =>
    simp only [seqOf] at e
    split at e
    · rename_i hc
      cases e
      rw [Bool.and_eq_true, Bool.and_eq_true, decide_eq_true_eq] at hc
      obtain ⟨p1, z1⟩ := okD_of hc.1.1
      exact SeqAt.notIn_tuple_data r2 r1 hc.1.2 p1 (by have := hc.2; omega) ⟨.bl _, H, I, rfl, q _ _ (Same.refl H) rfl⟩
    · cases e
  | _ => cases e
theorem rd1_non {w : World} {K : PySem.W.Frag} {M : Addr → Prop} {H : Hp} {d : D} {v : V} (h : Rd1 w K M H d v) : decide (v = .non) = decide (d = .none) := by
  cases d with
  | none => rw [show v = .non from h]; simp
  | bool b => rw [show v = .bl b from h]; simp
  | int b => rw [show v = .int b from h]; simp
  | str b => rw [show v = .str b from h]; simp
  | tuple b => obtain ⟨a, _, e, _⟩ := h; rw [e]; simp
  | list b => obtain ⟨a, _, e, _⟩ := h; rw [e]; simp
  | dict b => obtain ⟨a, _, e, _⟩ := h; rw [e]; simp
/-- x is None -/
theorem oIsN : OpR X (compareOp .Is) (rD X.w X.K .c dIsN) := oimp op_isN fun x y H Q h => by
  obtain ⟨M, dx, dy, d, al, hx, hy, e, q⟩ := h
  cases dy with
  | none =>
    cases e
    exact ⟨hy, by rw [rd1_non hx]; exact q _ _ (Same.refl H) rfl⟩
  | _ => cases e
theorem oNotN : OpR X (compareOp .IsNot) (rD X.w X.K .c dNotN) := oimp op_notN fun x y H Q h => by
  obtain ⟨M, dx, dy, d, al, hx, hy, e, q⟩ := h
  cases dy with
  | none =>
    cases e
    exact ⟨hy, by rw [rd1_non hx]; exact q _ _ (Same.refl H) rfl⟩
  | _ => cases e
/-! ### items -/
theorem reps_atI {w : World} {K : PySem.W.Frag} {M : Addr → Prop} {H : Hp} {xs : List D} {vs : List V} {i : Int} {x : D} (h : Reps w K M H xs vs) (e : atI xs i = some x) : ∃ v, atI vs i = some v ∧ Rep w K M H x v := by
  unfold atI at e ⊢
  rw [h.length]
  cases q : ixN xs.length i with
  | none => rw [q] at e; cases e
  | some j =>
    rw [q] at e
    obtain ⟨u, e2, r⟩ := h.get (i := j) e
    exact ⟨u, e2, r⟩
theorem oIx : IxR X (rD X.w X.K .c dIx) := ximp ix_seq fun x y H Q h => by
  obtain ⟨M, dx, dy, d, al, hx, hy, e, q⟩ := h
  cases dy with
  | int i =>
    cases dx with
    | list xs =>
      obtain ⟨a, vs, e1, h1, h2⟩ := hx
      obtain ⟨v, e2, r⟩ := reps_atI h2 (show atI xs i = some d from e)
      exact .inl ⟨a, vs, i, v, e1, hy, SqL.of h1, e2, q _ _ (Same.refl H) r⟩
    | tuple xs =>
      obtain ⟨a, vs, e1, h1, h2⟩ := hx
      obtain ⟨v, e2, r⟩ := reps_atI h2 (show atI xs i = some d from e)
      exact .inr (.inl ⟨a, vs, i, v, e1, hy, h1, e2, q _ _ (Same.refl H) r⟩)
    | str z =>
      simp only [dIx] at e
      split at e
      · rename_i hc
        cases q' : atI z.cps.toList i with
        | none => rw [q'] at e; cases e
        | some c =>
          rw [q'] at e
          cases e
          exact .inr (.inr ⟨z, i, c, hx, hy, len24_ok hc, q', q _ _ (Same.refl H) rfl⟩)
      · cases e
    | _ => cases e
  | _ => cases dx <;> cases e
/-! ### built-ins -/
theorem cLen : CallR X (.builtin "len") (cD X.w X.K .c (l1 dLen)) := cimp call_len fun xs H Q h => by
  obtain ⟨M, ds, d, al, hx, e, q⟩ := h
  cases hx with
  | cons h1 h2 =>
    cases h2 with
    | cons _ _ => cases e
    | nil =>
      rename_i dx v
      cases dx with
      | str z =>
        simp only [l1, dLen] at e
        split at e
        · rename_i hc
          cases e
          exact ⟨v, z.length, rfl, by rw [show v = .str z from h1]; exact ⟨len24_ok hc, rfl⟩, q _ _ (Same.refl H) rfl⟩
        · cases e
      | list xs =>
        cases e
        obtain ⟨a, vs, e1, k1, k2⟩ := h1
        exact ⟨v, xs.length, rfl, by rw [e1]; exact .inl ⟨vs, SqL.of k1, k2.length.symm⟩, q _ _ (Same.refl H) rfl⟩
      | tuple xs =>
        cases e
        obtain ⟨a, vs, e1, k1, k2⟩ := h1
        exact ⟨v, xs.length, rfl, by rw [e1]; exact .inr ⟨vs, k1, k2.length.symm⟩, q _ _ (Same.refl H) rfl⟩
      | _ => cases e
  | nil => cases e
theorem cD1 {w : World} {K : PySem.W.Frag} {k : Kind} {f : D → Option D} {xs : List V} {H : Hp} {Q : VK} (h : cD w K k (l1 f) xs H Q) : ∃ M dx v d, xs = [v] ∧ (∀ a, M a → H a ≠ none) ∧ Rd1 w K M H dx v ∧ f dx = some d ∧ ∀ v H', Same H H' → Res w K k M H H' d v → Q v H' := by
  obtain ⟨M, ds, d, al, hx, e, q⟩ := h
  cases hx with
  | cons h1 h2 =>
    cases h2 with
    | cons _ _ => cases e
    | nil => exact ⟨M, _, _, d, rfl, al, h1, e, q⟩
  | nil => cases e
theorem cD2 {w : World} {K : PySem.W.Frag} {k : Kind} {f : D → D → Option D} {xs : List V} {H : Hp} {Q : VK} (h : cD w K k (l2 f) xs H Q) : ∃ M dx dy v u d, xs = [v, u] ∧ (∀ a, M a → H a ≠ none) ∧ Rd1 w K M H dx v ∧ Rd1 w K M H dy u ∧ f dx dy = some d ∧ ∀ v H', Same H H' → Res w K k M H H' d v → Q v H' := by
  obtain ⟨M, ds, d, al, hx, e, q⟩ := h
  cases hx with
  | cons h1 h2 =>
    cases h2 with
    | cons h3 h4 =>
      cases h4 with
      | cons _ _ => cases e
      | nil => exact ⟨M, _, _, _, _, d, rfl, al, h1, h3, e, q⟩
    | nil => cases e
  | nil => cases e
theorem cAbs : CallR X (.builtin "abs") (cD X.w X.K .c (l1 dAbs)) := cimp call_abs fun xs H Q h => by
  obtain ⟨M, dx, v, d, rfl, al, hx, e, q⟩ := cD1 h
  cases dx with
  | int i => cases e; exact ⟨i, by rw [show v = .int i from hx], q _ _ (Same.refl H) rfl⟩
  | _ => cases e
theorem cInt : CallR X (.type "int") (cD X.w X.K .c (l1 dInt)) := cimp call_int1 fun xs H Q h => by
  obtain ⟨M, dx, v, d, rfl, al, hx, e, q⟩ := cD1 h
  cases dx with
  | int i => cases e; exact .inl ⟨i, by rw [show v = .int i from hx], q _ _ (Same.refl H) rfl⟩
  | bool b => cases e; exact .inr ⟨b, by rw [show v = .bl b from hx], q _ _ (Same.refl H) rfl⟩
  | _ => cases e
theorem cMax2 (hc : X.calm = true) : CallR X (.builtin "max") (cD X.w X.K .c (l2 dMax2)) := cimp (call_max2 hc) fun xs H Q h => by
  obtain ⟨M, dx, dy, v, u, d, rfl, al, hx, hy, e, q⟩ := cD2 h
  cases dx with
  | int i => cases dy with
    | int j => cases e; exact ⟨i, j, by rw [show v = .int i from hx, show u = .int j from hy], q _ _ (Same.refl H) rfl⟩
    | _ => cases e
  | _ => cases e
theorem cMin2 (hc : X.calm = true) : CallR X (.builtin "min") (cD X.w X.K .c (l2 dMin2)) := cimp (call_min2 hc) fun xs H Q h => by
  obtain ⟨M, dx, dy, v, u, d, rfl, al, hx, hy, e, q⟩ := cD2 h
  cases dx with
  | int i => cases dy with
    | int j => cases e; exact ⟨i, j, by rw [show v = .int i from hx, show u = .int j from hy], q _ _ (Same.refl H) rfl⟩
    | _ => cases e
  | _ => cases e
theorem fresh_weak {w : World} {K : PySem.W.Frag} {M : Addr → Prop} {H : Hp} {p : Addr} {o : HO} {xs : List D} {vs : List V} (hp : H p = none) (h : Reps w K M H xs vs) : Reps w K (fun x => M x ∨ x = p) (upd H p o) xs vs :=
  h.ext (O := fun _ => False) (Ext.same (same_new hp)) (fun _ z => z.elim) fun a n m => by
    rcases m with m | m
    · exact m
    · subst m; exact absurd hp n
theorem cTuple : CallR X (.type "tuple") (cD X.w X.K .c (l1 dTuple)) := cimp call_tuple_of fun xs H Q h => by
  obtain ⟨M, dx, v, d, rfl, al, hx, e, q⟩ := cD1 h
  cases dx with
  | list ys =>
    cases e
    obtain ⟨a, vs, e1, k1, k2⟩ := hx
    subst e1
    exact ⟨a, vs, rfl, .inl ⟨SqL.of k1, fun l hl => q _ _ (same_new hl) ⟨l, vs, rfl, SqT.of upd_same, k2.same (same_new hl)⟩⟩⟩
  | tuple ys =>
    cases e
    obtain ⟨a, vs, e1, k1, k2⟩ := hx
    subst e1
    exact ⟨a, vs, rfl, .inr ⟨k1, q _ _ (Same.refl H) ⟨a, vs, rfl, k1, k2⟩⟩⟩
  | _ => cases e
theorem cList : CallR X (.type "list") (cD X.w X.K .f (l1 dList)) := cimp call_list_of fun xs H Q h => by
  obtain ⟨M, dx, v, d, rfl, al, hx, e, q⟩ := cD1 h
  cases dx with
  | list ys =>
    cases e
    obtain ⟨a, vs, e1, k1, k2⟩ := hx
    subst e1
    exact ⟨a, vs, rfl, .inl (SqL.of k1), fun l hl => q _ _ (same_new hl) ⟨l, vs, rfl, hl, upd_same, fresh_weak hl k2⟩⟩
  | tuple ys =>
    cases e
    obtain ⟨a, vs, e1, k1, k2⟩ := hx
    subst e1
    exact ⟨a, vs, rfl, .inr k1, fun l hl => q _ _ (same_new hl) ⟨l, vs, rfl, hl, upd_same, fresh_weak hl k2⟩⟩
  | _ => cases e
theorem inv_kept {pins : List (Addr × Obj)} {σ : L2.St} {H : Hp} {s : Shared} (I : Inv X pins σ H s) {h' : Heap} {tk : Nat} (k : ∀ b o, s.heap.get? b = some o → h'.get? b = some o) : Inv X pins σ H { s with heap := h', toks := tk } := I.kept k
/-- repr -/
theorem cRepr (hu : X.A.units + 64 < cLine) (hg : X.A.guards = some []) : CallR X (.builtin "repr") (cD X.w X.K .c (l1 dRepr)) := by
  intro pins s σ H xs us Q I rs h
  obtain ⟨M, dx, v, d, rfl, al, hx, e, q⟩ := cD1 h
  obtain ⟨u, rfl, ru⟩ := vals1 rs
  obtain ⟨as, r, na⟩ := Rd1.reads I hx ru
  simp only [dRepr] at e
  split at e
  · rename_i hc
    cases e
    simp only [Bool.and_eq_true, decide_eq_true_eq, Bool.or_eq_true, Bool.not_eq_true'] at hc
    obtain ⟨⟨⟨h1, h2⟩, h3⟩, h4⟩ := hc
    have h4 := len24_ok h4
    have fin : ∀ (h' : Heap) (t : Tok) (tk : Nat), (∀ b o, s.heap.get? b = some o → h'.get? b = some o) → EP X pins σ Q (.str dx.shown t) { s with heap := h', toks := tk } :=
      fun h' t tk k => ⟨.str dx.shown, H, inv_kept I k, ⟨_, rfl⟩, q _ _ (Same.refl H) rfl⟩
    have ref : ∀ a, u = .ref a → wpAny (model X.prog X.w) X.A (call (.builtin "repr") [u]) (EP X pins σ Q) X.xe s := fun a e => by
      subst e
      refine repr_of_reads' r h1 (fun hd => na ?_) hg (by omega) (fun _ _ z => z) (fun h' t tk k => fin h' t tk k) h4
      rcases h3 with z | z
      · rw [z] at hd; cases hd
      · exact z
    cases dx with
    | tuple ys => obtain ⟨a, vs, e1, _⟩ := hx; subst e1; cases ru; exact ref _ rfl
    | list ys => obtain ⟨a, vs, e1, _⟩ := hx; subst e1; cases ru; exact ref _ rfl
    | dict ys => obtain ⟨a, vs, e1, _⟩ := hx; subst e1; cases ru; exact ref _ rfl
    | none =>
      rw [show v = .non from hx] at ru; cases ru
      exact call_repr_gives rfl F.slot_NoneType_repr F.entry_NoneType_repr (F.args_NoneType_repr_1 _) gives_none_repr (fin s.heap _ _ fun _ _ z => z) rfl h4
    | bool b =>
      rw [show v = .bl b from hx] at ru; cases ru
      exact call_repr_gives rfl F.slot_bool_repr F.entry_bool_repr (F.args_bool_repr_1 _) (gives_bool_repr b) (fin s.heap _ _ fun _ _ z => z) rfl h4
    | int i =>
      rw [show v = .int i from hx] at ru; obtain ⟨t, rfl⟩ := ru
      exact PySem.P.repr_of_int (of_decide_eq_true h1) (fin s.heap _ _ fun _ _ z => z)
    | str z =>
      rw [show v = .str z from hx] at ru; obtain ⟨t, rfl⟩ := ru
      exact call_repr_gives (typeIs_str s z t) F.slot_str_repr F.entry_str_repr (F.args_str_repr_1 _) (gives_str_repr z t) (fin s.heap _ _ fun _ _ z => z) rfl h4
  · cases e
/-! ### all, any -/
theorem small1_ok : ∀ {xs : List D}, xs.all small1 = true → PyData.plainAll xs = true ∧ ∀ x ∈ xs, x.fits63
  | [], _ => ⟨rfl, fun _ h => nomatch h⟩
  | x :: xs, h => by
    rw [List.all_cons, Bool.and_eq_true] at h
    obtain ⟨h1, h2⟩ := small1_ok h.2
    refine ⟨?_, fun y hy => ?_⟩
    · rw [PyData.plainAll, h1, Bool.and_true]
      cases x <;> first | rfl | exact absurd h.1 (by simp [small1])
    · rcases List.mem_cons.mp hy with e | hy
      · subst e
        cases y <;> first | trivial | exact absurd h.1 (by simp [small1])
      · exact h2 y hy
theorem cAll (hc : X.calm = true) : CallR X (.builtin "all") (cD X.w X.K .c (l1 dAll)) := by
  intro pins s σ H xs us Q I rs h
  obtain ⟨M, dx, v, d, rfl, al, hx, e, q⟩ := cD1 h
  obtain ⟨u, rfl, ru⟩ := vals1 rs
  obtain ⟨as, r, na⟩ := Rd1.reads I hx ru
  have hh := I.ok.hd hc
  cases dx with
  | list ys =>
    simp only [dAll, seqOf] at e
    split at e
    · rename_i hs
      cases e
      obtain ⟨p1, p2⟩ := small1_ok hs
      cases r with
      | list h1 h2 h3 h4 =>
        refine W.all_list_data hh ⟨_, h1, h2, _, h3⟩ h4 p1 p2 fun h' tk k => ?_
        exact ⟨.bl _, H, inv_kept I k, rfl, q _ _ (Same.refl H) rfl⟩
    · cases e
  | tuple ys =>
    simp only [dAll, seqOf] at e
    split at e
    · rename_i hs
      cases e
      obtain ⟨p1, p2⟩ := small1_ok hs
      cases r with
      | tuple h1 h2 h3 h4 =>
        refine W.all_tuple_data hh ⟨_, h1, h2, _, h3⟩ h4 p1 p2 fun h' tk k => ?_
        exact ⟨.bl _, H, inv_kept I k, rfl, q _ _ (Same.refl H) rfl⟩
    · cases e
  | _ => cases e
theorem cAny (hc : X.calm = true) : CallR X (.builtin "any") (cD X.w X.K .c (l1 dAny)) := by
  intro pins s σ H xs us Q I rs h
  obtain ⟨M, dx, v, d, rfl, al, hx, e, q⟩ := cD1 h
  obtain ⟨u, rfl, ru⟩ := vals1 rs
  obtain ⟨as, r, na⟩ := Rd1.reads I hx ru
  have hh := I.ok.hd hc
  cases dx with
  | list ys =>
    simp only [dAny, seqOf] at e
    split at e
    · rename_i hs
      cases e
      obtain ⟨p1, p2⟩ := small1_ok hs
      cases r with
      | list h1 h2 h3 h4 =>
        refine W.any_list_data hh ⟨_, h1, h2, _, h3⟩ h4 p1 p2 fun h' tk k => ?_
        exact ⟨.bl _, H, inv_kept I k, rfl, q _ _ (Same.refl H) rfl⟩
    · cases e
  | tuple ys =>
    simp only [dAny, seqOf] at e
    split at e
    · rename_i hs
      cases e
      obtain ⟨p1, p2⟩ := small1_ok hs
      cases r with
      | tuple h1 h2 h3 h4 =>
        refine W.any_tuple_data hh ⟨_, h1, h2, _, h3⟩ h4 p1 p2 fun h' tk k => ?_
        exact ⟨.bl _, H, inv_kept I k, rfl, q _ _ (Same.refl H) rfl⟩
    · cases e
  | _ => cases e
/-! ### isinstance of a built-in class -/
def rIs (w : World) (K : PySem.W.Frag) (T : String) (f : D → Bool) : List V → Hp → VK → Prop := fun xs H Q => ∃ M dx v, xs = [v, .ty T] ∧ Rd1 w K M H dx v ∧ Q (.bl (f dx)) H
theorem isCall {T : String} {f : D → Bool} (h : ∀ {prog : Program} {w : World} {A : Around} {E : Value → Shared → Prop} {s : Shared} {v : Value} {d : D} {as : List Addr} {Q : Value → Shared → Prop}, Reads s.heap v d as →
      (∀ tk, s.toks ≤ tk → Q (.bool (f d)) { s with toks := tk }) → wpAny (model prog w) A (call (.builtin "isinstance") [v, .type T]) Q E s) :
    CallR X (.builtin "isinstance") (rIs X.w X.K T f) := by
  intro pins s σ H xs us Q I rs ⟨M, dx, v, e, hx, q⟩
  subst e
  obtain ⟨u, t, rfl, ru, rt⟩ := vals2 rs
  cases rt
  obtain ⟨as, r, na⟩ := Rd1.reads I hx ru
  exact h r fun tk _ => ⟨.bl _, H, inv_kept (h' := s.heap) I (fun _ _ z => z), rfl, q⟩
theorem cIsInt : CallR X (.builtin "isinstance") (rIs X.w X.K "int" PyData.isInt) := isCall fun r h => W.isinstance_int_data r h
theorem cIsBool : CallR X (.builtin "isinstance") (rIs X.w X.K "bool" PyData.isBool) := isCall fun r h => W.isinstance_bool_data r h
theorem cIsStr : CallR X (.builtin "isinstance") (rIs X.w X.K "str" PyData.isStr) := isCall fun r h => W.isinstance_str_data r h
theorem cIsTuple : CallR X (.builtin "isinstance") (rIs X.w X.K "tuple" PyData.isTuple) := isCall fun r h => W.isinstance_tuple_data r h
theorem cIsList : CallR X (.builtin "isinstance") (rIs X.w X.K "list" PyData.isList) := isCall fun r h => W.isinstance_list_data r h
theorem cIsDict : CallR X (.builtin "isinstance") (rIs X.w X.K "dict" PyData.isDict) := isCall fun r h => W.isinstance_dict_data r h
end
end L3
/-! Expressions and tests that change nothing. -/
namespace L3
open PySem PySem.Spec PyProof.Rows L2
def Kind.le : Kind → Kind → Bool
  | .r, _ => true
  | .c, .r => false
  | .c, _ => true
  | .f, .f => true
  | .f, _ => false
section
variable {w : World} {K : PySem.W.Frag} {M : Addr → Prop} {H H' H1 : Hp} {d : D} {v : V}
theorem Res.down {k k0 : Kind} (h : Res w K k0 M H H' d v) (al : ∀ a, M a → H a ≠ none) (hk : Kind.le k k0 = true) : Res w K k M H H' d v := by
  cases k with
  | r => exact Res.rd1 h al
  | c =>
    cases k0 with
    | r => cases hk
    | c => exact h
    | f => exact New1.rep h al
  | f =>
    cases k0 with
    | f => exact h
    | _ => cases hk
theorem Res.back {k : Kind} (s : Same H H1) (h : Res w K k M H1 H' d v) : Res w K k M H H' d v := by
  cases k with
  | r => exact h
  | c => exact h
  | f =>
    cases d with
    | list xs => obtain ⟨a, vs, e, n, h1, h2⟩ := h; exact ⟨a, vs, e, s.free n, h1, h2⟩
    | dict xs => obtain ⟨a, vs, e, n, h1, h2⟩ := h; exact ⟨a, vs, e, s.free n, h1, h2⟩
    | none => exact h
    | bool b => exact h
    | int b => exact h
    | str b => exact h
    | tuple b => exact h
/-- a value without a heap -/
theorem Res.flat {k : Kind} (h : match d with | .none | .bool _ | .int _ | .str _ => Rep w K M H' d v | _ => False) : Res w K k M H H' d v := by
  cases d <;> first | (exact h.elim) | (cases k <;> exact h)
theorem Rel.al {B : Addr → Prop} {ρ : Env} {σ : L2.St} {A : Nat → List Addr} (R : Rel w K B ρ σ A H) : ∀ a, mu B A a → H a ≠ none := R.alive
end
/-- the reading of an expression that changes nothing -/
def RE (w : World) (K : PySem.W.Frag) (k : Kind) (p : P) : L2.TE := fun σ H Q => ∃ B ρ A d, Rel w K B ρ σ A H ∧ p ρ = some d ∧ ∀ v H', Same H H' → Res w K k (mu B A) H H' d v → Q v H'
abbrev JP (X : Cx) (k : Kind) (e : Expr) (p : P) : Prop := PE X e (RE X.w X.K k p)
def RT (w : World) (K : PySem.W.Frag) (t : T) : TT := fun σ H Q => ∃ B ρ A b, Rel w K B ρ σ A H ∧ t ρ = some b ∧ ∀ H', Same H H' → Q b H'
abbrev JT (X : Cx) (e : Expr) (t : T) : Prop := PT X e (RT X.w X.K t)
/-- .. as an item: a list in place, or one of its own standing -/
def Itm (w : World) (K : PySem.W.Frag) (k : Kind) (M : Addr → Prop) (H : Hp) (d : D) (v : V) : Prop :=
  match k with
  | .r => Rd1 w K M H d v
  | _ => Rep w K M H d v
def RA (w : World) (K : PySem.W.Frag) (k : Kind) (ps : List P) : L2.TA := fun σ H Q => ∃ B ρ A ds, Rel w K B ρ σ A H ∧ evs ps ρ = some ds ∧ ∀ vs H', Same H H' → Paired (Itm w K k (mu B A) H') ds vs → Q vs H'
abbrev JA (X : Cx) (k : Kind) (es : List Expr) (ps : List P) : Prop := PA X es (RA X.w X.K k ps)
section
variable {X : Cx}
theorem peimp {e : Expr} {t t' : L2.TE} (h : PE X e t) (i : ∀ σ H Q, t' σ H Q → t σ H Q) : PE X e t' := ⟨fun pins s σ H Q I q => h.run pins s σ H Q I (i _ _ _ q)⟩
theorem ptimp {e : Expr} {t t' : TT} (h : PT X e t) (i : ∀ σ H Q, t' σ H Q → t σ H Q) : PT X e t' := ⟨fun pins s σ H Q I q => h.run pins s σ H Q I (i _ _ _ q)⟩
theorem pwimp {e : Expr} {t t' : TT} (h : PW X e t) (i : ∀ σ H Q, t' σ H Q → t σ H Q) : PW X e t' := ⟨fun wh pins s σ H Q I q => h.run wh pins s σ H Q I (i _ _ _ q)⟩
theorem paimp {e : List Expr} {t t' : L2.TA} (h : PA X e t) (i : ∀ σ H Q, t' σ H Q → t σ H Q) : PA X e t' := ⟨fun pos pins s σ H Q I q => h.run pos pins s σ H Q I (i _ _ _ q)⟩
theorem psimp {e : Stmt} {t t' : TS} (h : PS X e t) (i : ∀ D σ H, t' D σ H → t D σ H) : PS X e t' := ⟨fun pins s σ H D I q => h.run pins s σ H D I (i _ _ _ q)⟩
theorem pssimp {e : List Stmt} {t t' : TS} (h : PSs X e t) (i : ∀ D σ H, t' D σ H → t D σ H) : PSs X e t' := ⟨fun pins s σ H D I q => h.run pins s σ H D I (i _ _ _ q)⟩
/-! ### names and constants -/
theorem jVar {k : Kind} (i : Nat) {x : Str} {pos : Pos} (hN : X.N[i]? = some x := by rfl) (hv : Vis X.env.scope x := by first | exact Or.inl rfl | exact Or.inr (Or.inl rfl) | exact Or.inr (Or.inr rfl)) (hd : (x == ("__debug__" : Str)) = false := by decide)
    (hcd : (x == ("__classdict__" : Str)) = false := by decide) (hk : Kind.le k .c = true := by rfl) : JP X k (.Name x pos) (pVar i) := peimp (pv i hN hv hd hcd) fun σ H Q h => by
  obtain ⟨B, ρ, A, d, R, e, q⟩ := h
  unfold pVar at e
  cases c : ρ[i]? with
  | none => rw [c] at e; cases e
  | some c' =>
    rw [c] at e
    cases c' with
    | val d' =>
      cases e
      obtain ⟨_, v, ev, r⟩ := R.cell i _ c
      refine ⟨v, ?_, q _ _ (Same.refl H) (Res.down (k0 := .c) r R.al hk)⟩
      cases z : σ[i]? with
      | none => rw [z] at ev; cases ev
      | some y => rw [z] at ev; exact congrArg some ev
    | _ => cases e
theorem jOwn (i : Nat) {x : Str} {pos : Pos} (hN : X.N[i]? = some x := by rfl) (hv : Vis X.env.scope x := by first | exact Or.inl rfl | exact Or.inr (Or.inl rfl) | exact Or.inr (Or.inr rfl)) (hd : (x == ("__debug__" : Str)) = false := by decide)
    (hcd : (x == ("__classdict__" : Str)) = false := by decide) : JP X .r (.Name x pos) (pOwn i) := peimp (pv i hN hv hd hcd) fun σ H Q h => by
  obtain ⟨B, ρ, A, d, R, e, q⟩ := h
  unfold pOwn at e
  cases c : ρ[i]? with
  | none => rw [c] at e; cases e
  | some c' =>
    rw [c] at e
    cases c' with
    | own fx o =>
      obtain ⟨v, ev, r⟩ := R.cell i _ c
      have hs : σ[i]? = some (some v) := by
        cases z : σ[i]? with
        | none => rw [z] at ev; cases ev
        | some y => rw [z] at ev; exact congrArg some ev
      cases o with
      | lst xs =>
        cases e
        obtain ⟨a, vs, e1, _, h1, h2⟩ := r
        exact ⟨v, hs, q _ _ (Same.refl H) ⟨a, vs, e1, h1, h2⟩⟩
      | dic xs =>
        cases e
        obtain ⟨a, vs, e1, _, h1, h2, h3⟩ := r
        exact ⟨v, hs, q _ _ (Same.refl H) ⟨a, vs, e1, h1, h2, h3⟩⟩
      | src s => cases e
    | val d' =>
      cases e
      obtain ⟨_, v, ev, r⟩ := R.cell i _ c
      refine ⟨v, ?_, q _ _ (Same.refl H) (Rep.rd1 r)⟩
      cases z : σ[i]? with
      | none => rw [z] at ev; cases ev
      | some y => rw [z] at ev; exact congrArg some ev
    | _ => cases e
theorem jC {k : Kind} {e : Expr} {d : D} {v : V} (h : PE X e (tC v)) (hr : match d with | .none => v = .non | .bool b => v = .bl b | .int i => v = .int i | .str s => v = .str s | _ => False) : JP X k e (pC d) := peimp h fun σ H Q h => by
  obtain ⟨B, ρ, A, d', R, e, q⟩ := h
  cases e
  exact q _ _ (Same.refl H) (Res.flat (by cases d <;> first | exact hr | exact hr.elim))
theorem jInt {k : Kind} {i j pos} : JP X k (.Constant (.int i) j pos) (pC (.int i)) := jC pe_int rfl
theorem jBl {k : Kind} {b j pos} : JP X k (.Constant (.bool b) j pos) (pC (.bool b)) := jC pe_bl rfl
theorem jNon {k : Kind} {j pos} : JP X k (.Constant .none j pos) (pC .none) := jC pe_non rfl
theorem jStr {k : Kind} {x j pos} : JP X k (.Constant (.str x) j pos) (pC (.str x)) := jC pe_str rfl
/-! ### operations -/
theorem p2_inv {f : D → D → Option D} {a b : P} {ρ : Env} {d : D} (h : p2 f a b ρ = some d) : ∃ x y, a ρ = some x ∧ b ρ = some y ∧ f x y = some d := by
  unfold p2 at h
  cases e : a ρ with
  | none => rw [e] at h; cases h
  | some x =>
    cases e2 : b ρ with
    | none => rw [e, e2] at h; cases h
    | some y => rw [e, e2] at h; exact ⟨x, y, rfl, rfl, h⟩
theorem p1_inv {f : D → Option D} {a : P} {ρ : Env} {d : D} (h : p1 f a ρ = some d) : ∃ x, a ρ = some x ∧ f x = some d := by
  unfold p1 at h
  cases e : a ρ with
  | none => rw [e] at h; cases h
  | some x => rw [e] at h; exact ⟨x, rfl, h⟩
theorem rOp {k k0 : Kind} {op : D → D → Option D} {pa pb : P} {σ : L2.St} {H : Hp} {Q : VK} {w : World} {K : PySem.W.Frag} (hk : Kind.le k k0 = true) (h : RE w K k (p2 op pa pb) σ H Q) : tOp (rD w K k0 op) (RE w K .r pa) (RE w K .r pb) σ H Q := by
  obtain ⟨B, ρ, A, d, R, e, q⟩ := h
  obtain ⟨x, y, ea, eb, ef⟩ := p2_inv e
  refine ⟨B, ρ, A, x, R, ea, fun v H1 s1 r1 => ⟨B, ρ, A, y, R.same s1, eb, fun u H2 s2 r2 => ?_⟩⟩
  have R2 := (R.same s1).same s2
  exact ⟨mu B A, x, y, d, R2.al, Rd1.same s2 r1, r2, ef, fun z H' s' rz => q z H' ((s1.trans s2).trans s') (Res.back (s1.trans s2) (Res.down rz R2.al hk))⟩
theorem j2 {k k0 : Kind} {op : Operator} {f : D → D → Option D} {a b : Expr} {pa pb : P} {pos : Pos} (ho : OpR X (binaryOp op) (rD X.w X.K k0 f)) (ha : JP X .r a pa) (hb : JP X .r b pb) (hk : Kind.le k k0 = true := by rfl) :
    JP X k (.BinOp a op b pos) (p2 f pa pb) := peimp (pe_op ho ha hb) fun σ H Q h => rOp hk h
theorem jCmp {k k0 : Kind} {op : CmpOp} {f : D → D → Option D} {a b : Expr} {pa pb : P} {pos : Pos} (ho : OpR X (compareOp op) (rD X.w X.K k0 f)) (ha : JP X .r a pa) (hb : JP X .r b pb) (hm : behindInMarks op b = false := by first | exact nomark _ | rfl) (hk : Kind.le k k0 = true := by rfl) :
    JP X k (.Compare a [op] [b] pos) (p2 f pa pb) := peimp (pe_cmpR ho ha hb hm) fun σ H Q h => rOp hk h
theorem jNeg {k k0 : Kind} {op : UnaryOp} {f : D → Option D} {a : Expr} {pa : P} {pos : Pos} (ho : UnR X (unaryOp op) (uD X.w X.K k0 f)) (ha : JP X .r a pa) (hk : Kind.le k k0 = true := by rfl) :
    JP X k (.UnaryOp op a pos) (p1 f pa) := peimp (pe_un ho ha) fun σ H Q h => by
  obtain ⟨B, ρ, A, d, R, e, q⟩ := h
  obtain ⟨x, ea, ef⟩ := p1_inv e
  refine ⟨B, ρ, A, x, R, ea, fun v H1 s1 r1 => ?_⟩
  exact ⟨mu B A, x, d, (R.same s1).al, r1, ef, fun z H' s' rz => q z H' (s1.trans s') (Res.back s1 (Res.down rz (R.same s1).al hk))⟩
theorem jIx {k : Kind} {a b : Expr} {pa pb : P} {pos : Pos} (ha : JP X .r a pa) (hb : JP X .r b pb) (hs : PlainIx b := by exact fun _ _ => rfl) (hk : Kind.le k .c = true := by rfl) : JP X k (.Subscript a b pos) (p2 dIx pa pb) :=
  peimp (pe_ix oIx ha hb hs) fun σ H Q h => rOp hk h
/-! ### arguments, displays -/
theorem evs_cons {a : P} {r : List P} {ρ : Env} {ds : List D} (h : evs (a :: r) ρ = some ds) : ∃ x xs, ds = x :: xs ∧ a ρ = some x ∧ evs r ρ = some xs := by
  rw [evs] at h
  cases e : a ρ with
  | none => rw [e] at h; cases h
  | some x =>
    cases e2 : evs r ρ with
    | none => rw [e, e2] at h; cases h
    | some xs => rw [e, e2] at h; cases h; exact ⟨x, xs, rfl, rfl, rfl⟩
theorem Itm.same {w : World} {K : PySem.W.Frag} {k : Kind} {M : Addr → Prop} {H H' : Hp} {d : D} {v : V} (s : Same H H') (h : Itm w K k M H d v) : Itm w K k M H' d v := by
  cases k with
  | r => exact Rd1.same s h
  | c => exact Rep.same s h
  | f => exact Rep.same s h
theorem Itm.of {w : World} {K : PySem.W.Frag} {k : Kind} {M : Addr → Prop} {H H' : Hp} {d : D} {v : V} (al : ∀ a, M a → H a ≠ none) (h : Res w K k M H H' d v) : Itm w K k M H' d v := by
  cases k with
  | r => exact h
  | c => exact h
  | f => exact New1.rep h al
theorem jaNil {k : Kind} : JA X k [] [] := paimp pa_nil fun σ H Q h => by
  obtain ⟨B, ρ, A, ds, R, e, q⟩ := h
  cases e
  exact q _ _ (Same.refl H) .nil
theorem jaCons {k : Kind} {e : Expr} {es : List Expr} {p : P} {ps : List P} (ha : JP X k e p) (hr : JA X k es ps) (hs : starEach (e :: es) X.env = (false, eval e X.env) :: starEach es X.env := by rfl) : JA X k (e :: es) (p :: ps) := paimp (pa_cons ha hr hs) fun σ H Q h => by
  obtain ⟨B, ρ, A, ds, R, e, q⟩ := h
  obtain ⟨x, xs, rfl, e1, e2⟩ := evs_cons e
  refine ⟨B, ρ, A, x, R, e1, fun v H1 s1 r1 => ⟨B, ρ, A, xs, R.same s1, e2, fun vs H2 s2 r2 => ?_⟩⟩
  exact q _ _ (s1.trans s2) (.cons ((Itm.of R.al r1).same s2) r2)
theorem pN_inv {f : List D → Option D} {as : List P} {ρ : Env} {d : D} (h : pN f as ρ = some d) : ∃ xs, evs as ρ = some xs ∧ f xs = some d := by
  unfold pN at h
  cases e : evs as ρ with
  | none => rw [e] at h; cases h
  | some xs => rw [e] at h; exact ⟨xs, rfl, h⟩
theorem reps_of {w : World} {K : PySem.W.Frag} {M : Addr → Prop} {H : Hp} : ∀ {ds : List D} {vs : List V}, Paired (Rep w K M H) ds vs → Reps w K M H ds vs
  | _, _, .nil => rfl
  | _, _, .cons r t => ⟨_, _, rfl, r, reps_of t⟩
theorem paired_len {α β : Type} {F : α → β → Prop} : ∀ {l : List α} {m : List β}, Paired F l m → l.length = m.length
  | _, _, .nil => rfl
  | _, _, .cons _ t => by rw [List.length_cons, List.length_cons, paired_len t]
theorem jTup {k : Kind} {es : List Expr} {ps : List P} {x1 pos} (h : JA X .c es ps) (hk : Kind.le k .c = true := by rfl) : JP X k (.Tuple es x1 pos) (pN dTup ps) := peimp (pe_tup h) fun σ H Q h => by
  obtain ⟨B, ρ, A, d, R, e, q⟩ := h
  obtain ⟨xs, e1, e2⟩ := pN_inv e
  unfold dTup at e2
  split at e2
  · rename_i hl
    cases e2
    refine ⟨B, ρ, A, xs, R, e1, fun vs H1 s1 r1 => ⟨?_, fun p hp => ?_⟩⟩
    · rw [← paired_len r1]; exact len24_ok hl
    · have r2 := reps_of (M := mu B A) r1
      exact q _ _ (s1.trans (same_new hp)) (Res.down (k0 := .c) ⟨p, vs, rfl, SqT.of upd_same, r2.same (same_new hp)⟩ R.al hk)
  · cases e2
theorem jLst {k : Kind} {es : List Expr} {ps : List P} {pos} (h : JA X .c es ps) : JP X k (.List es pos) (pN dLst ps) := peimp (pe_lst h) fun σ H Q h => by
  obtain ⟨B, ρ, A, d, R, e, q⟩ := h
  obtain ⟨xs, e1, e2⟩ := pN_inv e
  unfold dLst at e2
  split at e2
  · rename_i hl
    cases e2
    refine ⟨B, ρ, A, xs, R, e1, fun vs H1 s1 r1 => ⟨?_, fun p hp => ?_⟩⟩
    · rw [← paired_len r1]; exact len24_ok hl
    · have r2 := reps_of (M := mu B A) r1
      exact q _ _ (s1.trans (same_new hp)) (Res.down (k0 := .f) ⟨p, vs, rfl, s1.free hp, upd_same, fresh_weak hp r2⟩ R.al (by cases k <;> rfl))
  · cases e2
/-! ### built-ins -/
theorem rCB {k k0 : Kind} {f : List D → Option D} {ps : List P} {σ : L2.St} {H : Hp} {Q : VK} {w : World} {K : PySem.W.Frag} (hk : Kind.le k k0 = true) (h : RE w K k (pN f ps) σ H Q) : tCB (cD w K k0 f) (RA w K .r ps) σ H Q := by
  obtain ⟨B, ρ, A, d, R, e, q⟩ := h
  obtain ⟨xs, e1, e2⟩ := pN_inv e
  refine ⟨B, ρ, A, xs, R, e1, fun vs H1 s1 r1 => ?_⟩
  have R1 := R.same s1
  exact ⟨mu B A, xs, d, R1.al, r1, e2, fun z H' s' rz => q z H' (s1.trans s') (Res.back s1 (Res.down rz R1.al hk))⟩
theorem jB {k k0 : Kind} {id : String} {x : Str} {f : List D → Option D} {p pos : Pos} {e : Expr} {es : List Expr} {ps : List P} (hc : CallR X (.builtin id) (cD X.w X.K k0 f)) (hm : X.mg x = none) (ha : JA X .r (e :: es) ps) (hg : Gl X x := by rfl) (hv : bootBuiltins x = some (.builtin id) := by decide +kernel)
    (hn : x ≠ "__name__" := by decide) (hdb : (x == ("__debug__" : Str)) = false := by decide)
    (he : starEach (e :: es) X.env = (false, eval e X.env) :: starEach es X.env := by rfl) (hpl : (backTo pos (starEach es X.env)).any (·.1) = false := by rfl) (hk : Kind.le k k0 = true := by rfl) : JP X k (.Call (.Name x p) (e :: es) [] pos) (pN f ps) :=
  peimp (pe_callB hc hg hm hv ha hn hdb he hpl) fun σ H Q h => rCB hk h
theorem jTy {k k0 : Kind} {id : String} {x : Str} {f : List D → Option D} {p pos : Pos} {e : Expr} {es : List Expr} {ps : List P} (hc : CallR X (.type id) (cD X.w X.K k0 f)) (hm : X.mg x = none) (ha : JA X .r (e :: es) ps) (hg : Gl X x := by rfl) (hv : bootBuiltins x = some (.type id) := by decide +kernel)
    (hn : x ≠ "__name__" := by decide) (hdb : (x == ("__debug__" : Str)) = false := by decide)
    (he : starEach (e :: es) X.env = (false, eval e X.env) :: starEach es X.env := by rfl) (hpl : (backTo pos (starEach es X.env)).any (·.1) = false := by rfl) (hk : Kind.le k k0 = true := by rfl) : JP X k (.Call (.Name x p) (e :: es) [] pos) (pN f ps) :=
  peimp (pe_callTy hc hg hm hv ha hn hdb he hpl) fun σ H Q h => rCB hk h
/-- isinstance(e, T) -/
theorem jIs {k : Kind} {T : String} {y : Str} {f : D → Bool} {p p2 pos : Pos} {e : Expr} {pe : P} (hc : CallR X (.builtin "isinstance") (rIs X.w X.K T f)) (hm : X.mg "isinstance" = none) (hmT : X.mg y = none) (he : JP X .r e pe)
    (hg : Gl X "isinstance" := by rfl) (hgT : Gl X y := by rfl) (hvT : bootBuiltins y = some (.type T) := by decide +kernel) (hnT : y ≠ "__name__" := by decide) (hdT : (y == ("__debug__" : Str)) = false := by decide)
    (hs : starEach [e, .Name y p2] X.env = (false, eval e X.env) :: starEach [.Name y p2] X.env := by rfl) (hs2 : starEach [.Name y p2] X.env = (false, eval (.Name y p2) X.env) :: starEach [] X.env := by rfl) (hpl : (backTo pos (starEach [.Name y p2] X.env)).any (·.1) = false := by rfl) :
    JP X k (.Call (.Name "isinstance" p) [e, .Name y p2] [] pos) (p1 (fun d => some (.bool (f d))) pe) :=
  peimp (pe_callB hc hg hm (by decide +kernel) (pa_cons he (pa_cons (pe_bltn (v := .ty T) hgT hmT hvT rfl hnT hdT) pa_nil hs2) hs) (by decide) (by decide) hs hpl) fun σ H Q h => by
    obtain ⟨B, ρ, A, d, R, e, q⟩ := h
    obtain ⟨x, ea, ef⟩ := p1_inv e
    cases ef
    refine ⟨B, ρ, A, x, R, ea, fun v H1 s1 r1 => ?_⟩
    exact ⟨mu B A, x, v, rfl, r1, q _ _ s1 (Res.flat (show Rep X.w X.K (mu B A) H1 (.bool (f x)) (.bl (f x)) from rfl))⟩
/-! ### tests -/
theorem tV_inv {a : P} {ρ : Env} {b : Bool} (h : tV a ρ = some b) : a ρ = some (.bool b) := by
  unfold tV at h
  cases e : a ρ with
  | none => rw [e] at h; cases h
  | some x =>
    rw [e] at h
    cases x with
    | bool c => cases h; rfl
    | _ => cases h
theorem jtVal {e : Expr} {p : P} (h : JP X .r e p) (he : ∀ whole, isTrue e X.env whole = (do let v ← whole; standAt e.pos; holding [v] (truthy v)) := by intro _; rfl) : JT X e (tV p) := ptimp (pt_val h he) fun σ H Q h => by
  obtain ⟨B, ρ, A, b, R, e, q⟩ := h
  exact ⟨B, ρ, A, _, R, tV_inv e, fun v H' s r => ⟨b, r, q H' s⟩⟩
theorem jtCmp {k0 : Kind} {op : CmpOp} {f : D → D → Option D} {a b : Expr} {pa pb : P} {pos : Pos} (ho : OpR X (compareOp op) (rD X.w X.K k0 f)) (ha : JP X .r a pa) (hb : JP X .r b pb) (hm : behindInMarks op b = false := by first | exact nomark _ | rfl) :
    JT X (.Compare a [op] [b] pos) (tV (p2 f pa pb)) := ptimp (pt_cmpR ho ha hb hm) fun σ H Q h => by
  obtain ⟨B, ρ, A, b, R, e, q⟩ := h
  exact rOp (k := .r) (k0 := k0) (by cases k0 <;> rfl) ⟨B, ρ, A, _, R, tV_inv e, fun v H' s r => ⟨b, r, q H' s⟩⟩
theorem jtNot {a : Expr} {t : T} {pos : Pos} (ha : JT X a t) : JT X (.UnaryOp .Not a pos) (tNot t) := ptimp (pt_not ha) fun σ H Q h => by
  obtain ⟨B, ρ, A, b, R, e, q⟩ := h
  unfold tNot at e
  cases z : t ρ with
  | none => rw [z] at e; cases e
  | some c => rw [z] at e; cases e; exact ⟨B, ρ, A, c, R, z, fun H' s => q H' s⟩
abbrev JW (X : Cx) (e : Expr) (t : T) : Prop := PW X e (RT X.w X.K t)
theorem jwAnd1 {a : Expr} {t : T} {pos : Pos} (ha : JT X a t) : JW X (.BoolOp .And [a] pos) t := pw_and1 ha
theorem jwOr1 {a : Expr} {t : T} {pos : Pos} (ha : JT X a t) : JW X (.BoolOp .Or [a] pos) t := pw_or1 ha
theorem jwAnd {a b : Expr} {rest : List Expr} {t u : T} {pos : Pos} (ha : JT X a t) (hb : JW X (.BoolOp .And (b :: rest) pos) u) : JW X (.BoolOp .And (a :: b :: rest) pos) (tAnd t u) := pwimp (pw_and ha hb) fun σ H Q h => by
  obtain ⟨B, ρ, A, b, R, e, q⟩ := h
  unfold L3.tAnd at e
  cases z : t ρ with
  | none => rw [z] at e; cases e
  | some c =>
    rw [z] at e
    refine ⟨B, ρ, A, c, R, z, fun H' s => ?_⟩
    cases c with
    | true => rw [if_pos rfl]; exact ⟨B, ρ, A, b, R.same s, e, fun H2 s2 => q H2 (s.trans s2)⟩
    | false => rw [if_neg (by decide)]; cases e; exact q H' s
theorem jwOr {a b : Expr} {rest : List Expr} {t u : T} {pos : Pos} (ha : JT X a t) (hb : JW X (.BoolOp .Or (b :: rest) pos) u) : JW X (.BoolOp .Or (a :: b :: rest) pos) (L3.tOr t u) := pwimp (pw_or ha hb) fun σ H Q h => by
  obtain ⟨B, ρ, A, b, R, e, q⟩ := h
  unfold L3.tOr at e
  cases z : t ρ with
  | none => rw [z] at e; cases e
  | some c =>
    rw [z] at e
    refine ⟨B, ρ, A, c, R, z, fun H' s => ?_⟩
    cases c with
    | false => rw [if_neg (by decide)]; exact ⟨B, ρ, A, b, R.same s, e, fun H2 s2 => q H2 (s.trans s2)⟩
    | true => rw [if_pos rfl]; cases e; exact q H' s
theorem jtW {e : Expr} {t : T} (h : JW X e t) : JT X e t := PW.pt h
/-! ### and, or, not as values -/
theorem pT_inv {t : T} {ρ : Env} {d : D} (h : pT t ρ = some d) : ∃ b, t ρ = some b ∧ d = .bool b := by
  unfold pT at h
  cases e : t ρ with
  | none => rw [e] at h; cases h
  | some b => rw [e] at h; cases h; exact ⟨b, rfl, rfl⟩
/-- a truth value -/
abbrev JB (X : Cx) (e : Expr) (t : T) : Prop := JP X .r e (pT t)
theorem jbOf {e : Expr} {p : P} (h : JP X .r e p) : JB X e (tV p) := peimp h fun σ H Q h => by
  obtain ⟨B, ρ, A, d, R, e, q⟩ := h
  obtain ⟨b, eb, rfl⟩ := pT_inv e
  exact ⟨B, ρ, A, _, R, tV_inv eb, q⟩
theorem jbNot {a : Expr} {t : T} {pos : Pos} (ha : JB X a t) : JB X (.UnaryOp .Not a pos) (tNot t) := peimp (pe_not ha) fun σ H Q h => by
  obtain ⟨B, ρ, A, d, R, e, q⟩ := h
  obtain ⟨b, eb, rfl⟩ := pT_inv e
  unfold tNot at eb
  cases z : t ρ with
  | none => rw [z] at eb; cases eb
  | some c =>
    rw [z] at eb; cases eb
    exact ⟨B, ρ, A, .bool c, R, by unfold pT; rw [z], fun v H' s r => ⟨c, r, q _ _ s rfl⟩⟩
theorem jbOne {a : Expr} {op} {t : T} {pos : Pos} (ha : JB X a t) : JB X (.BoolOp op [a] pos) t := pe_one ha
theorem jbAnd {a b : Expr} {rest : List Expr} {t u : T} {pos : Pos} (ha : JB X a t) (hb : JB X (.BoolOp .And (b :: rest) pos) u) : JB X (.BoolOp .And (a :: b :: rest) pos) (L3.tAnd t u) := peimp (pe_and ha hb) fun σ H Q h => by
  obtain ⟨B, ρ, A, d, R, e, q⟩ := h
  obtain ⟨b, eb, rfl⟩ := pT_inv e
  unfold L3.tAnd at eb
  cases z : t ρ with
  | none => rw [z] at eb; cases eb
  | some c =>
    rw [z] at eb
    refine ⟨B, ρ, A, .bool c, R, by unfold pT; rw [z], fun v H' s r => ⟨c, r, ?_⟩⟩
    cases c with
    | true => rw [if_pos rfl]; exact ⟨B, ρ, A, .bool b, R.same s, by unfold pT; rw [show u ρ = some b from eb], fun v2 H2 s2 r2 => q v2 H2 (s.trans s2) r2⟩
    | false => rw [if_neg (by decide)]; cases eb; exact q _ H' s rfl
theorem jbOr {a b : Expr} {rest : List Expr} {t u : T} {pos : Pos} (ha : JB X a t) (hb : JB X (.BoolOp .Or (b :: rest) pos) u) : JB X (.BoolOp .Or (a :: b :: rest) pos) (L3.tOr t u) := peimp (pe_or ha hb) fun σ H Q h => by
  obtain ⟨B, ρ, A, d, R, e, q⟩ := h
  obtain ⟨b, eb, rfl⟩ := pT_inv e
  unfold L3.tOr at eb
  cases z : t ρ with
  | none => rw [z] at eb; cases eb
  | some c =>
    rw [z] at eb
    refine ⟨B, ρ, A, .bool c, R, by unfold pT; rw [z], fun v H' s r => ⟨c, r, ?_⟩⟩
    cases c with
    | false => rw [if_neg (by decide)]; exact ⟨B, ρ, A, .bool b, R.same s, by unfold pT; rw [show u ρ = some b from eb], fun v2 H2 s2 r2 => q v2 H2 (s.trans s2) r2⟩
    | true => rw [if_pos rfl]; cases eb; exact q _ H' s rfl
theorem jbV {k : Kind} {e : Expr} {t : T} (h : JB X e t) : JP X k e (pT t) := peimp h fun σ H Q h => by
  obtain ⟨B, ρ, A, d, R, e, q⟩ := h
  obtain ⟨b, eb, rfl⟩ := pT_inv e
  exact ⟨B, ρ, A, _, R, e, fun v H' s r => q v H' s (Res.flat (show Rep X.w X.K (mu B A) H' (.bool b) v from r))⟩
theorem jIf {k : Kind} {c a b : Expr} {t : T} {pa pb : P} {pos : Pos} (hc : JT X c t) (ha : JP X k a pa) (hb : JP X k b pb) : JP X k (.IfExp c a b pos) (pIf t pa pb) := peimp (pe_ifExp hc ha hb) fun σ H Q h => by
  obtain ⟨B, ρ, A, d, R, e, q⟩ := h
  unfold pIf at e
  cases z : t ρ with
  | none => rw [z] at e; cases e
  | some c =>
    rw [z] at e
    refine ⟨B, ρ, A, c, R, z, fun H' s => ?_⟩
    cases c with
    | true => rw [if_pos rfl]; exact ⟨B, ρ, A, d, R.same s, e, fun v H2 s2 r => q v H2 (s.trans s2) (Res.back s r)⟩
    | false => rw [if_neg (by decide)]; exact ⟨B, ρ, A, d, R.same s, e, fun v H2 s2 r => q v H2 (s.trans s2) (Res.back s r)⟩
end
end L3
/-! More expressions: chains, slices, starred displays, calls of defs with values. -/
namespace L3
open PySem PySem.Spec PyProof.Rows L2
section
variable {X : Cx}
theorem pChain_inv {f g : D → D → Option D} {a b c : P} {ρ : Env} {d : D} (h : pChain f g a b c ρ = some d) : ∃ x y k, a ρ = some x ∧ b ρ = some y ∧ f x y = some (.bool k) ∧ (if k = true then ∃ z, c ρ = some z ∧ g y z = some d else d = .bool false) := by
  unfold pChain at h
  cases e : a ρ with
  | none => rw [e] at h; cases h
  | some x =>
    cases e2 : b ρ with
    | none => rw [e, e2] at h; cases h
    | some y =>
      rw [e, e2] at h
      dsimp only at h
      cases e3 : f x y with
      | none => rw [e3] at h; cases h
      | some r =>
        rw [e3] at h
        cases r with
        | bool k =>
          cases k with
          | true =>
            refine ⟨x, y, true, rfl, rfl, e3, ?_⟩
            rw [if_pos rfl]
            cases e4 : c ρ with
            | none => rw [e4] at h; cases h
            | some z => rw [e4] at h; exact ⟨z, rfl, h⟩
          | false => cases h; exact ⟨x, y, false, rfl, rfl, e3, by rw [if_neg (by decide)]⟩
        | _ => cases h
theorem rChain {f g : D → D → Option D} {k0 k1 : Kind} {pa pb pc : P} {σ : L2.St} {H : Hp} {Q : VK} {w : World} {K : PySem.W.Frag} (h : RE w K .r (pChain f g pa pb pc) σ H Q) : tChain (rD w K k0 f) (rD w K k1 g) (RE w K .r pa) (RE w K .r pb) (RE w K .r pc) σ H Q := by
  obtain ⟨B, ρ, A, d, R, e, q⟩ := h
  obtain ⟨x, y, k, ea, eb, ef, ek⟩ := pChain_inv e
  refine ⟨B, ρ, A, x, R, ea, fun v H1 s1 r1 => ⟨B, ρ, A, y, R.same s1, eb, fun u H2 s2 r2 => ?_⟩⟩
  have R2 := (R.same s1).same s2
  refine ⟨mu B A, x, y, _, R2.al, Rd1.same s2 r1, r2, ef, fun z H3 s3 rz => ⟨k, ?_, ?_⟩⟩
  · cases k0 <;> exact rz
  · cases k with
    | true =>
      rw [if_pos rfl] at ek ⊢
      obtain ⟨z', ec, eg⟩ := ek
      refine ⟨B, ρ, A, z', R2.same s3, ec, fun t H4 s4 r4 => ?_⟩
      have R4 := (R2.same s3).same s4
      exact ⟨mu B A, y, z', d, R4.al, Rd1.same s4 (Rd1.same s3 r2), r4, eg, fun t2 H5 s5 r5 => q t2 H5 (((s1.trans s2).trans s3).trans (s4.trans s5)) (Res.rd1 r5 R4.al)⟩
    | false =>
      rw [if_neg (by decide)] at ek ⊢
      subst ek
      exact q _ _ ((s1.trans s2).trans s3) rfl
theorem jChain {k : Kind} {k0 k1 : Kind} {op op' : CmpOp} {f g : D → D → Option D} {a b c : Expr} {pa pb pc : P} {pos : Pos} (ho : OpR X (compareOp op) (rD X.w X.K k0 f)) (ho' : OpR X (compareOp op') (rD X.w X.K k1 g)) (ha : JP X .r a pa) (hb : JP X .r b pb) (hc : JP X .r c pc)
    (hm : lastMarks [op, op'] [b, c] = false := by with_unfolding_all rfl) : JP X .r (.Compare a [op, op'] [b, c] pos) (pChain f g pa pb pc) := peimp (pe_chain ho ho' ha hb hc hm) fun σ H Q h => rChain h
theorem jtChain {k0 k1 : Kind} {op op' : CmpOp} {f g : D → D → Option D} {a b c : Expr} {pa pb pc : P} {pos : Pos} (ho : OpR X (compareOp op) (rD X.w X.K k0 f)) (ho' : OpR X (compareOp op') (rD X.w X.K k1 g)) (ha : JP X .r a pa) (hb : JP X .r b pb) (hc : JP X .r c pc)
    (hm : lastMarks [op, op'] [b, c] = false := by with_unfolding_all rfl) : JT X (.Compare a [op, op'] [b, c] pos) (tV (pChain f g pa pb pc)) := ptimp (pt_chain ho ho' ha hb hc hm) fun σ H Q h => by
  obtain ⟨B, ρ, A, b, R, e, q⟩ := h
  exact rChain ⟨B, ρ, A, _, R, tV_inv e, fun v H' s r => ⟨b, r, q H' s⟩⟩
/-! ### slices -/
def RO (w : World) (K : PySem.W.Frag) (o : Option P) : TO := fun σ H Q => ∃ B ρ A i, Rel w K B ρ σ A H ∧ pO o ρ = some i ∧ ∀ H', Same H H' → Q i H'
theorem poNone : PO X none (RO X.w X.K none) := ⟨fun pins s σ H Q I h => by
  obtain ⟨B, ρ, A, i, R, e, q⟩ := h
  cases e
  exact po_none.run pins s σ H Q I (q H (Same.refl H))⟩
theorem poSome {e : Expr} {p : P} (h : JP X .r e p) : PO X (some e) (RO X.w X.K (some p)) := ⟨fun pins s σ H Q I hq => by
  obtain ⟨B, ρ, A, i, R, e, q⟩ := hq
  cases z : p ρ with
  | none => simp only [pO, z] at e; cases e
  | some d =>
    simp only [pO, z] at e
    cases d with
    | int n => cases e; exact (po_some h).run pins s σ H Q I ⟨B, ρ, A, _, R, z, fun v H' s' r => ⟨n, r, q H' s'⟩⟩
    | _ => cases e⟩
theorem reps_cut {w : World} {K : PySem.W.Frag} {M : Addr → Prop} {H : Hp} {xs : List D} {vs : List V} (h : Reps w K M H xs vs) (lo hi : Option Int) : Reps w K M H (cutD xs lo hi) (cutV vs lo hi) := by
  unfold cutD cutV
  rw [h.length]
  exact (h.drop _).take _
theorem jCut {k : Kind} {e : Expr} {lo hi : Option Expr} {p : P} {l h : Option P} {pos p2 : Pos} (he : JP X .r e p) (hl : PO X lo (RO X.w X.K l)) (hh : PO X hi (RO X.w X.K h)) : JP X k (.Subscript e (.Slice lo hi none p2) pos) (pCut p l h) :=
  peimp (pe_slice (sl_list.or sl_tupA) he hl hh) fun σ H Q q' => by
    obtain ⟨B, ρ, A, d, R, e, q⟩ := q'
    unfold pCut at e
    cases e1 : p ρ with
    | none => rw [e1] at e; cases e
    | some x =>
      cases e2 : pO l ρ with
      | none => rw [e1, e2] at e; cases e
      | some i =>
        cases e3 : pO h ρ with
        | none => rw [e1, e2, e3] at e; cases e
        | some j =>
          rw [e1, e2, e3] at e
          refine ⟨B, ρ, A, x, R, e1, fun v H1 s1 r1 => ⟨B, ρ, A, i, R.same s1, e2, fun H2 s2 => ⟨B, ρ, A, j, (R.same s1).same s2, e3, fun H3 s3 => ?_⟩⟩⟩
          have r3 := Rd1.same s3 (Rd1.same s2 r1)
          have R3 := ((R.same s1).same s2).same s3
          have s03 := (s1.trans s2).trans s3
          cases x with
          | list xs =>
            cases e
            obtain ⟨a, vs, e4, k1, k2⟩ := r3
            exact .inl ⟨a, vs, e4, SqL.of k1, fun p hp => q _ _ (s03.trans (same_new hp)) (Res.back s03 (Res.down (k0 := .f) ⟨p, _, rfl, hp, upd_same, fresh_weak hp (reps_cut k2 i j)⟩ R3.al (by cases k <;> rfl)))⟩
          | tuple xs =>
            cases e
            obtain ⟨a, vs, e4, k1, k2⟩ := r3
            have hlen := k2.length
            refine .inr ⟨a, vs, e4, k1, fun hz => ?_, fun hz p hp => ?_⟩
            · refine q _ _ s03 (Res.back s03 (Res.down (k0 := .f) (show New1 X.w X.K (mu B A) H3 H3 (.tuple (cutD xs i j)) (.ref a) from ⟨a, vs, rfl, k1, ?_⟩) R3.al (by cases k <;> rfl)))
              have : cutD xs i j = xs := by
                unfold cutD
                rw [hlen] at hz
                rw [hz.1, hz.2, List.drop_zero, Nat.sub_zero, List.take_length]
              rw [this]
              exact k2
            · exact q _ _ (s03.trans (same_new hp)) (Res.back s03 (Res.down (k0 := .f) (show New1 X.w X.K (mu B A) H3 _ (.tuple (cutD xs i j)) (.ref p) from ⟨p, _, rfl, SqT.of upd_same, (reps_cut k2 i j).same (same_new hp)⟩) R3.al (by cases k <;> rfl)))
          | _ => cases e
/-! ### starred displays -/
def RS (w : World) (K : PySem.W.Frag) (ps : List (Bool × P)) : L2.TA := fun σ H Q => ∃ B ρ A ds, Rel w K B ρ σ A H ∧ evsS ps ρ = some ds ∧ ∀ vs H', Same H H' → Reps w K (mu B A) H' ds vs → Q vs H'
abbrev JS (X : Cx) (es : List Expr) (ps : List (Bool × P)) : Prop := PA X es (RS X.w X.K ps)
theorem jsNil : JS X [] [] := paimp pa_nil fun σ H Q h => by
  obtain ⟨B, ρ, A, ds, R, e, q⟩ := h
  cases e
  exact q _ _ (Same.refl H) rfl
theorem jsCons {e : Expr} {es : List Expr} {p : P} {ps : List (Bool × P)} (ha : JP X .c e p) (hr : JS X es ps) (hs : starEach (e :: es) X.env = (false, eval e X.env) :: starEach es X.env := by rfl) : JS X (e :: es) ((false, p) :: ps) := paimp (pa_cons ha hr hs) fun σ H Q h => by
  obtain ⟨B, ρ, A, ds, R, e, q⟩ := h
  rw [evsS] at e
  cases e1 : p ρ with
  | none => rw [e1] at e; cases e
  | some x =>
    cases e2 : evsS ps ρ with
    | none => rw [e1, e2] at e; cases e
    | some xs =>
      rw [e1, e2] at e; cases e
      exact ⟨B, ρ, A, x, R, e1, fun v H1 s1 r1 => ⟨B, ρ, A, xs, R.same s1, e2, fun vs H2 s2 r2 => q _ _ (s1.trans s2) ⟨v, vs, rfl, Rep.same s2 r1, r2⟩⟩⟩
theorem jsStar {e : Expr} {es : List Expr} {p : P} {ps : List (Bool × P)} {pos' : Pos} (ha : JP X .r e p) (hr : JS X es ps) (hs : starEach (.Starred e pos' :: es) X.env = (true, eval e X.env) :: starEach es X.env := by rfl) : JS X (.Starred e pos' :: es) ((true, p) :: ps) := by
  refine ⟨fun pos pins s σ H Q I h => ?_⟩
  obtain ⟨B, ρ, A, ds, R, e, q⟩ := h
  rw [evsS] at e
  cases e1 : p ρ with
  | none => rw [e1] at e; cases e
  | some x =>
    cases e0 : seqOf x with
    | none => rw [e1] at e; simp only [e0] at e; cases e
    | some ys =>
      cases e2 : evsS ps ρ with
      | none => rw [e1] at e; simp only [e0, e2] at e; cases e
      | some xs =>
        rw [e1] at e; simp only [e0, e2] at e; cases e
        rw [hs]
        show wpAny _ _ (spliced ((true, (do let v ← eval _ X.env; standAt pos; pure v)) :: backTo pos (starEach es X.env))) _ _ s
        refine PySem.W.ks_spliced (thn (ha.run pins s σ H (fun v H1 => Same H H1 ∧ Rd1 X.w X.K (mu B A) H1 x v) I ⟨B, ρ, A, x, R, e1, fun v H1 s1 r1 => ⟨s1, r1⟩⟩) fun u s1 ⟨v, H1, I1, rv, s1', r1⟩ => ?_)
        obtain ⟨a, vs, ev, hq, rp⟩ := Rd1.seq r1 e0
        subst ev
        cases rv
        refine StX.star_any I1 (hq.symm) fun us s2 I2 rus => ?_
        refine thn (hr.run pos pins s2 σ H1 (fun ws H2 => Same H1 H2 ∧ Reps X.w X.K (mu B A) H2 xs ws) I2 ⟨B, ρ, A, xs, R.same s1', e2, fun ws H2 s2 r2 => ⟨s2, r2⟩⟩) fun zs s3 ⟨ws, H2, I3, rz, s2', r2⟩ => ?_
        exact ⟨vs ++ ws, H2, I3, rus.append rz, q _ _ (s1'.trans s2') ((rp.same s2').append r2)⟩
theorem pNS_inv {f : List D → Option D} {as : List (Bool × P)} {ρ : Env} {d : D} (h : pNS f as ρ = some d) : ∃ xs, evsS as ρ = some xs ∧ f xs = some d := by
  unfold pNS at h
  cases e : evsS as ρ with
  | none => rw [e] at h; cases h
  | some xs => rw [e] at h; exact ⟨xs, rfl, h⟩
theorem jTupS {k : Kind} {es : List Expr} {ps : List (Bool × P)} {x1 pos} (h : JS X es ps) (hk : Kind.le k .c = true := by rfl) : JP X k (.Tuple es x1 pos) (pNS dTup ps) := peimp (pe_tup h) fun σ H Q h => by
  obtain ⟨B, ρ, A, d, R, e, q⟩ := h
  obtain ⟨xs, e1, e2⟩ := pNS_inv e
  unfold dTup at e2
  split at e2
  · rename_i hl
    cases e2
    refine ⟨B, ρ, A, xs, R, e1, fun vs H1 s1 r1 => ⟨?_, fun p hp => ?_⟩⟩
    · rw [r1.length]; exact len24_ok hl
    · exact q _ _ (s1.trans (same_new hp)) (Res.down (k0 := .c) ⟨p, vs, rfl, SqT.of upd_same, r1.same (same_new hp)⟩ R.al hk)
  · cases e2
theorem jLstS {k : Kind} {es : List Expr} {ps : List (Bool × P)} {pos} (h : JS X es ps) : JP X k (.List es pos) (pNS dLst ps) := peimp (pe_lst h) fun σ H Q h => by
  obtain ⟨B, ρ, A, d, R, e, q⟩ := h
  obtain ⟨xs, e1, e2⟩ := pNS_inv e
  unfold dLst at e2
  split at e2
  · rename_i hl
    cases e2
    refine ⟨B, ρ, A, xs, R, e1, fun vs H1 s1 r1 => ⟨?_, fun p hp => ?_⟩⟩
    · rw [r1.length]; exact len24_ok hl
    · exact q _ _ (s1.trans (same_new hp)) (Res.down (k0 := .f) ⟨p, vs, rfl, s1.free hp, upd_same, fresh_weak hp r1⟩ R.al (by cases k <;> rfl))
  · cases e2
/-! ### list * int -/
theorem oRep : OpR X (binaryOp .Mult) (rD X.w X.K .f dRep) := by
  have h0 : OpR X (binaryOp .Mult) (fun x y H Q => ∃ l k xs, x = .ref l ∧ y = .int k ∧ Rd H l (.lst xs) ∧ -(2 ^ 63) ≤ k ∧ k < 2 ^ 63 ∧ xs.length * k.toNat ≤ sizeLine ∧ ∀ p, H p = none → Q (.ref p) (upd H p (.lst (List.replicate k.toNat xs).flatten))) := by
    intro pins s σ H x y v u Q I rx ry h
    obtain ⟨l, k, xs, rfl, rfl, hH, h1, h2, hz, q⟩ := h
    cases rx
    obtain ⟨t, rfl⟩ := ry
    obtain ⟨its, n, r, e, z⟩ := rd_lst I hH
    have hl := r.length
    have a1 : its.toArray.size * k.toNat ≤ sizeLine := by rw [List.size_toArray, ← hl]; exact hz
    have a2 : ¬ its.toArray.size * k.toNat > (2 ^ 63 - 1) / 8 := by
      have : (sizeLine : Nat) ≤ (2 ^ 63 - 1) / 8 := by decide
      omega
    have a3 : ¬ (!Builtin.List.listFitsIndex k) = true := by
      rw [fitsIndex_both h1 h2]
      decide
    have a4 : ¬ Builtin.List.listTooLong (its.toArray.size * k.toNat) = true := by
      rw [notLongL a1]
      decide
    have a5 : List.foldl (fun x1 x2 => x1 ++ x2) #[] (List.replicate (if its.toArray.isEmpty = true then 0 else k.toNat) its.toArray) = (List.replicate k.toNat its).flatten.toArray := by
      rw [size_rep]
      cases its with
      | nil => simp
      | cons a r' => rw [if_neg (by simp)]
    refine wpAny_binaryOp_repeat_ref (T := "list") (U := "int") (by decide) ⟨_, e, rfl⟩ (fun s' => typeIs_int s' k t) noFill_list_mul F.fills_int_mul F.slot_int_rmul repeat_list F.slot_int_index.lookup
      (call_meets F.slot_int_rmul (typeIs_int s k t) F.entry_int_rmul (F.args_int_rmul_2 _ _) (int___rmul___int_list k t l its.toArray n)
        ⟨e, rfl, ⟨_, e, rfl⟩, call_meets F.slot_list_mul ⟨_, e, rfl⟩ F.entry_list_mul (F.args_list_mul_2 _ _) (AutoListH.list___mul___list_int_3 l its.toArray n k t a3 a2 a4) ⟨e, ?_⟩⟩)
    rw [a5]
    exact ⟨.ref _, _, I.lnew (t' := s.toks) (r.rep k.toNat) (by rw [PyProof.Rows.lm_len_rep_flat, Nat.mul_comm]; exact hz), rfl, q _ I.fresh⟩
  refine oimp h0 fun x y H Q h => ?_
  obtain ⟨M, dx, dy, d, al, hx, hy, e, q⟩ := h
  cases dx with
  | list xs =>
    cases dy with
    | int k =>
      simp only [dRep] at e
      split at e
      · rename_i hc
        cases e
        rw [Bool.and_eq_true, decide_eq_true_eq] at hc
        obtain ⟨a, vs, e1, h1, h2⟩ := hx
        refine ⟨a, k, vs, e1, hy, .inl h1, by omega, by omega, by rw [h2.length]; exact len24_ok hc.2, fun p hp => ?_⟩
        exact q _ _ (same_new hp) ⟨p, _, rfl, hp, upd_same, fresh_weak hp (h2.replicate k.toNat)⟩
      · cases e
    | _ => cases e
  | _ => cases e
/-- xs[::-1] of a list -/
theorem jRevL {k : Kind} {e : Expr} {p : P} {kk : Nat} {q1 q2 q3 pos : Pos} (he : JP X .r e p) : JP X k (.Subscript e (.Slice none none (some (.UnaryOp .USub (.Constant (.int 1) kk q1) q2)) q3) pos) (p1 dRevL p) :=
  peimp (pe_revL he) fun σ H Q h => by
    obtain ⟨B, ρ, A, d, R, e, q⟩ := h
    obtain ⟨x, ea, ef⟩ := p1_inv e
    refine ⟨B, ρ, A, x, R, ea, fun v H1 s1 r1 => ?_⟩
    cases x with
    | list xs =>
      cases ef
      obtain ⟨a, vs, e1, h1, h2⟩ := r1
      refine ⟨a, vs, e1, SqL.of h1, fun p hp => q _ _ (s1.trans (same_new hp)) (Res.back s1 (Res.down (k0 := .f) ⟨p, _, rfl, hp, upd_same, fresh_weak hp h2.reverse⟩ (R.same s1).al (by cases k <;> rfl)))⟩
    | _ => cases ef
/-! ### t[::-1] of a tuple -/
theorem rev_places (n : Nat) : Builtin.Slice.sliceAdjust none none (-1) (n : Int) = ((n : Int) - 1, -1) ∧ Builtin.Slice.slicePlaces ((n : Int) - 1) (-1) (-1) = n := by
  refine ⟨rfl, ?_⟩
  unfold Builtin.Slice.slicePlaces
  rw [if_neg (by decide)]
  by_cases h : (n : Int) - 1 > -1
  · rw [if_pos h, show (- -1 : Int) = 1 by decide, Int.ediv_one]
    omega
  · rw [if_neg h]
    omega
theorem revT_pick (items : Array Value) : ((List.range items.size).filterMap fun (m : Nat) => items[((items.size : Int) - 1 + (m : Int) * (-1)).toNat]?).toArray = items.toList.reverse.toArray := by
  have := PySem.W.krv_pick items
  rw [← this]
  unfold slicePick
  rw [PySem.W.krv_bounds]
  congr 1
  show _ = (sliceRange ((items.size : Int) - 1) (-1) (-1)).filterMap (items[·]?)
  rw [PySem.W.krv_sliceRange, List.filterMap_map]
  have go : ∀ l : List Nat, l.filterMap (fun (m : Nat) => items[((items.size : Int) - 1 + (m : Int) * (-1)).toNat]?) = l.filterMap ((fun x => items[x]?) ∘ fun k => items.size - 1 - k) := fun l => by
    induction l with
    | nil => rfl
    | cons a l ih =>
      simp only [List.filterMap_cons, Function.comp]
      rw [show ((items.size : Int) - 1 + (a : Int) * (-1)).toNat = items.size - 1 - a by omega]
      rw [ih]
  exact go _
theorem revT_item {prog : Program} {w : World} {A : Around} {E : Value → Shared → Prop} {s : Shared} {t sl : Addr} {items : Array Value} {vk : Value} {Q : Value → Shared → Prop} (ht : IsTup s.heap t items) (hs : s.heap.IsSliceOf sl .none .none vk) (ps : IsPart vk (some (-1)))
    (h : Q (.ref s.heap.objs.size) { s with heap := s.heap.push { cls := .type "tuple", data := .seq items.toList.reverse.toArray } }) (hsz : items.size ≤ sizeLine) : wpAny (model prog w) A (getItem (.ref t) (.ref sl)) Q E s := by
  have hok : sizeOk (.seq items.toList.reverse.toArray) := by
    show items.toList.reverse.toArray.size ≤ sizeLine
    simpa using hsz
  obtain ⟨os, hos, hcs, hds⟩ := id hs
  have hTs : s.TypeIs (.ref sl) "slice" := ⟨os, hos, hcs⟩
  unfold getItem
  try with_reducible refine wpAny_holding ?_
  first | refine wpAny_bind (wpAny_pure ?_) | skip
  refine wpAny_bind (wpAny_sequenceKey ht.typeIs (by decide) ?_)
  refine wpAny_bind (wpAny_callSpecial?_slot (name := Str.ofString "__getitem__") ht.typeIs PyProof.Rows.slot_tuple_getitem
    (wpAny_call_entry PyProof.Rows.slot_tuple_getitem ht.typeIs PyProof.Rows.entry_tuple_getitem ?_ (PyProof.Rows.args_tuple_getitem _ _)))
  show wpAny _ _ (Builtin.Tuple.tupleItemsOf (.ref t) >>= _) _ _ s
  refine wpAny_bind (tupleItemsOf_ ht ?_)
  refine wpAny_bind (wpAny_typeOf hTs ?_)
  rw [if_pos (by decide)]
  have sa : ∀ {Q' : Int × Int × Nat → Shared → Prop}, Q' ((items.size : Int) - 1, -1, items.size) s → wpAny (model prog w) A.in1 (Builtin.Slice.sliceApplied (.ref sl) (pure (items.size : Int))) Q' E s := fun {Q'} hq => by
    unfold Builtin.Slice.sliceApplied Builtin.Slice.sliceFields
    refine wpAny_bind (wpAny_bind (wpAny_field hos hds (x := .none) rfl (wpAny_bind (wpAny_field hos hds (x := .none) rfl (wpAny_bind (wpAny_field hos hds (x := vk) rfl (wpAny_pure ?_)))))))
    refine wpAny_bind (HT.slicePart_ ps ?_)
    show wpAny _ _ (if ((-1 : Int) == 0) = true then _ else _) _ _ s
    rw [if_neg (by decide)]
    refine wpAny_bind (slicePart_none (wpAny_bind (slicePart_none (wpAny_bind (wpAny_pure ?_)))))
    show wpAny _ _ (match Builtin.Slice.sliceAdjust none none (-1) (items.size : Int) with | (lo, hi) => pure (lo, (-1 : Int), Builtin.Slice.slicePlaces lo hi (-1))) _ _ s
    rw [(rev_places items.size).1]
    show wpAny _ _ (pure ((items.size : Int) - 1, (-1 : Int), Builtin.Slice.slicePlaces ((items.size : Int) - 1) (-1) (-1))) _ _ s
    rw [(rev_places items.size).2]
    exact wpAny_pure hq
  refine wpAny_bind (sa ?_)
  show wpAny _ _ (if (((items.size : Int) - 1) == 0 && (-1 : Int) == 1 && items.size == items.size) = true then _ else _) _ _ s
  rw [if_neg (by rw [show ((-1 : Int) == 1) = false from rfl, Bool.and_false, Bool.false_and]; decide), revT_pick]
  first
    | exact wpAny_bind (m := Builtin.Tuple.tupleExact _) (wpAny_newObj_type (wpAny_pure ⟨_, rfl, wpAny_pure h⟩) hok)
    | exact wpAny_bind (m := Builtin.Tuple.tupleExact _) (wpAny_newObj_type (wpAny_bind (wpAny_pure (wpAny_pure ⟨_, rfl, wpAny_pure h⟩))) hok)
    | exact wpAny_bind (wpAny_bind (m := Builtin.Tuple.tupleExact _) (wpAny_newObj_type (wpAny_pure (wpAny_pure ⟨_, rfl, wpAny_pure h⟩)) hok))
    | exact wpAny_bind (wpAny_bind (m := Builtin.Tuple.tupleExact _) (wpAny_newObj_type (wpAny_pure ⟨_, rfl, wpAny_pure h⟩) hok))
theorem pe_revT {e : Expr} {te : L2.TE} {k : Nat} {p1 p2 p3 pos : Pos} (he : PE X e te) : PE X (.Subscript e (.Slice none none (some (.UnaryOp .USub (.Constant (.int 1) k p1) p2)) p3) pos)
    (fun σ H Q => te σ H fun x H1 => ∃ a xs, x = .ref a ∧ SqT X.K H1 a xs ∧ ∀ p, H1 p = none → Q (.ref p) (upd H1 p (.tup xs.reverse))) := by
  refine ⟨fun pins s σ H Q I h => ?_⟩
  refine Subscript_ (thn (he.run pins s σ H _ I h) fun v s1 ⟨x, H1, I1, r1, a, xs, ex, hx, q⟩ => ?_)
  subst ex
  cases r1
  have hst : PO X (some (.UnaryOp .USub (.Constant (.int 1) k p1) p2)) (tPart (tUn (rU fun i => .int (-i)) (tC (.int 1)))) := po_some (pe_un un_neg pe_int)
  refine wpAny_Slice (thn (po_none.run pins s1 σ H1 (fun o H2 => o = none ∧ H2 = H1) I1 ⟨rfl, rfl⟩) fun vl s2 ⟨l, H2, I2, pl, el, e2⟩ => ?_)
  subst el e2
  refine thn (po_none.run pins s2 σ H2 (fun o H3 => o = none ∧ H3 = H2) I2 ⟨rfl, rfl⟩) fun vu s3 ⟨u, H3, I3, pu, eu, e3⟩ => ?_
  subst eu e3
  refine thn (hst.run pins s3 σ H3 (fun o H4 => o = some (-1) ∧ H4 = H3) I3 ⟨1, rfl, -1, rfl, rfl, rfl⟩) fun vs s4 ⟨o, H4, I4, ps, eo, e4⟩ => ?_
  subst eo e4
  cases pl
  cases pu
  have I5 : Inv X pins σ H4 { s4 with heap := s4.heap.push { cls := .type "slice", data := .fields #[.none, .none, vs] } } := I4.kept (t' := s4.toks) fun b ob q => Heap.get?_push_of_some _ q
  obtain ⟨its, r, ht, hz⟩ := I5.tuple hx
  have hlen := r.length
  refine tail_any (ops := [.ref a, .ref s4.heap.objs.size]) ht.typeIs PyProof.Rows.slot_tuple_getitem.lookup ?_ (by with_unfolding_all rfl)
  refine revT_item ht (Heap.IsSliceOf.new _ .none .none vs) ps ?_ (by rw [List.size_toArray]; omega)
  refine ⟨.ref _, _, I5.laid (t' := s4.toks) (o := .tup xs.reverse) (fun b ob q => Heap.get?_push_of_some _ q) (Nat.le_refl _) ?_, rfl, q _ (I5.hok.fresh (Nat.le_refl _))⟩
  exact ⟨by rw [List.length_reverse]; exact hz, its.reverse, r.reverse, IsTup.new _ _⟩
theorem jRevT {k : Kind} {e : Expr} {p : P} {kk : Nat} {q1 q2 q3 pos : Pos} (he : JP X .r e p) (hk : Kind.le k .c = true := by rfl) : JP X k (.Subscript e (.Slice none none (some (.UnaryOp .USub (.Constant (.int 1) kk q1) q2)) q3) pos) (p1 dRevT p) :=
  peimp (pe_revT he) fun σ H Q h => by
    obtain ⟨B, ρ, A, d, R, e, q⟩ := h
    obtain ⟨x, ea, ef⟩ := p1_inv e
    refine ⟨B, ρ, A, x, R, ea, fun v H1 s1 r1 => ?_⟩
    cases x with
    | tuple xs =>
      cases ef
      obtain ⟨a, vs, e1, h1, h2⟩ := r1
      exact ⟨a, vs, e1, h1, fun p hp => q _ _ (s1.trans (same_new hp)) (Res.down (k0 := .c) ⟨p, _, rfl, SqT.of upd_same, h2.reverse.same (same_new hp)⟩ R.al hk)⟩
    | _ => cases ef
end
end L3
/-! Effects: what changes owned things; defs and their calls. -/
namespace L3
open PySem PySem.Spec PyProof.Rows L2
section
variable {w : World} {K : PySem.W.Frag} {B : Addr → Prop} {ρ ρ1 ρ2 : Env} {σ σ1 σ2 : L2.St} {A A' A1 A2 : Nat → List Addr} {H H' H1 H2 : Hp} {c : Cell} {d : D} {v : V}
theorem ResC.item (h : ResC w K B ρ1 σ1 A A' H H' c v) (e : c.toD = some d) : Rep w K (mu B A') H' d v := by
  cases c with
  | un => cases e
  | scr ns => cases e
  | val x => cases e; exact h
  | own fx o =>
    obtain ⟨_, as, ok, hn, _⟩ := h
    cases o with
    | lst xs =>
      cases e
      obtain ⟨a, vs, e1, e2, h1, h2⟩ := ok
      exact ⟨a, vs, e1, (hn a (by simp [e2])).1, h1, h2.weak fun _ m => .inl m⟩
    | dic xs =>
      cases e
      obtain ⟨a, vs, e1, e2, h1, h2, nd⟩ := ok
      exact ⟨a, vs, e1, (hn a (by simp [e2])).1, h1, h2.weak fun _ m => .inl m, nd⟩
    | src s => cases e
theorem ResC.of {k : Kind} (R : Rel w K B ρ σ A H) (S : Step w K B ρ σ A H ρ1 σ1 A1 H1) (s : Same H1 H2) (h : Res w K k (mu B A1) H1 H2 d v) (hk : k ≠ .r) : ResC w K B ρ1 σ1 A A1 H H2 (cellOf k d) v := by
  have fr : ∀ a, H1 a = none → (∃ j, a ∈ A j) ∨ H a = none := fun a n => by
    by_cases q : ∃ j, a ∈ A j
    · exact .inl q
    · refine .inr ?_
      cases e : H a with
      | none => rfl
      | some o => rw [S.ext.keep a o e q] at n; cases n
  cases k with
  | r => exact absurd rfl hk
  | c => exact h
  | f =>
    have hr := New1.rep h S.rel.al
    cases d with
    | list xs =>
      obtain ⟨a, vs, e, n, h1, h2⟩ := h
      refine ⟨rfl, [a], ⟨a, vs, e, rfl, h1, h2.weak fun x m => m.imp id fun z => List.mem_singleton.mp z⟩, fun x hx => ?_, S.rel.protect s fun x hx => ?_⟩
      · obtain rfl := List.mem_singleton.mp hx
        exact ⟨fun m => S.rel.al x m n, fr x n⟩
      · obtain rfl := List.mem_singleton.mp hx
        exact ⟨n, by rw [h1]; simp⟩
    | dict xs =>
      obtain ⟨a, vs, e, n, h1, h2, nd⟩ := h
      refine ⟨rfl, [a], ⟨a, vs, e, rfl, h1, h2.weak fun x m => m.imp id fun z => List.mem_singleton.mp z, nd⟩, fun x hx => ?_, S.rel.protect s fun x hx => ?_⟩
      · obtain rfl := List.mem_singleton.mp hx
        exact ⟨fun m => S.rel.al x m n, fr x n⟩
      · obtain rfl := List.mem_singleton.mp hx
        exact ⟨n, by rw [h1.2.2]; simp⟩
    | none => exact hr
    | bool b => exact hr
    | int b => exact hr
    | str b => exact hr
    | tuple b => exact hr
theorem Step.more (R : Rel w K B ρ σ A H) (S : Step w K B ρ σ A H ρ1 σ1 A1 H1) (s : Same H1 H2) : Step w K B ρ σ A H ρ1 σ1 A1 H2 := S.trans R (Step.same s S.rel)
/-- a result over more steps ahead of it -/
theorem ResC.ahead (R : Rel w K B ρ σ A H) (S : Step w K B ρ σ A H ρ1 σ1 A1 H1) (h : ResC w K B ρ2 σ2 A1 A2 H1 H2 c v) : ResC w K B ρ2 σ2 A A2 H H2 c v := by
  cases c with
  | un => exact h
  | scr ns => exact h
  | val x => exact h
  | own fx o =>
    obtain ⟨e, as, ok, hn, rr⟩ := h
    refine ⟨e, as, ok, fun x hx => ⟨(hn x hx).1, ?_⟩, rr⟩
    rcases (hn x hx).2 with ⟨j, z⟩ | z
    · exact S.sub j x z
    · by_cases q : ∃ j, x ∈ A j
      · exact .inl q
      · refine .inr ?_
        cases e : H x with
        | none => rfl
        | some o => rw [S.ext.keep x o e q] at z; cases z
end
def REf (w : World) (K : PySem.W.Frag) (f : E) : L2.TE := fun σ H Q => ∃ B ρ A ρ' c, Rel w K B ρ σ A H ∧ f ρ = some (ρ', c) ∧ ∀ v A' H', Step w K B ρ σ A H ρ' σ A' H' → ResC w K B ρ' σ A A' H H' c v → Q v H'
abbrev J (X : Cx) (e : Expr) (f : E) : Prop := PE X e (REf X.w X.K f)
def RTe (w : World) (K : PySem.W.Frag) (t : TE') : TT := fun σ H Q => ∃ B ρ A ρ' b, Rel w K B ρ σ A H ∧ t ρ = some (ρ', b) ∧ ∀ A' H', Step w K B ρ σ A H ρ' σ A' H' → Q b H'
abbrev JTe (X : Cx) (e : Expr) (t : TE') : Prop := PT X e (RTe X.w X.K t)
section
variable {X : Cx}
theorem jP {e : Expr} {p : P} (h : JP X .c e p) : J X e (eP p) := peimp h fun σ H Q h => by
  obtain ⟨B, ρ, A, ρ', c, R, e, q⟩ := h
  unfold eP at e
  cases z : p ρ with
  | none => rw [z] at e; cases e
  | some d =>
    rw [z] at e; cases e
    exact ⟨B, ρ, A, d, R, z, fun v H' s r => q v A H' (Step.same s R) r⟩
theorem jF {e : Expr} {p : P} (h : JP X .f e p) : J X e (eF p) := peimp h fun σ H Q h => by
  obtain ⟨B, ρ, A, ρ', c, R, e, q⟩ := h
  unfold eF at e
  cases z : p ρ with
  | none => rw [z] at e; cases e
  | some d =>
    rw [z] at e
    refine ⟨B, ρ, A, d, R, z, fun v H' s r => ?_⟩
    have rc := ResC.of R (Step.refl R) s r (by decide)
    cases d with
    | list xs => cases e; exact q v A H' (Step.same s R) rc
    | dict xs => cases e; exact q v A H' (Step.same s R) rc
    | _ => cases e
theorem jtP {e : Expr} {t : T} (h : JT X e t) : JTe X e (tP t) := ptimp h fun σ H Q h => by
  obtain ⟨B, ρ, A, ρ', c, R, e, q⟩ := h
  unfold tP at e
  cases z : t ρ with
  | none => rw [z] at e; cases e
  | some d =>
    rw [z] at e; cases e
    exact ⟨B, ρ, A, _, R, z, fun H' s => q A H' (Step.same s R)⟩
/-! ### operations with effects in their parts -/
theorem e2_inv {k : Kind} {f : D → D → Option D} {a b : E} {ρ ρ' : Env} {c : Cell} (h : e2 k f a b ρ = some (ρ', c)) : ∃ ρ1 c1 x c2 y d, a ρ = some (ρ1, c1) ∧ c1.toD = some x ∧ b ρ1 = some (ρ', c2) ∧ c2.toD = some y ∧ f x y = some d ∧ c = cellOf k d := by
  unfold e2 at h
  cases e1 : a ρ with
  | none => rw [e1] at h; cases h
  | some r1 =>
    obtain ⟨ρ1, c1⟩ := r1
    rw [e1] at h
    dsimp only at h
    cases e2 : c1.toD with
    | none => rw [e2] at h; cases h
    | some x =>
      rw [e2] at h
      dsimp only at h
      cases e3 : b ρ1 with
      | none => rw [e3] at h; cases h
      | some r2 =>
        obtain ⟨ρ2, c2⟩ := r2
        rw [e3] at h
        dsimp only at h
        cases e4 : c2.toD with
        | none => rw [e4] at h; cases h
        | some y =>
          rw [e4] at h
          dsimp only at h
          cases e5 : f x y with
          | none => rw [e5] at h; cases h
          | some d => rw [e5] at h; cases h; exact ⟨ρ1, c1, x, c2, y, d, rfl, e2, e3, e4, e5, rfl⟩
theorem rOpE {k : Kind} {op : D → D → Option D} {fa fb : E} {σ : L2.St} {H : Hp} {Q : VK} {w : World} {K : PySem.W.Frag} (hk : k ≠ .r) (h : REf w K (e2 k op fa fb) σ H Q) : tOp (rD w K k op) (REf w K fa) (REf w K fb) σ H Q := by
  obtain ⟨B, ρ, A, ρ', c, R, e, q⟩ := h
  obtain ⟨ρ1, c1, x, c2, y, d, ea, ex, eb, ey, ef, rfl⟩ := e2_inv e
  refine ⟨B, ρ, A, ρ1, c1, R, ea, fun v A1 H1 S1 r1 => ⟨B, ρ1, A1, ρ', c2, S1.rel, eb, fun u A2 H2 S2 r2 => ?_⟩⟩
  have S := S1.trans R S2
  exact ⟨mu B A2, x, y, d, S2.rel.al, (S2.rep S1.rel (r1.item ex)).rd1, (r2.item ey).rd1, ef, fun z H3 s3 rz => q z A2 H3 (S.more R s3) (ResC.of R S s3 rz hk)⟩
theorem jE2 {k : Kind} {op : Operator} {f : D → D → Option D} {a b : Expr} {fa fb : E} {pos : Pos} (ho : OpR X (binaryOp op) (rD X.w X.K k f)) (ha : J X a fa) (hb : J X b fb) (hk : k ≠ .r := by decide) :
    J X (.BinOp a op b pos) (e2 k f fa fb) := peimp (pe_op ho ha hb) fun σ H Q h => rOpE hk h
theorem jECmp {k : Kind} {op : CmpOp} {f : D → D → Option D} {a b : Expr} {fa fb : E} {pos : Pos} (ho : OpR X (compareOp op) (rD X.w X.K k f)) (ha : J X a fa) (hb : J X b fb) (hm : behindInMarks op b = false := by first | exact nomark _ | rfl) (hk : k ≠ .r := by decide) :
    J X (.Compare a [op] [b] pos) (e2 k f fa fb) := peimp (pe_cmpR ho ha hb hm) fun σ H Q h => rOpE hk h
theorem jEIx {a b : Expr} {fa fb : E} {pos : Pos} (ha : J X a fa) (hb : J X b fb) (hs : PlainIx b := by exact fun _ _ => rfl) : J X (.Subscript a b pos) (e2 .c dIx fa fb) := peimp (pe_ix oIx ha hb hs) fun σ H Q h => rOpE (by decide) h
theorem jENeg {k : Kind} {op : UnaryOp} {f : D → Option D} {a : Expr} {fa : E} {pos : Pos} (ho : UnR X (unaryOp op) (uD X.w X.K k f)) (ha : J X a fa) (hk : k ≠ .r := by decide) :
    J X (.UnaryOp op a pos) (e1 k f fa) := peimp (pe_un ho ha) fun σ H Q h => by
  obtain ⟨B, ρ, A, ρ', c, R, e, q⟩ := h
  unfold e1 at e
  cases z : fa ρ with
  | none => rw [z] at e; cases e
  | some r =>
    obtain ⟨ρ1, c1⟩ := r
    rw [z] at e
    dsimp only at e
    cases z2 : c1.toD with
    | none => rw [z2] at e; cases e
    | some x =>
      rw [z2] at e
      dsimp only at e
      cases z3 : f x with
      | none => rw [z3] at e; cases e
      | some d =>
        rw [z3] at e; cases e
        refine ⟨B, ρ, A, _, c1, R, z, fun v A1 H1 S1 r1 => ?_⟩
        exact ⟨mu B A1, x, d, S1.rel.al, (r1.item z2).rd1, z3, fun u H3 s3 rz => q u A1 H3 (S1.more R s3) (ResC.of R S1 s3 rz hk)⟩
/-- arguments -/
def RAe (w : World) (K : PySem.W.Frag) (fs : List E) : L2.TA := fun σ H Q => ∃ B ρ A ρ' ds, Rel w K B ρ σ A H ∧ eevs fs ρ = some (ρ', ds) ∧ ∀ vs A' H', Step w K B ρ σ A H ρ' σ A' H' → Reps w K (mu B A') H' ds vs → Q vs H'
abbrev JAe (X : Cx) (es : List Expr) (fs : List E) : Prop := PA X es (RAe X.w X.K fs)
theorem jaeNil : JAe X [] [] := paimp pa_nil fun σ H Q h => by
  obtain ⟨B, ρ, A, ρ', ds, R, e, q⟩ := h
  cases e
  exact q _ _ _ (Step.refl R) rfl
theorem jaeCons {e : Expr} {es : List Expr} {f : E} {fs : List E} (ha : J X e f) (hr : JAe X es fs) (hs : starEach (e :: es) X.env = (false, eval e X.env) :: starEach es X.env := by rfl) : JAe X (e :: es) (f :: fs) := paimp (pa_cons ha hr hs) fun σ H Q h => by
  obtain ⟨B, ρ, A, ρ', ds, R, e, q⟩ := h
  rw [eevs] at e
  cases e1 : f ρ with
  | none => rw [e1] at e; cases e
  | some r1 =>
    obtain ⟨ρ1, c1⟩ := r1
    rw [e1] at e
    dsimp only at e
    cases e2 : c1.toD with
    | none => rw [e2] at e; cases e
    | some x =>
      rw [e2] at e
      dsimp only at e
      cases e3 : eevs fs ρ1 with
      | none => rw [e3] at e; cases e
      | some r2 =>
        obtain ⟨ρ2, xs⟩ := r2
        rw [e3] at e; cases e
        refine ⟨B, ρ, A, ρ1, c1, R, e1, fun v A1 H1 S1 r1 => ⟨B, ρ1, A1, _, xs, S1.rel, e3, fun vs A2 H2 S2 r2 => ?_⟩⟩
        exact q _ A2 _ (S1.trans R S2) ⟨v, vs, rfl, S2.rep S1.rel (r1.item e2), r2⟩
theorem eN_inv {k : Kind} {f : List D → Option D} {as : List E} {ρ ρ' : Env} {c : Cell} (h : eN k f as ρ = some (ρ', c)) : ∃ xs d, eevs as ρ = some (ρ', xs) ∧ f xs = some d ∧ c = cellOf k d := by
  unfold eN at h
  cases e : eevs as ρ with
  | none => rw [e] at h; cases h
  | some r =>
    obtain ⟨ρ1, xs⟩ := r
    rw [e] at h
    dsimp only at h
    cases e2 : f xs with
    | none => rw [e2] at h; cases h
    | some d => rw [e2] at h; cases h; exact ⟨xs, d, rfl, e2, rfl⟩
theorem jETup {es : List Expr} {fs : List E} {x1 pos} (h : JAe X es fs) : J X (.Tuple es x1 pos) (eN .c dTup fs) := peimp (pe_tup h) fun σ H Q h => by
  obtain ⟨B, ρ, A, ρ', c, R, e, q⟩ := h
  obtain ⟨xs, d, e1, e2, rfl⟩ := eN_inv e
  unfold dTup at e2
  split at e2
  · rename_i hl
    cases e2
    refine ⟨B, ρ, A, ρ', xs, R, e1, fun vs A1 H1 S1 r1 => ⟨by rw [r1.length]; exact len24_ok hl, fun p hp => ?_⟩⟩
    exact q _ A1 _ (S1.more R (same_new hp)) ⟨p, vs, rfl, SqT.of upd_same, r1.same (same_new hp)⟩
  · cases e2
theorem jELst {es : List Expr} {fs : List E} {pos} (h : JAe X es fs) : J X (.List es pos) (eN .f dLst fs) := peimp (pe_lst h) fun σ H Q h => by
  obtain ⟨B, ρ, A, ρ', c, R, e, q⟩ := h
  obtain ⟨xs, d, e1, e2, rfl⟩ := eN_inv e
  unfold dLst at e2
  split at e2
  · rename_i hl
    cases e2
    refine ⟨B, ρ, A, ρ', xs, R, e1, fun vs A1 H1 S1 r1 => ⟨by rw [r1.length]; exact len24_ok hl, fun p hp => ?_⟩⟩
    exact q _ A1 _ (S1.more R (same_new hp)) (ResC.of (k := .f) R S1 (same_new hp) ⟨p, vs, rfl, hp, upd_same, fresh_weak hp r1⟩ (by decide))
  · cases e2
theorem items_paired {w : World} {K : PySem.W.Frag} {M : Addr → Prop} {H : Hp} : ∀ {ds : List D} {vs : List V}, Reps w K M H ds vs → Paired (Rd1 w K M H) ds vs
  | [], vs, h => by rw [show vs = [] from h]; exact .nil
  | d :: ds, vs, h => by
    obtain ⟨v, r, e, h1, h2⟩ := h
    subst e
    exact .cons h1.rd1 (items_paired h2)
theorem rCBe {k : Kind} {f : List D → Option D} {fs : List E} {σ : L2.St} {H : Hp} {Q : VK} {w : World} {K : PySem.W.Frag} (hk : k ≠ .r) (h : REf w K (eN k f fs) σ H Q) : tCB (cD w K k f) (RAe w K fs) σ H Q := by
  obtain ⟨B, ρ, A, ρ', c, R, e, q⟩ := h
  obtain ⟨xs, d, e1, e2, rfl⟩ := eN_inv e
  refine ⟨B, ρ, A, ρ', xs, R, e1, fun vs A1 H1 S1 r1 => ?_⟩
  exact ⟨mu B A1, xs, d, S1.rel.al, items_paired r1, e2, fun z H' s' rz => q z A1 H' (S1.more R s') (ResC.of R S1 s' rz hk)⟩
theorem jEB {k : Kind} {id : String} {x : Str} {f : List D → Option D} {p pos : Pos} {e : Expr} {es : List Expr} {fs : List E} (hc : CallR X (.builtin id) (cD X.w X.K k f)) (hm : X.mg x = none) (ha : JAe X (e :: es) fs) (hg : Gl X x := by rfl) (hv : bootBuiltins x = some (.builtin id) := by decide +kernel)
    (hn : x ≠ "__name__" := by decide) (hdb : (x == ("__debug__" : Str)) = false := by decide)
    (he : starEach (e :: es) X.env = (false, eval e X.env) :: starEach es X.env := by rfl) (hpl : (backTo pos (starEach es X.env)).any (·.1) = false := by rfl) (hk : k ≠ .r := by decide) : J X (.Call (.Name x p) (e :: es) [] pos) (eN k f fs) :=
  peimp (pe_callB hc hg hm hv ha hn hdb he hpl) fun σ H Q h => rCBe hk h
theorem jETy {k : Kind} {id : String} {x : Str} {f : List D → Option D} {p pos : Pos} {e : Expr} {es : List Expr} {fs : List E} (hc : CallR X (.type id) (cD X.w X.K k f)) (hm : X.mg x = none) (ha : JAe X (e :: es) fs) (hg : Gl X x := by rfl) (hv : bootBuiltins x = some (.type id) := by decide +kernel)
    (hn : x ≠ "__name__" := by decide) (hdb : (x == ("__debug__" : Str)) = false := by decide)
    (he : starEach (e :: es) X.env = (false, eval e X.env) :: starEach es X.env := by rfl) (hpl : (backTo pos (starEach es X.env)).any (·.1) = false := by rfl) (hk : k ≠ .r := by decide) : J X (.Call (.Name x p) (e :: es) [] pos) (eN k f fs) :=
  peimp (pe_callTy hc hg hm hv ha hn hdb he hpl) fun σ H Q h => rCBe hk h
/-! ### tests with effects -/
theorem jtVE {e : Expr} {f : E} (h : J X e f) (he : ∀ whole, isTrue e X.env whole = (do let v ← whole; standAt e.pos; holding [v] (truthy v)) := by intro _; rfl) : JTe X e (tVE f) := ptimp (pt_val h he) fun σ H Q h => by
  obtain ⟨B, ρ, A, ρ', b, R, e, q⟩ := h
  unfold tVE at e
  cases z : f ρ with
  | none => rw [z] at e; cases e
  | some r =>
    obtain ⟨ρ1, c⟩ := r
    rw [z] at e
    cases c with
    | val d =>
      cases d with
      | bool b' => cases e; exact ⟨B, ρ, A, _, _, R, z, fun v A' H' S r => ⟨b, r, q A' H' S⟩⟩
      | _ => cases e
    | _ => cases e
theorem jtVEc {k : Kind} {op : CmpOp} {f : D → D → Option D} {a b : Expr} {fa fb : E} {pos : Pos} (ho : OpR X (compareOp op) (rD X.w X.K k f)) (ha : J X a fa) (hb : J X b fb) (hm : behindInMarks op b = false := by first | exact nomark _ | rfl) (hk : k ≠ .r := by decide) :
    JTe X (.Compare a [op] [b] pos) (tVE (e2 k f fa fb)) := ptimp (pt_cmpR ho ha hb hm) fun σ H Q h => by
  obtain ⟨B, ρ, A, ρ', b, R, e, q⟩ := h
  unfold tVE at e
  cases z : e2 k f fa fb ρ with
  | none => rw [z] at e; cases e
  | some r =>
    obtain ⟨ρ1, c⟩ := r
    rw [z] at e
    cases c with
    | val d =>
      cases d with
      | bool b' => cases e; exact rOpE hk ⟨B, ρ, A, _, _, R, z, fun v A' H' S r => ⟨b, r, q A' H' S⟩⟩
      | _ => cases e
    | _ => cases e
theorem jtNotE {a : Expr} {t : TE'} {pos : Pos} (ha : JTe X a t) : JTe X (.UnaryOp .Not a pos) (tNotE t) := ptimp (pt_not ha) fun σ H Q h => by
  obtain ⟨B, ρ, A, ρ', b, R, e, q⟩ := h
  unfold tNotE at e
  cases z : t ρ with
  | none => rw [z] at e; cases e
  | some r => obtain ⟨ρ1, b'⟩ := r; rw [z] at e; cases e; exact ⟨B, ρ, A, _, _, R, z, fun A' H' S => q A' H' S⟩
abbrev JWe (X : Cx) (e : Expr) (t : TE') : Prop := PW X e (RTe X.w X.K t)
theorem jweAnd1 {a : Expr} {t : TE'} {pos : Pos} (ha : JTe X a t) : JWe X (.BoolOp .And [a] pos) t := pw_and1 ha
theorem jweOr1 {a : Expr} {t : TE'} {pos : Pos} (ha : JTe X a t) : JWe X (.BoolOp .Or [a] pos) t := pw_or1 ha
theorem jweAnd {a b : Expr} {rest : List Expr} {t u : TE'} {pos : Pos} (ha : JTe X a t) (hb : JWe X (.BoolOp .And (b :: rest) pos) u) : JWe X (.BoolOp .And (a :: b :: rest) pos) (tAndE t u) := pwimp (pw_and ha hb) fun σ H Q h => by
  obtain ⟨B, ρ, A, ρ', b, R, e, q⟩ := h
  unfold tAndE at e
  cases z : t ρ with
  | none => rw [z] at e; cases e
  | some r =>
    obtain ⟨ρ1, b'⟩ := r
    rw [z] at e
    refine ⟨B, ρ, A, ρ1, b', R, z, fun A1 H1 S1 => ?_⟩
    cases b' with
    | true => rw [if_pos rfl]; exact ⟨B, ρ1, A1, ρ', b, S1.rel, e, fun A2 H2 S2 => q A2 H2 (S1.trans R S2)⟩
    | false => rw [if_neg (by decide)]; cases e; exact q A1 H1 S1
theorem jweOr {a b : Expr} {rest : List Expr} {t u : TE'} {pos : Pos} (ha : JTe X a t) (hb : JWe X (.BoolOp .Or (b :: rest) pos) u) : JWe X (.BoolOp .Or (a :: b :: rest) pos) (tOrE t u) := pwimp (pw_or ha hb) fun σ H Q h => by
  obtain ⟨B, ρ, A, ρ', b, R, e, q⟩ := h
  unfold tOrE at e
  cases z : t ρ with
  | none => rw [z] at e; cases e
  | some r =>
    obtain ⟨ρ1, b'⟩ := r
    rw [z] at e
    refine ⟨B, ρ, A, ρ1, b', R, z, fun A1 H1 S1 => ?_⟩
    cases b' with
    | false => rw [if_neg (by decide)]; exact ⟨B, ρ1, A1, ρ', b, S1.rel, e, fun A2 H2 S2 => q A2 H2 (S1.trans R S2)⟩
    | true => rw [if_pos rfl]; cases e; exact q A1 H1 S1
theorem jtWe {e : Expr} {t : TE'} (h : JWe X e t) : JTe X e t := PW.pt h
theorem jEIf {c a b : Expr} {t : TE'} {fa fb : E} {pos : Pos} (hc : JTe X c t) (ha : J X a fa) (hb : J X b fb) : J X (.IfExp c a b pos) (eIf t fa fb) := peimp (pe_ifExp hc ha hb) fun σ H Q h => by
  obtain ⟨B, ρ, A, ρ', c, R, e, q⟩ := h
  unfold eIf at e
  cases z : t ρ with
  | none => rw [z] at e; cases e
  | some r =>
    obtain ⟨ρ1, b'⟩ := r
    rw [z] at e
    refine ⟨B, ρ, A, ρ1, b', R, z, fun A1 H1 S1 => ?_⟩
    cases b' with
    | true => rw [if_pos rfl]; exact ⟨B, ρ1, A1, ρ', c, S1.rel, e, fun v A2 H2 S2 r => q v A2 H2 (S1.trans R S2) (ResC.ahead R S1 r)⟩
    | false => rw [if_neg (by decide)]; exact ⟨B, ρ1, A1, ρ', c, S1.rel, e, fun v A2 H2 S2 r => q v A2 H2 (S1.trans R S2) (ResC.ahead R S1 r)⟩
end
end L3
/-! Statements. -/
namespace L3
open PySem PySem.Spec PyProof.Rows L2
/-- what is wanted behind a statement's outcome -/
def After (w : World) (K : PySem.W.Frag) (B : Addr → Prop) (ρ : Env) (σ : L2.St) (A : Nat → List Addr) (H : Hp) (D : Ends) (ρ' : Env) : Out → Prop
  | .nx => ∀ σ' A' H', Step w K B ρ σ A H ρ' σ' A' H' → D.nx σ' H'
  | .bk => ∀ σ' A' H', Step w K B ρ σ A H ρ' σ' A' H' → D.bk σ' H'
  | .ct => ∀ σ' A' H', Step w K B ρ σ A H ρ' σ' A' H' → D.ct σ' H'
  | .rt c => ∀ v σ' A' H', Step w K B ρ σ A H ρ' σ' A' H' → ResC w K B ρ' σ' A A' H H' c v → D.rt v H'
def RSm (w : World) (K : PySem.W.Frag) (g : Sm) : TS := fun D σ H => ∃ B ρ A ρ' o, Rel w K B ρ σ A H ∧ g ρ = some (ρ', o) ∧ After w K B ρ σ A H D ρ' o
abbrev S1 (X : Cx) (st : Stmt) (g : Sm) : Prop := PS X st (RSm X.w X.K g)
abbrev Ss (X : Cx) (sts : List Stmt) (g : Sm) : Prop := PSs X sts (RSm X.w X.K g)
section
variable {w : World} {K : PySem.W.Frag} {B : Addr → Prop} {ρ ρ' ρ1 ρ2 : Env} {σ σ' σ1 σ2 : L2.St} {A A' A1 A2 : Nat → List Addr} {H H' H1 H2 : Hp} {c : Cell} {d : D} {v : V}
theorem After.ahead (R : Rel w K B ρ σ A H) (S : Step w K B ρ σ A H ρ1 σ1 A1 H1) {Dn D' : Ends} {o : Out} (h : After w K B ρ σ A H Dn ρ' o) (hd : (o = .nx → D'.nx = Dn.nx) ∧ D'.rt = Dn.rt ∧ D'.bk = Dn.bk ∧ D'.ct = Dn.ct) : After w K B ρ1 σ1 A1 H1 D' ρ' o := by
  cases o with
  | nx => rw [After, hd.1 rfl]; exact fun σ' A' H' S' => h σ' A' H' (S.trans R S')
  | bk => rw [After, hd.2.2.1]; exact fun σ' A' H' S' => h σ' A' H' (S.trans R S')
  | ct => rw [After, hd.2.2.2]; exact fun σ' A' H' S' => h σ' A' H' (S.trans R S')
  | rt c => rw [After, hd.2.1]; exact fun v σ' A' H' S' r => h v σ' A' H' (S.trans R S') (ResC.ahead R S r)
/-- a slot is stored -/
def putA (A : Nat → List Addr) (i : Nat) (as : List Addr) : Nat → List Addr := fun j => if j = i then as else A j
theorem putA_self {i : Nat} {as : List Addr} : putA A i as i = as := by simp [putA]
theorem putA_ne {i j : Nat} {as : List Addr} (h : j ≠ i) : putA A i as j = A j := by simp [putA, h]
theorem get_join {ov : Option (Option V)} {v : V} (h : ov.join = some v) : ov = some (some v) := by
  cases ov with
  | none => cases h
  | some y => exact congrArg some h
theorem put_inv {i : Nat} {c : Cell} (h : put i c ρ = some ρ') : i < ρ.length ∧ ρ' = ρ.set i c ∧ ∀ o, ρ[i]? ≠ some (Cell.own true o) := by
  unfold put at h
  cases e : ρ[i]? with
  | none => rw [e] at h; cases h
  | some c0 =>
    have hi : i < ρ.length := (List.getElem?_eq_some_iff.mp e).1
    rw [e] at h
    cases c0 with
    | own fx o =>
      cases fx with
      | true => cases h
      | false => cases h; exact ⟨hi, rfl, fun o z => by cases z⟩
    | un => cases h; exact ⟨hi, rfl, fun o z => by cases z⟩
    | scr ns => cases h; exact ⟨hi, rfl, fun o z => by cases z⟩
    | val x => cases h; exact ⟨hi, rfl, fun o z => by cases z⟩
theorem OwnOk.refs {M : Addr → Prop} {o : Own} {as : List Addr} (h : OwnOk w K M H o v as) : ∃ a r, v = .ref a ∧ as = a :: r := by
  cases o with
  | lst xs => obtain ⟨a, vs, e1, e2, _⟩ := h; exact ⟨a, _, e1, e2⟩
  | dic xs => obtain ⟨a, vs, e1, e2, _⟩ := h; exact ⟨a, _, e1, e2⟩
  | src s => obtain ⟨a, c, e1, e2, _⟩ := h; exact ⟨a, _, e1, e2⟩
/-- any cell into a slot: what it owns (as) is apart from all else -/
theorem Rel.put {i : Nat} {as : List Addr} (R : Rel w K (fun x => B x ∨ x ∈ as) ρ σ A H) (hi : i < ρ.length) (hc : CellOk w K (fun x => mu B A x ∨ x ∈ as) H c (some v) as) (hn : ∀ x ∈ as, ¬ mu B A x) (hB : ∀ x, B x → H x ≠ none) :
    Rel w K B (ρ.set i c) (σ.set i (some v)) (putA A i as) H where
  len := by rw [List.length_set, List.length_set]; exact R.len
  cell := fun j c' e => by
    have hM : ∀ x, mu B (putA A i as) x → mu B A x ∨ x ∈ as := fun x m => by
      rcases m with m | ⟨k, m⟩
      · exact .inl (.inl m)
      · by_cases hk : k = i
        · subst hk; rw [putA_self] at m; exact .inr m
        · rw [putA_ne hk] at m; exact .inl (.inr ⟨k, m⟩)
    by_cases hj : j = i
    · subst hj
      rw [List.getElem?_set_self hi] at e
      cases e
      rw [putA_self, List.getElem?_set_self (by rw [← R.len]; exact hi)]
      exact hc.ext (O := fun _ => False) (Ext.refl H) (fun _ z => z.elim) (fun a _ m => hM a m) (fun _ _ z => z)
    · rw [List.getElem?_set_ne (Ne.symm hj)] at e
      rw [putA_ne hj, List.getElem?_set_ne (Ne.symm hj)]
      exact (R.cell j c' e).ext (O := fun _ => False) (Ext.refl H) (fun _ z => z.elim) (fun a _ m => mu_or.mpr (hM a m)) (fun _ _ z => z)
  out := fun j hj => by
    rw [List.length_set] at hj
    rw [putA_ne (by omega)]
    exact R.out j hj
  aliveB := hB
  apart := fun j x h z => by
    by_cases hj : j = i
    · subst hj; rw [putA_self] at h; exact hn x h (.inl z)
    · rw [putA_ne hj] at h; exact R.apart j x h (.inl z)
  one := fun j k x h1 h2 => by
    by_cases hj : j = i
    · by_cases hk : k = i
      · rw [hj, hk]
      · subst hj
        rw [putA_self] at h1
        rw [putA_ne hk] at h2
        exact absurd (.inr ⟨k, h2⟩) (hn x h1)
    · by_cases hk : k = i
      · subst hk
        rw [putA_self] at h2
        rw [putA_ne hj] at h1
        exact absurd (.inr ⟨j, h1⟩) (hn x h2)
      · rw [putA_ne hj] at h1
        rw [putA_ne hk] at h2
        exact R.one j k x h1 h2
theorem Rel.noB (R : Rel w K B ρ σ A H) : Rel w K (fun x => B x ∨ x ∈ ([] : List Addr)) ρ σ A H :=
  R.protect (Same.refl H) fun x z => nomatch z
theorem Step.put {i : Nat} {as : List Addr} (R : Rel w K B ρ σ A H) (S : Step w K B ρ σ A H ρ1 σ1 A1 H1) (hp : L3.put i c ρ1 = some ρ2) (R1 : Rel w K (fun x => B x ∨ x ∈ as) ρ1 σ1 A1 H1)
    (hc : CellOk w K (fun x => mu B A1 x ∨ x ∈ as) H1 c (some v) as) (hn : ∀ x ∈ as, ¬ mu B A1 x ∧ ((∃ j, x ∈ A j) ∨ H x = none)) : Step w K B ρ σ A H ρ2 (σ1.set i (some v)) (putA A1 i as) H1 := by
  obtain ⟨hi, rfl, hf⟩ := put_inv hp
  refine ⟨Rel.put R1 hi hc (fun x h => (hn x h).1) S.rel.aliveB, S.ext, fun j x h => ?_, fun j o h => ?_⟩
  · by_cases hj : j = i
    · subst hj; rw [putA_self] at h; exact (hn x h).2
    · rw [putA_ne hj] at h; exact S.sub j x h
  · obtain ⟨⟨o', e1⟩, e2⟩ := S.fix j o h
    have hj : j ≠ i := fun z => by subst z; exact hf o' e1
    exact ⟨⟨o', by rw [List.getElem?_set_ne (Ne.symm hj)]; exact e1⟩, by rw [List.getElem?_set_ne (Ne.symm hj)]; exact e2⟩
end
section
variable {X : Cx}
theorem ssNil : Ss X [] sNx := pssimp pss_nil fun D σ H h => by
  obtain ⟨B, ρ, A, ρ', o, R, e, q⟩ := h
  cases e
  exact q σ A H (Step.refl R)
theorem ssCons {st : Stmt} {rest : List Stmt} {a b : Sm} (h1 : S1 X st a) (h2 : Ss X rest b) : Ss X (st :: rest) (sSeq a b) := pssimp (pss_cons h1 h2) fun D σ H h => by
  obtain ⟨B, ρ, A, ρ', o, R, e, q⟩ := h
  unfold sSeq at e
  cases z : a ρ with
  | none => rw [z] at e; cases e
  | some r =>
    obtain ⟨ρ1, o1⟩ := r
    rw [z] at e
    cases o1 with
    | nx => exact ⟨B, ρ, A, ρ1, .nx, R, z, fun σ1 A1 H1 S => ⟨B, ρ1, A1, ρ', o, S.rel, e, q.ahead R S ⟨fun _ => rfl, rfl, rfl, rfl⟩⟩⟩
    | bk => cases e; exact ⟨B, ρ, A, _, .bk, R, z, q⟩
    | ct => cases e; exact ⟨B, ρ, A, _, .ct, R, z, q⟩
    | rt c => cases e; exact ⟨B, ρ, A, _, .rt c, R, z, q⟩
theorem ssOne {st : Stmt} {a : Sm} (h1 : S1 X st a) : Ss X [st] a := pss_one h1
theorem sPass {pos : Pos} : S1 X (.Pass pos) sNx := psimp ps_pass fun D σ H h => by
  obtain ⟨B, ρ, A, ρ', o, R, e, q⟩ := h
  cases e
  exact q σ A H (Step.refl R)
def sBk : Sm := fun ρ => some (ρ, .bk)
theorem sBreak {pos : Pos} : S1 X (.Break pos) sBk := psimp ps_break fun D σ H h => by
  obtain ⟨B, ρ, A, ρ', o, R, e, q⟩ := h
  cases e
  exact q σ A H (Step.refl R)
/-- name = e -/
theorem sSetV {i : Nat} {x : Str} {e : Expr} {f : E} {pos pos' : Pos} (nd : X.N.Nodup) (he : J X e f) (hi : X.N[i]? = some x := by rfl) (hx : Loc X.env.scope x := by first | exact Or.inl rfl | exact Or.inr rfl) (hs : swapsWith e (some (.Name x pos')) pos.line X.env = pure false := by rfl)
    (hf : X.fn x = true ∨ X.env.scope.names.lookup x = some .local := by first | exact .inl rfl | exact .inr rfl) : S1 X (.Assign [.Name x pos'] e pos) (sVal i f) := psimp (ps_set nd hi hx he hs hf) fun D σ H h => by
  obtain ⟨B, ρ, A, ρ', o, R, e, q⟩ := h
  unfold sVal at e
  cases z : f ρ with
  | none => rw [z] at e; cases e
  | some r =>
    obtain ⟨ρ1, c⟩ := r
    rw [z] at e
    dsimp only at e
    cases z2 : c.toD with
    | none => rw [z2] at e; cases e
    | some d =>
      rw [z2] at e
      dsimp only at e
      cases z3 : put i (.val d) ρ1 with
      | none => rw [z3] at e; cases e
      | some ρ2 =>
        rw [z3] at e; cases e
        refine ⟨B, ρ, A, ρ1, c, R, z, fun v A1 H1 S r => q _ _ _ (Step.put (as := []) R S z3 S.rel.noB ⟨rfl, v, rfl, ?_⟩ fun x z => nomatch z)⟩
        exact (r.item z2).weak fun a m => m.elim id fun z => nomatch z
theorem sSetO {i : Nat} {x : Str} {e : Expr} {f : E} {pos pos' : Pos} (nd : X.N.Nodup) (he : J X e f) (hi : X.N[i]? = some x := by rfl) (hx : Loc X.env.scope x := by first | exact Or.inl rfl | exact Or.inr rfl) (hs : swapsWith e (some (.Name x pos')) pos.line X.env = pure false := by rfl)
    (hf : X.fn x = true ∨ X.env.scope.names.lookup x = some .local := by first | exact .inl rfl | exact .inr rfl) : S1 X (.Assign [.Name x pos'] e pos) (sOwn i f) := psimp (ps_set nd hi hx he hs hf) fun D σ H h => by
  obtain ⟨B, ρ, A, ρ', o, R, e, q⟩ := h
  unfold sOwn at e
  cases z : f ρ with
  | none => rw [z] at e; cases e
  | some r =>
    obtain ⟨ρ1, c⟩ := r
    rw [z] at e
    cases c with
    | own fx ow =>
      cases fx with
      | true => cases e
      | false =>
        dsimp only at e
        cases z3 : put i (.own false ow) ρ1 with
        | none => rw [z3] at e; cases e
        | some ρ2 =>
          rw [z3] at e; cases e
          refine ⟨B, ρ, A, ρ1, _, R, z, fun v A1 H1 S r => ?_⟩
          obtain ⟨_, as, ok, hn, R1⟩ := r
          exact q _ _ _ (Step.put (as := as) R S z3 R1 ⟨v, rfl, ok⟩ hn)
    | _ => cases e
theorem sExpr {e : Expr} {f : E} {pos : Pos} (he : J X e f) (hs : swapsWith e none pos.line X.env = pure false := by rfl) : S1 X (.Expr e pos) (sEx f) := psimp (ps_expr he hs) fun D σ H h => by
  obtain ⟨B, ρ, A, ρ', o, R, e, q⟩ := h
  unfold sEx at e
  cases z : f ρ with
  | none => rw [z] at e; cases e
  | some r =>
    obtain ⟨ρ1, c⟩ := r
    rw [z] at e; cases e
    exact ⟨B, ρ, A, _, c, R, z, fun v A1 H1 S r => q _ _ _ S⟩
theorem sReturn {e : Expr} {f : E} {pos : Pos} (he : J X e f) : S1 X (.Return (some e) pos) (sRet f) := psimp (ps_ret he) fun D σ H h => by
  obtain ⟨B, ρ, A, ρ', o, R, e, q⟩ := h
  unfold sRet at e
  cases z : f ρ with
  | none => rw [z] at e; cases e
  | some r =>
    obtain ⟨ρ1, c⟩ := r
    rw [z] at e; cases e
    exact ⟨B, ρ, A, _, c, R, z, fun v A1 H1 S r => q v _ _ _ S r⟩
theorem sIfS {c : Expr} {a b : List Stmt} {t : TE'} {ga gb : Sm} {pos : Pos} (hc : JTe X c t) (ha : Ss X a ga) (hb : Ss X b gb) : S1 X (.If c a b pos) (sIf t ga gb) := psimp (ps_if hc ha hb) fun D σ H h => by
  obtain ⟨B, ρ, A, ρ', o, R, e, q⟩ := h
  unfold sIf at e
  cases z : t ρ with
  | none => rw [z] at e; cases e
  | some r =>
    obtain ⟨ρ1, k⟩ := r
    rw [z] at e
    refine ⟨B, ρ, A, ρ1, k, R, z, fun A1 H1 S => ?_⟩
    cases k with
    | true => rw [if_pos rfl]; exact ⟨B, ρ1, A1, ρ', o, S.rel, e, q.ahead R S ⟨fun _ => rfl, rfl, rfl, rfl⟩⟩
    | false => rw [if_neg (by decide)]; exact ⟨B, ρ1, A1, ρ', o, S.rel, e, q.ahead R S ⟨fun _ => rfl, rfl, rfl, rfl⟩⟩
/-! ### while -/
/-- so many turns at most -/
def whileN (t : TE') (b : Sm) : Nat → Sm
  | 0, _ => none
  | n + 1, ρ => match t ρ with
    | some (ρ1, true) => (match b ρ1 with
      | some (ρ2, .nx) => whileN t b n ρ2
      | some (ρ2, .ct) => whileN t b n ρ2
      | some (ρ2, .bk) => some (ρ2, .nx)
      | some (ρ2, .rt c) => some (ρ2, .rt c)
      | none => none)
    | some (ρ1, false) => some (ρ1, .nx)
    | none => none
theorem while_of {t : TE'} {b : Sm} {ρ : Env} {r : Env × Out} (h : whileF t b ρ = some r) : ∃ n, whileN t b n ρ = some r := by
  refine whileF.partial_correctness t b (fun ρ r => ∃ n, whileN t b n ρ = some r) (fun f ih ρ r hr => ?_) ρ r h
  cases e : t ρ with
  | none => rw [e] at hr; cases hr
  | some r1 =>
    obtain ⟨ρ1, k⟩ := r1
    rw [e] at hr
    cases k with
    | false => cases hr; exact ⟨1, by rw [whileN, e]⟩
    | true =>
      dsimp only at hr
      cases e2 : b ρ1 with
      | none => rw [e2] at hr; cases hr
      | some r2 =>
        obtain ⟨ρ2, o⟩ := r2
        rw [e2] at hr
        cases o with
        | nx =>
          obtain ⟨n, hn⟩ := ih ρ2 r hr
          exact ⟨n + 1, by rw [whileN, e]; dsimp only; rw [e2]; exact hn⟩
        | ct =>
          obtain ⟨n, hn⟩ := ih ρ2 r hr
          exact ⟨n + 1, by rw [whileN, e]; dsimp only; rw [e2]; exact hn⟩
        | bk => cases hr; exact ⟨1, by rw [whileN, e]; dsimp only; rw [e2]⟩
        | rt c => cases hr; exact ⟨1, by rw [whileN, e]; dsimp only; rw [e2]⟩
theorem sWhileS {c : Expr} {body : List Stmt} {t : TE'} {g : Sm} {pos : Pos} (hp : PassesOwn (model X.prog X.w) X.A X.env X.xe) (hc : JTe X c t) (hb : Ss X body g) : S1 X (.While c body [] pos) (sWhile t g) := psimp (ps_while hp hc hb) fun D σ H h => by
  obtain ⟨B, ρ, A, ρ', o, R, e, q⟩ := h
  obtain ⟨n, hn⟩ := while_of e
  refine ⟨fun m σ1 H1 => ∃ ρ1 A1, Rel X.w X.K B ρ1 σ1 A1 H1 ∧ whileN t g m ρ1 = some (ρ', o) ∧ After X.w X.K B ρ1 σ1 A1 H1 D ρ' o, ⟨n, ρ, A, R, hn, q⟩, ?_⟩
  rintro m σ1 H1 ⟨ρ1, A1, R1, e1, q1⟩
  cases m with
  | zero => cases e1
  | succ m =>
    rw [whileN] at e1
    cases z : t ρ1 with
    | none => rw [z] at e1; cases e1
    | some r =>
      obtain ⟨ρ2, k⟩ := r
      rw [z] at e1
      refine ⟨B, ρ1, A1, ρ2, k, R1, z, fun A2 H2 S2 => ?_⟩
      cases k with
      | false =>
        rw [if_neg (by decide)]
        cases e1
        exact q1 _ _ _ S2
      | true =>
        rw [if_pos rfl]
        dsimp only at e1
        refine ⟨fun σ3 H3 => ∃ ρ3 A3, Rel X.w X.K B ρ3 σ3 A3 H3 ∧ whileN t g m ρ3 = some (ρ', o) ∧ After X.w X.K B ρ3 σ3 A3 H3 D ρ' o, fun σ3 H3 h3 => ⟨m, Nat.lt_succ_self m, h3⟩, ?_⟩
        cases z2 : g ρ2 with
        | none => rw [z2] at e1; cases e1
        | some r2 =>
          obtain ⟨ρ3, o3⟩ := r2
          rw [z2] at e1
          have q2 := q1.ahead (D' := D) R1 S2 ⟨fun _ => rfl, rfl, rfl, rfl⟩
          cases o3 with
          | nx => exact ⟨B, ρ2, A2, ρ3, .nx, S2.rel, z2, fun σ3 A3 H3 S3 => ⟨ρ3, A3, S3.rel, e1, q2.ahead S2.rel S3 ⟨fun _ => rfl, rfl, rfl, rfl⟩⟩⟩
          | ct => exact ⟨B, ρ2, A2, ρ3, .ct, S2.rel, z2, fun σ3 A3 H3 S3 => ⟨ρ3, A3, S3.rel, e1, q2.ahead S2.rel S3 ⟨fun _ => rfl, rfl, rfl, rfl⟩⟩⟩
          | bk => cases e1; exact ⟨B, ρ2, A2, ρ', .bk, S2.rel, z2, fun σ3 A3 H3 S3 => q2 _ _ _ S3⟩
          | rt c => cases e1; exact ⟨B, ρ2, A2, ρ', .rt c, S2.rel, z2, fun v σ3 A3 H3 S3 r => q2 _ _ _ _ S3 r⟩
end
end L3
/-! Targets, for loops, changes of owned lists. -/
namespace L3
open PySem PySem.Spec PyProof.Rows L2
def RG (w : World) (K : PySem.W.Frag) (p : Pat) : TG := fun v σ H Q => ∃ B ρ A d ρ', Rel w K B ρ σ A H ∧ bind p d ρ = some ρ' ∧ Rep w K (mu B A) H d v ∧ ∀ σ' A', Step w K B ρ σ A H ρ' σ' A' H → (∀ j, j ∉ p.slots → σ'[j]? = σ[j]? ∧ A' j = A j) → Q σ' H
def RGs (w : World) (K : PySem.W.Frag) (ps : List Pat) : TGs := fun vs σ H Q => ∃ B ρ A ds ρ', Rel w K B ρ σ A H ∧ binds ps ds ρ = some ρ' ∧ Reps w K (mu B A) H ds vs ∧ ∀ σ' A', Step w K B ρ σ A H ρ' σ' A' H → (∀ j, j ∉ slotsAll ps → σ'[j]? = σ[j]? ∧ A' j = A j) → Q σ' H
abbrev JG (X : Cx) (t : Expr) (p : Pat) : Prop := PG X t (RG X.w X.K p)
abbrev JGs (X : Cx) (ts : List Expr) (ps : List Pat) : Prop := PGs X ts (RGs X.w X.K ps)
section
variable {X : Cx}
theorem pgimp {e : Expr} {t t' : TG} (h : PG X e t) (i : ∀ v σ H Q, t' v σ H Q → t v σ H Q) : PG X e t' := ⟨fun pins s σ H v u Q I r q => h.run pins s σ H v u Q I r (i _ _ _ _ q)⟩
theorem pgsimp {e : List Expr} {t t' : TGs} (h : PGs X e t) (i : ∀ v σ H Q, t' v σ H Q → t v σ H Q) : PGs X e t' := ⟨fun pins s σ H v u Q I r q => h.run pins s σ H v u Q I r (i _ _ _ _ q)⟩
theorem gNm {i : Nat} {x : Str} {pos : Pos} (nd : X.N.Nodup) (hi : X.N[i]? = some x := by rfl) (hx : Loc X.env.scope x := by first | exact Or.inl rfl | exact Or.inr rfl) (hf : X.fn x = true ∨ X.env.scope.names.lookup x = some .local := by first | exact .inl rfl | exact .inr rfl) :
    JG X (.Name x pos) (.nm i) := pgimp (pg_name nd hi hx hf) fun v σ H Q h => by
  obtain ⟨B, ρ, A, d, ρ', R, e, r, q⟩ := h
  exact q _ _ (Step.put (as := []) R (Step.refl R) (show put i (.val d) ρ = some ρ' from by simpa [bind] using e) R.noB ⟨rfl, v, rfl, r.weak fun a m => m.elim id fun z => nomatch z⟩ fun x z => nomatch z) fun j hj => by
    have hj : j ≠ i := by simpa [Pat.slots] using hj
    exact ⟨by rw [List.getElem?_set_ne (Ne.symm hj)], putA_ne hj⟩
theorem gsNil : JGs X [] [] := pgsimp pgs_nil fun vs σ H Q h => by
  obtain ⟨B, ρ, A, ds, ρ', R, e, r, q⟩ := h
  cases ds with
  | nil => rw [binds] at e; cases e; exact ⟨r, q _ _ (Step.refl R) fun _ _ => ⟨rfl, rfl⟩⟩
  | cons _ _ => simp [binds] at e
theorem gsCons {e : Expr} {es : List Expr} {p : Pat} {ps : List Pat} (h1 : JG X e p) (h2 : JGs X es ps) (hs : (assignEach (e :: es) X.env).map (·.2) = assign e X.env :: (assignEach es X.env).map (·.2) := by rfl) : JGs X (e :: es) (p :: ps) := pgsimp (pgs_cons h1 h2 hs) fun vs σ H Q h => by
  obtain ⟨B, ρ, A, ds, ρ', R, e, r, q⟩ := h
  cases ds with
  | nil => simp [binds] at e
  | cons d ds =>
    obtain ⟨v, t, rfl, r1, r2⟩ := r
    rw [binds] at e
    cases z : bind p d ρ with
    | none => rw [z] at e; cases e
    | some ρ1 =>
      rw [z] at e
      exact ⟨v, t, rfl, B, ρ, A, d, ρ1, R, z, r1, fun σ1 A1 S1 k1 => ⟨B, ρ1, A1, ds, ρ', S1.rel, e, S1.reps R r2, fun σ2 A2 S2 k2 => q _ _ (S1.trans R S2) fun j hj => by
        simp only [slotsAll, List.mem_append, not_or] at hj
        exact ⟨(k2 j hj.2).1.trans (k1 j hj.1).1, (k2 j hj.2).2.trans (k1 j hj.1).2⟩⟩⟩
theorem binds_len : ∀ {ps : List Pat} {ds : List D} {ρ ρ' : Env}, binds ps ds ρ = some ρ' → ds.length = ps.length
  | [], [], _, _, _ => rfl
  | [], _ :: _, _, _, h => by simp [binds] at h
  | _ :: _, [], _, _, h => by simp [binds] at h
  | p :: ps, d :: ds, ρ, ρ', h => by
    rw [binds] at h
    cases z : bind p d ρ with
    | none => rw [z] at h; cases h
    | some ρ1 => rw [z] at h; rw [List.length_cons, List.length_cons, binds_len h]
mutual
theorem bind_len : ∀ (p : Pat) (d : D) (ρ ρ' : Env), bind p d ρ = some ρ' → ρ'.length = ρ.length
  | .nm i, d, ρ, ρ', h => by
    rw [bind] at h
    obtain ⟨_, rfl, _⟩ := put_inv h
    rw [List.length_set]
  | .tp ps, d, ρ, ρ', h => by
    cases d with
    | tuple xs => exact binds_len2 ps xs ρ ρ' (by simpa [bind] using h)
    | _ => simp [bind] at h
  | .tl ps, d, ρ, ρ', h => by
    cases d with
    | list xs => exact binds_len2 ps xs ρ ρ' (by simpa [bind] using h)
    | _ => simp [bind] at h
theorem binds_len2 : ∀ (ps : List Pat) (ds : List D) (ρ ρ' : Env), binds ps ds ρ = some ρ' → ρ'.length = ρ.length
  | [], [], _, _, h => by rw [binds] at h; cases h; rfl
  | [], _ :: _, _, _, h => by simp [binds] at h
  | _ :: _, [], _, _, h => by simp [binds] at h
  | p :: ps, d :: ds, ρ, ρ', h => by
    rw [binds] at h
    cases z : bind p d ρ with
    | none => rw [z] at h; cases h
    | some ρ1 => rw [z] at h; rw [binds_len2 ps ds ρ1 ρ' h, bind_len p d ρ ρ1 z]
end
theorem gTp {es : List Expr} {k : Nat} {ps : List Pat} {pos : Pos} (hc : X.calm = true) (h : JGs X es ps) (hn : (assignEach es X.env).length = ps.length := by rfl) (hst : (assignEach es X.env).findIdx? (·.1) = none := by rfl) : JG X (.Tuple es k pos) (.tp ps) :=
  pgimp (pg_tup hc h hn hst) fun v σ H Q h => by
    obtain ⟨B, ρ, A, d, ρ', R, e, r, q⟩ := h
    cases d with
    | tuple xs =>
      obtain ⟨a, vs, e1, h1, h2⟩ := r
      have e' : binds ps xs ρ = some ρ' := by simpa [bind] using e
      exact ⟨a, vs, e1, h1, by rw [h2.length, binds_len e'], B, ρ, A, xs, ρ', R, e', h2, fun σ' A' S k => q σ' A' S (by simpa [Pat.slots] using k)⟩
    | _ => simp [bind] at e
theorem gTl {es : List Expr} {k : Nat} {ps : List Pat} {pos : Pos} (hc : X.calm = true) (h : JGs X es ps) (hn : (assignEach es X.env).length = ps.length := by rfl) (hst : (assignEach es X.env).findIdx? (·.1) = none := by rfl) : JG X (.Tuple es k pos) (.tl ps) :=
  pgimp (pg_unl hc h hn hst) fun v σ H Q h => by
    obtain ⟨B, ρ, A, d, ρ', R, e, r, q⟩ := h
    cases d with
    | list xs =>
      obtain ⟨a, vs, e1, _, h1, h2⟩ := r
      have e' : binds ps xs ρ = some ρ' := by simpa [bind] using e
      exact ⟨a, vs, e1, SqL.of h1, by rw [h2.length, binds_len e'], B, ρ, A, xs, ρ', R, e', h2, fun σ' A' S k => q σ' A' S (by simpa [Pat.slots] using k)⟩
    | _ => simp [bind] at e
/-- target = e -/
theorem sAsg {tg e : Expr} {p : Pat} {f : E} {pos : Pos} (he : J X e f) (hg : JG X tg p) (hs : swapsWithSole [tg] e pos.line X.env = pure false := by rfl) (hw : swappedStores [tg] e X.env = pure none := by rfl)
    (h1 : (assignEach [tg] X.env).map (·.2) = [assign tg X.env] := by rfl) : S1 X (.Assign [tg] e pos) (sPat p f) := psimp (ps_asg he hg hs hw h1) fun D σ H h => by
  obtain ⟨B, ρ, A, ρ', o, R, e, q⟩ := h
  unfold sPat at e
  cases z : f ρ with
  | none => rw [z] at e; cases e
  | some r =>
    obtain ⟨ρ1, c⟩ := r
    rw [z] at e
    dsimp only at e
    cases z2 : c.toD with
    | none => rw [z2] at e; cases e
    | some d =>
      rw [z2] at e
      dsimp only at e
      cases z3 : bind p d ρ1 with
      | none => rw [z3] at e; cases e
      | some ρ2 =>
        rw [z3] at e; cases e
        exact ⟨B, ρ, A, ρ1, c, R, z, fun v A1 H1 S r => ⟨B, ρ1, A1, d, _, S.rel, z3, r.item z2, fun σ2 A2 S2 _ => q _ _ _ (S.trans R S2)⟩⟩
/-! ### what is walked -/
/-- an iterator that hands out xs; it holds while Keep holds -/
structure GoodIt (w : World) (K : PySem.W.Frag) (B : Addr → Prop) (xs : List D) (J : It) (Keep : (Nat → List Addr) → Hp → Prop) : Prop where
  go : ∀ i A H, i < xs.length → Keep A H → J.go i H ∧ ∀ v H', J.yld i H v H' → Same H H' ∧ Keep A H' ∧ ∀ x, xs[i]? = some x → Rep w K (mu B A) H' x v
  stop : ∀ i A H, xs.length ≤ i → Keep A H → J.stop i H
/-- through every step -/
def Steps (w : World) (K : PySem.W.Frag) (B : Addr → Prop) (Keep : (Nat → List Addr) → Hp → Prop) : Prop := ∀ (A : Nat → List Addr) (H : Hp) (A' : Nat → List Addr) (H' : Hp) (O : Addr → Prop), Keep A H → Ext O H H' → (∀ a, O a → mu B A a) → (∀ a, H a ≠ none → mu B A' a → mu B A a) → Keep A' H'
theorem Steps.step {w : World} {K : PySem.W.Frag} {B : Addr → Prop} {Keep : (Nat → List Addr) → Hp → Prop} (h : Steps w K B Keep) {ρ ρ' : Env} {σ σ' : L2.St} {A A' : Nat → List Addr} {H H' : Hp} (S : Step w K B ρ σ A H ρ' σ' A' H') (k : Keep A H) : Keep A' H' :=
  h A H A' H' _ k S.ext (fun a z => .inr z) fun a n m => by
    rcases m with m | ⟨i, m⟩
    · exact .inl m
    · rcases S.sub i a m with z | z
      · exact .inr z
      · exact absurd z n
/-- an iterator over xs -/
structure ItOk (w : World) (K : PySem.W.Frag) (xs : List D) (J : It) (Keep : (Addr → Prop) → (Nat → List Addr) → Hp → Prop) : Prop where
  good : ∀ B, GoodIt w K B xs J (Keep B)
  same : ∀ B A H H', Same H H' → Keep B A H → Keep B A H'
  prot : ∀ (B N : Addr → Prop) A H H', Same H H' → (∀ x, N x → H x = none) → Keep B A H → Keep (fun x => B x ∨ N x) A H'
def RIe (w : World) (K : PySem.W.Frag) (a : Ie) : TI := fun σ H R => ∃ B ρ A ρ1 xs, Rel w K B ρ σ A H ∧ a ρ = some (ρ1, xs) ∧ ∀ J Keep A1 H1, Step w K B ρ σ A H ρ1 σ A1 H1 → ItOk w K xs J Keep → (∀ B, Steps w K B (Keep B)) → Keep B A1 H1 → R J H1
abbrev JI (X : Cx) (tg iter : Expr) (a : Ie) : Prop := PI X tg iter (RIe X.w X.K a)
/-- .. walked where nothing is changed -/
def RIp (w : World) (K : PySem.W.Frag) (a : Ip) : TI := fun σ H R => ∃ B ρ A xs, Rel w K B ρ σ A H ∧ a ρ = some xs ∧ ∀ J Keep H1, Same H H1 → ItOk w K xs J Keep → Keep B A H1 → R J H1
abbrev JIp (X : Cx) (tg iter : Expr) (a : Ip) : Prop := PI X tg iter (RIp X.w X.K a)
theorem piimp {tg e : Expr} {t t' : TI} (h : PI X tg e t) (i : ∀ σ H Q, t' σ H Q → t σ H Q) : PI X tg e t' := ⟨fun pins s σ H R I q => h.run pins s σ H R I (i _ _ _ q)⟩
theorem good_list {w : World} {K : PySem.W.Frag} {B : Addr → Prop} {xs : List D} {a : Addr} : GoodIt w K B xs (Itl K a) fun A H => Rd1 w K (mu B A) H (.list xs) (.ref a) where
  go := fun i A H hi h => by
    obtain ⟨a', vs, e, h1, h2⟩ := h
    cases e
    have hl := h2.length
    refine ⟨⟨vs, vs[i], SqL.of h1, by simp [show i < vs.length by omega]⟩, fun v H' y => ?_⟩
    obtain ⟨rfl, y⟩ := y
    refine ⟨Same.refl _, ⟨a, vs, rfl, h1, h2⟩, fun x hx => ?_⟩
    obtain ⟨u, eu, ru⟩ := h2.get hx
    rw [y vs (SqL.of h1)] at eu
    cases eu
    exact ru
  stop := fun i A H hi h => by
    obtain ⟨a', vs, e, h1, h2⟩ := h
    cases e
    exact ⟨vs, SqL.of h1, by rw [h2.length]; exact hi⟩
theorem good_tup {w : World} {K : PySem.W.Frag} {B : Addr → Prop} {xs : List D} {a : Addr} : GoodIt w K B xs (Itt K a) fun A H => Rd1 w K (mu B A) H (.tuple xs) (.ref a) where
  go := fun i A H hi h => by
    obtain ⟨a', vs, e, h1, h2⟩ := h
    cases e
    have hl := h2.length
    refine ⟨⟨vs, vs[i], h1, by simp [show i < vs.length by omega]⟩, fun v H' y => ?_⟩
    obtain ⟨rfl, y⟩ := y
    refine ⟨Same.refl _, ⟨a, vs, rfl, h1, h2⟩, fun x hx => ?_⟩
    obtain ⟨u, eu, ru⟩ := h2.get hx
    rw [y vs h1] at eu
    cases eu
    exact ru
  stop := fun i A H hi h => by
    obtain ⟨a', vs, e, h1, h2⟩ := h
    cases e
    exact ⟨vs, h1, by rw [h2.length]; exact hi⟩
theorem r62_of {i : Int} (h : r62 i = true) : -(2 ^ 62) ≤ i ∧ i < 2 ^ 62 := by
  have h : i.natAbs.log2 < 62 := of_decide_eq_true h
  have h2 : i.natAbs < 2 ^ 62 := by
    by_cases h0 : i.natAbs = 0
    · rw [h0]; decide
    · exact (Nat.log2_lt h0).mp h
  omega
theorem rangeD_len (i j : Int) : (rangeD i j).length = (j - i).toNat := by unfold rangeD; rw [List.length_map, List.length_range]
theorem rangeD_get {i j : Int} {k : Nat} (h : k < (j - i).toNat) : (rangeD i j)[k]? = some (.int (i + k)) := by
  unfold rangeD
  rw [List.getElem?_map, List.getElem?_range h]
  rfl
theorem good_range {w : World} {K : PySem.W.Frag} {B : Addr → Prop} {i j : Int} : GoodIt w K B (rangeD i j) (Itr i (j - i).toNat) fun _ _ => True where
  go := fun k A H hk _ => by
    rw [rangeD_len] at hk
    refine ⟨hk, fun v H' y => ?_⟩
    obtain ⟨rfl, rfl⟩ := y
    refine ⟨Same.refl _, trivial, fun x hx => ?_⟩
    rw [rangeD_get hk] at hx
    cases hx
    exact (rfl : _ = _)
  stop := fun k A H hk _ => by rw [rangeD_len] at hk; exact hk
theorem prot_rep {w : World} {K : PySem.W.Frag} {B N : Addr → Prop} {A : Nat → List Addr} {H H' : Hp} {d : D} {v : V} (s : Same H H') (hN : ∀ x, N x → H x = none) (h : Rep w K (mu B A) H d v) : Rep w K (mu (fun x => B x ∨ N x) A) H' d v :=
  h.ext (O := fun _ => False) (Ext.same s) (fun _ z => z.elim) fun a n m => by
    rcases mu_or.mp m with m | m
    · exact m
    · exact absurd (hN a m) n
theorem prot_reps {w : World} {K : PySem.W.Frag} {B N : Addr → Prop} {A : Nat → List Addr} {H H' : Hp} {d : List D} {v : List V} (s : Same H H') (hN : ∀ x, N x → H x = none) (h : Reps w K (mu B A) H d v) : Reps w K (mu (fun x => B x ∨ N x) A) H' d v :=
  h.ext (O := fun _ => False) (Ext.same s) (fun _ z => z.elim) fun a n m => by
    rcases mu_or.mp m with m | m
    · exact m
    · exact absurd (hN a m) n
theorem ok_list {w : World} {K : PySem.W.Frag} {xs : List D} {a : Addr} : ItOk w K xs (Itl K a) fun B A H => Rep w K (mu B A) H (.list xs) (.ref a) where
  good := fun B => ⟨fun i A H hi h => by
    obtain ⟨g1, g2⟩ := good_list.go i A H hi h.rd1
    exact ⟨g1, fun v H' y => ⟨(g2 v H' y).1, h.same (g2 v H' y).1, (g2 v H' y).2.2⟩⟩, fun i A H hi h => good_list.stop i A H hi h.rd1⟩
  same := fun B A H H' s h => h.same s
  prot := fun B N A H H' s hN h => prot_rep s hN h
theorem ok_tup {w : World} {K : PySem.W.Frag} {xs : List D} {a : Addr} : ItOk w K xs (Itt K a) fun B A H => Rep w K (mu B A) H (.tuple xs) (.ref a) where
  good := fun B => ⟨fun i A H hi h => by
    obtain ⟨g1, g2⟩ := good_tup.go i A H hi h.rd1
    exact ⟨g1, fun v H' y => ⟨(g2 v H' y).1, h.same (g2 v H' y).1, (g2 v H' y).2.2⟩⟩, fun i A H hi h => good_tup.stop i A H hi h.rd1⟩
  same := fun B A H H' s h => h.same s
  prot := fun B N A H H' s hN h => prot_rep s hN h
theorem ok_listR {w : World} {K : PySem.W.Frag} {xs : List D} {a : Addr} : ItOk w K xs (Itl K a) fun B A H => Rd1 w K (mu B A) H (.list xs) (.ref a) where
  good := fun B => good_list
  same := fun B A H H' s h => Rd1.same s h
  prot := fun B N A H H' s hN h => by
    obtain ⟨a, vs, e, h1, h2⟩ := h
    exact ⟨a, vs, e, s _ _ h1, prot_reps s hN h2⟩
theorem ok_tupR {w : World} {K : PySem.W.Frag} {xs : List D} {a : Addr} : ItOk w K xs (Itt K a) fun B A H => Rd1 w K (mu B A) H (.tuple xs) (.ref a) where
  good := fun B => good_tup
  same := fun B A H H' s h => Rd1.same s h
  prot := fun B N A H H' s hN h => prot_rep (d := .tuple xs) s hN h
theorem ok_range {w : World} {K : PySem.W.Frag} {i j : Int} : ItOk w K (rangeD i j) (Itr i (j - i).toNat) fun _ _ _ => True := ⟨fun B => good_range, fun _ _ _ _ _ _ => trivial, fun _ _ _ _ _ _ _ _ => trivial⟩
theorem keep_rep {w : World} {K : PySem.W.Frag} {B : Addr → Prop} {d : D} {v : V} : Steps w K B fun A H => Rep w K (mu B A) H d v := fun A H A' H' O h ex hO hM => h.ext ex hO hM
/-- a list or a tuple -/
theorem iSeq {tg l : Expr} {p : P} (hl : JP X .c l p) : JI X tg l (iP p) := ⟨fun pins s σ H R I h => by
  obtain ⟨B, ρ, A, ρ1, xs, Rr, e, q⟩ := h
  unfold iP at e
  cases z : p ρ with
  | none => rw [z] at e; cases e
  | some d =>
    rw [z] at e
    cases d with
    | list ys =>
      cases e
      exact (pi_list hl).run pins s σ H R I ⟨B, ρ, A, _, Rr, z, fun v H' s r => by
        obtain ⟨a, vs, e1, n, h1, h2⟩ := id r
        subst e1
        exact ⟨a, rfl, ⟨vs, SqL.of h1⟩, q _ _ A H' (Step.same s Rr) ok_list (fun _ => keep_rep) r⟩⟩
    | tuple ys =>
      cases e
      exact (pi_tup hl).run pins s σ H R I ⟨B, ρ, A, _, Rr, z, fun v H' s r => by
        obtain ⟨a, vs, e1, h1, h2⟩ := id r
        subst e1
        exact ⟨a, rfl, ⟨vs, h1⟩, q _ _ A H' (Step.same s Rr) ok_tup (fun _ => keep_rep) r⟩⟩
    | _ => cases e⟩
theorem iSeqE {tg l : Expr} {f : E} (hl : J X l f) : JI X tg l (iE f) := ⟨fun pins s σ H R I h => by
  obtain ⟨B, ρ, A, ρ1, xs, Rr, e, q⟩ := h
  unfold iE at e
  cases z : f ρ with
  | none => rw [z] at e; cases e
  | some r =>
    obtain ⟨ρ2, c⟩ := r
    rw [z] at e
    dsimp only at e
    cases z2 : c.toD with
    | none => rw [z2] at e; cases e
    | some d =>
      rw [z2] at e
      cases d with
      | list ys =>
        cases e
        exact (pi_list hl).run pins s σ H R I ⟨B, ρ, A, _, _, Rr, z, fun v A1 H' S r => by
          have r := r.item z2
          obtain ⟨a, vs, e1, n, h1, h2⟩ := id r
          subst e1
          exact ⟨a, rfl, ⟨vs, SqL.of h1⟩, q _ _ A1 H' S ok_list (fun _ => keep_rep) r⟩⟩
      | tuple ys =>
        cases e
        exact (pi_tup hl).run pins s σ H R I ⟨B, ρ, A, _, _, Rr, z, fun v A1 H' S r => by
          have r := r.item z2
          obtain ⟨a, vs, e1, h1, h2⟩ := id r
          subst e1
          exact ⟨a, rfl, ⟨vs, h1⟩, q _ _ A1 H' S ok_tup (fun _ => keep_rep) r⟩⟩
      | _ => cases e⟩
/-- .. read in place -/
theorem ipSeq {tg l : Expr} {p : P} (hl : JP X .r l p) : JIp X tg l (ipP p) := ⟨fun pins s σ H R I h => by
  obtain ⟨B, ρ, A, xs, Rr, e, q⟩ := h
  unfold ipP at e
  cases z : p ρ with
  | none => rw [z] at e; cases e
  | some d =>
    rw [z] at e
    cases d with
    | list ys =>
      cases e
      exact (pi_list hl).run pins s σ H R I ⟨B, ρ, A, _, Rr, z, fun v H' s r => by
        obtain ⟨a, vs, e1, h1, h2⟩ := id r
        subst e1
        exact ⟨a, rfl, ⟨vs, SqL.of h1⟩, q _ _ H' s ok_listR r⟩⟩
    | tuple ys =>
      cases e
      exact (pi_tup hl).run pins s σ H R I ⟨B, ρ, A, _, Rr, z, fun v H' s r => by
        obtain ⟨a, vs, e1, h1, h2⟩ := id r
        subst e1
        exact ⟨a, rfl, ⟨vs, h1⟩, q _ _ H' s ok_tupR r⟩⟩
    | _ => cases e⟩
theorem evs1 {a : P} {ρ : Env} {d : D} (h : a ρ = some d) : evs [a] ρ = some [d] := by rw [evs, h]; rfl
theorem evs2 {a b : P} {ρ : Env} {d e : D} (h : a ρ = some d) (h2 : b ρ = some e) : evs [a, b] ρ = some [d, e] := by rw [evs, h]; dsimp only; rw [evs1 h2]
/-- range(b) -/
theorem ipR1 {tg a : Expr} {pa : P} {p0 p1 : Pos} (hm : X.mg "range" = none) (ha : JP X .r a pa) (hgl : Gl X "range" := by rfl) (hst : starEach [a] X.env = [(false, eval a X.env)] := by rfl) : JIp X tg (.Call (.Name "range" p0) [a] [] p1) (ipR (pC (.int 0)) pa) :=
  piimp (pi_range1 hgl hm (jaCons (k := .r) ha jaNil hst) hst) fun σ H R h => by
    obtain ⟨B, ρ, A, xs, Rr, e, q⟩ := h
    unfold ipR pC at e
    cases z : pa ρ with
    | none => rw [z] at e; cases e
    | some d =>
      rw [z] at e
      cases d with
      | int j =>
        dsimp only at e
        split at e
        · rename_i hr
          cases e
          rw [Bool.and_eq_true] at hr
          refine ⟨B, ρ, A, [.int j], Rr, evs1 z, fun vs H1 s1 r1 => ?_⟩
          cases r1 with
          | cons r1 r2 =>
            cases r2
            obtain ⟨b1, b2⟩ := r62_of hr.2
            refine ⟨j, by rw [show _ = V.int j from r1], b1, b2, ?_⟩
            have := q (Itr 0 (j - 0).toNat) _ H1 s1 ok_range trivial
            rwa [Int.sub_zero] at this
        · cases e
      | _ => cases e
theorem ipR2 {tg a b : Expr} {pa pb : P} {p0 p1 : Pos} (hm : X.mg "range" = none) (ha : JP X .r a pa) (hb' : JP X .r b pb) (hgl : Gl X "range" := by rfl)
    (hst : starEach [a, b] X.env = [(false, eval a X.env), (false, eval b X.env)] := by rfl) (hst2 : starEach [b] X.env = [(false, eval b X.env)] := by rfl) : JIp X tg (.Call (.Name "range" p0) [a, b] [] p1) (ipR pa pb) :=
  piimp (pi_range2 hgl hm (jaCons (k := .r) ha (jaCons hb' jaNil hst2) (by rw [hst, hst2])) hst hst2) fun σ H R h => by
    obtain ⟨B, ρ, A, xs, Rr, e, q⟩ := h
    unfold ipR at e
    cases z : pa ρ with
    | none => rw [z] at e; cases e
    | some d =>
      cases z2 : pb ρ with
      | none => rw [z, z2] at e; cases d <;> cases e
      | some d2 =>
        rw [z, z2] at e
        cases d with
        | int i =>
          cases d2 with
          | int j =>
            dsimp only at e
            split at e
            · rename_i hr
              cases e
              rw [Bool.and_eq_true] at hr
              refine ⟨B, ρ, A, [.int i, .int j], Rr, evs2 z z2, fun vs H1 s1 r1 => ?_⟩
              cases r1 with
              | cons r1 r2 =>
                cases r2 with
                | cons r2 r3 =>
                  cases r3
                  obtain ⟨b1, b2⟩ := r62_of hr.1
                  obtain ⟨b3, b4⟩ := r62_of hr.2
                  exact ⟨i, j, by rw [show _ = V.int i from r1, show _ = V.int j from r2], ⟨b1, b2, b3, b4⟩, q _ _ H1 s1 ok_range trivial⟩
            · cases e
          | _ => cases e
        | _ => cases e
/-- ranges walked by a loop -/
theorem iR1 {tg a : Expr} {pa : P} {p0 p1 : Pos} (hm : X.mg "range" = none) (ha : JP X .r a pa) (hgl : Gl X "range" := by rfl) (hst : starEach [a] X.env = [(false, eval a X.env)] := by rfl) : JI X tg (.Call (.Name "range" p0) [a] [] p1) (iR (pC (.int 0)) pa) :=
  piimp (pi_range1 hgl hm (jaCons (k := .r) ha jaNil hst) hst) fun σ H R h => by
    obtain ⟨B, ρ, A, ρ1, xs, Rr, e, q⟩ := h
    unfold iR pC at e
    cases z : pa ρ with
    | none => rw [z] at e; cases e
    | some d =>
      rw [z] at e
      cases d with
      | int j =>
        dsimp only at e
        split at e
        · rename_i hr
          cases e
          rw [Bool.and_eq_true] at hr
          refine ⟨B, ρ, A, [.int j], Rr, evs1 z, fun vs H1 s1 r1 => ?_⟩
          cases r1 with
          | cons r1 r2 =>
            cases r2
            obtain ⟨b1, b2⟩ := r62_of hr.2
            refine ⟨j, by rw [show _ = V.int j from r1], b1, b2, ?_⟩
            have := q (Itr 0 (j - 0).toNat) _ A H1 (Step.same s1 Rr) ok_range (fun _ _ _ _ _ _ _ _ _ _ => trivial) trivial
            rwa [Int.sub_zero] at this
        · cases e
      | _ => cases e
theorem iR2 {tg a b : Expr} {pa pb : P} {p0 p1 : Pos} (hm : X.mg "range" = none) (ha : JP X .r a pa) (hb' : JP X .r b pb) (hgl : Gl X "range" := by rfl)
    (hst : starEach [a, b] X.env = [(false, eval a X.env), (false, eval b X.env)] := by rfl) (hst2 : starEach [b] X.env = [(false, eval b X.env)] := by rfl) : JI X tg (.Call (.Name "range" p0) [a, b] [] p1) (iR pa pb) :=
  piimp (pi_range2 hgl hm (jaCons (k := .r) ha (jaCons hb' jaNil hst2) (by rw [hst, hst2])) hst hst2) fun σ H R h => by
    obtain ⟨B, ρ, A, ρ1, xs, Rr, e, q⟩ := h
    unfold iR at e
    cases z : pa ρ with
    | none => rw [z] at e; cases e
    | some d =>
      cases z2 : pb ρ with
      | none => rw [z, z2] at e; cases d <;> cases e
      | some d2 =>
        rw [z, z2] at e
        cases d with
        | int i =>
          cases d2 with
          | int j =>
            dsimp only at e
            split at e
            · rename_i hr
              cases e
              rw [Bool.and_eq_true] at hr
              refine ⟨B, ρ, A, [.int i, .int j], Rr, evs2 z z2, fun vs H1 s1 r1 => ?_⟩
              cases r1 with
              | cons r1 r2 =>
                cases r2 with
                | cons r2 r3 =>
                  cases r3
                  obtain ⟨b1, b2⟩ := r62_of hr.1
                  obtain ⟨b3, b4⟩ := r62_of hr.2
                  exact ⟨i, j, by rw [show _ = V.int i from r1, show _ = V.int j from r2], ⟨b1, b2, b3, b4⟩, q _ _ A H1 (Step.same s1 Rr) ok_range (fun _ _ _ _ _ _ _ _ _ _ => trivial) trivial⟩
            · cases e
          | _ => cases e
        | _ => cases e
theorem iRE1 {tg a : Expr} {fa : E} {p0 p1 : Pos} (hm : X.mg "range" = none) (ha : J X a fa) (hgl : Gl X "range" := by rfl) (hst : starEach [a] X.env = [(false, eval a X.env)] := by rfl) : JI X tg (.Call (.Name "range" p0) [a] [] p1) (iRE [fa]) :=
  piimp (pi_range1 hgl hm (jaeCons ha jaeNil hst) hst) fun σ H R h => by
    obtain ⟨B, ρ, A, ρ1, xs, Rr, e, q⟩ := h
    unfold iRE at e
    cases z : eevs [fa] ρ with
    | none => rw [z] at e; cases e
    | some r =>
      obtain ⟨ρ2, ds⟩ := r
      rw [z] at e
      refine ⟨B, ρ, A, ρ2, ds, Rr, z, fun vs A1 H1 S r1 => ?_⟩
      match ds, e, r1 with
      | [.int j], e, r1 =>
        dsimp only at e
        split at e
        · rename_i hr
          cases e
          obtain ⟨v, t, rfl, r1, r2⟩ := r1
          rw [show t = [] from r2]
          obtain ⟨b1, b2⟩ := r62_of hr
          refine ⟨j, by rw [show _ = V.int j from r1], b1, b2, ?_⟩
          have := q (Itr 0 (j - 0).toNat) _ A1 H1 S ok_range (fun _ _ _ _ _ _ _ _ _ _ => trivial) trivial
          rwa [Int.sub_zero] at this
        · cases e
      | [.int i, .int j], e, r1 =>
        exfalso
        rw [eevs] at z
        cases z1 : fa ρ with
        | none => rw [z1] at z; cases z
        | some r =>
          obtain ⟨a1, a2⟩ := r
          rw [z1] at z
          dsimp only at z
          cases z3 : a2.toD with
          | none => rw [z3] at z; cases z
          | some x => rw [z3] at z; simp [eevs] at z
theorem iRE2 {tg a b : Expr} {fa fb : E} {p0 p1 : Pos} (hm : X.mg "range" = none) (ha : J X a fa) (hb' : J X b fb) (hgl : Gl X "range" := by rfl)
    (hst : starEach [a, b] X.env = [(false, eval a X.env), (false, eval b X.env)] := by rfl) (hst2 : starEach [b] X.env = [(false, eval b X.env)] := by rfl) : JI X tg (.Call (.Name "range" p0) [a, b] [] p1) (iRE [fa, fb]) :=
  piimp (pi_range2 hgl hm (jaeCons ha (jaeCons hb' jaeNil hst2) (by rw [hst, hst2])) hst hst2) fun σ H R h => by
    obtain ⟨B, ρ, A, ρ1, xs, Rr, e, q⟩ := h
    unfold iRE at e
    cases z : eevs [fa, fb] ρ with
    | none => rw [z] at e; cases e
    | some r =>
      obtain ⟨ρ2, ds⟩ := r
      rw [z] at e
      refine ⟨B, ρ, A, ρ2, ds, Rr, z, fun vs A1 H1 S r1 => ?_⟩
      match ds, e, r1 with
      | [.int j], e, r1 =>
        exfalso
        rw [eevs] at z
        cases z1 : fa ρ with
        | none => rw [z1] at z; cases z
        | some r =>
          obtain ⟨a1, a2⟩ := r
          rw [z1] at z
          dsimp only at z
          cases z3 : a2.toD with
          | none => rw [z3] at z; cases z
          | some x =>
            rw [z3, eevs] at z
            dsimp only at z
            cases z4 : fb a1 with
            | none => rw [z4] at z; cases z
            | some r2 =>
              obtain ⟨a3, a4⟩ := r2
              rw [z4] at z
              dsimp only at z
              cases z5 : a4.toD with
              | none => rw [z5] at z; cases z
              | some x => rw [z5] at z; simp [eevs] at z
      | [.int i, .int j], e, r1 =>
        dsimp only at e
        split at e
        · rename_i hr
          cases e
          rw [Bool.and_eq_true] at hr
          obtain ⟨v, t, rfl, rv1, u, t2, rfl, r2, r3⟩ := r1
          rw [show t2 = [] from r3]
          obtain ⟨b1, b2⟩ := r62_of hr.1
          obtain ⟨b3, b4⟩ := r62_of hr.2
          exact ⟨i, j, by rw [show _ = V.int i from rv1, show _ = V.int j from r2], ⟨b1, b2, b3, b4⟩, q _ _ A1 H1 S ok_range (fun _ _ _ _ _ _ _ _ _ _ => trivial) trivial⟩
        · cases e
end
end L3
/-! for loops and comprehensions over anything that is walked. -/
namespace L3
open PySem PySem.Spec PyProof.Rows L2
section
variable {X : Cx}
/-- a turn of a for loop -/
theorem forL_cons {p : Pat} {b : Sm} {x : D} {r : List D} {ρ : Env} {out : Env × Out} (h : forL p b (x :: r) ρ = some out) : ∃ ρ1 ρ2 o, bind p x ρ = some ρ1 ∧ b ρ1 = some (ρ2, o) ∧
    match o with | .nx => forL p b r ρ2 = some out | .ct => forL p b r ρ2 = some out | .bk => out = (ρ2, .nx) | .rt c => out = (ρ2, .rt c) := by
  rw [forL] at h
  cases z : bind p x ρ with
  | none => rw [z] at h; cases h
  | some ρ1 =>
    rw [z] at h
    dsimp only at h
    cases z2 : b ρ1 with
    | none => rw [z2] at h; cases h
    | some r2 =>
      obtain ⟨ρ2, o⟩ := r2
      rw [z2] at h
      cases o with
      | nx => exact ⟨ρ1, ρ2, .nx, rfl, z2, h⟩
      | ct => exact ⟨ρ1, ρ2, .ct, rfl, z2, h⟩
      | bk => cases h; exact ⟨ρ1, ρ2, .bk, rfl, z2, rfl⟩
      | rt c => cases h; exact ⟨ρ1, ρ2, .rt c, rfl, z2, rfl⟩
theorem drop_at {α : Type} {ds : List α} {i : Nat} (hi : i < ds.length) : ds.drop i = ds[i] :: ds.drop (i + 1) := List.drop_eq_getElem_cons hi
theorem sForS {tg iter : Expr} {body : List Stmt} {p : Pat} {a : Ie} {g : Sm} {pos : Pos} (hp : PassesOwn (model X.prog X.w) X.A X.env X.xe) (hc : X.calm = true) (hi : JI X tg iter a) (hg : JG X tg p) (hb : Ss X body g)
    (hs : ∀ x, foldedSetIterable iter X.env x = pure x := by intro _; rfl) : S1 X (.For tg iter body [] pos) (sFor p a g) := psimp (ps_for hp hc hi hg hb hs) fun Dn σ H h => by
  obtain ⟨B, ρ, A, ρ', o, R, e, q⟩ := h
  unfold sFor at e
  cases z : a ρ with
  | none => rw [z] at e; cases e
  | some r =>
    obtain ⟨ρ0, xs⟩ := r
    rw [z] at e
    refine ⟨B, ρ, A, ρ0, xs, R, z, fun Ji Keep A0 H0 S0 Gd Sp K0 => ?_⟩
    have Gd := Gd.good B
    have Sp := Sp B
    have q0 := q.ahead (D' := Dn) R S0 ⟨fun _ => rfl, rfl, rfl, rfl⟩
    refine ⟨fun i m σ H => m = xs.length - i ∧ i ≤ xs.length ∧ ∃ ρi Ai, Rel X.w X.K B ρi σ Ai H ∧ forL p g (xs.drop i) ρi = some (ρ', o) ∧ After X.w X.K B ρi σ Ai H Dn ρ' o ∧ Keep B Ai H, ⟨xs.length, rfl, Nat.zero_le _, ρ0, A0, S0.rel, by rw [List.drop_zero]; exact e, q0, K0⟩, ?_⟩
    rintro i m σ1 H1 ⟨rfl, hi, ρi, Ai, Ri, ei, qi, Ki⟩
    by_cases hlt : i < xs.length
    · obtain ⟨g1, g2⟩ := Gd.go i Ai H1 hlt Ki
      refine .inr ⟨g1, fun σ' H' => ∃ ρj Aj, Rel X.w X.K B ρj σ' Aj H' ∧ forL p g (xs.drop (i + 1)) ρj = some (ρ', o) ∧ After X.w X.K B ρj σ' Aj H' Dn ρ' o ∧ Keep B Aj H', fun σ' H' hN => ⟨xs.length - (i + 1), by omega, rfl, hlt, hN⟩, fun v H2 y => ?_⟩
      obtain ⟨s2, k2, rv⟩ := g2 v H2 y
      have S2 := Step.same s2 Ri
      rw [drop_at hlt] at ei
      obtain ⟨ρ1, ρ2, o2, e1, e2, e3⟩ := forL_cons ei
      have qs := qi.ahead (D' := Dn) Ri S2 ⟨fun _ => rfl, rfl, rfl, rfl⟩
      refine ⟨B, ρi, Ai, xs[i], ρ1, S2.rel, e1, rv _ (by simp [hlt]), fun σ3 A3 S3 _ => ⟨B, ρ1, A3, ρ2, o2, S3.rel, e2, ?_⟩⟩
      have k3 := Sp.step S3 k2
      have q3 := qs.ahead (D' := Dn) S2.rel S3 ⟨fun _ => rfl, rfl, rfl, rfl⟩
      cases o2 with
      | nx => exact fun σ4 A4 H4 S4 => ⟨ρ2, A4, S4.rel, e3, q3.ahead S3.rel S4 ⟨fun _ => rfl, rfl, rfl, rfl⟩, Sp.step S4 k3⟩
      | ct => exact fun σ4 A4 H4 S4 => ⟨ρ2, A4, S4.rel, e3, q3.ahead S3.rel S4 ⟨fun _ => rfl, rfl, rfl, rfl⟩, Sp.step S4 k3⟩
      | bk => cases e3; exact fun σ4 A4 H4 S4 => qs _ _ _ (S3.trans S2.rel S4)
      | rt c => cases e3; exact fun v σ4 A4 H4 S4 r => qs v _ _ _ (S3.trans S2.rel S4) (ResC.ahead S2.rel S3 r)
    · refine .inl ⟨Gd.stop i Ai H1 (by omega) Ki, ?_⟩
      rw [List.drop_eq_nil_of_le (by omega), forL] at ei
      cases ei
      exact qi _ _ _ (Step.refl Ri)
/-! ### comprehensions -/
theorem wipe_agree {σ σ' : L2.St} : ∀ {vs : List Nat}, σ.length = σ'.length → (∀ j, j ∉ vs → σ'[j]? = σ[j]?) → wipe σ' vs = wipe σ vs := by
  intro vs hl h
  apply List.ext_getElem?
  intro j
  by_cases hj : j ∈ vs
  · have one : ∀ (τ : L2.St) (us : List Nat), j ∈ us → (wipe τ us)[j]? = if j < τ.length then some none else none := fun τ us => by
      induction us with
      | nil => intro z; cases z
      | cons u us ih =>
        intro hm
        unfold wipe
        by_cases hu : u = j
        · subst hu
          by_cases hlt : u < τ.length
          · rw [if_pos hlt, List.getElem?_set_self (by rw [wipe_length]; exact hlt)]
          · rw [if_neg hlt, List.getElem?_eq_none (by rw [List.length_set, wipe_length]; omega)]
        · rw [List.getElem?_set_ne hu]
          rcases List.mem_cons.mp hm with e | hm
          · exact absurd e.symm hu
          · exact ih hm
    rw [one σ' vs hj, one σ vs hj, hl]
  · rw [wipe_out hj, wipe_out hj, h j hj]
theorem wipe_wipe {σ : L2.St} {vs : List Nat} : wipe (wipe σ vs) vs = wipe σ vs := wipe_agree (wipe_length σ vs).symm fun j hj => wipe_out hj
theorem wipeE_length (ρ : Env) : ∀ vs : List Nat, (wipeE vs ρ).length = ρ.length
  | [] => rfl
  | v :: vs => by unfold wipeE; rw [List.length_set, wipeE_length ρ vs]
theorem wipeE_out {ρ : Env} {i : Nat} : ∀ {vs : List Nat}, i ∉ vs → (wipeE vs ρ)[i]? = ρ[i]?
  | [], _ => rfl
  | v :: vs, h => by
    simp only [List.mem_cons, not_or] at h
    unfold wipeE
    rw [List.getElem?_set_ne (fun e => h.1 e.symm), wipeE_out h.2]
theorem wipeE_in {ρ : Env} {i : Nat} {c : Cell} : ∀ {vs : List Nat}, i ∈ vs → (wipeE vs ρ)[i]? = some c → c = .un
  | [], h, _ => nomatch h
  | v :: vs, h, e => by
    unfold wipeE at e
    by_cases hv : v = i
    · subst hv
      by_cases hlt : v < (wipeE vs ρ).length
      · rw [List.getElem?_set_self hlt] at e; cases e; rfl
      · rw [List.getElem?_eq_none (by simpa using hlt)] at e; cases e
    · rw [List.getElem?_set_ne hv] at e
      rcases List.mem_cons.mp h with z | z
      · exact absurd z.symm hv
      · exact wipeE_in z e
variable {w : World} {K : PySem.W.Frag} {B : Addr → Prop}
/-- names that own nothing are forgotten -/
theorem Rel.wiped {ρ : Env} {σ : L2.St} {A : Nat → List Addr} {H : Hp} {vs : List Nat} (R : Rel w K B ρ σ A H) (hf : ∀ i ∈ vs, A i = []) : Rel w K B (wipeE vs ρ) (wipe σ vs) A H where
  len := by rw [wipeE_length, wipe_length]; exact R.len
  cell := fun i c e => by
    by_cases hi : i ∈ vs
    · rw [wipeE_in hi e]; exact hf i hi
    · rw [wipeE_out hi] at e
      rw [wipe_out hi]
      exact R.cell i c e
  out := fun i h => R.out i (by rw [wipeE_length] at h; exact h)
  aliveB := R.aliveB
  apart := R.apart
  one := R.one
theorem free_none {ρ : Env} {σ : L2.St} {A : Nat → List Addr} {H : Hp} {vs : List Nat} (R : Rel w K B ρ σ A H) (h : freeAt vs ρ = true) : ∀ i ∈ vs, A i = [] ∧ i < ρ.length := fun i hi => by
  unfold freeAt at h
  rw [List.all_eq_true] at h
  have := h i hi
  cases e : ρ[i]? with
  | none => rw [e] at this; cases this
  | some c =>
    rw [e] at this
    have hc := R.cell i c e
    refine ⟨?_, (List.getElem?_eq_some_iff.mp e).1⟩
    cases c with
    | un => exact hc
    | scr ns => exact hc.1
    | val d => exact hc.1
    | own fx o => cases this
theorem restore_out {ρ ρ' : Env} {i : Nat} : ∀ {vs : List Nat}, i ∉ vs → (restore vs ρ ρ')[i]? = ρ'[i]?
  | [], _ => rfl
  | v :: vs, h => by
    simp only [List.mem_cons, not_or] at h
    unfold restore
    rw [List.getElem?_set_ne (fun e => h.1 e.symm), restore_out h.2]
theorem restore_length (ρ ρ' : Env) : ∀ vs : List Nat, (restore vs ρ ρ').length = ρ'.length
  | [] => rfl
  | v :: vs => by unfold restore; rw [List.length_set, restore_length ρ ρ' vs]
theorem restore_in {ρ ρ' : Env} {i : Nat} {c : Cell} : ∀ {vs : List Nat}, i ∈ vs → (restore vs ρ ρ')[i]? = some c → c = ρ.getD i .un
  | [], h, _ => nomatch h
  | v :: vs, h, e => by
    unfold restore at e
    by_cases hv : v = i
    · subst hv
      by_cases hlt : v < (restore vs ρ ρ').length
      · rw [List.getElem?_set_self hlt] at e; cases e; rfl
      · rw [List.getElem?_eq_none (by simpa using hlt)] at e; cases e
    · rw [List.getElem?_set_ne hv] at e
      rcases List.mem_cons.mp h with z | z
      · exact absurd z.symm hv
      · exact restore_in z e
theorem upd_ext {H : Hp} {L : Addr} {us : List V} {o : HO} (hL : H L = some (.lst us)) : Ext (fun x => x = L) H (upd H L o) where
  keep := fun a ob e n => by rw [upd_ne n]; exact e
  tup := fun a vs e => by rw [upd_ne fun z => by rw [z, hL] at e; cases e]; exact e
  frz := fun a ob u e => by rw [upd_ne fun z => by rw [z, hL] at e; cases e]; exact e
/-- a thing of the callers' changes -/
theorem Rel.touch {ρ : Env} {σ : L2.St} {A : Nat → List Addr} {H H' : Hp} {L : Addr} (R : Rel w K B ρ σ A H) (hB : B L) (ex : Ext (fun x => x = L) H H') (hn : H' L ≠ none) : Rel w K B ρ σ A H' where
  len := R.len
  cell := fun i c e => (R.cell i c e).ext ex (fun a z => .inl (z ▸ hB)) (fun a _ m => m) fun x hx z => R.apart i x hx (z ▸ hB)
  out := R.out
  aliveB := fun x b => by
    by_cases hx : x = L
    · rw [hx]; exact hn
    · cases q : H x with
      | none => exact absurd q (R.aliveB x b)
      | some o => rw [ex.keep x o q hx]; simp
  apart := R.apart
  one := R.one
/-- tests of a clause -/
abbrev JTs (X : Cx) (ifs : List Expr) (t : T) : Prop := PTs X ifs (RT X.w X.K t)
theorem jtsNil : JTs X [] tYesP := ⟨fun pins s σ H Q I h => by
  obtain ⟨B, ρ, A, b, R, e, q⟩ := h
  cases e
  exact pts_nil.run pins s σ H Q I (q H (Same.refl H))⟩
theorem jtsOne {c : Expr} {t : T} (h : JT X c t) : JTs X [c] t := pts_one h
/-- a comprehension that changes nothing -/
theorem compP_cons {p : Pat} {t : T} {e : P} {ρ : Env} {x : D} {r ys : List D} (h : compP p t e ρ (x :: r) = some ys) : ∃ ρ1 b, bind p x ρ = some ρ1 ∧ t ρ1 = some b ∧ (if b = true then ∃ y zs, e ρ1 = some y ∧ compP p t e ρ r = some zs ∧ ys = y :: zs else compP p t e ρ r = some ys) := by
  rw [compP] at h
  cases z : bind p x ρ with
  | none => rw [z] at h; cases h
  | some ρ1 =>
    rw [z] at h
    dsimp only at h
    cases z2 : t ρ1 with
    | none => rw [z2] at h; cases h
    | some b =>
      rw [z2] at h
      refine ⟨ρ1, b, rfl, z2, ?_⟩
      cases b with
      | false => rw [if_neg (by decide)]; exact h
      | true =>
        rw [if_pos rfl]
        dsimp only at h
        cases z3 : e ρ1 with
        | none => rw [z3] at h; cases h
        | some y =>
          rw [z3] at h
          dsimp only at h
          cases z4 : compP p t e ρ r with
          | none => rw [z4] at h; cases h
          | some zs => rw [z4] at h; cases h; exact ⟨y, zs, rfl, rfl, rfl⟩
theorem compP_len {p : Pat} {t : T} {e : P} {ρ : Env} : ∀ {xs ys : List D}, compP p t e ρ xs = some ys → ys.length ≤ xs.length
  | [], ys, h => by rw [compP] at h; cases h; exact Nat.le_refl _
  | x :: r, ys, h => by
    obtain ⟨ρ1, b, _, _, h3⟩ := compP_cons h
    cases b with
    | false => rw [if_neg (by decide)] at h3; exact Nat.le_succ_of_le (compP_len h3)
    | true => rw [if_pos rfl] at h3; obtain ⟨y, zs, _, h4, rfl⟩ := h3; exact Nat.succ_le_succ (compP_len h4)
theorem rComp {k : Kind} {vs : List Nat} {p : Pat} {a : Ip} {t : T} {e : P} {σ : L2.St} {H : Hp} {Q : VK} (hsl : ∀ j, j ∈ p.slots → j ∈ vs) (h : RE w K k (pComp vs p a t e) σ H Q) : tLc (RIp w K a) (RG w K p) (RT w K t) (RE w K .c e) vs σ H Q := by
  obtain ⟨B, ρ, A, d, R, ec, q⟩ := h
  unfold pComp at ec
  cases z : a ρ with
  | none => rw [z] at ec; cases ec
  | some xs =>
    rw [z] at ec
    dsimp only at ec
    split at ec
    · rename_i hf
      rw [Bool.and_eq_true] at hf
      cases z2 : compP p t e (wipeE vs ρ) xs with
      | none => rw [z2] at ec; cases ec
      | some ys =>
        rw [z2] at ec
        cases ec
        refine ⟨B, ρ, A, xs, R, z, fun Ji Keep H1 s1 Gd K0 L hL => ?_⟩
        have hlen := compP_len z2
        have hline : xs.length ≤ sizeLine := len24_ok hf.2
        have fr := free_none R hf.1
        have R1 := R.same s1
        have K1 : Keep (fun x => B x ∨ x = L) A (upd H1 L (.lst [])) := Gd.prot B (fun x => x = L) A _ _ (same_new hL) (fun x e => e ▸ hL) K0
        have RL : Rel w K (fun x => B x ∨ x = L) ρ σ A (upd H1 L (.lst [])) := R1.protect (N := fun x => x = L) (same_new hL) fun x e => ⟨e ▸ hL, by rw [e, upd_same]; simp⟩
        have Gd' := Gd.good fun x => B x ∨ x = L
        refine ⟨fun i m H2 => m = xs.length - i ∧ i ≤ xs.length ∧ Rel w K (fun x => B x ∨ x = L) ρ σ A H2 ∧ Same H1 H2 ∧ Keep (fun x => B x ∨ x = L) A H2 ∧ ∃ acc zs us, compP p t e (wipeE vs ρ) (xs.drop i) = some zs ∧ ys = acc ++ zs ∧ acc.length ≤ i ∧ H2 L = some (.lst us) ∧ Reps w K (mu (fun x => B x ∨ x = L) A) H2 acc us,
          ⟨xs.length, rfl, Nat.zero_le _, RL, same_new hL, K1, [], ys, [], by rw [List.drop_zero]; exact z2, rfl, Nat.le_refl _, upd_same, rfl⟩, ?_⟩
        rintro i m H2 ⟨rfl, hi, R2, s2, K2, acc, zs, us, e2, rfl, la, hL2, ra⟩
        by_cases hlt : i < xs.length
        · obtain ⟨g1, g2⟩ := Gd'.go i A H2 hlt K2
          refine .inr ⟨g1, fun H3 => Rel w K (fun x => B x ∨ x = L) ρ σ A H3 ∧ Same H1 H3 ∧ Keep (fun x => B x ∨ x = L) A H3 ∧ ∃ acc' zs' us', compP p t e (wipeE vs ρ) (xs.drop (i + 1)) = some zs' ∧ acc ++ zs = acc' ++ zs' ∧ acc'.length ≤ i + 1 ∧ H3 L = some (.lst us') ∧ Reps w K (mu (fun x => B x ∨ x = L) A) H3 acc' us', fun H3 hN => ⟨xs.length - (i + 1), by omega, rfl, hlt, hN⟩, fun v H3 y => ?_⟩
          obtain ⟨s3, k3, rv⟩ := g2 v H3 y
          rw [drop_at hlt] at e2
          obtain ⟨ρ1, b, eb, et, ee⟩ := compP_cons e2
          have R3 := R2.same s3
          have Rw := R3.wiped (vs := vs) fun i hi => (fr i hi).1
          refine ⟨(fun x => B x ∨ x = L), wipeE vs ρ, A, xs[i], ρ1, Rw, eb, rv _ (by simp [hlt]), fun σ4 A4 S4 ka => ⟨?_, ?_⟩⟩
          · have hl4 : (wipe σ vs).length = σ4.length := by
              have := S4.rel.len
              have b1 := bind_len
              rw [← this, b1 _ _ _ _ eb, wipeE_length, wipe_length, R3.len]
            rw [← wipe_wipe (σ := σ)]
            exact wipe_agree hl4 fun j hj => (ka j fun z => hj (hsl j z)).1
          · refine ⟨(fun x => B x ∨ x = L), ρ1, A4, b, S4.rel, et, fun H5 s5 => ?_⟩
            cases b with
            | true =>
              rw [if_pos rfl] at ee ⊢
              obtain ⟨y0, zs', ey, ez, rfl⟩ := ee
              refine ⟨(fun x => B x ∨ x = L), ρ1, A4, y0, S4.rel.same s5, ey, fun u H6 s6 ru => ?_⟩
              have s36 := s5.trans s6
              have hL6 : H6 L = some (.lst us) := s36 _ _ (s3 _ _ hL2)
              refine ⟨us, hL6, ?_, ?_⟩
              · have := ra.length
                omega
              · have hne1 : Same H1 (upd H6 L (.lst (us ++ [u]))) := fun a o e => by
                  rw [upd_ne (ne_of_none e hL)]
                  exact ((s2.trans s3).trans s36) a o e
                have ex := upd_ext (o := .lst (us ++ [u])) hL6
                have BL : (fun x => B x ∨ x = L) L := .inr rfl
                have R6 := R3.same s36
                refine ⟨R6.touch BL ex (by rw [upd_same]; simp), hne1, Gd.prot B (fun x => x = L) A _ _ hne1 (fun x e => e ▸ hL) K0, acc ++ [y0], zs', us ++ [u], ez, by simp, by simp; omega, upd_same, ?_⟩
                have ru' : Rep w K (mu (fun x => B x ∨ x = L) A) H6 y0 u := Rep.weak (fun a m => ?_) ru
                · exact (((ra.same s3).same s36).append (Reps.one ru')).ext ex (fun a e => .inl (.inr e)) fun a _ m => m
                · rcases m with m | ⟨j, m⟩
                  · exact .inl m
                  · by_cases hj : j ∈ vs
                    · rw [(fr j hj).1] at m; cases m
                    · exact .inr ⟨j, by rw [(ka j fun z => hj (hsl j z)).2]; exact m⟩
            | false =>
              rw [if_neg (by decide)] at ee ⊢
              exact ⟨R3.same s5, (s2.trans s3).trans s5, Gd.same _ _ _ _ s5 k3, acc, zs, us, ee, rfl, by omega, s5 _ _ (s3 _ _ hL2), (ra.same s3).same s5⟩
        · refine .inl ⟨Gd'.stop i A H2 (by omega) K2, ?_⟩
          rw [List.drop_eq_nil_of_le (by omega), compP] at e2
          cases e2
          rw [List.append_nil] at q
          have R2' := R.same (s1.trans s2)
          refine q _ _ (s1.trans s2) (Res.down (k0 := .f) ⟨L, us, rfl, s1.free hL, hL2, ra.weak fun x m => mu_or.mpr m⟩ R.al (by cases k <;> rfl))
    · cases ec
end
end L3
/-! Comprehensions as expressions; defs and their calls. -/
namespace L3
open PySem PySem.Spec PyProof.Rows L2
section
variable {X : Cx}
theorem jComp {k : Kind} {elt tg iter : Expr} {ifs : List Expr} {scope : Scope} {own : List (Str × Nat)} {pos : Pos} {p : Pat} {a : Ip} {t : T} {e : P} (hc : X.calm = true) (nd : X.N.Nodup) (hi : JIp X tg iter a) (ok : blkC X.N X.env.scope scope own = true)
    (hg : ∀ (s : Shared) (H : Hp) (C : Addr) (cl : List (Str × Addr)) (fp : List Addr), JG (X.blk s H scope (compEnvC scope cl C X.env) fp) tg p)
    (ht : ∀ (s : Shared) (H : Hp) (C : Addr) (cl : List (Str × Addr)) (fp : List Addr), JTs (X.blk s H scope (compEnvC scope cl C X.env) fp) ifs t)
    (he : ∀ (s : Shared) (H : Hp) (C : Addr) (cl : List (Str × Addr)) (fp : List Addr), JP (X.blk s H scope (compEnvC scope cl C X.env) fp) .c elt e)
    (hsl : ∀ j, j ∈ p.slots → j ∈ own.map (·.2) := by decide) (hs : ∀ x, foldedSetIterable iter X.env x = pure x := by intro _; rfl) :
    JP X k (.ListComp elt [⟨tg, iter, ifs, 0⟩] scope pos) (pComp (own.map (·.2)) p a t e) :=
  peimp (pe_lc hc nd hi (blkOk_by ok) hg ht he hs) fun σ H Q h => rComp hsl h
/-- name = [..], the name a local -/
theorem sSetC {fr : Bool} {i : Nat} {y : Str} {py : Pos} {elt tg iter : Expr} {ifs : List Expr} {scope : Scope} {own : List (Str × Nat)} {pos spos : Pos} {p : Pat} {a : Ip} {t : T} {e : P} (hc : X.calm = true) (nd : X.N.Nodup) (hy : X.N[i]? = some y) (hyl : X.env.scope.names.lookup y = some .local)
    (hsw : swapsWith (.ListComp elt [⟨tg, iter, ifs, 0⟩] scope pos) (some (.Name y py)) spos.line X.env = pure true) (hi : JIp X tg iter a) (ok : blkC X.N X.env.scope scope own = true)
    (hg : ∀ (s : Shared) (H : Hp) (C : Addr) (cl : List (Str × Addr)) (fp : List Addr), JG (X.blk s H scope (compEnvC scope cl C X.env) fp) tg p)
    (ht : ∀ (s : Shared) (H : Hp) (C : Addr) (cl : List (Str × Addr)) (fp : List Addr), JTs (X.blk s H scope (compEnvC scope cl C X.env) fp) ifs t)
    (he : ∀ (s : Shared) (H : Hp) (C : Addr) (cl : List (Str × Addr)) (fp : List Addr), JP (X.blk s H scope (compEnvC scope cl C X.env) fp) .c elt e)
    (hsl : ∀ j, j ∈ p.slots → j ∈ own.map (·.2) := by decide) (hs : ∀ x, foldedSetIterable iter X.env x = pure x := by intro _; rfl) :
    S1 X (.Assign [.Name y py] (.ListComp elt [⟨tg, iter, ifs, 0⟩] scope pos) spos) (if fr then sOwn i (eF (pComp (own.map (·.2)) p a t e)) else sVal i (eP (pComp (own.map (·.2)) p a t e))) :=
  psimp (ps_setLc hc nd hy hyl hsw hi (blkOk_by ok) hg ht he hs) fun Dn σ H h => by
    obtain ⟨B, ρ, A, ρ', o, R, e1, q⟩ := h
    cases fr with
    | false =>
      rw [if_neg (by decide)] at e1
      unfold sVal eP at e1
      cases z : pComp (own.map (·.2)) p a t e ρ with
      | none => rw [z] at e1; cases e1
      | some d =>
        rw [z] at e1
        dsimp only [Cell.toD] at e1
        cases z3 : put i (.val d) ρ with
        | none => rw [z3] at e1; cases e1
        | some ρ2 =>
          rw [z3] at e1; cases e1
          refine rComp (k := .c) hsl ⟨B, ρ, A, d, R, z, fun v H' s r => ?_⟩
          exact q _ _ _ (Step.put (as := []) R (Step.same s R) z3 (R.same s).noB ⟨rfl, v, rfl, Rep.weak (fun a m => m.elim id fun z => nomatch z) r⟩ fun x z => nomatch z)
    | true =>
      rw [if_pos rfl] at e1
      unfold sOwn eF at e1
      cases z : pComp (own.map (·.2)) p a t e ρ with
      | none => rw [z] at e1; cases e1
      | some d =>
        rw [z] at e1
        cases d with
        | list xs =>
          dsimp only at e1
          cases z3 : put i (.own false (.lst xs)) ρ with
          | none => rw [z3] at e1; cases e1
          | some ρ2 =>
            rw [z3] at e1; cases e1
            refine rComp (k := .f) hsl ⟨B, ρ, A, _, R, z, fun v H' s r => ?_⟩
            obtain ⟨_, as, ok, hn, R1⟩ := ResC.of (k := .f) R (Step.refl R) s r (by decide)
            exact q _ _ _ (Step.put (as := as) R (Step.same s R) z3 R1 ⟨v, rfl, ok⟩ hn)
        | dict xs =>
          dsimp only at e1
          cases z3 : put i (.own false (.dic xs)) ρ with
          | none => rw [z3] at e1; cases e1
          | some ρ2 =>
            rw [z3] at e1; cases e1
            refine rComp (k := .f) hsl ⟨B, ρ, A, _, R, z, fun v H' s r => ?_⟩
            obtain ⟨_, as, ok, hn, R1⟩ := ResC.of (k := .f) R (Step.refl R) s r (by decide)
            exact q _ _ _ (Step.put (as := as) R (Step.same s R) z3 R1 ⟨v, rfl, ok⟩ hn)
        | _ => cases e1
end
/-! ### defs -/
/-- what a def promises, told by a function of cells -/
def spF (w : World) (K : PySem.W.Frag) (F : Fn) : List V → Hp → VK → Prop := fun vs H Q => ∃ B A cs cs' c, Rel w K B cs (vs.map some) A H ∧ F cs = some (cs', c) ∧
  ∀ v A' H', Step w K B cs (vs.map some) A H cs' (vs.map some) A' H' → ResC w K B cs' (vs.map some) A A' H H' c v → Q v H'
structure GnOk (P : Program) (w : World) (K : PySem.W.Frag) (mg : Str → Option Value) (base : Heap) (k : Nat) (f : Addr) (fd : FuncData) (ps : List Str) (F : Fn) : Prop where
  len : ∀ cs r, F cs = some r → cs.length = ps.length
  run : ∀ (A : Around) (outer : List PySem.Env) (s : Shared) (H : Hp) (args : Args) (us : List Value) (vs : List V) (Q : VK), Room k A → A.guards = some [] → Env0 P w K mg base A outer s H → BindsTo s fd args (ps.zip us) → Vals vs us → spF w K F vs H Q →
    codeAny (model P w) A (.call (.ref f) args) (CR C8.CX0 outer P w H s Q C8.E0) s
section
variable {w : World} {K : PySem.W.Frag} {B : Addr → Prop} {ρ ρ' ρ1 : Env} {σ σ' τ : L2.St} {A A' A1 : Nat → List Addr} {H H' H1 : Hp} {c : Cell} {v : V}
theorem backs_len : ∀ (cs : List Cell) (ρ : Env), (backs cs ρ).length = cs.length
  | [], _ => rfl
  | .own true _ :: r, c :: ρ => by rw [backs, List.length_cons, List.length_cons, backs_len r ρ]
  | .own true _ :: r, [] => by rw [backs.eq_3 _ _ _ (by simp), List.length_cons, List.length_cons, backs_len r _]
  | .own false _ :: r, ρ => by rw [backs.eq_3 _ _ _ (by simp), List.length_cons, List.length_cons, backs_len r _]
  | .un :: r, ρ => by rw [backs.eq_3 _ _ _ (by simp), List.length_cons, List.length_cons, backs_len r _]
  | .scr _ :: r, ρ => by rw [backs.eq_3 _ _ _ (by simp), List.length_cons, List.length_cons, backs_len r _]
  | .val _ :: r, ρ => by rw [backs.eq_3 _ _ _ (by simp), List.length_cons, List.length_cons, backs_len r _]
theorem tail_get (ρ : Env) (i : Nat) : ρ.tail[i]? = ρ[i + 1]? := by cases ρ <;> simp
theorem backs_un {r : List Cell} {ρ : Env} {c0 c : Cell} {i : Nat} (hb : ∀ o, c0 ≠ .own true o) (ih : ∀ (i : Nat) (c : Cell), (backs r ρ.tail)[i]? = some c → c = Cell.un ∨ ∃ o, r[i]? = some (Cell.own true o) ∧ ρ.tail[i]? = some c)
    (h : (backs (c0 :: r) ρ)[i]? = some c) : c = Cell.un ∨ ∃ o, (c0 :: r)[i]? = some (Cell.own true o) ∧ ρ[i]? = some c := by
  have e : backs (c0 :: r) ρ = .un :: backs r ρ.tail := by
    cases c0 with
    | own fx o =>
      cases fx with
      | true => exact absurd rfl (hb o)
      | false => rw [backs.eq_3 _ _ _ (by simp)]
    | un => rw [backs.eq_3 _ _ _ (by simp)]
    | scr ns => rw [backs.eq_3 _ _ _ (by simp)]
    | val d => rw [backs.eq_3 _ _ _ (by simp)]
  rw [e] at h
  cases i with
  | zero => simp at h; exact .inl h.symm
  | succ i =>
    rw [List.getElem?_cons_succ] at h
    rcases ih i c h with z | ⟨o, z1, z2⟩
    · exact .inl z
    · exact .inr ⟨o, by rw [List.getElem?_cons_succ]; exact z1, by rw [← tail_get]; exact z2⟩
theorem backs_get : ∀ (cs : List Cell) (ρ : Env) (i : Nat) (c : Cell), (backs cs ρ)[i]? = some c → c = Cell.un ∨ ∃ o, cs[i]? = some (Cell.own true o) ∧ ρ[i]? = some c
  | [], _, i, c, h => by simp [backs] at h
  | .own true o :: r, c0 :: ρ, i, c, h => by
    rw [backs] at h
    cases i with
    | zero => simp at h; subst h; exact .inr ⟨o, rfl, rfl⟩
    | succ i =>
      rw [List.getElem?_cons_succ] at h
      rcases backs_get r ρ i c h with z | ⟨o, z1, z2⟩
      · exact .inl z
      · exact .inr ⟨o, by rw [List.getElem?_cons_succ]; exact z1, by rw [List.getElem?_cons_succ]; exact z2⟩
  | .own true o :: r, [], i, c, h => by
    rw [backs.eq_3 _ _ _ (by simp)] at h
    cases i with
    | zero => simp at h; exact .inl h.symm
    | succ i =>
      rw [List.getElem?_cons_succ] at h
      rcases backs_get r _ i c h with z | ⟨o, z1, z2⟩
      · exact .inl z
      · simp at z2
  | .own false o :: r, ρ, i, c, h => backs_un (fun _ z => by cases z) (backs_get r ρ.tail) h
  | .un :: r, ρ, i, c, h => backs_un (fun _ z => by cases z) (backs_get r ρ.tail) h
  | .scr _ :: r, ρ, i, c, h => backs_un (fun _ z => by cases z) (backs_get r ρ.tail) h
  | .val _ :: r, ρ, i, c, h => backs_un (fun _ z => by cases z) (backs_get r ρ.tail) h
theorem backs_own : ∀ (cs : List Cell) (ρ : Env) (i : Nat) (o : Own) (c : Cell), cs[i]? = some (Cell.own true o) → ρ[i]? = some c → (backs cs ρ)[i]? = some c
  | [], _, i, o, c, h, _ => by simp at h
  | c0 :: r, [], i, o, c, _, h => by simp at h
  | c0 :: r, c1 :: ρ, i, o, c, h1, h2 => by
    cases i with
    | zero => simp at h1 h2; subst h1; subst h2; rw [backs]; rfl
    | succ i =>
      rw [List.getElem?_cons_succ] at h1 h2
      have ih := backs_own r ρ i o c h1 h2
      cases c0 with
      | own fx o' =>
        cases fx with
        | true => rw [backs, List.getElem?_cons_succ]; exact ih
        | false => rw [backs.eq_3 _ _ _ (by simp), List.getElem?_cons_succ]; exact ih
      | un => rw [backs.eq_3 _ _ _ (by simp), List.getElem?_cons_succ]; exact ih
      | scr ns => rw [backs.eq_3 _ _ _ (by simp), List.getElem?_cons_succ]; exact ih
      | val d => rw [backs.eq_3 _ _ _ (by simp), List.getElem?_cons_succ]; exact ih
/-- what of the owned goes back -/
def backA (cs : List Cell) (A : Nat → List Addr) : Nat → List Addr := fun i => match cs[i]? with
  | some (.own true _) => A i
  | _ => []
theorem backA_sub {cs : List Cell} {i : Nat} {x : Addr} (h : x ∈ backA cs A i) : x ∈ A i ∧ ∃ o, cs[i]? = some (Cell.own true o) := by
  unfold backA at h
  split at h
  · rename_i o e; exact ⟨h, o, e⟩
  · cases h
theorem mu_back {cs : List Cell} {x : Addr} (h : mu B (backA cs A) x) : mu B A x := h.imp id fun ⟨i, z⟩ => ⟨i, (backA_sub z).1⟩
theorem Rel.back {cs : List Cell} (R : Rel w K B ρ σ A H) (hl : cs.length = τ.length) (fx : ∀ (i : Nat) (o : Own), cs[i]? = some (Cell.own true o) → (∃ o', ρ[i]? = some (Cell.own true o')) ∧ σ[i]? = τ[i]?) : Rel w K B (backs cs ρ) τ (backA cs A) H where
  len := (backs_len cs ρ).trans hl
  cell := fun i c e => by
    rcases backs_get cs ρ i c e with z | ⟨o, z1, z2⟩
    · subst z
      show backA cs A i = []
      unfold backA
      split
      · rename_i o e2
        obtain ⟨⟨o', e3⟩, _⟩ := fx i o e2
        rw [backs_own cs ρ i o _ e2 e3] at e
        cases e
      · rfl
    · obtain ⟨⟨o', e3⟩, e4⟩ := fx i o z1
      have hc := R.cell i c z2
      rw [e4] at hc
      have ea : backA cs A i = A i := by unfold backA; rw [z1]
      rw [ea]
      exact hc.ext (O := fun _ => False) (Ext.refl H) (fun _ z => z.elim) (fun a _ m => mu_back m) fun _ _ z => z
  out := fun i h => by
    rw [backs_len] at h
    unfold backA
    rw [List.getElem?_eq_none h]
  aliveB := R.aliveB
  apart := fun i x h => R.apart i x (backA_sub h).1
  one := fun i j x h1 h2 => R.one i j x (backA_sub h1).1 (backA_sub h2).1
/-- the other names are not yet bound -/
theorem Rel.more {cs : List Cell} (R : Rel w K B cs τ A H) (m : Nat) : Rel w K B (cs ++ List.replicate m .un) (τ ++ List.replicate m none) A H where
  len := by rw [List.length_append, List.length_append, List.length_replicate, List.length_replicate, R.len]
  cell := fun i c e => by
    by_cases hi : i < cs.length
    · rw [List.getElem?_append_left hi] at e
      rw [List.getElem?_append_left (by rw [← R.len]; exact hi)]
      exact R.cell i c e
    · rw [List.getElem?_append_right (by omega), List.getElem?_replicate] at e
      split at e
      · cases e; exact R.out i (by omega)
      · cases e
  out := fun i h => R.out i (by rw [List.length_append] at h; omega)
  aliveB := R.aliveB
  apart := R.apart
  one := R.one
theorem Step.back {cs : List Cell} {m : Nat} (R : Rel w K B cs τ A H) (S : Step w K B (cs ++ List.replicate m .un) (τ ++ List.replicate m none) A H ρ' σ' A' H') :
    Step w K B cs τ A H (backs cs ρ') τ (backA cs A') H' ∧ (∀ (i : Nat) (o : Own), cs[i]? = some (Cell.own true o) → (∃ o', ρ'[i]? = some (Cell.own true o')) ∧ σ'[i]? = τ[i]?) := by
  have fx : ∀ (i : Nat) (o : Own), cs[i]? = some (Cell.own true o) → (∃ o', ρ'[i]? = some (Cell.own true o')) ∧ σ'[i]? = τ[i]? := fun i o e => by
    have hi : i < cs.length := (List.getElem?_eq_some_iff.mp e).1
    obtain ⟨h1, h2⟩ := S.fix i o (by rw [List.getElem?_append_left hi]; exact e)
    exact ⟨h1, by rw [h2, List.getElem?_append_left (by rw [← R.len]; exact hi)]⟩
  refine ⟨⟨S.rel.back R.len fx, S.ext, fun i x h => S.sub i x (backA_sub h).1, fun i o e => ?_⟩, fx⟩
  obtain ⟨⟨o', h1⟩, _⟩ := fx i o e
  exact ⟨⟨o', backs_own cs ρ' i o _ e h1⟩, rfl⟩
theorem ResC.back {cs : List Cell} (hl : cs.length = τ.length) (fx : ∀ (i : Nat) (o : Own), cs[i]? = some (Cell.own true o) → (∃ o', ρ'[i]? = some (Cell.own true o')) ∧ σ'[i]? = τ[i]?) (h : ResC w K B ρ' σ' A A' H H' c v) : ResC w K B (backs cs ρ') τ A (backA cs A') H H' c v := by
  cases c with
  | un => exact h
  | scr ns => exact h
  | val d => exact Rep.weak (fun a m => mu_back m) h
  | own fr o =>
    obtain ⟨e, as, ok, hn, rr⟩ := h
    exact ⟨e, as, ok.weak fun a m => m.imp mu_back id, fun x hx => ⟨fun m => (hn x hx).1 (mu_back m), (hn x hx).2⟩, rr.back hl fx⟩
end
section
variable {P : Program} {w : World} {K : PySem.W.Frag} {mg : Str → Option Value} {base : Heap}
theorem GnOk.mono {j k : Nat} {f : Addr} {fd : FuncData} {ps : List Str} {F : Fn} (G : GnOk P w K mg base j f fd ps F) (h : j ≤ k) : GnOk P w K mg base k f fd ps F := ⟨G.len, fun A outer s H args us vs Q hr => G.run A outer s H args us vs Q (hr.mono h)⟩
/-- a def by its body -/
theorem gn_of {k : Nat} {f : Addr} {name qual : Str} {params : Arguments} {body : List Stmt} {scope : Scope} {dV kV doc pm cdv ct oc : Value} {an od : Option Addr}
    {osl : Array (Option Value)} {N ps : List Str} {g : Sm} (lk : K.lookup f = some ⟨oc, od, .func (PySem.W.fnOf name qual params body scope dV kV doc pm an cdv ct), osl⟩) (hcd : PySem.W.codeIn K cdv qual = true) (S : FnScope N ps scope)
    (hbody : ∀ (A : Around) (outer : List PySem.Env) (s : Shared) (H : Hp), Room k (A.deeper (envOfC qual scope s.heap.objs.size f cdv)) → (A.deeper (envOfC qual scope s.heap.objs.size f cdv)).guards = some [] →
      Ss (cxOf C8.CX0 P w K mg base N qual scope f cdv A outer s H C8.E0).nox body g) :
    GnOk P w K mg base (k + 1) f (PySem.W.fnOf name qual params body scope dV kV doc pm an cdv ct) ps (mkFn ps.length N.length g) := by
  refine ⟨fun cs r e => ?_, fun A outer s H args us vs Q hr hgd e0 hb r hsp => ?_⟩
  · unfold mkFn at e
    split at e
    · assumption
    · cases e
  · obtain ⟨B, A0, cs, cs', c, R, hF, q⟩ := hsp
    have hl : vs.length = ps.length := by
      have h1 := R.len
      rw [List.length_map] at h1
      unfold mkFn at hF
      split at hF
      · omega
      · cases hF
    have KX : K.In s.heap := e0.mod.kin.keeps fun b o e => (e0.bs b o e).1
    have lim : s.heap.NoLimit := e0.mod.nolimit.keeps fun b o e => (e0.bs b o e).1
    have hkind : ∀ y ∈ ps.zip us, scope.names.lookup y.1 = some .local ∨ (scope.names.lookup y.1 = some .cell ∧ ((cellsFrom (s.heap.objs.size + 1) scope.names []).lookup y.1).isSome = true) := fun ⟨n, v⟩ hy => by
      rcases S.par n (List.of_mem_zip hy).1 with q | q
      · exact .inl q
      · exact .inr ⟨q, PySem.W.cellsFrom_some _ _ _ (.inl q)⟩
    refine codeAny_call_function hr.depth (KX _ _ lk) rfl S.co S.gen rfl (PySem.W.codeRec_of KX hcd) (hb _ _ _ _ ?_)
    refine wpAny_newFunctionEnv_cells S.kind hkind fun env he s1 x => ?_
    subst he
    refine ⟨lim.keeps x.toInCall.keep, codeAny_func ?_⟩
    have ht := (hbody A outer s H (hr.deeper _) hgd).nox
    have I : Inv (cxOf C8.CX0 P w K mg base N qual scope f cdv A outer s H C8.E0) [] (L2.start N vs) H s1 := inv_start S hr.hd e0 hl r x
    have fin : ∀ {s' : Shared} {σ' : L2.St} {H' : Hp} {v : V} {u : Value}, Inv (cxOf C8.CX0 P w K mg base N qual scope f cdv A outer s H C8.E0) [] σ' H' s' → RelV v u → Q v H' → CE outer P w H s Q u s' :=
      fun {s' σ' H' v u} J rv q => ⟨v, H', J.os, J.bare, J.base, J.hok, rv, q⟩
    unfold mkFn at hF
    rw [if_pos (by have := R.len; rw [List.length_map] at this; omega)] at hF
    have hst : L2.start N vs = vs.map some ++ List.replicate (N.length - ps.length) none := by unfold L2.start; rw [hl]
    have R0 := R.more (N.length - ps.length)
    cases z : g (cs ++ List.replicate (N.length - ps.length) .un) with
    | none => rw [z] at hF; cases hF
    | some r1 =>
      obtain ⟨ρ', o⟩ := r1
      rw [z] at hF
      have hq : RSm w K g { nx := fun _ H' => Q .non H', rt := Q } (L2.start N vs) H := by
        refine ⟨B, _, A0, ρ', o, by rw [hst]; exact R0, z, ?_⟩
        cases o with
        | nx =>
          cases hF
          intro σ' A' H' S'
          rw [hst] at S'
          obtain ⟨S2, fx⟩ := Step.back R S'
          exact q _ _ _ S2 rfl
        | rt c1 =>
          cases hF
          intro v σ' A' H' S' rc
          rw [hst] at S'
          obtain ⟨S2, fx⟩ := Step.back R S'
          exact q _ _ _ S2 (rc.back R.len fx)
        | bk => cases hF
        | ct => cases hF
      refine wpAny_mono (ht.run [] s1 (L2.start N vs) H _ I hq) (fun fl s' hs => ?_) fun e s' hs => hs
      cases fl with
      | ret u =>
        obtain ⟨v, σ', H', J, rv, q⟩ := hs
        exact fin J rv q
      | next =>
        obtain ⟨σ', H', J, q⟩ := hs
        exact fin (v := V.non) (u := Value.none) J rfl q
      | brk =>
        obtain ⟨_, _, _, q⟩ := hs
        exact False.elim q
      | cont =>
        obtain ⟨_, _, _, q⟩ := hs
        exact False.elim q
/-- a def of the text, under its name -/
theorem gn_def {x : Str} {st : Stmt} {f : Addr} {fd : FuncData} {N ps : List Str} {k : Nat} {g : Sm} (D0 : C8.Def K mg x st f fd) (sc : C8.scC N ps (C8.fnScope st) = true)
    (hbody : ∀ (cdv : Value) (A : Around) (outer : List PySem.Env) (s : Shared) (H : Hp), Room k (A.deeper (envOfC x (C8.fnScope st) s.heap.objs.size f cdv)) → (A.deeper (envOfC x (C8.fnScope st) s.heap.objs.size f cdv)).guards = some [] →
      Ss (cxOf C8.CX0 P w K mg base N x (C8.fnScope st) f cdv A outer s H C8.E0).nox (C8.fnBody st) g) : GnOk P w K mg base (k + 1) f fd ps (mkFn ps.length N.length g) := by
  obtain ⟨oc, od, dV, kV, doc, pm, an, cdv, ct, osl, rfl, lk, hcd⟩ := D0.fn.ex
  exact gn_of lk hcd (C8.fnScope_by sc) fun A outer s H hr hg => hbody cdv A outer s H hr hg
/-- a def that may be called by its name -/
structure Cg (P : Program) (w : World) (K : PySem.W.Frag) (mg : Str → Option Value) (base : Heap) (k : Nat) (x : Str) (F : Fn) : Prop where
  ex : ∃ (f : Addr) (fd : FuncData) (ps : List Str), GnOk P w K mg base k f fd ps F ∧ mg x = some (.ref f) ∧ PySem.W.keepIn K (.ref f) = true ∧ Binds K fd ps []
theorem cg {x : Str} {st : Stmt} {f : Addr} {fd : FuncData} {N ps : List Str} {k : Nat} {g : Sm} (D0 : C8.Def K mg x st f fd) (b : Binds K fd ps []) (sc : C8.scC N ps (C8.fnScope st) = true)
    (hbody : ∀ (cdv : Value) (A : Around) (outer : List PySem.Env) (s : Shared) (H : Hp), Room k (A.deeper (envOfC x (C8.fnScope st) s.heap.objs.size f cdv)) → (A.deeper (envOfC x (C8.fnScope st) s.heap.objs.size f cdv)).guards = some [] →
      Ss (cxOf C8.CX0 P w K mg base N x (C8.fnScope st) f cdv A outer s H C8.E0).nox (C8.fnBody st) g) : Cg P w K mg base (k + 1) x (mkFn ps.length N.length g) :=
  ⟨f, fd, ps, gn_def D0 sc hbody, D0.mgf, D0.kp, b⟩
end
end L3
/-! Calls of defs. -/
namespace L3
open PySem PySem.Spec PyProof.Rows L2
section
variable {X : Cx} {k j : Nat} {x : Str} {F : Fn} {p pos : Pos} {e : Expr} {es : List Expr} {t : L2.TA}
theorem pe_cg (c : Cg X.prog X.w X.K X.mg X.base k x F) (hr : Room j X.A) (hgd : X.A.guards = some []) (hk : k ≤ j) (hg : Gl X x) (ha : PA X (e :: es) t)
    (hdb : (x == ("__debug__" : Str)) = false := by decide) (he : starEach (e :: es) X.env = (false, eval e X.env) :: starEach es X.env := by rfl) (hpl : (backTo pos (starEach es X.env)).any (·.1) = false := by rfl) :
    PE X (.Call (.Name x p) (e :: es) [] pos) (fun σ H Q => t σ H fun vs H1 => spF X.w X.K F vs H1 Q) := by
  obtain ⟨f, fd, ps, G, hm, kp, hb⟩ := c.ex
  refine ⟨fun pins s σ H Q I h => ?_⟩
  refine wpAny_Call_Name_kw (ld_glob I hg hm ?_ hdb)
  refine PySem.W.callWith_K (h₀ := X.base) I.ok.mod.kin kp (thn (ha.run pos pins s σ H _ I h) fun us s1 ⟨vs, H1, I1, r, q⟩ => ⟨I1.kIn, ?_⟩) he hpl
  have hl : us.length = ps.length := by
    obtain ⟨B, A0, cs, cs', c, R, hF, _⟩ := id q
    have h1 := R.len
    rw [List.length_map] at h1
    have h2 := G.len _ _ hF
    have h3 := r.length
    omega
  have hb' : BindsTo s1 fd ⟨us, []⟩ (ps.zip us) := by
    have z := hb s1 us I1.kIn (by rw [List.append_nil]; exact hl)
    rwa [List.append_nil] at z
  refine wpAny_call (codeAny_mono (G.run X.A X.stack s1 H1 ⟨us, []⟩ us vs Q (hr.mono hk) hgd I1.env0 hb' r q) fun r s' hq => ?_)
  cases r with
  | error e => exact False.elim hq
  | ok fl =>
    cases fl with
    | ret u => exact I1.after hq
    | next => exact False.elim hq
    | brk => exact False.elim hq
    | cont => exact False.elim hq
end
section
variable {w : World} {K : PySem.W.Frag} {B : Addr → Prop} {ρ ρ' ρ1 : Env} {σ σ' τ : L2.St} {A A' A1 : Nat → List Addr} {H H' H1 : Hp} {c : Cell} {v : V}
def noA : Nat → List Addr := fun _ => []
theorem mu_noA {x : Addr} : mu B noA x ↔ B x := ⟨fun h => h.elim id (fun ⟨i, z⟩ => nomatch z), .inl⟩
theorem reps_get {M : Addr → Prop} : ∀ {ds : List D} {vs : List V} {i : Nat} {d : D}, Reps w K M H ds vs → ds[i]? = some d → ∃ v, vs[i]? = some v ∧ Rep w K M H d v := fun h e => h.get e
/-- values for a callee -/
theorem Rel.vals {ds : List D} {vs : List V} (h : Reps w K B H ds vs) (al : ∀ x, B x → H x ≠ none) : Rel w K B (ds.map .val) (vs.map some) noA H where
  len := by rw [List.length_map, List.length_map, h.length]
  cell := fun i c e => by
    rw [List.getElem?_map] at e
    cases z : ds[i]? with
    | none => rw [z] at e; cases e
    | some d =>
      rw [z] at e; cases e
      obtain ⟨v, ev, r⟩ := h.get z
      exact ⟨rfl, v, by rw [List.getElem?_map, ev]; rfl, r.weak fun a m => mu_noA.mp m⟩
  out := fun _ _ => rfl
  aliveB := al
  apart := fun i x h => nomatch h
  one := fun i j x h => nomatch h
theorem Ext.toSame {O : Addr → Prop} (e : Ext O H H') (h : ∀ x, ¬ O x) : Same H H' := fun a o z => e.keep a o z (h a)
/-- behind a callee that was handed values -/
theorem after_vals {cs : List Cell} (R : Rel w K B ρ σ A H) (S : Step w K (mu B A) cs τ noA H ρ' σ' A' H') (h : ResC w K (mu B A) ρ' σ' noA A' H H' c v) : Step w K B ρ σ A H ρ σ A H' ∧ ResC w K B ρ σ A A H H' c v := by
  have sm : Same H H' := S.ext.toSame fun x ⟨i, z⟩ => nomatch z
  have hM : ∀ a, mu B A a → mu (mu B A) A' a := fun a m => .inl m
  refine ⟨Step.same sm R, ?_⟩
  cases c with
  | un => exact h
  | scr ns => exact h
  | val d => exact Rep.weak hM h
  | own fr o =>
    obtain ⟨e, as, ok, hn, rr⟩ := h
    refine ⟨e, as, ok.weak fun a m => m.imp (hM a) id, fun x hx => ⟨fun m => (hn x hx).1 (hM x m), .inr ?_⟩, R.protect sm fun x hx => ⟨?_, (ok.alive x hx).1⟩⟩
    · rcases (hn x hx).2 with ⟨i, z⟩ | z
      · cases z
      · exact z
    · rcases (hn x hx).2 with ⟨i, z⟩ | z
      · cases z
      · exact z
mutual
theorem Rep.any {M M' : Addr → Prop} : ∀ (d : D) (v : V), noref d = true → Rep w K M H d v → Rep w K M' H d v
  | .none, _, _, h => h
  | .bool _, _, _, h => h
  | .int _, _, _, h => h
  | .str _, _, _, h => h
  | .tuple xs, v, n, h => by
    obtain ⟨a, vs, e, h1, h2⟩ := h
    exact ⟨a, vs, e, h1, Reps.any xs vs (by simpa [noref] using n) h2⟩
  | .list xs, v, n, h => by simp [noref] at n
  | .dict xs, v, n, h => by simp [noref] at n
theorem Reps.any {M M' : Addr → Prop} : ∀ (ds : List D) (vs : List V), norefs ds = true → Reps w K M H ds vs → Reps w K M' H ds vs
  | [], _, _, h => h
  | d :: ds, vs, n, h => by
    simp only [norefs, Bool.and_eq_true] at n
    obtain ⟨v, r, e, h1, h2⟩ := h
    exact ⟨v, r, e, Rep.any d v n.1 h1, Reps.any ds r n.2 h2⟩
end
end
section
variable {X : Cx} {k j : Nat} {x : Str} {F : Fn} {p pos : Pos} {e : Expr} {es : List Expr}
theorem pCall_inv {ps : List P} {ρ : Env} {d : D} (h : pCall F ps ρ = some d) : ∃ ds r c, evs ps ρ = some ds ∧ F (ds.map .val) = some (r, c) ∧ c.toD = some d := by
  unfold pCall at h
  cases z : evs ps ρ with
  | none => rw [z] at h; cases h
  | some ds =>
    rw [z] at h
    dsimp only at h
    cases z2 : F (ds.map .val) with
    | none => rw [z2] at h; cases h
    | some r => obtain ⟨r, c⟩ := r; rw [z2] at h; exact ⟨ds, r, c, rfl, z2, h⟩
/-- a call with values that stand -/
theorem jpCall {q : Kind} {ps : List P} (c : Cg X.prog X.w X.K X.mg X.base k x F) (hr : Room j X.A) (hgd : X.A.guards = some []) (ha : JA X .c (e :: es) ps) (hk : k ≤ j := by first | decide | omega) (hg : Gl X x := by rfl)
    (hdb : (x == ("__debug__" : Str)) = false := by decide) (he : starEach (e :: es) X.env = (false, eval e X.env) :: starEach es X.env := by rfl) (hpl : (backTo pos (starEach es X.env)).any (·.1) = false := by rfl) (hq : Kind.le q .c = true := by rfl) :
    JP X q (.Call (.Name x p) (e :: es) [] pos) (pCall F ps) := peimp (pe_cg c hr hgd hk hg ha hdb he hpl) fun σ H Q h => by
  obtain ⟨B, ρ, A, d, R, e1, q1⟩ := h
  obtain ⟨ds, r, c, z1, z2, z3⟩ := pCall_inv e1
  refine ⟨B, ρ, A, ds, R, z1, fun vs H1 s1 r1 => ?_⟩
  have R1 := R.same s1
  refine ⟨mu B A, noA, ds.map .val, r, c, Rel.vals (reps_of r1) R1.al, z2, fun v A' H' S rc => ?_⟩
  obtain ⟨S2, rc2⟩ := after_vals R1 S rc
  have sm : Same H1 H' := S.ext.toSame fun x ⟨i, z⟩ => nomatch z
  exact q1 v H' (s1.trans sm) (Res.down (k0 := .c) (rc2.item z3) R.al hq)
/-- .. with anything that is only read; the result holds nothing that could be changed -/
theorem jpCallB {q : Kind} {ps : List P} (c : Cg X.prog X.w X.K X.mg X.base k x F) (hr : Room j X.A) (hgd : X.A.guards = some []) (ha : JA X .r (e :: es) ps) (hk : k ≤ j := by first | decide | omega) (hg : Gl X x := by rfl)
    (hdb : (x == ("__debug__" : Str)) = false := by decide) (he : starEach (e :: es) X.env = (false, eval e X.env) :: starEach es X.env := by rfl) (hpl : (backTo pos (starEach es X.env)).any (·.1) = false := by rfl) (hq : Kind.le q .c = true := by rfl) :
    JP X q (.Call (.Name x p) (e :: es) [] pos) (pCallB F ps) := peimp (pe_cg c hr hgd hk hg ha hdb he hpl) fun σ H Q h => by
  obtain ⟨B, ρ, A, d, R, e1, q1⟩ := h
  unfold pCallB at e1
  cases z0 : pCall F ps ρ with
  | none => rw [z0] at e1; cases e1
  | some d' =>
    rw [z0] at e1
    dsimp only at e1
    split at e1
    · rename_i hn
      cases e1
      obtain ⟨ds, r, c, z1, z2, z3⟩ := pCall_inv z0
      refine ⟨B, ρ, A, ds, R, z1, fun vs H1 s1 r1 => ?_⟩
      have R1 := R.same s1
      have r0 : Reps X.w X.K (fun _ => False) H1 ds vs := by
        have go : ∀ {ds : List D} {vs : List V}, Paired (Itm X.w X.K .r (mu B A) H1) ds vs → Reps X.w X.K (fun _ => False) H1 ds vs := fun {ds vs} h => by
          induction h with
          | nil => rfl
          | cons a b ih => exact ⟨_, _, rfl, Rd1.rep0 a, ih⟩
        exact go r1
      refine ⟨fun _ => False, noA, ds.map .val, r, c, Rel.vals r0 (fun x z => z.elim), z2, fun v A' H' S rc => ?_⟩
      have sm : Same H1 H' := S.ext.toSame fun x ⟨i, z⟩ => nomatch z
      exact q1 v H' (s1.trans sm) (Res.down (k0 := .c) (Rep.any _ _ hn (rc.item z3)) R.al hq)
    · cases e1
/-- .. whose arguments may change things -/
theorem jCallV {fs : List E} (c : Cg X.prog X.w X.K X.mg X.base k x F) (hr : Room j X.A) (hgd : X.A.guards = some []) (ha : JAe X (e :: es) fs) (hk : k ≤ j := by first | decide | omega) (hg : Gl X x := by rfl)
    (hdb : (x == ("__debug__" : Str)) = false := by decide) (he : starEach (e :: es) X.env = (false, eval e X.env) :: starEach es X.env := by rfl) (hpl : (backTo pos (starEach es X.env)).any (·.1) = false := by rfl) :
    J X (.Call (.Name x p) (e :: es) [] pos) (eCallV F fs) := peimp (pe_cg c hr hgd hk hg ha hdb he hpl) fun σ H Q h => by
  obtain ⟨B, ρ, A, ρ', c0, R, e1, q1⟩ := h
  unfold eCallV at e1
  cases z1 : eevs fs ρ with
  | none => rw [z1] at e1; cases e1
  | some r =>
    obtain ⟨ρ1, ds⟩ := r
    rw [z1] at e1
    dsimp only at e1
    cases z2 : F (ds.map .val) with
    | none => rw [z2] at e1; cases e1
    | some r2 =>
      obtain ⟨r2, c2⟩ := r2
      rw [z2] at e1; cases e1
      refine ⟨B, ρ, A, _, ds, R, z1, fun vs A1 H1 S1 r1 => ?_⟩
      refine ⟨mu B A1, noA, ds.map .val, r2, _, Rel.vals r1 S1.rel.al, z2, fun v A' H' S rc => ?_⟩
      obtain ⟨S2, rc2⟩ := after_vals S1.rel S rc
      exact q1 v _ H' (S1.trans R S2) (ResC.ahead R S1 rc2)
end
end L3
/-! Changes of what is owned. -/
namespace L3
open PySem PySem.Spec PyProof.Rows L2
section
variable {w : World} {K : PySem.W.Frag} {B : Addr → Prop} {ρ ρ' ρ1 : Env} {σ σ' τ : L2.St} {A A' A1 : Nat → List Addr} {H H' H1 : Hp} {c : Cell} {v : V}
theorem Rel.at_own {i : Nat} {fx : Bool} {o : Own} (R : Rel w K B ρ σ A H) (e : ρ[i]? = some (.own fx o)) : ∃ v, σ[i]? = some (some v) ∧ OwnOk w K (mu B A) H o v (A i) := by
  obtain ⟨v, ev, ok⟩ := R.cell i _ e
  exact ⟨v, get_join ev, ok⟩
/-- what a name owns changes -/
theorem Step.chg {i : Nat} {fx : Bool} {o o' : Own} (R : Rel w K B ρ σ A H) (e : ρ[i]? = some (.own fx o)) (ev : σ[i]? = some (some v)) (ok' : OwnOk w K (mu B A) H' o' v (A i)) (ex : Ext (fun x => x ∈ A i) H H') :
    Step w K B ρ σ A H (ρ.set i (.own fx o')) σ A H' := by
  have hi : i < ρ.length := (List.getElem?_eq_some_iff.mp e).1
  refine ⟨⟨by rw [List.length_set]; exact R.len, fun j c ej => ?_, fun j h => R.out j (by rw [List.length_set] at h; exact h), fun x b => ?_, R.apart, R.one⟩, ⟨fun a ob h n => ex.keep a ob h fun z => n ⟨i, z⟩, ex.tup, ex.frz⟩, fun j x h => .inl ⟨j, h⟩, fun j o0 h => ?_⟩
  · by_cases hj : j = i
    · subst hj
      rw [List.getElem?_set_self hi] at ej
      cases ej
      exact ⟨v, by rw [ev]; rfl, ok'⟩
    · rw [List.getElem?_set_ne (Ne.symm hj)] at ej
      exact (R.cell j c ej).ext ex (fun a z => .inr ⟨i, z⟩) (fun a _ m => m) fun x hx z => hj (R.one j i x hx z)
  · cases q : H x with
    | none => exact absurd q (R.aliveB x b)
    | some ob => rw [ex.keep x ob q fun z => R.apart i x z b]; simp
  · refine ⟨?_, rfl⟩
    by_cases hj : j = i
    · subst hj
      rw [e] at h; cases h
      exact ⟨o', List.getElem?_set_self hi⟩
    · exact ⟨o0, by rw [List.getElem?_set_ne (Ne.symm hj)]; exact h⟩
theorem upd_ext1 {L : Addr} {o0 o : HO} (hL : H L = some o0) (ht : ∀ vs, o0 ≠ .tup vs) (hf : ∀ ob u, o0 ≠ .frz ob u) : Ext (fun x => x = L) H (upd H L o) where
  keep := fun a ob e n => by rw [upd_ne n]; exact e
  tup := fun a vs e => by rw [upd_ne fun z => by rw [z, hL] at e; cases e; exact ht vs rfl]; exact e
  frz := fun a ob u e => by rw [upd_ne fun z => by rw [z, hL] at e; cases e; exact hf ob u rfl]; exact e
theorem Ext.into {O O' : Addr → Prop} (e : Ext O H H') (h : ∀ x, O x → O' x) : Ext O' H H' := ⟨fun a ob q n => e.keep a ob q fun z => n (h a z), e.tup, e.frz⟩
end
section
variable {X : Cx}
theorem isLst_inv {oc : Option Cell} (h : isLst oc = true) : ∃ fx xs, oc = some (.own fx (.lst xs)) := by
  unfold isLst at h
  split at h
  · exact ⟨_, _, rfl⟩
  · cases h
theorem reps_len_line {w : World} {K : PySem.W.Frag} {M : Addr → Prop} {H : Hp} {xs : List D} {vs : List V} (h : Reps w K M H xs vs) (hl : xs.length < 16777216) : vs.length < sizeLine := by
  rw [h.length, sizeLine_eq]; exact hl
/-- xs.append(e) -/
theorem sAppS {i : Nat} {x : Str} {p ap cp pos : Pos} {e : Expr} {f : E} (he : J X e f) (hN : X.N[i]? = some x := by rfl) (hv : Vis X.env.scope x := by first | exact Or.inl rfl | exact Or.inr (Or.inl rfl) | exact Or.inr (Or.inr rfl)) (hd : (x == ("__debug__" : Str)) = false := by decide)
    (hcd : (x == ("__classdict__" : Str)) = false := by decide)
    (hbase : attributeBase (.Name x p) "append" X.env (eval (.Name x p) X.env) = eval (.Name x p) X.env := by rfl)
    (hfew : ((backTo cp (starEach [e] X.env)).all (fun x => !x.1) && (backToKw cp (keywordEach [] X.env)).all (fun x => x.1.isSome)
      && decide (([e] : List Expr).length + ([] : List Keyword).length + (if ([] : List Keyword).isEmpty then 0 else 1) < 30)) = true := by rfl)
    (hline : (ap.endLine == cp.line) = true := by rfl) (hst : starEach [e] X.env = [(false, eval e X.env)] := by rfl) (hs : swapsWith (.Call (.Attribute (.Name x p) "append" ap) [e] [] cp) none pos.line X.env = pure false := by rfl) :
    S1 X (.Expr (.Call (.Attribute (.Name x p) "append" ap) [e] [] cp) pos) (sApp i f) :=
  psimp (ps_expr (pe_bm PySem.F.plainAttrs_list PySem.F.slot_list_append PySem.F.type_list_append mt_append (pv i hN hv hd hcd) (jaeCons he jaeNil hst) hbase hfew hline hst (by rfl)) hs) fun Dn σ H h => by
    obtain ⟨B, ρ, A, ρ', o, R, e1, q⟩ := h
    unfold sApp at e1
    split at e1
    · rename_i hL
      obtain ⟨fx0, xs0, e0⟩ := isLst_inv hL
      obtain ⟨v0, ev0, a0, vs0, rfl, ea0, h0, _⟩ := R.at_own e0
      cases z : f ρ with
      | none => rw [z] at e1; cases e1
      | some r =>
        obtain ⟨ρ1, c⟩ := r
        rw [z] at e1
        dsimp only at e1
        split at e1
        · rename_i d fx xs zc zi
          split at e1
          · rename_i hl
            cases e1
            have hl := of_decide_eq_true hl
            refine ⟨.ref a0, ev0, .inl ⟨rfl, vs0, SqL.of h0⟩, B, ρ, A, ρ1, [d], R, by rw [eevs, z]; dsimp only; rw [zc]; rfl, fun vs A1 H1 S r1 => ?_⟩
            obtain ⟨v1, ev1, a1, vs1, e2, ea1, h1, rp⟩ := S.rel.at_own zi
            rw [ev0] at ev1; cases ev1; cases e2
            obtain ⟨u, t, rfl, ru, rt⟩ := r1
            rw [show t = [] from rt]
            refine ⟨a0, vs1, u, rfl, rfl, h1, reps_len_line rp hl, ?_⟩
            have ex := upd_ext1 (o := .lst (vs1 ++ [u])) h1 (fun _ z => by cases z) (fun _ _ z => by cases z)
            have hin : a0 ∈ A1 i := by rw [ea1]; simp
            have hM : ∀ x, x = a0 → mu B A1 x := fun x e => .inr ⟨i, e ▸ hin⟩
            refine q _ _ _ (S.trans R (Step.chg S.rel zi ev0 ⟨a0, vs1 ++ [u], rfl, ea1, upd_same, ?_⟩ (ex.into fun x e => e ▸ hin)))
            exact (rp.append (Reps.one ru)).ext ex hM fun _ _ m => m
          · cases e1
        · cases e1
    · cases e1
/-- xs.extend(e) -/
theorem sExtS {i : Nat} {x : Str} {p ap cp pos : Pos} {e : Expr} {f : E} (he : J X e f) (hN : X.N[i]? = some x := by rfl) (hv : Vis X.env.scope x := by first | exact Or.inl rfl | exact Or.inr (Or.inl rfl) | exact Or.inr (Or.inr rfl)) (hd : (x == ("__debug__" : Str)) = false := by decide)
    (hcd : (x == ("__classdict__" : Str)) = false := by decide)
    (hbase : attributeBase (.Name x p) "extend" X.env (eval (.Name x p) X.env) = eval (.Name x p) X.env := by rfl)
    (hfew : ((backTo cp (starEach [e] X.env)).all (fun x => !x.1) && (backToKw cp (keywordEach [] X.env)).all (fun x => x.1.isSome)
      && decide (([e] : List Expr).length + ([] : List Keyword).length + (if ([] : List Keyword).isEmpty then 0 else 1) < 30)) = true := by rfl)
    (hline : (ap.endLine == cp.line) = true := by rfl) (hst : starEach [e] X.env = [(false, eval e X.env)] := by rfl) (hs : swapsWith (.Call (.Attribute (.Name x p) "extend" ap) [e] [] cp) none pos.line X.env = pure false := by rfl) :
    S1 X (.Expr (.Call (.Attribute (.Name x p) "extend" ap) [e] [] cp) pos) (sExt i f) :=
  psimp (ps_expr (pe_bm PySem.F.plainAttrs_list PySem.F.slot_list_extend PySem.F.type_list_extend mt_extend (pv i hN hv hd hcd) (jaeCons he jaeNil hst) hbase hfew hline hst (by rfl)) hs) fun Dn σ H h => by
    obtain ⟨B, ρ, A, ρ', o, R, e1, q⟩ := h
    unfold sExt at e1
    split at e1
    · rename_i hL
      obtain ⟨fx0, xs0, e0⟩ := isLst_inv hL
      obtain ⟨v0, ev0, a0, vs0, rfl, ea0, h0, _⟩ := R.at_own e0
      cases z : f ρ with
      | none => rw [z] at e1; cases e1
      | some r =>
        obtain ⟨ρ1, c⟩ := r
        rw [z] at e1
        dsimp only at e1
        split at e1
        · rename_i ys fx xs zc zi
          split at e1
          · rename_i hl
            cases e1
            have hl := len24_ok hl
            refine ⟨.ref a0, ev0, .inl ⟨rfl, vs0, SqL.of h0⟩, B, ρ, A, ρ1, [.list ys], R, by rw [eevs, z]; dsimp only; rw [zc]; rfl, fun vs A1 H1 S r1 => ?_⟩
            obtain ⟨v1, ev1, a1, vs1, e2, ea1, h1, rp⟩ := S.rel.at_own zi
            rw [ev0] at ev1; cases ev1; cases e2
            obtain ⟨u, t, rfl, ⟨b, us, rfl, nb, hb, ru⟩, rt⟩ := r1
            rw [show t = [] from rt]
            refine ⟨a0, b, vs1, us, rfl, rfl, h1, hb, by rw [rp.length, ru.length]; exact hl, ?_⟩
            have ex := upd_ext1 (o := .lst (vs1 ++ us)) h1 (fun _ z => by cases z) (fun _ _ z => by cases z)
            have hin : a0 ∈ A1 i := by rw [ea1]; simp
            have hM : ∀ x, x = a0 → mu B A1 x := fun x e => .inr ⟨i, e ▸ hin⟩
            refine q _ _ _ (S.trans R (Step.chg S.rel zi ev0 ⟨a0, vs1 ++ us, rfl, ea1, upd_same, ?_⟩ (ex.into fun x e => e ▸ hin)))
            exact (rp.append ru).ext ex hM fun _ _ m => m
          · cases e1
        · cases e1
    · cases e1
/-- xs.pop() -/
theorem jPop {i : Nat} {x : Str} {p ap cp : Pos} (hN : X.N[i]? = some x := by rfl) (hv : Vis X.env.scope x := by first | exact Or.inl rfl | exact Or.inr (Or.inl rfl) | exact Or.inr (Or.inr rfl)) (hd : (x == ("__debug__" : Str)) = false := by decide)
    (hcd : (x == ("__classdict__" : Str)) = false := by decide)
    (hbase : attributeBase (.Name x p) "pop" X.env (eval (.Name x p) X.env) = eval (.Name x p) X.env := by rfl) (hline : (ap.endLine == cp.line) = true := by rfl) :
    J X (.Call (.Attribute (.Name x p) "pop" ap) [] [] cp) (ePop i) :=
  peimp (pe_bm0 PySem.F.plainAttrs_list PySem.F.slot_list_pop PySem.F.type_list_pop mt_pop (pv i hN hv hd hcd) hbase hline) fun σ H Q h => by
    obtain ⟨B, ρ, A, ρ', c, R, e1, q⟩ := h
    unfold ePop at e1
    split at e1
    · rename_i fx xs zi
      split at e1
      · rename_i d zd
        cases e1
        obtain ⟨v0, ev0, a0, vs0, rfl, ea0, h0, rp⟩ := R.at_own zi
        refine ⟨.ref a0, ev0, .inl ⟨rfl, vs0, SqL.of h0⟩, ?_⟩
        have hx : xs[xs.length - 1]? = some d := by rw [← List.getLast?_eq_getElem?]; exact zd
        obtain ⟨u, eu, ru⟩ := rp.get hx
        have hl := rp.length
        refine ⟨a0, vs0, u, rfl, rfl, h0, by rw [hl]; exact eu, ?_⟩
        have ex := upd_ext1 (o := .lst vs0.dropLast) h0 (fun _ z => by cases z) (fun _ _ z => by cases z)
        have hin : a0 ∈ A i := by rw [ea0]; simp
        have hM : ∀ x, x = a0 → mu B A x := fun x e => .inr ⟨i, e ▸ hin⟩
        refine q _ A _ (Step.chg R zi ev0 ⟨a0, _, rfl, ea0, upd_same, ?_⟩ (ex.into fun x e => e ▸ hin)) (ru.ext ex hM fun _ _ m => m)
        have e3 : xs.dropLast = xs.take (vs0.length - 1) := by rw [List.dropLast_eq_take, hl]
        have e4 : vs0.dropLast = vs0.take (vs0.length - 1) := List.dropLast_eq_take
        have rt := (rp.take (vs0.length - 1)).ext ex hM (M' := mu B A) fun _ _ m => m
        rw [← e3, ← e4] at rt
        exact rt
      · cases e1
    · cases e1
/-- an owned name gives away what it owns -/
theorem jMv {i : Nat} {x : Str} {pos : Pos} (hN : X.N[i]? = some x := by rfl) (hv : Vis X.env.scope x := by first | exact Or.inl rfl | exact Or.inr (Or.inl rfl) | exact Or.inr (Or.inr rfl)) (hd : (x == ("__debug__" : Str)) = false := by decide)
    (hcd : (x == ("__classdict__" : Str)) = false := by decide) : J X (.Name x pos) (eMv i) := peimp (pv i hN hv hd hcd) fun σ H Q h => by
  obtain ⟨B, ρ, A, ρ', c, R, e1, q⟩ := h
  unfold eMv at e1
  split at e1
  · rename_i o zi
    cases e1
    have hi : i < ρ.length := (List.getElem?_eq_some_iff.mp zi).1
    obtain ⟨v, ev, ok⟩ := R.at_own zi
    refine ⟨v, ev, ?_⟩
    have hsub : ∀ j x, x ∈ putA A i [] j → x ∈ A j ∧ j ≠ i := fun j x m => by
      by_cases hj : j = i
      · subst hj; rw [putA_self] at m; cases m
      · rw [putA_ne hj] at m; exact ⟨m, hj⟩
    have hmu : ∀ x, mu B (putA A i []) x → mu B A x := fun x m => m.imp id fun ⟨j, z⟩ => ⟨j, (hsub j x z).1⟩
    have hmu2 : ∀ x, (mu B (putA A i []) x ∨ x ∈ A i) → mu B A x := fun x m => m.elim (hmu x) fun z => .inr ⟨i, z⟩
    have mk : ∀ (N : Addr → Prop), (∀ x, N x → x ∈ A i) → Rel X.w X.K (fun x => B x ∨ N x) (ρ.set i .un) σ (putA A i []) H := fun N hN => by
      refine ⟨by rw [List.length_set]; exact R.len, fun j c ej => ?_, fun j h => ?_, fun x h => ?_, fun j x m h => ?_, fun j k x m1 m2 => R.one j k x (hsub j x m1).1 (hsub k x m2).1⟩
      · by_cases hj : j = i
        · subst hj
          rw [List.getElem?_set_self hi] at ej; cases ej
          rw [putA_self]; rfl
        · rw [List.getElem?_set_ne (Ne.symm hj)] at ej
          rw [putA_ne hj]
          refine (R.cell j c ej).ext (O := fun _ => False) (Ext.refl H) (fun _ z => z.elim) (fun a _ m => ?_) (fun _ _ z => z)
          rcases mu_or.mp m with m | m
          · exact hmu a m
          · exact .inr ⟨i, hN a m⟩
      · rw [List.length_set] at h
        rw [putA_ne (by omega)]; exact R.out j h
      · rcases h with h | h
        · exact R.aliveB x h
        · exact R.al x (.inr ⟨i, hN x h⟩)
      · rcases h with h | h
        · exact R.apart j x (hsub j x m).1 h
        · exact (hsub j x m).2 (R.one j i x (hsub j x m).1 (hN x h))
    have R1 := mk (fun _ => False) (fun _ z => z.elim)
    have R2 := mk (fun x => x ∈ A i) (fun _ z => z)
    have R0 : Rel X.w X.K B (ρ.set i .un) σ (putA A i []) H := by
      have e : (fun x => B x ∨ False) = B := by funext x; simp
      rwa [e] at R1
    refine q v (putA A i []) H ⟨R0, .refl H, fun j x m => .inl ⟨j, (hsub j x m).1⟩, fun j o' h => ?_⟩ ⟨rfl, A i, ok.weak fun a m => hmu2 a m, fun x hx => ⟨fun m => ?_, .inl ⟨i, hx⟩⟩, R2⟩
    · have hj : j ≠ i := fun z => by subst z; rw [zi] at h; cases h
      exact ⟨⟨o', by rw [List.getElem?_set_ne (Ne.symm hj)]; exact h⟩, rfl⟩
    · rcases m with m | ⟨j, m⟩
      · exact R.apart i x hx m
      · exact (hsub j x m).2 (R.one j i x (hsub j x m).1 hx)
  · cases e1
/-- xs[e] of an owned list -/
theorem jIxO {i : Nat} {x : Str} {p pos : Pos} {e : Expr} {f : E} (he : J X e f) (hN : X.N[i]? = some x := by rfl) (hv : Vis X.env.scope x := by first | exact Or.inl rfl | exact Or.inr (Or.inl rfl) | exact Or.inr (Or.inr rfl)) (hd : (x == ("__debug__" : Str)) = false := by decide)
    (hcd : (x == ("__classdict__" : Str)) = false := by decide) (hs : PlainIx e := by exact fun _ _ => rfl) : J X (.Subscript (.Name x p) e pos) (eIxO i f) := peimp (pe_ix oIx (pv i hN hv hd hcd) he hs) fun σ H Q h => by
  obtain ⟨B, ρ, A, ρ', c, R, e1, q⟩ := h
  unfold eIxO at e1
  split at e1
  · rename_i hL
    obtain ⟨fx0, xs0, e0⟩ := isLst_inv hL
    obtain ⟨v0, ev0, a0, vs0, rfl, ea0, h0, _⟩ := R.at_own e0
    cases z : f ρ with
    | none => rw [z] at e1; cases e1
    | some r =>
      obtain ⟨ρ1, c1⟩ := r
      rw [z] at e1
      dsimp only at e1
      split at e1
      · rename_i y fx xs zy zi
        split at e1
        · rename_i d zd
          cases e1
          refine ⟨.ref a0, ev0, B, ρ, A, _, c1, R, z, fun u A1 H1 S ru => ?_⟩
          obtain ⟨v1, ev1, a1, vs1, e2, ea1, h1, rp⟩ := S.rel.at_own zi
          rw [ev0] at ev1; cases ev1; cases e2
          exact ⟨mu B A1, .list xs, y, d, S.rel.al, ⟨a0, vs1, rfl, h1, rp⟩, (ru.item zy).rd1, zd, fun t H2 s2 rt => q t A1 H2 (S.more R s2) rt⟩
        · cases e1
      · cases e1
  · cases e1
end
end L3
/-! Calls by reference; the script; parallel stores; freezing. -/
namespace L3
open PySem PySem.Spec PyProof.Rows L2
section
variable {w : World} {K : PySem.W.Frag} {B N : Addr → Prop} {ρ ρ' ρ1 ρ2 : Env} {σ σ' τ : L2.St} {A A' A1 A2 : Nat → List Addr} {H H' H1 H2 : Hp} {c : Cell} {v : V}
theorem Rel.less {B' : Addr → Prop} (R : Rel w K B' ρ σ A H) (h : ∀ x, B x → B' x) : Rel w K B ρ σ A H :=
  ⟨R.len, fun i c e => (R.cell i c e).ext (O := fun _ => False) (Ext.refl H) (fun _ z => z.elim) (fun a _ m => m.imp (h a) id) (fun _ _ z => z), R.out, fun x b => R.aliveB x (h x b), fun i x m b => R.apart i x m (h x b), R.one⟩
theorem Step.less {B' : Addr → Prop} (S : Step w K B' ρ σ A H ρ' σ' A' H') (h : ∀ x, B x → B' x) : Step w K B ρ σ A H ρ' σ' A' H' := ⟨S.rel.less h, S.ext, S.sub, S.fix⟩
/-- what the callee at slot i leaves -/
theorem Rel.merge {i : Nat} {fx : Bool} {o o' : Own} {v0 : V} {cs' : List Cell} {Ac : Nat → List Addr} (R : Rel w K B ρ σ A H) (ei : ρ[i]? = some (.own fx o)) (ev : σ[i]? = some (some v0))
    (Rc : Rel w K (fun x => (B x ∨ ∃ j, j ≠ i ∧ x ∈ A j) ∨ N x) cs' τ Ac H') (e0 : cs'[0]? = some (.own true o')) (et : τ[0]? = some (some v0))
    (ex : Ext (fun x => x ∈ A i) H H') (sub : ∀ x, x ∈ Ac 0 → x ∈ A i ∨ H x = none) (hN : ∀ x, N x → x ∈ A i ∨ H x = none) :
    Rel w K (fun x => B x ∨ N x) (ρ.set i (.own fx o')) σ (putA A i (Ac 0)) H' := by
  have hi : i < ρ.length := (List.getElem?_eq_some_iff.mp ei).1
  refine ⟨by rw [List.length_set]; exact R.len, fun j c ej => ?_, fun j h => ?_, fun x h => ?_, fun j x m h => ?_, fun j k x m1 m2 => ?_⟩
  · by_cases hj : j = i
    · subst hj
      rw [List.getElem?_set_self hi] at ej
      cases ej
      have hc := Rc.cell 0 _ e0
      obtain ⟨v1, ev1, ok⟩ := hc
      rw [et] at ev1
      cases ev1
      rw [putA_self]
      refine ⟨v0, by rw [ev]; rfl, ok.weak fun a m => ?_⟩
      rcases m with (m | m) | ⟨k, m⟩
      · exact .inl (.inl (.inl m))
      · exact .inl (.inr m)
      · by_cases hk : k = j
        · subst hk; rw [putA_self] at m; exact .inr ⟨0, m⟩
        · rw [putA_ne hk] at m; exact .inl (.inl (.inr ⟨k, hk, m⟩))
    · rw [List.getElem?_set_ne (Ne.symm hj)] at ej
      rw [putA_ne hj]
      refine (R.cell j c ej).ext ex (fun a z => .inr ⟨i, z⟩) (fun a n m => ?_) fun x hx z => hj (R.one j i x hx z)
      rcases m with (m | m) | ⟨k, m⟩
      · exact .inl m
      · rcases hN a m with z | z
        · exact .inr ⟨i, z⟩
        · exact absurd z n
      · by_cases hk : k = i
        · subst hk
          rw [putA_self] at m
          rcases sub a m with z | z
          · exact .inr ⟨k, z⟩
          · exact absurd z n
        · rw [putA_ne hk] at m; exact .inr ⟨k, m⟩
  · rw [List.length_set] at h
    rw [putA_ne (by omega)]
    exact R.out j h
  · exact Rc.aliveB x (h.imp .inl id)
  · by_cases hj : j = i
    · subst hj
      rw [putA_self] at m
      exact Rc.apart 0 x m (h.imp .inl id)
    · rw [putA_ne hj] at m
      rcases h with h | h
      · exact R.apart j x m h
      · rcases hN x h with z | z
        · exact hj (R.one j i x m z)
        · exact R.al x (.inr ⟨j, m⟩) z
  · by_cases hj : j = i
    · by_cases hk : k = i
      · rw [hj, hk]
      · subst hj
        rw [putA_self] at m1
        rw [putA_ne hk] at m2
        exact absurd (.inl (.inr ⟨k, hk, m2⟩)) (Rc.apart 0 x m1)
    · by_cases hk : k = i
      · subst hk
        rw [putA_self] at m2
        rw [putA_ne hj] at m1
        exact absurd (.inl (.inr ⟨j, hj, m1⟩)) (Rc.apart 0 x m2)
      · rw [putA_ne hj] at m1
        rw [putA_ne hk] at m2
        exact R.one j k x m1 m2
/-- the first goes by reference, the others are values -/
def refA (as : List Addr) : Nat → List Addr := fun j => if j = 0 then as else []
theorem refA_sub {as : List Addr} {j : Nat} {x : Addr} (h : x ∈ refA as j) : j = 0 ∧ x ∈ as := by
  unfold refA at h
  split at h
  · exact ⟨by assumption, h⟩
  · cases h
theorem Rel.refs {i : Nat} {fx : Bool} {o : Own} {v0 : V} {ds : List D} {vs : List V} (R : Rel w K B ρ σ A H) (ei : ρ[i]? = some (.own fx o)) (ev : σ[i]? = some (some v0)) (h : Reps w K (mu B A) H ds vs) :
    Rel w K (fun x => B x ∨ ∃ j, j ≠ i ∧ x ∈ A j) (.own true o :: ds.map .val) ((v0 :: vs).map some) (refA (A i)) H where
  len := by simp [h.length]
  cell := fun j c e => by
    have hM : ∀ a, mu (fun x => B x ∨ ∃ j, j ≠ i ∧ x ∈ A j) (refA (A i)) a → mu B A a := fun a m => by
      rcases m with (m | ⟨k, _, m⟩) | ⟨k, m⟩
      · exact .inl m
      · exact .inr ⟨k, m⟩
      · exact .inr ⟨i, (refA_sub m).2⟩
    cases j with
    | zero =>
      simp at e; subst e
      obtain ⟨v1, ev1, ok⟩ := R.at_own ei
      rw [ev] at ev1; cases ev1
      exact ⟨v0, by simp, ok.weak hM⟩
    | succ j =>
      rw [List.getElem?_cons_succ, List.getElem?_map] at e
      cases z : ds[j]? with
      | none => rw [z] at e; cases e
      | some d =>
        rw [z] at e; cases e
        obtain ⟨u, eu, r⟩ := h.get z
        exact ⟨rfl, u, by simp [eu], r.weak hM⟩
  out := fun j hj => by
    unfold refA
    rw [if_neg (by simp at hj; omega)]
  aliveB := fun x b => R.al x (b.imp id fun ⟨j, _, m⟩ => ⟨j, m⟩)
  apart := fun j x m b => by
    have m := (refA_sub m).2
    rcases b with b | ⟨k, hk, b⟩
    · exact R.apart i x m b
    · exact hk (R.one k i x b m)
  one := fun j k x m1 m2 => by rw [(refA_sub m1).1, (refA_sub m2).1]
end
section
variable {X : Cx} {k j : Nat} {x y : Str} {F : Fn} {p p1 pos : Pos} {e : Expr} {es : List Expr}
theorem jCallR {i : Nat} {fs : List E} (c : Cg X.prog X.w X.K X.mg X.base k x F) (hr : Room j X.A) (hgd : X.A.guards = some []) (ha : JAe X es fs) (hk : k ≤ j := by first | decide | omega) (hg : Gl X x := by rfl)
    (hN : X.N[i]? = some y := by rfl) (hv : Vis X.env.scope y := by first | exact Or.inl rfl | exact Or.inr (Or.inl rfl) | exact Or.inr (Or.inr rfl)) (hd : (y == ("__debug__" : Str)) = false := by decide) (hcd : (y == ("__classdict__" : Str)) = false := by decide)
    (hdb : (x == ("__debug__" : Str)) = false := by decide) (he : starEach (.Name y p1 :: es) X.env = (false, eval (.Name y p1) X.env) :: starEach es X.env := by rfl) (hpl : (backTo pos (starEach es X.env)).any (·.1) = false := by rfl) :
    J X (.Call (.Name x p) (.Name y p1 :: es) [] pos) (eCallR F i fs) := peimp (pe_cg c hr hgd hk hg (pa_cons (pv i hN hv hd hcd) ha he) hdb he hpl) fun σ H Q h => by
  obtain ⟨B, ρ, A, ρ', c0, R, e1, q1⟩ := h
  unfold eCallR at e1
  split at e1
  · rename_i hO
    have hO : ∃ fx o, ρ[i]? = some (Cell.own fx o) := by
      unfold isOwnO at hO
      split at hO
      · exact ⟨_, _, by assumption⟩
      · cases hO
    obtain ⟨fx0, o0, ei0⟩ := hO
    obtain ⟨v0, ev, _⟩ := R.at_own ei0
    cases z1 : eevs fs ρ with
    | none => rw [z1] at e1; cases e1
    | some r =>
      obtain ⟨ρ1, ds⟩ := r
      rw [z1] at e1
      dsimp only at e1
      split at e1
      · rename_i fx o zi
        split at e1
        · rename_i fx2 o' cs2 c2 zF
          cases e1
          refine ⟨v0, ev, B, ρ, A, ρ1, ds, R, z1, fun vs A1 H1 S1 r1 => ?_⟩
          have R1 := S1.rel.refs zi ev r1
          refine ⟨_, _, _, _, _, R1, zF, fun v A' H' S rc => ?_⟩
          obtain ⟨⟨o2, e0⟩, _⟩ := S.fix 0 o rfl
          simp at e0
          obtain ⟨hfx, ho2⟩ := e0
          subst hfx; subst ho2
          have ex : Ext (fun x => x ∈ A1 i) H1 H' := S.ext.into fun x ⟨j, m⟩ => (refA_sub m).2
          have sub : ∀ x, x ∈ A' 0 → x ∈ A1 i ∨ H1 x = none := fun x m => (S.sub 0 x m).imp (fun ⟨j, m⟩ => (refA_sub m).2) id
          have go : ∀ N : Addr → Prop, (∀ x, N x → x ∈ A1 i ∨ H1 x = none) → Rel X.w X.K (fun x => (B x ∨ ∃ j, j ≠ i ∧ x ∈ A1 j) ∨ N x) (Cell.own true o' :: cs2) ((v0 :: vs).map some) A' H' → Rel X.w X.K (fun x => B x ∨ N x) (ρ1.set i (.own fx o')) σ (putA A1 i (A' 0)) H' := fun N hN Rc =>
            Rel.merge S1.rel zi ev Rc rfl (by simp) ex sub hN
          have Rn : Rel X.w X.K B (ρ1.set i (.own fx o')) σ (putA A1 i (A' 0)) H' := by
            have z := go (fun _ => False) (fun _ z => z.elim) (by simpa using S.rel)
            simpa using z
          have hi : i < ρ1.length := (List.getElem?_eq_some_iff.mp zi).1
          have S2 : Step X.w X.K B ρ1 σ A1 H1 (ρ1.set i (.own fx o')) σ (putA A1 i (A' 0)) H' := by
            refine ⟨Rn, ex.into fun x m => ⟨i, m⟩, fun j x m => ?_, fun j o3 e3 => ⟨?_, rfl⟩⟩
            · by_cases hj : j = i
              · subst hj; rw [putA_self] at m; exact (sub x m).imp (fun z => ⟨j, z⟩) id
              · rw [putA_ne hj] at m; exact .inl ⟨j, m⟩
            · by_cases hj : j = i
              · subst hj
                rw [zi] at e3; cases e3
                exact ⟨o', List.getElem?_set_self hi⟩
              · exact ⟨o3, by rw [List.getElem?_set_ne (Ne.symm hj)]; exact e3⟩
          have hM : ∀ a, mu B (putA A1 i (A' 0)) a → mu (fun x => B x ∨ ∃ j, j ≠ i ∧ x ∈ A1 j) A' a := fun a m => by
            rcases m with m | ⟨j, m⟩
            · exact .inl (.inl m)
            · by_cases hj : j = i
              · subst hj; rw [putA_self] at m; exact .inr ⟨0, m⟩
              · rw [putA_ne hj] at m; exact .inl (.inr ⟨j, hj, m⟩)
          refine q1 v _ H' (S1.trans R S2) (ResC.ahead R S1 ?_)
          cases c0 with
          | un => exact rc
          | scr ns => exact rc
          | val d => exact Rep.weak hM rc
          | own fr oo =>
            obtain ⟨er, as, ok, hn, rr⟩ := rc
            have hsub : ∀ x ∈ as, x ∈ A1 i ∨ H1 x = none := fun x hx => (hn x hx).2.imp (fun ⟨j, m⟩ => (refA_sub m).2) id
            exact ⟨er, as, ok.weak fun a m => m.imp (hM a) id, fun x hx => ⟨fun m => (hn x hx).1 (hM x m), (hsub x hx).imp (fun z => ⟨i, z⟩) id⟩, go (fun x => x ∈ as) hsub rr⟩
        · cases e1
      · cases e1
  · cases e1
/-- the script handed on -/
theorem jCallS {i : Nat} (c : Cg X.prog X.w X.K X.mg X.base k x F) (hr : Room j X.A) (hgd : X.A.guards = some []) (hk : k ≤ j := by first | decide | omega) (hg : Gl X x := by rfl)
    (hN : X.N[i]? = some y := by rfl) (hv : Vis X.env.scope y := by first | exact Or.inl rfl | exact Or.inr (Or.inl rfl) | exact Or.inr (Or.inr rfl)) (hd : (y == ("__debug__" : Str)) = false := by decide) (hcd : (y == ("__classdict__" : Str)) = false := by decide)
    (hdb : (x == ("__debug__" : Str)) = false := by decide) (he : starEach [.Name y p1] X.env = [(false, eval (.Name y p1) X.env)] := by rfl) :
    J X (.Call (.Name x p) [.Name y p1] [] pos) (eCallS F i) := peimp (pe_cg c hr hgd hk hg (pa_cons (pv i hN hv hd hcd) pa_nil he) hdb he (by rfl)) fun σ H Q h => by
  obtain ⟨B, ρ, A, ρ', c0, R, e1, q1⟩ := h
  unfold eCallS at e1
  split at e1
  · rename_i ns zi
    cases zF : F [.scr ns] with
    | none => rw [zF] at e1; cases e1
    | some r =>
      obtain ⟨cs2, c2⟩ := r
      rw [zF] at e1
      cases e1
      obtain ⟨_, a, ev, hs⟩ := R.cell i _ zi
      refine ⟨.ref a, get_join ev, mu B A, noA, [.scr ns], cs2, _, ⟨rfl, fun j c e => ?_, fun _ _ => rfl, R.al, fun j x m => (nomatch m), fun j k x m => (nomatch m)⟩, zF, fun v A' H' S rc => ?_⟩
      · cases j with
        | zero => simp at e; subst e; exact ⟨rfl, a, rfl, hs⟩
        | succ j => simp at e
      · obtain ⟨S2, rc2⟩ := after_vals R S rc
        exact q1 v _ H' S2 rc2
  · cases e1
end
/-! ### the script walked -/
section
variable {X : Cx}
def Scr (K : PySem.W.Frag) (H : Hp) (a : Addr) (ns : List Int) : Prop := (∃ o, H a = some (.frz o (.lst (ns.map .int)))) ∨ ∀ H', SqL K H' a (ns.map .int)
theorem Scr.sql {K : PySem.W.Frag} {H : Hp} {a : Addr} {ns : List Int} (h : Scr K H a ns) : SqL K H a (ns.map .int) := h.elim (fun ⟨o, e⟩ => .inl (.inr ⟨o, e⟩)) fun z => z H
theorem Scr.same {K : PySem.W.Frag} {H H' : Hp} {a : Addr} {ns : List Int} (s : Same H H') (h : Scr K H a ns) : Scr K H' a ns := h.imp (fun ⟨o, e⟩ => ⟨o, s _ _ e⟩) id
theorem ok_scr {w : World} {K : PySem.W.Frag} {ns : List Int} {a : Addr} : ItOk w K (ns.map .int) (Itl K a) fun B A H => Scr K H a ns where
  good := fun B => ⟨fun i A H hi h => by
    have hi : i < ns.length := by simpa using hi
    refine ⟨⟨_, .int ns[i], h.sql, by simp [hi]⟩, fun v H' y => ?_⟩
    obtain ⟨rfl, y⟩ := y
    refine ⟨Same.refl _, h, fun x hx => ?_⟩
    have e := y _ h.sql
    rw [List.getElem?_map] at hx e
    rw [List.getElem?_eq_getElem hi] at hx e
    cases hx; cases e
    exact (rfl : _ = _), fun i A H hi h => ⟨_, h.sql, by simpa using hi⟩⟩
  same := fun B A H H' s h => h.same s
  prot := fun B N A H H' s hN h => h.same s
theorem iScrI {i : Nat} {tg : Expr} {x : Str} {pos : Pos} (hN : X.N[i]? = some x := by rfl) (hv : Vis X.env.scope x := by first | exact Or.inl rfl | exact Or.inr (Or.inl rfl) | exact Or.inr (Or.inr rfl)) (hd : (x == ("__debug__" : Str)) = false := by decide)
    (hcd : (x == ("__classdict__" : Str)) = false := by decide) : JI X tg (.Name x pos) (iScr i) := ⟨fun pins s σ H R I h => by
  obtain ⟨B, ρ, A, ρ1, xs, Rr, e, q⟩ := h
  unfold iScr at e
  split at e
  · rename_i ns zi
    cases e
    obtain ⟨_, a, ev, hs⟩ := Rr.cell i _ zi
    have hs : Scr X.K H a ns := hs
    exact (pi_list (pv i hN hv hd hcd)).run pins s σ H R I ⟨.ref a, get_join ev, a, rfl, ⟨_, hs.sql⟩, q _ _ A H (Step.refl Rr) ok_scr (fun B A H A' H' O h ex hO hM => h.imp (fun ⟨o, e⟩ => ⟨o, ex.frz _ _ _ e⟩) id) hs⟩
  · cases e⟩
theorem ipScrI {i : Nat} {tg : Expr} {x : Str} {pos : Pos} (hN : X.N[i]? = some x := by rfl) (hv : Vis X.env.scope x := by first | exact Or.inl rfl | exact Or.inr (Or.inl rfl) | exact Or.inr (Or.inr rfl)) (hd : (x == ("__debug__" : Str)) = false := by decide)
    (hcd : (x == ("__classdict__" : Str)) = false := by decide) : JIp X tg (.Name x pos) (ipScr i) := ⟨fun pins s σ H R I h => by
  obtain ⟨B, ρ, A, xs, Rr, e, q⟩ := h
  unfold ipScr at e
  split at e
  · rename_i ns zi
    cases e
    obtain ⟨_, a, ev, hs⟩ := Rr.cell i _ zi
    have hs : Scr X.K H a ns := hs
    exact (pi_list (pv i hN hv hd hcd)).run pins s σ H R I ⟨.ref a, get_join ev, a, rfl, ⟨_, hs.sql⟩, q _ _ H (Same.refl H) ok_scr hs⟩
  · cases e⟩
end
end L3
/-! A drawing's source; parallel stores; freezing. -/
namespace L3
open PySem PySem.Spec PyProof.Rows L2
/-! ### the source -/
def srcK (s : Src) (c : Addr) : List (Key × V) := [(.inr "cells", .ref c), (.inr "left", .int s.left), (.inr "mixed", .int s.mixed), (.inr "turn", .int s.turn)]
theorem srcK_cells (s : Src) (c : Addr) : valV (srcK s c) (.inr "cells") = some (.ref c) := rfl
theorem srcK_get {s : Src} {c : Addr} {k : Str} {n : Int} (h : s.get k = some n) : valV (srcK s c) (.inr k) = some (.int n) := by
  unfold Src.get at h
  split at h
  · subst k; cases h; rfl
  · split at h
    · subst k; cases h; rfl
    · split at h
      · subst k; cases h; rfl
      · cases h
theorem srcK_put {s s' : Src} {c : Addr} {k : Str} {n : Int} (h : s.put k n = some s') : putK (srcK s c) (.inr k) (.int n) = srcK s' c ∧ s'.cells = s.cells := by
  unfold Src.put at h
  split at h
  · subst k; cases h; exact ⟨rfl, rfl⟩
  · split at h
    · subst k; cases h; exact ⟨rfl, rfl⟩
    · split at h
      · subst k; cases h; exact ⟨rfl, rfl⟩
      · cases h
section
variable {X : Cx}
theorem jSrc {k0 : Kind} {i : Nat} {x kk : Str} {p p2 pos : Pos} {j} (hu : X.A.units + 64 < cLine) (hN : X.N[i]? = some x := by rfl) (hv : Vis X.env.scope x := by first | exact Or.inl rfl | exact Or.inr (Or.inl rfl) | exact Or.inr (Or.inr rfl)) (hd : (x == ("__debug__" : Str)) = false := by decide)
    (hcd : (x == ("__classdict__" : Str)) = false := by decide) : JP X k0 (.Subscript (.Name x p) (.Constant (.str kk) j p2) pos) (pSrc i kk) := peimp (pe_dget (by omega) (pv i hN hv hd hcd) pe_str (fun _ _ => rfl)) fun σ H Q h => by
  obtain ⟨B, ρ, A, d, R, e, q⟩ := h
  unfold pSrc at e
  split at e
  · rename_i fx s zi
    cases z : s.get kk with
    | none => rw [z] at e; cases e
    | some n =>
      rw [z] at e; cases e
      obtain ⟨v, ev, a, c, rfl, ea, h1, h2⟩ := R.at_own zi
      exact ⟨.ref a, ev, a, .int n, rfl, by have this := DGet.k (k := .inr kk) h1; have e2 := srcK_get (c := c) z; unfold srcK at e2; rw [e2] at this; exact this, q _ _ (Same.refl H) (Res.flat (show Rep X.w X.K (mu B A) H (.int n) (.int n) from rfl))⟩
  · cases e
theorem jSrcC {i : Nat} {x : Str} {p p2 pos : Pos} {j} (hu : X.A.units + 64 < cLine) (hN : X.N[i]? = some x := by rfl) (hv : Vis X.env.scope x := by first | exact Or.inl rfl | exact Or.inr (Or.inl rfl) | exact Or.inr (Or.inr rfl)) (hd : (x == ("__debug__" : Str)) = false := by decide)
    (hcd : (x == ("__classdict__" : Str)) = false := by decide) : JP X .r (.Subscript (.Name x p) (.Constant (.str "cells") j p2) pos) (pSrcC i) := peimp (pe_dget (by omega) (pv i hN hv hd hcd) pe_str (fun _ _ => rfl)) fun σ H Q h => by
  obtain ⟨B, ρ, A, d, R, e, q⟩ := h
  unfold pSrcC at e
  split at e
  · rename_i fx s zi
    cases e
    obtain ⟨v, ev, a, c, rfl, ea, h1, h2⟩ := R.at_own zi
    exact ⟨.ref a, ev, a, .ref c, rfl, DGet.k (k := .inr "cells") h1, q _ _ (Same.refl H) ⟨c, _, rfl, h2, reps_ints _⟩⟩
  · cases e
where reps_ints : ∀ {w : World} {K : PySem.W.Frag} {M : Addr → Prop} {H : Hp} (ns : List Int), Reps w K M H (ns.map .int) (ns.map .int)
  | _, _, _, _, [] => rfl
  | _, _, _, _, n :: ns => ⟨.int n, _, rfl, rfl, reps_ints ns⟩
/-- source[k] = e -/
theorem src_put {w : World} {K : PySem.W.Frag} {B : Addr → Prop} {ρ : Env} {σ : L2.St} {A : Nat → List Addr} {H : Hp} {i : Nat} {fx : Bool} {s s' : Src} {kk : Str} {n : Int} {v : V} (R : Rel w K B ρ σ A H) (zi : ρ[i]? = some (.own fx (.src s))) (ev : σ[i]? = some (some v)) (z : s.put kk n = some s') :
    ∃ a c, v = .ref a ∧ H a = some (.dK (srcK s c)) ∧ Step w K B ρ σ A H (ρ.set i (.own fx (.src s'))) σ A (upd H a (.dK (putK (srcK s c) (.inr kk) (.int n)))) := by
  obtain ⟨v1, ev1, a, c, rfl, ea, h1, h2⟩ := R.at_own zi
  rw [ev] at ev1; cases ev1
  obtain ⟨e1, e2⟩ := srcK_put (c := c) z
  refine ⟨a, c, rfl, h1, ?_⟩
  have hca : c ≠ a := fun e => by rw [e, h1] at h2; cases h2
  have ex := upd_ext1 (o := .dK (putK (srcK s c) (.inr kk) (.int n))) h1 (fun _ z => by cases z) (fun _ _ z => by cases z)
  exact Step.chg R zi ev ⟨a, c, rfl, ea, by rw [e1]; exact upd_same, by rw [upd_ne hca, h2, e2]⟩ (ex.into fun x e => by rw [ea, e]; simp)
theorem sSrcPutS {i : Nat} {x kk : Str} {p p2 p3 pos : Pos} {j} {e : Expr} {a : P} (hu : X.A.units + 64 < cLine) (he : JP X .c e a) (hN : X.N[i]? = some x := by rfl) (hv : Vis X.env.scope x := by first | exact Or.inl rfl | exact Or.inr (Or.inl rfl) | exact Or.inr (Or.inr rfl)) (hd : (x == ("__debug__" : Str)) = false := by decide)
    (hcd : (x == ("__classdict__" : Str)) = false := by decide) (hs : swapsWith e (some (.Subscript (.Name x p) (.Constant (.str kk) j p2) p3)) pos.line X.env = pure false := by rfl) :
    S1 X (.Assign [.Subscript (.Name x p) (.Constant (.str kk) j p2) p3] e pos) (sSrcPut i kk a) := psimp (ps_dput (by omega) (pv i hN hv hd hcd) pe_str he hs) fun Dn σ H h => by
  obtain ⟨B, ρ, A, ρ', o, R, e1, q⟩ := h
  unfold sSrcPut at e1
  split at e1
  · rename_i n fx s za zi
    cases z : s.put kk n with
    | none => rw [z] at e1; cases e1
    | some s' =>
      rw [z] at e1; cases e1
      refine ⟨B, ρ, A, _, R, za, fun v H1 s1 r1 => ?_⟩
      cases (show v = .int n from r1)
      obtain ⟨v0, ev, _⟩ := R.at_own zi
      obtain ⟨a0, c, rfl, h1, S⟩ := src_put (R.same s1) zi ev z
      refine ⟨_, ev, a0, _, rfl, DPut.k (k := .inr kk) h1 (by rw [sizeLine_eq]; exact (by decide : 4 < 16777216)), ?_⟩
      exact q _ _ _ ((Step.same s1 R).trans R S)
  · cases e1
/-- source[k] = source['cells'].pop() -/
theorem sSrcPopS {i : Nat} {x kk : Str} {p p2 p3 p4 p5 p6 p7 p8 pos : Pos} {j j2} (hu : X.A.units + 64 < cLine) (hN : X.N[i]? = some x := by rfl) (hv : Vis X.env.scope x := by first | exact Or.inl rfl | exact Or.inr (Or.inl rfl) | exact Or.inr (Or.inr rfl)) (hd : (x == ("__debug__" : Str)) = false := by decide)
    (hcd : (x == ("__classdict__" : Str)) = false := by decide)
    (hbase : attributeBase (.Subscript (.Name x p4) (.Constant (.str "cells") j2 p5) p6) "pop" X.env (eval (.Subscript (.Name x p4) (.Constant (.str "cells") j2 p5) p6) X.env) = eval (.Subscript (.Name x p4) (.Constant (.str "cells") j2 p5) p6) X.env := by rfl) (hline : (p7.endLine == p8.line) = true := by rfl)
    (hs : swapsWith (.Call (.Attribute (.Subscript (.Name x p4) (.Constant (.str "cells") j2 p5) p6) "pop" p7) [] [] p8) (some (.Subscript (.Name x p) (.Constant (.str kk) j p2) p3)) pos.line X.env = pure false := by rfl) :
    S1 X (.Assign [.Subscript (.Name x p) (.Constant (.str kk) j p2) p3] (.Call (.Attribute (.Subscript (.Name x p4) (.Constant (.str "cells") j2 p5) p6) "pop" p7) [] [] p8) pos) (sSrcPop i kk) :=
  psimp (ps_dput (by omega) (pv i hN hv hd hcd) pe_str (pe_bm0 PySem.F.plainAttrs_list PySem.F.slot_list_pop PySem.F.type_list_pop mt_pop (pe_dget (by omega) (pv i hN hv hd hcd) pe_str (fun _ _ => rfl)) hbase hline) hs) fun Dn σ H h => by
  obtain ⟨B, ρ, A, ρ', o, R, e1, q⟩ := h
  unfold sSrcPop at e1
  split at e1
  · rename_i fx s zi
    cases zg : s.cells.getLast? with
    | none => rw [zg] at e1; cases e1
    | some n =>
      rw [zg] at e1
      dsimp only at e1
      cases z : ({ s with cells := s.cells.dropLast } : Src).put kk n with
      | none => rw [z] at e1; cases e1
      | some s' =>
        rw [z] at e1; cases e1
        obtain ⟨v, ev, a, c, rfl, ea, h1, h2⟩ := R.at_own zi
        have hca : c ≠ a := fun e => by rw [e, h1] at h2; cases h2
        refine ⟨_, ev, a, .ref c, rfl, DGet.k (k := .inr "cells") h1, .inl ⟨rfl, _, SqL.of h2⟩, c, _, .int n, rfl, rfl, h2, ?_, ?_⟩
        · rw [List.length_map, List.getElem?_map, ← List.getLast?_eq_getElem?, zg]; rfl
        · have ex := upd_ext1 (o := .lst (s.cells.map V.int).dropLast) h2 (fun _ z => by cases z) (fun _ _ z => by cases z)
          have S1 := Step.chg (fx := fx) (o' := .src { s with cells := s.cells.dropLast }) R zi ev (H' := upd H c (.lst (s.cells.map V.int).dropLast)) ⟨a, c, rfl, ea, by rw [upd_ne (Ne.symm hca)]; exact h1, by rw [upd_same, List.map_dropLast]⟩ (ex.into fun x e => by rw [ea, e]; simp)
          have hi : i < ρ.length := (List.getElem?_eq_some_iff.mp zi).1
          obtain ⟨a0, c0, ee, h3, S2⟩ := src_put S1.rel (List.getElem?_set_self hi) ev z
          cases ee
          refine ⟨_, ev, a, _, rfl, DPut.k (k := .inr kk) h3 (by rw [sizeLine_eq]; exact (by decide : 4 < 16777216)), ?_⟩
          have S3 := S1.trans R S2
          rw [List.set_set] at S3
          exact q _ _ _ S3
  · cases e1
/-- {'cells': .., 'left': .., 'mixed': .., 'turn': ..} -/
theorem intsOf_eq : ∀ {xs : List D} {ns : List Int}, intsOf xs = some ns → xs = ns.map .int
  | [], ns, h => by cases h; rfl
  | .int n :: r, ns, h => by
    rw [intsOf] at h
    cases z : intsOf r with
    | none => rw [z] at h; cases h
    | some m => rw [z] at h; cases h; rw [intsOf_eq z]; rfl
  | .none :: _, _, h => by simp [intsOf] at h
  | .bool _ :: _, _, h => by simp [intsOf] at h
  | .str _ :: _, _, h => by simp [intsOf] at h
  | .list _ :: _, _, h => by simp [intsOf] at h
  | .tuple _ :: _, _, h => by simp [intsOf] at h
  | .dict _ :: _, _, h => by simp [intsOf] at h
theorem reps_ints_eq {w : World} {K : PySem.W.Frag} {M : Addr → Prop} {H : Hp} : ∀ {ns : List Int} {vs : List V}, Reps w K M H (ns.map .int) vs → vs = ns.map .int
  | [], vs, h => h
  | n :: ns, vs, h => by
    obtain ⟨v, r, e, h1, h2⟩ := h
    rw [e, show v = .int n from h1, reps_ints_eq h2]; rfl
theorem jSrcNew {a b c d : Expr} {pa pb pc pd : P} {p1 p2 p3 p4 pos : Pos} {j1 j2 j3 j4} (ha : JP X .f a pa) (hb : JP X .c b pb) (hc : JP X .c c pc) (hd : JP X .c d pd) :
    J X (.Dict [some (.Constant (.str "cells") j1 p1), some (.Constant (.str "left") j2 p2), some (.Constant (.str "mixed") j3 p3), some (.Constant (.str "turn") j4 p4)] [a, b, c, d] pos) (eSrc pa pb pc pd) :=
  peimp (pe_disp (pps_cons pe_str ha (pps_cons pe_str hb (pps_cons pe_str hc (pps_cons pe_str hd pps_nil)))) rfl rfl (by simp) (by simp)) fun σ H Q h => by
  obtain ⟨B, ρ, A, ρ', cc, R, e1, q⟩ := h
  unfold eSrc at e1
  split at e1
  · rename_i xs l m t za zb zc zd
    cases zn : intsOf xs with
    | none => rw [zn] at e1; cases e1
    | some ns =>
      rw [zn] at e1; cases e1
      intro p hp
      have s0 := same_new (o := .dK []) hp
      have R0 := R.same s0
      refine ⟨B, ρ, A, _, R0, za, fun v1 H1 s1 r1 => ⟨B, ρ, A, _, R0.same s1, zb, fun v2 H2 s2 r2 => ⟨B, ρ, A, _, (R0.same s1).same s2, zc, fun v3 H3 s3 r3 => ⟨B, ρ, A, _, ((R0.same s1).same s2).same s3, zd, fun v4 H4 s4 r4 => ?_⟩⟩⟩⟩
      have s14 := (s2.trans s3).trans s4
      have s04 := s1.trans s14
      have hp4 : H4 p = some (.dK []) := s04 _ _ upd_same
      obtain ⟨c0, vs, rfl, hn, hc, rp⟩ := r1
      cases (show v2 = .int l from r2)
      cases (show v3 = .int m from r3)
      cases (show v4 = .int t from r4)
      obtain rfl := intsOf_eq zn
      obtain rfl := reps_ints_eq rp
      have hc4 : H4 c0 = some (.lst (ns.map .int)) := s14 _ _ hc
      have hpc : c0 ≠ p := fun e => by rw [e, upd_same] at hn; cases hn
      have hcH : H c0 = none := s0.free hn
      refine ⟨hp4, [(.inr "cells", .ref c0), (.inr "left", .int l), (.inr "mixed", .int m), (.inr "turn", .int t)], rfl, by simp, ?_⟩
      have sF : Same H (upd H4 p (.dK (srcK ⟨ns, l, m, t⟩ c0))) := fun x ob e => by
        rw [upd_ne (ne_of_none e hp)]
        exact (s0.trans s04) x ob e
      have hN : ∀ x ∈ [p, c0], H x = none ∧ (upd H4 p (.dK (srcK ⟨ns, l, m, t⟩ c0))) x ≠ none := fun x hx => by
        rcases List.mem_cons.mp hx with rfl | hx
        · exact ⟨hp, by rw [upd_same]; simp⟩
        · rw [List.mem_singleton.mp hx]
          exact ⟨hcH, by rw [upd_ne hpc, hc4]; simp⟩
      refine q (.ref p) A _ (Step.same sF R) ⟨rfl, [p, c0], ⟨p, c0, rfl, rfl, upd_same, by rw [upd_ne hpc]; exact hc4⟩, fun x hx => ⟨fun mm => R.al x mm (hN x hx).1, .inr (hN x hx).1⟩, R.protect sF hN⟩
  · cases e1
/-! ### {} -/
theorem jDict0 {k : Kind} {pos : Pos} : JP X k (.Dict [] [] pos) (pC (.dict [])) := ⟨fun pins s σ H Q I h => by
  obtain ⟨B, ρ, A, d, R, e, q⟩ := h
  cases e
  have hf := I.hok.fresh (Nat.le_refl s.heap.objs.size)
  refine wpAny_Dict_empty ⟨.ref s.heap.objs.size, _, I.laid (a := s.heap.objs.size) (o := .ext (DRaw s.heap.objs.size [])) (t' := s.toks) (fun _ _ q => Heap.get?_push_of_some _ q) (Nat.le_refl _) ?_, rfl, q _ _ (same_new hf) (Res.down (k0 := .f) ?_ R.al (by cases k <;> rfl))⟩
  · refine ⟨⟨_, #[], 0, Heap.get?_push_size _ rfl, ⟨rfl, rfl, rfl⟩, rfl, .nil⟩, ⟨_, Heap.get?_push_size _ rfl⟩, fun h1 h2 ⟨o, es, ep, e1, e2⟩ hk => ⟨o, es, ep, hk o e1, e2⟩⟩
  · exact ⟨s.heap.objs.size, [], rfl, hf, ⟨beq_eq_false_iff_ne.mpr (Ne.symm (Nat.ne_of_lt I.big)), Nat.zero_le _, upd_same⟩, rfl, List.nodup_nil⟩⟩
end
end L3
/-! Parallel stores; freezing. -/
namespace L3
open PySem PySem.Spec PyProof.Rows L2
section
variable {w : World} {K : PySem.W.Frag} {B N : Addr → Prop} {ρ ρ' ρ0 ρ1 ρ2 : Env} {σ σ' σ0 τ : L2.St} {A A' A0 A1 A2 : Nat → List Addr} {H H' H0 H1 H2 : Hp} {c : Cell} {v : V}
theorem ResC.opened (R : Rel w K B ρ' σ A' H') (h : ResC w K B ρ' σ A A' H H' c v) : ∃ as, CellOk w K (fun x => mu B A' x ∨ x ∈ as) H' c (some v) as ∧ (∀ x ∈ as, ¬ mu B A' x ∧ ((∃ j, x ∈ A j) ∨ H x = none)) ∧ Rel w K (fun x => B x ∨ x ∈ as) ρ' σ A' H' := by
  cases c with
  | un => exact h.elim
  | scr ns => exact h.elim
  | val d => exact ⟨[], ⟨rfl, v, rfl, Rep.weak (fun a m => m.elim id fun z => nomatch z) h⟩, fun x z => (nomatch z), R.noB⟩
  | own fx o =>
    obtain ⟨_, as, ok, hn, rr⟩ := h
    exact ⟨as, ⟨v, rfl, ok⟩, hn, rr⟩
/-- cells and what they own -/
def Outs (w : World) (K : PySem.W.Frag) (M : Addr → Prop) (H : Hp) : List Cell → List V → List Addr → Prop
  | [], vs, N => vs = [] ∧ N = []
  | c :: cs, vs, N => ∃ v r as N', vs = v :: r ∧ N = as ++ N' ∧ CellOk w K M H c (some v) as ∧ (∀ x ∈ as, x ∉ N') ∧ Outs w K M H cs r N'
theorem Outs.weak {M M' : Addr → Prop} (hM : ∀ a, M' a → M a) : ∀ {cs : List Cell} {vs : List V} {N : List Addr}, Outs w K M H cs vs N → Outs w K M' H cs vs N
  | [], _, _, h => h
  | c :: cs, vs, N, h => by
    obtain ⟨v, r, as, N', e1, e2, ok, d, t⟩ := h
    exact ⟨v, r, as, N', e1, e2, ok.ext (O := fun _ => False) (Ext.refl H) (fun _ z => z.elim) (fun a _ m => hM a m) (fun _ _ z => z), d, t.weak hM⟩
def RAc (w : World) (K : PySem.W.Frag) (fs : List E) : L2.TA := fun σ H Q => ∃ B ρ A ρ' cs, Rel w K B ρ σ A H ∧ ecells fs ρ = some (ρ', cs) ∧
  ∀ vs A' H' N, Step w K B ρ σ A H ρ' σ A' H' → Rel w K (fun x => B x ∨ x ∈ N) ρ' σ A' H' → Outs w K (fun x => mu B A' x ∨ x ∈ N) H' cs vs N → (∀ x ∈ N, ¬ mu B A' x ∧ ((∃ j, x ∈ A j) ∨ H x = none)) → Q vs H'
abbrev JAc (X : Cx) (es : List Expr) (fs : List E) : Prop := PA X es (RAc X.w X.K fs)
end
section
variable {X : Cx}
theorem jacNil : JAc X [] [] := paimp pa_nil fun σ H Q h => by
  obtain ⟨B, ρ, A, ρ', cs, R, e, q⟩ := h
  cases e
  exact q [] A H [] (Step.refl R) R.noB ⟨rfl, rfl⟩ fun x z => nomatch z
theorem jacCons {e : Expr} {es : List Expr} {f : E} {fs : List E} (ha : J X e f) (hr : JAc X es fs) (hs : starEach (e :: es) X.env = (false, eval e X.env) :: starEach es X.env := by rfl) : JAc X (e :: es) (f :: fs) := paimp (pa_cons ha hr hs) fun σ H Q h => by
  obtain ⟨B, ρ, A, ρ', cs, R, e, q⟩ := h
  rw [ecells] at e
  cases e1 : f ρ with
  | none => rw [e1] at e; cases e
  | some r1 =>
    obtain ⟨ρ1, c1⟩ := r1
    rw [e1] at e
    dsimp only at e
    cases e2 : ecells fs ρ1 with
    | none => rw [e2] at e; cases e
    | some r2 =>
      obtain ⟨ρ2, cs2⟩ := r2
      rw [e2] at e; cases e
      refine ⟨B, ρ, A, ρ1, c1, R, e1, fun v A1 H1 S1 r1 => ?_⟩
      obtain ⟨as, ok, hn, R1⟩ := r1.opened S1.rel
      refine ⟨fun x => B x ∨ x ∈ as, ρ1, A1, _, cs2, R1, e2, fun vs A2 H2 N' S2 R2 os hn2 => ?_⟩
      have S2' : Step X.w X.K B ρ1 σ A1 H1 ρ' σ A2 H2 := S2.less fun x b => .inl b
      have S := S1.trans R S2'
      have hB : ∀ x, x ∈ as → ¬ mu B A2 x := fun x hx m => by
        rcases m with m | ⟨j, m⟩
        · exact (hn x hx).1 (.inl m)
        · rcases S2.sub j x m with z | z
          · exact (hn x hx).1 (.inr z)
          · exact R1.aliveB x (.inr hx) z
      have hd : ∀ x ∈ as, x ∉ N' := fun x hx z => (hn2 x z).1 (.inl (.inr hx))
      refine q (v :: vs) A2 H2 (as ++ N') S (R2.less fun x b => ?_) ⟨v, vs, as, N', rfl, rfl, ?_, hd, os.weak fun a m => ?_⟩ fun x hx => ?_
      · rcases b with b | b
        · exact .inl (.inl b)
        · rcases List.mem_append.mp b with b | b
          · exact .inl (.inr b)
          · exact .inr b
      · refine ok.ext S2.ext (fun a z => .inl (.inr z)) (fun a n m => ?_) fun x hx z => (hn x hx).1 (.inr z)
        rcases m with (m | ⟨j, m⟩) | m
        · exact .inl (.inl m)
        · rcases S2.sub j a m with z | z
          · exact .inl (.inr z)
          · exact absurd z n
        · rcases List.mem_append.mp m with m | m
          · exact .inr m
          · rcases (hn2 a m).2 with z | z
            · exact .inl (.inr z)
            · exact absurd z n
      · rcases m with m | m
        · rcases m with m | m
          · exact .inl (.inl (.inl m))
          · exact .inl (.inr m)
        · rcases List.mem_append.mp m with m | m
          · exact .inl (.inl (.inr m))
          · exact .inr m
      · rcases List.mem_append.mp hx with hx | hx
        · exact ⟨hB x hx, (hn x hx).2⟩
        · refine ⟨fun m => (hn2 x hx).1 (m.imp .inl id), ?_⟩
          rcases (hn2 x hx).2 with ⟨j, z⟩ | z
          · exact S1.sub j x z
          · by_cases q : ∃ j, x ∈ A j
            · exact .inl q
            · refine .inr ?_
              cases e : H x with
              | none => rfl
              | some o => rw [S1.ext.keep x o e q] at z; cases z
/-- the stores of a parallel assignment -/
def setsV : List Nat → List V → L2.St → L2.St
  | i :: is, v :: vs, σ => setsV is vs (σ.set i (some v))
  | _, _, σ => σ
end
section
variable {w : World} {K : PySem.W.Frag} {B : Addr → Prop} {ρ0 : Env} {σ0 : L2.St} {A0 : Nat → List Addr} {H0 H : Hp}
theorem Step.puts (R0 : Rel w K B ρ0 σ0 A0 H0) : ∀ {is : List Nat} {cs : List Cell} {vs : List V} {N : List Addr} {ρ ρ' : Env} {σ : L2.St} {A : Nat → List Addr}, Step w K B ρ0 σ0 A0 H0 ρ σ A H → Rel w K (fun x => B x ∨ x ∈ N) ρ σ A H →
    Outs w K (fun x => mu B A x ∨ x ∈ N) H cs vs N → (∀ x ∈ N, ¬ mu B A x ∧ ((∃ j, x ∈ A0 j) ∨ H0 x = none)) → L3.puts is cs ρ = some ρ' → ∃ A', Step w K B ρ0 σ0 A0 H0 ρ' (setsV is vs σ) A' H
  | [], [], vs, N, ρ, ρ', σ, A, S, R, os, hn, hp => by
    cases hp
    obtain ⟨rfl, rfl⟩ := os
    exact ⟨A, S⟩
  | [], c :: cs, vs, N, ρ, ρ', σ, A, S, R, os, hn, hp => by simp [L3.puts] at hp
  | i :: is, [], vs, N, ρ, ρ', σ, A, S, R, os, hn, hp => by simp [L3.puts] at hp
  | i :: is, c :: cs, vs, N, ρ, ρ', σ, A, S, R, os, hn, hp => by
    obtain ⟨v, r, as, N', rfl, rfl, ok, hd, t⟩ := os
    rw [L3.puts] at hp
    cases z : L3.put i c ρ with
    | none => rw [z] at hp; cases hp
    | some ρ1 =>
      rw [z] at hp
      dsimp only at hp
      obtain ⟨hi, e1, _⟩ := put_inv z
      have S1 : Step w K B ρ0 σ0 A0 H0 ρ1 (σ.set i (some v)) (putA A i as) H := Step.put R0 S z (R.less fun x b => b.imp id fun m => List.mem_append_left _ m)
        (ok.ext (O := fun _ => False) (Ext.refl H) (fun _ z => z.elim) (fun a _ m => m.imp id fun m => List.mem_append_left _ m) (fun _ _ z => z)) fun x hx => hn x (List.mem_append_left _ hx)
      have R1 : Rel w K (fun x => B x ∨ x ∈ N') ρ1 (σ.set i (some v)) (putA A i as) H := by
        rw [e1]
        refine L3.Rel.put (B := fun x => B x ∨ x ∈ N') (R.less fun x b => ?_) hi (ok.ext (O := fun _ => False) (Ext.refl H) (fun _ z => z.elim) (fun a _ m => ?_) (fun _ _ z => z)) (fun x hx m => ?_) fun x b => R.aliveB x (b.imp id fun m => List.mem_append_right _ m)
        · rcases b with (b | b) | b
          · exact .inl b
          · exact .inr (List.mem_append_right _ b)
          · exact .inr (List.mem_append_left _ b)
        · rcases m with m | m
          · rcases mu_or.mp m with m | m
            · exact .inl m
            · exact .inr (List.mem_append_right _ m)
          · exact .inr (List.mem_append_left _ m)
        · rcases mu_or.mp m with m | m
          · exact (hn x (List.mem_append_left _ hx)).1 m
          · exact hd x hx m
      have hmu : ∀ x, mu B (putA A i as) x → mu B A x ∨ x ∈ as := fun x m => by
        rcases m with m | ⟨j, m⟩
        · exact .inl (.inl m)
        · by_cases hj : j = i
          · subst hj; rw [putA_self] at m; exact .inr m
          · rw [putA_ne hj] at m; exact .inl (.inr ⟨j, m⟩)
      refine Step.puts R0 (is := is) (cs := cs) (vs := r) (N := N') S1 R1 (t.weak fun a m => ?_) (fun x hx => ⟨fun m => ?_, (hn x (List.mem_append_right _ hx)).2⟩) hp
      · rcases m with m | m
        · exact (hmu a m).imp id fun m => List.mem_append_left _ m
        · exact .inr (List.mem_append_right _ m)
      · rcases hmu x m with m | m
        · exact (hn x (List.mem_append_right _ hx)).1 m
        · exact hd x m hx
end
section
variable {X : Cx}
theorem outs2 {w : World} {K : PySem.W.Frag} {M : Addr → Prop} {H : Hp} {c1 c2 : Cell} {vs : List V} {N : List Addr} (h : Outs w K M H [c1, c2] vs N) : ∃ v1 v2, vs = [v1, v2] := by
  obtain ⟨v, r, as, N', e1, e2, ok, d, t⟩ := h
  obtain ⟨v', r', as', N2, e1', e2', ok', d', t'⟩ := t
  subst e1 e1'
  rw [t'.1]
  exact ⟨v, v', rfl⟩
theorem ecells_len : ∀ {fs : List E} {ρ ρ' : Env} {cs : List Cell}, ecells fs ρ = some (ρ', cs) → cs.length = fs.length
  | [], _, _, _, h => by cases h; rfl
  | f :: fs, ρ, ρ', cs, h => by
    rw [ecells] at h
    cases e1 : f ρ with
    | none => rw [e1] at h; cases h
    | some r1 =>
      obtain ⟨ρ1, c1⟩ := r1
      rw [e1] at h
      dsimp only at h
      cases e2 : ecells fs ρ1 with
      | none => rw [e2] at h; cases h
      | some r2 => obtain ⟨ρ2, cs2⟩ := r2; rw [e2] at h; cases h; rw [List.length_cons, List.length_cons, ecells_len e2]
theorem sPar2 {i j : Nat} {x y : Str} {a b : Expr} {fa fb : E} {px py pt pos : Pos} {kt k2 pt2} (hc : X.calm = true) (nd : X.N.Nodup) (ha : JAc X [a, b] [fa, fb]) (hi : X.N[i]? = some x := by rfl) (hj : X.N[j]? = some y := by rfl) (hij : i ≠ j := by decide)
    (hx : X.env.scope.names.lookup x = some .local := by rfl) (hy : X.env.scope.names.lookup y = some .local := by rfl)
    (hw : swappedStores [.Tuple [.Name x px, .Name y py] kt pt] (.Tuple [a, b] k2 pt2) X.env = pure (some [x, y]) := by rfl)
    (hs : swapsWithSole [.Tuple [.Name x px, .Name y py] kt pt] (.Tuple [a, b] k2 pt2) pos.line X.env = pure false := by rfl) :
    S1 X (.Assign [.Tuple [.Name x px, .Name y py] kt pt] (.Tuple [a, b] k2 pt2) pos) (sPar [i, j] [fa, fb]) := psimp (ps_par hc nd hi hj hij hx hy ha hw hs) fun Dn σ H h => by
  obtain ⟨B, ρ, A, ρ', o, R, e, q⟩ := h
  unfold sPar at e
  cases z : ecells [fa, fb] ρ with
  | none => rw [z] at e; cases e
  | some r =>
    obtain ⟨ρ1, cs⟩ := r
    rw [z] at e
    dsimp only at e
    cases z2 : puts [i, j] cs ρ1 with
    | none => rw [z2] at e; cases e
    | some ρ2 =>
      rw [z2] at e; cases e
      refine ⟨B, ρ, A, ρ1, cs, R, z, fun vs A1 H1 N S R1 os hn => ?_⟩
      obtain ⟨A', S2⟩ := Step.puts R S R1 os hn z2
      have hl := ecells_len z
      match cs, hl, os with
      | [c1, c2], _, os =>
        obtain ⟨v1, v2, rfl⟩ := outs2 os
        exact ⟨v1, v2, rfl, q _ _ _ S2⟩
theorem sPar3 {i j l : Nat} {x y y3 : Str} {a b c : Expr} {fa fb fc : E} {px py pz pt pos : Pos} {kt k2 pt2} (hc : X.calm = true) (nd : X.N.Nodup) (ha : JAc X [a, b, c] [fa, fb, fc]) (hi : X.N[i]? = some x := by rfl) (hj : X.N[j]? = some y := by rfl) (hl : X.N[l]? = some y3 := by rfl)
    (hij : i ≠ j := by decide) (hil : i ≠ l := by decide) (hjl : j ≠ l := by decide)
    (hx : X.env.scope.names.lookup x = some .local := by rfl) (hy : X.env.scope.names.lookup y = some .local := by rfl) (hz : X.env.scope.names.lookup y3 = some .local := by rfl)
    (hw : swappedStores [.Tuple [.Name x px, .Name y py, .Name y3 pz] kt pt] (.Tuple [a, b, c] k2 pt2) X.env = pure (some [x, y, y3]) := by rfl)
    (hs : swapsWithSole [.Tuple [.Name x px, .Name y py, .Name y3 pz] kt pt] (.Tuple [a, b, c] k2 pt2) pos.line X.env = pure false := by rfl) :
    S1 X (.Assign [.Tuple [.Name x px, .Name y py, .Name y3 pz] kt pt] (.Tuple [a, b, c] k2 pt2) pos) (sPar [i, j, l] [fa, fb, fc]) := psimp (ps_par3 hc nd hi hj hl hij hil hjl hx hy hz ha hw hs) fun Dn σ H h => by
  obtain ⟨B, ρ, A, ρ', o, R, e, q⟩ := h
  unfold sPar at e
  cases z : ecells [fa, fb, fc] ρ with
  | none => rw [z] at e; cases e
  | some r =>
    obtain ⟨ρ1, cs⟩ := r
    rw [z] at e
    dsimp only at e
    cases z2 : puts [i, j, l] cs ρ1 with
    | none => rw [z2] at e; cases e
    | some ρ2 =>
      rw [z2] at e; cases e
      refine ⟨B, ρ, A, ρ1, cs, R, z, fun vs A1 H1 N S R1 os hn => ?_⟩
      obtain ⟨A', S2⟩ := Step.puts R S R1 os hn z2
      have hl := ecells_len z
      match cs, hl, os with
      | [c1, c2, c3], _, os =>
        obtain ⟨v, r, as, N', e1, e2, ok, d, t⟩ := os
        obtain ⟨v1, v2, rfl⟩ := outs2 t
        subst e1
        exact ⟨v, v1, v2, rfl, q _ _ _ S2⟩
end
/-! ### freezing -/
section
variable {w : World} {K : PySem.W.Frag} {B : Addr → Prop} {ρ : Env} {σ : L2.St} {A : Nat → List Addr} {H : Hp}
theorem Step.frz {i : Nat} {o : Own} {d : D} (R : Rel w K B ρ σ A H) (e : ρ[i]? = some (.own false o)) (hd : (Cell.own false o).toD = some d) : Step w K B ρ σ A H (ρ.set i (.val d)) σ (putA A i []) H := by
  have hi : i < ρ.length := (List.getElem?_eq_some_iff.mp e).1
  obtain ⟨v, ev, ok⟩ := R.at_own e
  have hsub : ∀ j x, x ∈ putA A i [] j → x ∈ A j ∧ j ≠ i := fun j x m => by
    by_cases hj : j = i
    · subst hj; rw [putA_self] at m; cases m
    · rw [putA_ne hj] at m; exact ⟨m, hj⟩
  have hmu : ∀ x, mu B (putA A i []) x → mu B A x := fun x m => m.imp id fun ⟨j, z⟩ => ⟨j, (hsub j x z).1⟩
  have hno : ∀ x ∈ A i, ¬ mu B (putA A i []) x := fun x hx m => by
    rcases m with m | ⟨j, m⟩
    · exact R.apart i x hx m
    · exact (hsub j x m).2 (R.one j i x (hsub j x m).1 hx)
  have rep : Rep w K (mu B (putA A i [])) H d v := by
    cases o with
    | lst xs =>
      cases hd
      obtain ⟨a, vs, e1, e2, h1, h2⟩ := ok
      exact ⟨a, vs, e1, hno a (by rw [e2]; simp), h1, h2.weak hmu⟩
    | dic xs =>
      cases hd
      obtain ⟨a, vs, e1, e2, h1, h2, nd⟩ := ok
      exact ⟨a, vs, e1, hno a (by rw [e2]; simp), h1, h2.weak hmu, nd⟩
    | src s => cases hd
  refine ⟨⟨by rw [List.length_set]; exact R.len, fun j c ej => ?_, fun j h => ?_, R.aliveB, fun j x m => R.apart j x (hsub j x m).1, fun j k x m1 m2 => R.one j k x (hsub j x m1).1 (hsub k x m2).1⟩, .refl H, fun j x m => .inl ⟨j, (hsub j x m).1⟩, fun j o' h => ?_⟩
  · by_cases hj : j = i
    · subst hj
      rw [List.getElem?_set_self hi] at ej; cases ej
      rw [putA_self]
      exact ⟨rfl, v, by rw [ev]; rfl, rep⟩
    · rw [List.getElem?_set_ne (Ne.symm hj)] at ej
      rw [putA_ne hj]
      exact (R.cell j c ej).ext (O := fun _ => False) (Ext.refl H) (fun _ z => z.elim) (fun a _ m => hmu a m) (fun _ _ z => z)
  · rw [List.length_set] at h
    rw [putA_ne (by omega)]; exact R.out j h
  · have hj : j ≠ i := fun z => by subst z; rw [e] at h; cases h
    exact ⟨⟨o', by rw [List.getElem?_set_ne (Ne.symm hj)]; exact h⟩, rfl⟩
theorem rFrz {Dn : Ends} {g : Sm} : ∀ {is : List Nat} {ρ : Env} {A : Nat → List Addr} {ρ' : Env} {o : Out}, Rel w K B ρ σ A H → sFrzs is g ρ = some (ρ', o) → After w K B ρ σ A H Dn ρ' o → RSm w K g Dn σ H
  | [], ρ, A, ρ', o, R, e, q => ⟨B, ρ, A, ρ', o, R, e, q⟩
  | i :: is, ρ, A, ρ', o, R, e, q => by
    rw [sFrzs] at e
    dsimp only at e
    split at e
    · rename_i ow zi
      cases z : (Cell.own false ow).toD with
      | none => rw [z] at e; cases e
      | some d =>
        rw [z] at e
        have S := Step.frz R zi z
        exact rFrz S.rel e (q.ahead R S ⟨fun _ => rfl, rfl, rfl, rfl⟩)
    · exact rFrz R e q
    · cases e
end
section
variable {X : Cx}
theorem sFrz1 {is : List Nat} {st : Stmt} {g : Sm} (h : S1 X st g) : S1 X st (sFrzs is g) := psimp h fun Dn σ H ⟨B, ρ, A, ρ', o, R, e, q⟩ => rFrz R e q
end
end L3
/-! The end: a law's def, told by a pure function, keeps its row. -/
namespace L3
open PySem PySem.Spec PyProof.Rows L2
/-- the abstract heap at a law's entry: the script alone, if the module does not hold it itself -/
theorem law_run {P : Program} {w : World} {K : PySem.W.Frag} {mg mb : Str → Option Value} {k : Nat} {fa a : Addr} {fd : FuncData} {x : Str} {F : Fn} {s : Shared} {vs : List Value} {ns : List Int}
    (KX : K.In s.heap) (hns : s.heap.Ns mainGlobals mg) (hb : s.heap.Ns builtinsNs mb) (hbb : ∀ x : Str, x ≠ "__name__" → mb x = bootBuiltins x) (hlim : s.heap.NoLimit) (hg : s.gens = #[])
    (ha : s.heap.get? a = some { cls := .type "list", data := .seq vs.toArray }) (hi : IntsAre vs ns) (hl : ns.length ≤ sizeLine) (hr : Room k callerA)
    (G : ∀ base : Heap, K.In base → base.Ns mainGlobals mg → GnOk P w K mg base k fa fd [x] F) (hbind : ∀ (s : Shared) (u : Value), BindsTo s fd ⟨[u], []⟩ [(x, u)])
    (hF : ∃ cs', F [.scr ns] = some (cs', .val (.bool true))) :
    codeAny (model P w) callerA (.call (.ref fa) ⟨[.ref a], []⟩) (fun r s' => r = .ok (.ret (.bool true)) ∧ OldK s.heap s'.heap ∧ s'.os = s.os ∧ AllBare s'.gens) s := by
  have rv := vals_ints hi
  obtain ⟨cs', hF⟩ := hF
  have core : ∀ H : Hp, (∀ b, H b = none ∨ (b = a ∧ K.lookup a = none ∧ ∃ o, H b = some (.frz o (.lst (ns.map .int))))) → Scr K H a ns → HOk P w H s.heap →
      codeAny (model P w) callerA (.call (.ref fa) ⟨[.ref a], []⟩) (fun r s' => r = .ok (.ret (.bool true)) ∧ OldK s.heap s'.heap ∧ s'.os = s.os ∧ AllBare s'.gens) s := fun H hO hS ok => by
    have put : ∀ {b : Addr} {o : Obj}, s.heap.get? b = some o → H b = none → (hidT s.heap H).get? b = some o := hidT_get
    have dictFree : ∀ {b : Addr} {o : Obj} {es : Array DictEntry} {ep : Nat}, s.heap.get? b = some o → o.data = .dict es ep → H b = none := fun {b o es ep} e d => by
      rcases hO b with z | ⟨rfl, _, _⟩
      · exact z
      · rw [ha] at e
        cases e
        exact Data.noConfusion d
    have nsB : ∀ {b : Addr} {m : Str → Option Value}, s.heap.Ns b m → (hidT s.heap H).Ns b m := fun {b m} ⟨o, es, ep, e, d, r⟩ => ⟨o, es, ep, put e (dictFree e d), d, r⟩
    have kB : K.In (hidT s.heap H) := fun b o e => put (KX b o e) (by
      rcases hO b with z | ⟨rfl, nk, _⟩
      · exact z
      · rw [nk] at e; cases e)
    have noFr : ∀ b, b ∉ frs ([] : List PySem.Env) := fun b z => nomatch (show b ∈ ([] : List Addr) from z)
    have start : Env0 P w K mg (hidT s.heap H) callerA [] s H :=
      { frames := rfl, mod := ⟨kB, nsB hns, ⟨mb, nsB hb, hbb⟩, by obtain ⟨mc, z1, z2⟩ := hlim; exact ⟨mc, nsB z1, z2⟩⟩, bs := fun b o e => of_hidT e, bsz := Nat.le_of_eq (hidT_size _ _), funs := trivial, frf := fun b z => absurd z (noFr b), hok := ok, bare := .of_eq hg }
    have sp : spF w K F [.ref a] H (fun v _ => v = .bl true) := by
      refine ⟨fun _ => False, noA, [.scr ns], cs', _, ⟨rfl, fun j c e => ?_, fun _ _ => rfl, fun _ z => z.elim, fun j x m => (nomatch m), fun j k x m => (nomatch m)⟩, hF, fun v A' H' S rc => rc⟩
      cases j with
      | zero => simp at e; subst e; exact ⟨rfl, a, rfl, hS⟩
      | succ j => simp at e
    refine codeAny_mono ((G _ kB (nsB hns)).run callerA [] s H ⟨[.ref a], []⟩ [.ref a] [.ref a] _ hr rfl start (hbind s (.ref a)) (.cons rfl .nil) sp) fun r s' h => ?_
    match r, h with
    | .ok (.ret u), ⟨v, H', os, bare, un, ok', r', q⟩ =>
      cases (show v = .bl true from q)
      obtain rfl : u = Value.bool true := r'
      refine ⟨rfl, OldK.of_keep fun b o e => ?_, os, bare⟩
      rcases hO b with z | ⟨_, _, ob, z⟩
      · exact un.keep b o e z (noFr b) (by simp)
      · obtain ⟨e1, _⟩ := ok b _ z
        obtain ⟨e2, _⟩ := ok' b _ (un.frzs b ob _ z)
        rw [e] at e1; cases e1
        exact e2
    | .ok .next, h => exact False.elim h
    | .ok .brk, h => exact False.elim h
    | .ok .cont, h => exact False.elim h
    | .error e, h => exact False.elim h
  cases hk : K.lookup a with
  | some o =>
    have e := KX a o hk
    rw [ha] at e
    cases e
    exact core (fun _ => none) (fun _ => .inl rfl) (.inr fun H' => .inr ⟨_, vs.toArray, _, hk, rfl, rfl, rfl, by rw [List.size_toArray, hi.length]; exact hl, by simpa using rv⟩) fun b u z => nomatch (show (none : Option HO) = some u from z)
  | none =>
    let ob : Obj := { cls := .type "list", data := .seq vs.toArray }
    refine core (fun b => if b = a then some (.frz ob (.lst (ns.map .int))) else none) (fun b => ?_) (.inl ⟨ob, if_pos rfl⟩) fun b u z => ?_
    · by_cases h : b = a
      · exact .inr ⟨h, hk, ob, if_pos h⟩
      · exact .inl (if_neg h)
    · by_cases h : b = a
      · subst h
        cases (if_pos rfl).symm.trans z
        exact ⟨ha, by rw [List.length_map]; exact hl, vs, _, rv, ha⟩
      · cases (if_neg h).symm.trans z
/-- a law over a head by facts -/
theorem walk_ofG {l : PySem.W.OpenLaw} {n k : Nat} {q : Program} {loose : List Str} {XP : (Str → Option Value) → Heap → Prop} {YP : World → Heap → Prop} {d : DefRec} {x : Str} {F : Fn}
    (hn : l.most = some n) (hn2 : n ≤ sizeLine) (hdf : d.params.defaults = []) (hr : Room k callerA)
    (G : ∀ (w : World) (mg : Str → Option Value) (fa : Addr) (h : Heap), YP w h → h.Ns mainGlobals mg → mg d.name = some (.ref fa) →
      ∃ (K : PySem.W.Frag) (fd : FuncData), K.In h ∧ (∀ (s : Shared) (u : Value), BindsTo s fd ⟨[u], []⟩ [(x, u)]) ∧
        ∀ base : Heap, K.In base → base.Ns mainGlobals mg → GnOk l.prog w K mg base k fa fd [x] F)
    (hF : ∀ ns : List Int, ns.length ≤ n → ∃ cs', F [.scr ns] = some (cs', .val (.bool true))) :
    PySem.W.WalkO q loose XP YP l.row.toRowW d [] (fun f vs => PySem.call f vs) := by
  refine Att.attach_call hn hdf fun w s₀ s₁ mg mb fa o pm cd doc a vs ns Gr Y ho hd hcd hmg hobj hints hlen hg => ?_
  obtain ⟨K, fd, KX, hb, hG⟩ := G w mg fa _ Y Gr.T.g hmg
  exact law_run KX Gr.T.g Gr.T.b Gr.T.builtins Gr.T.nolimit hg hobj hints (Nat.le_trans hlen hn2) hr hG hb (hF ns hlen)
end L3
/-! Comprehensions whose parts change things. -/
namespace L3
open PySem PySem.Spec PyProof.Rows L2
section
variable {w : World} {K : PySem.W.Frag} {B : Addr → Prop}
def wipeA (vs : List Nat) (A : Nat → List Addr) : Nat → List Addr := fun j => if j ∈ vs then [] else A j
theorem wipeA_sub {vs : List Nat} {A : Nat → List Addr} {j : Nat} {x : Addr} (h : x ∈ wipeA vs A j) : x ∈ A j ∧ j ∉ vs := by
  unfold wipeA at h
  split at h
  · cases h
  · exact ⟨h, by assumption⟩
theorem mu_wipe {vs : List Nat} {A : Nat → List Addr} {x : Addr} (h : mu B (wipeA vs A) x) : mu B A x := h.imp id fun ⟨j, m⟩ => ⟨j, (wipeA_sub m).1⟩
/-- names forgotten, whatever they own -/
theorem Rel.wipedA {ρ : Env} {σ : L2.St} {A : Nat → List Addr} {H : Hp} (vs : List Nat) (R : Rel w K B ρ σ A H) : Rel w K B (wipeE vs ρ) (wipe σ vs) (wipeA vs A) H where
  len := by rw [wipeE_length, wipe_length]; exact R.len
  cell := fun i c e => by
    by_cases hi : i ∈ vs
    · rw [wipeE_in hi e]
      show wipeA vs A i = []
      unfold wipeA; rw [if_pos hi]
    · rw [wipeE_out hi] at e
      rw [wipe_out hi, show wipeA vs A i = A i by unfold wipeA; rw [if_neg hi]]
      exact (R.cell i c e).ext (O := fun _ => False) (Ext.refl H) (fun _ z => z.elim) (fun a _ m => mu_wipe m) fun _ _ z => z
  out := fun i h => by
    unfold wipeA
    split
    · rfl
    · exact R.out i (by rw [wipeE_length] at h; exact h)
  aliveB := R.aliveB
  apart := fun i x h => R.apart i x (wipeA_sub h).1
  one := fun i j x h1 h2 => R.one i j x (wipeA_sub h1).1 (wipeA_sub h2).1
theorem wipe_len_of {ρ : Env} {vs : List Nat} : (wipeE vs ρ).length = ρ.length := wipeE_length ρ vs
/-- a turn of an effectful comprehension -/
theorem compL_cons {vs : List Nat} {p : Pat} {t : TE'} {e : E} {ρ ρ' : Env} {x : D} {r ys : List D} (h : compL vs p t e (x :: r) ρ = some (ρ', ys)) : ∃ ρ1 ρ2 b, bind p x ρ = some ρ1 ∧ t ρ1 = some (ρ2, b) ∧
    (if b = true then ∃ ρ3 c y zs, e ρ2 = some (ρ3, c) ∧ c.toD = some y ∧ compL vs p t e r (wipeE vs ρ3) = some (ρ', zs) ∧ ys = y :: zs else compL vs p t e r (wipeE vs ρ2) = some (ρ', ys)) := by
  rw [compL] at h
  cases z : bind p x ρ with
  | none => rw [z] at h; cases h
  | some ρ1 =>
    rw [z] at h
    dsimp only at h
    cases z2 : t ρ1 with
    | none => rw [z2] at h; cases h
    | some r2 =>
      obtain ⟨ρ2, b⟩ := r2
      rw [z2] at h
      refine ⟨ρ1, ρ2, b, rfl, z2, ?_⟩
      cases b with
      | false => rw [if_neg (by decide)]; exact h
      | true =>
        rw [if_pos rfl]
        dsimp only at h
        cases z3 : e ρ2 with
        | none => rw [z3] at h; cases h
        | some r3 =>
          obtain ⟨ρ3, c⟩ := r3
          rw [z3] at h
          dsimp only at h
          cases z4 : c.toD with
          | none => rw [z4] at h; cases h
          | some y =>
            rw [z4] at h
            dsimp only at h
            cases z5 : compL vs p t e r (wipeE vs ρ3) with
            | none => rw [z5] at h; cases h
            | some r5 => obtain ⟨ρ5, zs⟩ := r5; rw [z5] at h; cases h; exact ⟨ρ3, c, y, zs, rfl, z4, z5, rfl⟩
theorem compL_len {vs : List Nat} {p : Pat} {t : TE'} {e : E} : ∀ {xs ys : List D} {ρ ρ' : Env}, compL vs p t e xs ρ = some (ρ', ys) → ys.length ≤ xs.length
  | [], ys, ρ, ρ', h => by rw [compL] at h; cases h; exact Nat.le_refl _
  | x :: r, ys, ρ, ρ', h => by
    obtain ⟨ρ1, ρ2, b, _, _, h3⟩ := compL_cons h
    cases b with
    | false => rw [if_neg (by decide)] at h3; exact Nat.le_succ_of_le (compL_len h3)
    | true => rw [if_pos rfl] at h3; obtain ⟨ρ3, c, y, zs, _, _, h4, rfl⟩ := h3; exact Nat.succ_le_succ (compL_len h4)
/-- a step behind a wipe -/
theorem Step.wiped {vs : List Nat} {ρw ρ' : Env} {σw σ' : L2.St} {A A' : Nat → List Addr} {H H' : Hp} (hw : ∀ i ∈ vs, ∀ o, ρw[i]? ≠ some (Cell.own true o)) (hσ : wipe σ' vs = σw) (S : Step w K B ρw σw A H ρ' σ' A' H') :
    Step w K B ρw σw A H (wipeE vs ρ') σw (wipeA vs A') H' := by
  refine ⟨by have := S.rel.wipedA vs; rwa [hσ] at this, S.ext, fun i x m => S.sub i x (wipeA_sub m).1, fun i o e => ?_⟩
  have hi : i ∉ vs := fun z => hw i z o e
  obtain ⟨⟨o', e1⟩, e2⟩ := S.fix i o e
  exact ⟨⟨o', by rw [wipeE_out hi]; exact e1⟩, rfl⟩
/-- a thing that was not there changes -/
theorem Step.touchL {ρ ρ' : Env} {σ σ' : L2.St} {A A' : Nat → List Addr} {H H' H2 : Hp} {L : Addr} (hL : H L = none) (S : Step w K B ρ σ A H ρ' σ' A' H') (R2 : Rel w K B ρ' σ' A' H2) (ex : Ext (fun x => x = L) H' H2) : Step w K B ρ σ A H ρ' σ' A' H2 :=
  ⟨R2, ⟨fun a o e n => ex.keep a o (S.ext.keep a o e n) (ne_of_none e hL), fun a vs e => ex.tup _ _ (S.ext.tup _ _ e), fun a o u e => ex.frz _ _ _ (S.ext.frz _ _ _ e)⟩, S.sub, S.fix⟩
abbrev JTse (X : Cx) (ifs : List Expr) (t : TE') : Prop := PTs X ifs (RTe X.w X.K t)
theorem rCompE {vs : List Nat} {p : Pat} {a : Ie} {t : TE'} {e : E} {σ : L2.St} {H : Hp} {Q : VK} (hsl : ∀ j, j ∈ p.slots → j ∈ vs) (h : REf w K (eComp vs p a t e) σ H Q) : tLc (RIe w K a) (RG w K p) (RTe w K t) (REf w K e) vs σ H Q := by
  obtain ⟨B, ρ, A, ρ', c, R, ec, q⟩ := h
  unfold eComp at ec
  cases z : a ρ with
  | none => rw [z] at ec; cases ec
  | some r =>
    obtain ⟨ρ1, xs⟩ := r
    rw [z] at ec
    dsimp only at ec
    split at ec
    · rename_i hf
      rw [Bool.and_eq_true] at hf
      cases z2 : compL vs p t e xs (wipeE vs ρ1) with
      | none => rw [z2] at ec; cases ec
      | some r2 =>
        obtain ⟨ρe, ys⟩ := r2
        rw [z2] at ec
        cases ec
        refine ⟨B, ρ, A, ρ1, xs, R, z, fun Ji Keep A1 H1 S1 Gd Sp K0 L hL => ?_⟩
        have hlen := compL_len z2
        have hline : xs.length ≤ sizeLine := len24_ok hf.2
        have fr := free_none S1.rel hf.1
        have wA : wipeA vs A1 = A1 := by
          funext j
          unfold wipeA
          split
          · rename_i hj; rw [(fr j hj).1]
          · rfl
        have hw : ∀ i ∈ vs, ∀ o, (wipeE vs ρ1)[i]? ≠ some (Cell.own true o) := fun i hi o ee => by cases wipeE_in hi ee
        have Rw : Rel w K B (wipeE vs ρ1) (wipe σ vs) A1 H1 := by have := S1.rel.wipedA vs; rwa [wA] at this
        have R1L : Rel w K (fun x => B x ∨ x = L) (wipeE vs ρ1) (wipe σ vs) A1 (upd H1 L (.lst [])) := Rw.protect (N := fun x => x = L) (same_new hL) fun x e => ⟨e ▸ hL, by rw [e, upd_same]; simp⟩
        have K1 : Keep (fun x => B x ∨ x = L) A1 (upd H1 L (.lst [])) := Gd.prot B (fun x => x = L) A1 _ _ (same_new hL) (fun x e => e ▸ hL) K0
        have Gd' := Gd.good fun x => B x ∨ x = L
        have Sp' := Sp fun x => B x ∨ x = L
        have BL : (fun x => B x ∨ x = L) L := .inr rfl
        refine ⟨fun i m H2 => m = xs.length - i ∧ i ≤ xs.length ∧ ∃ ρi Ai, Rel w K (fun x => B x ∨ x = L) ρi (wipe σ vs) Ai H2 ∧ Step w K B (wipeE vs ρ1) (wipe σ vs) A1 H1 ρi (wipe σ vs) Ai H2 ∧ (∀ i ∈ vs, ∀ o, ρi[i]? ≠ some (Cell.own true o)) ∧ Keep (fun x => B x ∨ x = L) Ai H2 ∧
            ∃ acc zs us, compL vs p t e (xs.drop i) ρi = some (ρe, zs) ∧ ys = acc ++ zs ∧ acc.length ≤ i ∧ H2 L = some (.lst us) ∧ Reps w K (mu (fun x => B x ∨ x = L) Ai) H2 acc us,
          ⟨xs.length, rfl, Nat.zero_le _, wipeE vs ρ1, A1, R1L, Step.same (same_new hL) Rw, hw, K1, [], ys, [], by rw [List.drop_zero]; exact z2, rfl, Nat.le_refl _, upd_same, rfl⟩, ?_⟩
        rintro i m H2 ⟨rfl, hi, ρi, Ai, R2, S2, hw2, K2, acc, zs, us, e2, rfl, la, hL2, ra⟩
        by_cases hlt : i < xs.length
        · obtain ⟨g1, g2⟩ := Gd'.go i Ai H2 hlt K2
          refine .inr ⟨g1, fun H3 => ∃ ρj Aj, Rel w K (fun x => B x ∨ x = L) ρj (wipe σ vs) Aj H3 ∧ Step w K B (wipeE vs ρ1) (wipe σ vs) A1 H1 ρj (wipe σ vs) Aj H3 ∧ (∀ i ∈ vs, ∀ o, ρj[i]? ≠ some (Cell.own true o)) ∧ Keep (fun x => B x ∨ x = L) Aj H3 ∧
              ∃ acc' zs' us', compL vs p t e (xs.drop (i + 1)) ρj = some (ρe, zs') ∧ acc ++ zs = acc' ++ zs' ∧ acc'.length ≤ i + 1 ∧ H3 L = some (.lst us') ∧ Reps w K (mu (fun x => B x ∨ x = L) Aj) H3 acc' us', fun H3 hN => ⟨xs.length - (i + 1), by omega, rfl, hlt, hN⟩, fun v H3 y => ?_⟩
          obtain ⟨s3, k3, rv⟩ := g2 v H3 y
          rw [drop_at hlt] at e2
          obtain ⟨ρa, ρb, b, eb, et, ee⟩ := compL_cons e2
          have R3 := R2.same s3
          have S3 := S2.more Rw s3
          refine ⟨(fun x => B x ∨ x = L), ρi, Ai, xs[i], ρa, R3, eb, rv _ (by simp [hlt]), fun σ4 A4 S4 ka => ?_⟩
          have hσ4 : wipe σ4 vs = wipe σ vs := by
            have hl4 : (wipe σ vs).length = σ4.length := by rw [← S4.rel.len, bind_len _ _ _ _ eb, R3.len]
            rw [← wipe_wipe (σ := σ)]
            exact wipe_agree hl4 fun j hj => (ka j fun z => hj (hsl j z)).1
          refine ⟨hσ4, (fun x => B x ∨ x = L), ρa, A4, ρb, b, S4.rel, et, fun A5 H5 S5 => ?_⟩
          have S35 := S4.trans R3 S5
          have k5 := Sp'.step S35 k3
          have hwf : ∀ {ρz : Env}, ∀ i ∈ vs, ∀ o, (wipeE vs ρz)[i]? ≠ some (Cell.own true o) := fun {ρz} i hi o ee => by cases wipeE_in hi ee
          cases b with
          | false =>
            rw [if_neg (by decide)] at ee
            dsimp only
            rw [if_neg (by decide)]
            have Sw := Step.wiped hw2 hσ4 S35
            have hL5 : H5 L = some (.lst us) := S35.ext.keep _ _ (s3 _ _ hL2) fun ⟨j, m⟩ => R3.apart j L m BL
            refine ⟨wipeE vs ρb, wipeA vs A5, Sw.rel, S3.trans Rw (Sw.less fun x b => .inl b), hwf, Sp' _ _ _ _ (fun _ => False) k5 (Ext.refl H5) (fun _ z => z.elim) (fun a _ m => mu_wipe m), acc, zs, us, ee, rfl, by omega, hL5, ?_⟩
            exact (S35.reps R3 (ra.same s3)).weak fun a m => mu_wipe m
          | true =>
            rw [if_pos rfl] at ee
            dsimp only
            rw [if_pos rfl]
            obtain ⟨ρ3, c3, y0, zs', ey, ec3, ez, rfl⟩ := ee
            refine ⟨(fun x => B x ∨ x = L), ρb, A5, ρ3, c3, S5.rel, ey, fun u A6 H6 S6 rc => ?_⟩
            have S36 := S35.trans R3 S6
            have k6 := Sp'.step S36 k3
            have Sw := Step.wiped hw2 hσ4 S36
            have hL6 : H6 L = some (.lst us) := S36.ext.keep _ _ (s3 _ _ hL2) fun ⟨j, m⟩ => R3.apart j L m BL
            have ra6 := S36.reps R3 (ra.same s3)
            have ru := rc.item ec3
            have hlu := ra6.length
            refine ⟨us, hL6, by omega, ?_⟩
            have ex := upd_ext (o := .lst (us ++ [u])) hL6
            have R7 := Sw.rel.touch BL ex (by rw [upd_same]; simp)
            refine ⟨wipeE vs ρ3, wipeA vs A6, R7, ?_, hwf, ?_, acc ++ [y0], zs', us ++ [u], ez, by simp, by simp; omega, upd_same, ?_⟩
            · exact Step.touchL hL (S3.trans Rw (Sw.less fun x b => .inl b)) (R7.less fun x b => .inl b) ex
            · exact Sp' _ _ _ _ (fun x => x = L) k6 ex (fun a z => .inl (.inr z)) fun a _ m => mu_wipe m
            · exact (ra6.append (Reps.one ru)).ext ex (fun a z => .inl (.inr z)) fun a _ m => mu_wipe m
        · refine .inl ⟨Gd'.stop i Ai H2 (by omega) K2, ?_⟩
          rw [List.drop_eq_nil_of_le (by omega), compL] at e2
          cases e2
          rw [List.append_nil] at q
          -- the block's names are put back
          have Rb : ∀ (N : Addr → Prop), (∀ x, N x → x = L) → Rel w K (fun x => B x ∨ N x) (restore vs ρ1 ρe) σ Ai H2 := fun N hN => by
            refine ⟨by rw [restore_length, R2.len, wipe_length], fun j cj ej => ?_, fun j hj => R2.out j (by rw [restore_length] at hj; exact hj), fun x b => R2.aliveB x (b.imp id (hN x)), fun j x m b => R2.apart j x m (b.imp id (hN x)), R2.one⟩
            by_cases hj : j ∈ vs
            · have e1 := restore_in hj ej
              have hjl := (fr j hj).2
              have e3 : ρ1[j]? = some cj := by rw [e1, List.getD_eq_getElem?_getD, List.getElem?_eq_getElem hjl]; rfl
              have hAj : Ai j = [] := by
                have hji : j < ρe.length := by rw [R2.len, wipe_length, ← S1.rel.len]; exact hjl
                by_cases hAj : Ai j = []
                · exact hAj
                · exfalso
                  obtain ⟨x, hx⟩ := List.exists_mem_of_ne_nil _ hAj
                  obtain ⟨fx, o, v, _, ev, _⟩ := R2.own hx
                  exact (wipe_some ev).2 hj
              have hc := (S1.rel.cell j cj e3).ext (O := fun x => ∃ i, x ∈ A1 i) (M' := mu (fun x => B x ∨ N x) Ai) S2.ext (fun a m => .inr m) (fun a n m => by
                rcases m with (m | m) | ⟨k, m⟩
                · exact .inl m
                · rw [hN a m] at n; exact absurd hL n
                · rcases S2.sub k a m with z | z
                  · exact .inr z
                  · exact absurd z n) (fun x hx => by rw [(fr j hj).1] at hx; cases hx)
              rw [(fr j hj).1] at hc
              rw [hAj]
              exact hc
            · rw [restore_out hj] at ej
              have hc := R2.cell j cj ej
              rw [wipe_out hj] at hc
              exact hc.ext (O := fun _ => False) (Ext.refl H2) (fun _ z => z.elim) (fun a _ m => m.imp (fun m => m.imp id (hN a)) id) fun _ _ z => z
          have R0 : Rel w K B (restore vs ρ1 ρe) σ Ai H2 := (Rb (fun _ => False) fun _ z => z.elim).less fun x b => .inl b
          have Sf : Step w K B ρ1 σ A1 H1 (restore vs ρ1 ρe) σ Ai H2 := by
            refine ⟨R0, S2.ext, S2.sub, fun j o ej => ⟨?_, rfl⟩⟩
            have hj : j ∉ vs := fun z => by
              have := (fr j z).1
              obtain ⟨v, ev, ok⟩ := S1.rel.at_own ej
              obtain ⟨a0, r0, _, e5⟩ := ok.refs
              rw [e5] at this; cases this
            obtain ⟨⟨o', e1⟩, _⟩ := S2.fix j o (by rw [wipeE_out hj]; exact ej)
            exact ⟨o', by rw [restore_out hj]; exact e1⟩
          refine q (.ref L) Ai H2 (S1.trans R Sf) (ResC.ahead R S1 ⟨rfl, [L], ⟨L, us, rfl, rfl, hL2, ra.weak fun x m => ?_⟩, fun x hx => ?_, Rb (fun x => x ∈ [L]) fun x m => List.mem_singleton.mp m⟩)
          · rcases m with m | m
            · exact m.imp .inl id
            · exact .inl (.inr (List.mem_singleton.mp m))
          · rw [List.mem_singleton.mp hx]
            refine ⟨fun m => ?_, .inr hL⟩
            rcases m with m | ⟨j, m⟩
            · exact S1.rel.aliveB L m hL
            · exact R2.apart j L m BL
    · cases ec
end
section
variable {X : Cx}
theorem jtseNil : JTse X [] tYesE := ⟨fun pins s σ H Q I h => by
  obtain ⟨B, ρ, A, ρ', b, R, e, q⟩ := h
  cases e
  exact pts_nil.run pins s σ H Q I (q A H (Step.refl R))⟩
theorem jtseOne {c : Expr} {t : TE'} (h : JTe X c t) : JTse X [c] t := pts_one h
theorem jEComp {elt tg iter : Expr} {ifs : List Expr} {scope : Scope} {own : List (Str × Nat)} {pos : Pos} {p : Pat} {a : Ie} {t : TE'} {e : E} (hc : X.calm = true) (nd : X.N.Nodup) (hi : JI X tg iter a) (ok : blkC X.N X.env.scope scope own = true)
    (hg : ∀ (s : Shared) (H : Hp) (C : Addr) (cl : List (Str × Addr)) (fp : List Addr), JG (X.blk s H scope (compEnvC scope cl C X.env) fp) tg p)
    (ht : ∀ (s : Shared) (H : Hp) (C : Addr) (cl : List (Str × Addr)) (fp : List Addr), JTse (X.blk s H scope (compEnvC scope cl C X.env) fp) ifs t)
    (he : ∀ (s : Shared) (H : Hp) (C : Addr) (cl : List (Str × Addr)) (fp : List Addr), J (X.blk s H scope (compEnvC scope cl C X.env) fp) elt e)
    (hsl : ∀ j, j ∈ p.slots → j ∈ own.map (·.2) := by decide) (hs : ∀ x, foldedSetIterable iter X.env x = pure x := by intro _; rfl) :
    J X (.ListComp elt [⟨tg, iter, ifs, 0⟩] scope pos) (eComp (own.map (·.2)) p a t e) :=
  peimp (pe_lc hc nd hi (blkOk_by ok) hg ht he hs) fun σ H Q h => rCompE hsl h
/-- name = [..], the name a local -/
theorem sSetCE {fr : Bool} {i : Nat} {y : Str} {py : Pos} {elt tg iter : Expr} {ifs : List Expr} {scope : Scope} {own : List (Str × Nat)} {pos spos : Pos} {p : Pat} {a : Ie} {t : TE'} {e : E} (hc : X.calm = true) (nd : X.N.Nodup) (hy : X.N[i]? = some y) (hyl : X.env.scope.names.lookup y = some .local)
    (hsw : swapsWith (.ListComp elt [⟨tg, iter, ifs, 0⟩] scope pos) (some (.Name y py)) spos.line X.env = pure true) (hi : JI X tg iter a) (ok : blkC X.N X.env.scope scope own = true)
    (hg : ∀ (s : Shared) (H : Hp) (C : Addr) (cl : List (Str × Addr)) (fp : List Addr), JG (X.blk s H scope (compEnvC scope cl C X.env) fp) tg p)
    (ht : ∀ (s : Shared) (H : Hp) (C : Addr) (cl : List (Str × Addr)) (fp : List Addr), JTse (X.blk s H scope (compEnvC scope cl C X.env) fp) ifs t)
    (he : ∀ (s : Shared) (H : Hp) (C : Addr) (cl : List (Str × Addr)) (fp : List Addr), J (X.blk s H scope (compEnvC scope cl C X.env) fp) elt e)
    (hsl : ∀ j, j ∈ p.slots → j ∈ own.map (·.2) := by decide) (hs : ∀ x, foldedSetIterable iter X.env x = pure x := by intro _; rfl) :
    S1 X (.Assign [.Name y py] (.ListComp elt [⟨tg, iter, ifs, 0⟩] scope pos) spos) (if fr then sOwn i (eComp (own.map (·.2)) p a t e) else sVal i (eComp (own.map (·.2)) p a t e)) :=
  psimp (ps_setLc hc nd hy hyl hsw hi (blkOk_by ok) hg ht he hs) fun Dn σ H h => by
    obtain ⟨B, ρ, A, ρ', o, R, e1, q⟩ := h
    cases fr with
    | false =>
      rw [if_neg (by decide)] at e1
      unfold sVal at e1
      cases z : eComp (own.map (·.2)) p a t e ρ with
      | none => rw [z] at e1; cases e1
      | some r =>
        obtain ⟨ρ1, c⟩ := r
        rw [z] at e1
        dsimp only at e1
        cases z2 : c.toD with
        | none => rw [z2] at e1; cases e1
        | some d =>
          rw [z2] at e1
          dsimp only at e1
          cases z3 : put i (.val d) ρ1 with
          | none => rw [z3] at e1; cases e1
          | some ρ2 =>
            rw [z3] at e1; cases e1
            refine rCompE hsl ⟨B, ρ, A, ρ1, c, R, z, fun v A1 H1 S r => ?_⟩
            exact q _ _ _ (Step.put (as := []) R S z3 S.rel.noB ⟨rfl, v, rfl, Rep.weak (fun a m => m.elim id fun z => nomatch z) (r.item z2)⟩ fun x z => nomatch z)
    | true =>
      rw [if_pos rfl] at e1
      unfold sOwn at e1
      cases z : eComp (own.map (·.2)) p a t e ρ with
      | none => rw [z] at e1; cases e1
      | some r =>
        obtain ⟨ρ1, c⟩ := r
        rw [z] at e1
        cases c with
        | own fx ow =>
          cases fx with
          | true => cases e1
          | false =>
            dsimp only at e1
            cases z3 : put i (.own false ow) ρ1 with
            | none => rw [z3] at e1; cases e1
            | some ρ2 =>
              rw [z3] at e1; cases e1
              refine rCompE hsl ⟨B, ρ, A, ρ1, _, R, z, fun v A1 H1 S r => ?_⟩
              obtain ⟨_, as, ok, hn, R1⟩ := r
              exact q _ _ _ (Step.put (as := as) R S z3 R1 ⟨v, rfl, ok⟩ hn)
        | _ => cases e1
end
end L3
/-! Defs by the head's facts. -/
namespace L3
open PySem PySem.Spec PyProof.Rows L2
section
variable {P : Program} {w : World} {K : PySem.W.Frag} {mg : Str → Option Value} {base : Heap}
abbrev FnP (K : PySem.W.Frag) (x : Str) (st : Stmt) (f : Addr) (fd : FuncData) : Prop := FunD K x x (defArgs st) (defBody st) (defScope st) [] [] f fd
/-- the context in which a def's body runs -/
abbrev cx (P : Program) (w : World) (K : PySem.W.Frag) (mg : Str → Option Value) (base : Heap) (N : List Str) (x : Str) (st : Stmt) (f : Addr) (cdv : Value) (A : Around) (outer : List PySem.Env) (s : Shared) (H : Hp) : Cx :=
  (cxOf C8.CX0 P w K mg base N x (defScope st) f cdv A outer s H C8.E0).nox
theorem gn_fun {x : Str} {st : Stmt} {f : Addr} {fd : FuncData} {N ps : List Str} {k : Nat} {g : Sm} (D0 : FnP K x st f fd) (sc : C8.scC N ps (defScope st) = true)
    (hbody : ∀ (cdv : Value) (A : Around) (outer : List PySem.Env) (s : Shared) (H : Hp), Room k (A.deeper (envOfC x (defScope st) s.heap.objs.size f cdv)) → (A.deeper (envOfC x (defScope st) s.heap.objs.size f cdv)).guards = some [] →
      Ss (cx P w K mg base N x st f cdv A outer s H) (defBody st) g) : GnOk P w K mg base (k + 1) f fd ps (mkFn ps.length N.length g) := by
  obtain ⟨oc, od, dV, kV, doc, pm, an, cdv, ct, osl, rfl, lk, hcd, _⟩ := D0.ex
  exact gn_of lk hcd (C8.fnScope_by sc) fun A outer s H hr hg => hbody cdv A outer s H hr hg
theorem cg_fun {x : Str} {st : Stmt} {f : Addr} {fd : FuncData} {N ps : List Str} {k : Nat} {g : Sm} (D0 : FnP K x st f fd) (hm : mg x = some (.ref f)) (b : Binds K fd ps []) (sc : C8.scC N ps (defScope st) = true)
    (hbody : ∀ (cdv : Value) (A : Around) (outer : List PySem.Env) (s : Shared) (H : Hp), Room k (A.deeper (envOfC x (defScope st) s.heap.objs.size f cdv)) → (A.deeper (envOfC x (defScope st) s.heap.objs.size f cdv)).guards = some [] →
      Ss (cx P w K mg base N x st f cdv A outer s H) (defBody st) g) : Cg P w K mg base (k + 1) x (mkFn ps.length N.length g) :=
  ⟨f, fd, ps, gn_fun D0 sc hbody, hm, D0.kp, b⟩
theorem Cg.mono {x : Str} {j k : Nat} {F : Fn} (c : Cg P w K mg base j x F) (h : j ≤ k) : Cg P w K mg base k x F := by
  obtain ⟨f, fd, ps, G, a, b, d⟩ := c.ex
  exact ⟨f, fd, ps, G.mono h, a, b, d⟩
end
end L3
namespace K05
open PySem PySem.Spec PyProof.Rows L2 L3
def N_common_divisor : List Str := ["a", "b"]
def g_common_divisor : Sm := sSeq (sPar [0, 1] [eP (pN (l1 dAbs) [pVar 0]), eP (pN (l1 dAbs) [pVar 1])])
      (sSeq (sWhile (tP (tV (p2 dGt (pVar 1) (pC (.int 0))))) (sPar [0, 1] [eP (pVar 1), eP (p2 dMod (pVar 0) (pVar 1))]))
      (sRet (eP (pVar 0))))
def F_common_divisor : Fn := mkFn 2 2 g_common_divisor
def N_fraction_of : List Str := ["p", "q", "by"]
def g_fraction_of : Sm := sSeq (sVal 2 (eP (pIf (tV (p2 dGt (pVar 1) (pC (.int 0)))) (pCall F_common_divisor [pVar 0, pVar 1]) (p1 dNeg (pCall F_common_divisor [pVar 0, pVar 1])))))
      (sRet (eP (pN dTup [p2 dFdiv (pVar 0) (pVar 2), p2 dFdiv (pVar 1) (pVar 2)])))
def F_fraction_of : Fn := mkFn 2 3 g_fraction_of
def N_fraction_sum : List Str := ["x", "y"]
def g_fraction_sum : Sm := sRet (eP (pCall F_fraction_of [p2 dAdd (p2 dMul (p2 dIx (pVar 0) (pC (.int 0))) (p2 dIx (pVar 1) (pC (.int 1)))) (p2 dMul (p2 dIx (pVar 1) (pC (.int 0))) (p2 dIx (pVar 0) (pC (.int 1)))), p2 dMul (p2 dIx (pVar 0) (pC (.int 1))) (p2 dIx (pVar 1) (pC (.int 1)))]))
def F_fraction_sum : Fn := mkFn 2 2 g_fraction_sum
def N_fraction_times : List Str := ["x", "y"]
def g_fraction_times : Sm := sRet (eP (pCall F_fraction_of [p2 dMul (p2 dIx (pVar 0) (pC (.int 0))) (p2 dIx (pVar 1) (pC (.int 0))), p2 dMul (p2 dIx (pVar 0) (pC (.int 1))) (p2 dIx (pVar 1) (pC (.int 1)))]))
def F_fraction_times : Fn := mkFn 2 2 g_fraction_times
def N_fraction_turned : List Str := ["x"]
def g_fraction_turned : Sm := sRet (eP (pN dTup [p1 dNeg (p2 dIx (pVar 0) (pC (.int 0))), p2 dIx (pVar 0) (pC (.int 1))]))
def F_fraction_turned : Fn := mkFn 1 1 g_fraction_turned
def N_is_whole_number : List Str := ["value"]
def g_is_whole_number : Sm := sRet (eP (pT (L3.tAnd (tV (p1 (fun d => some (.bool (PyData.isInt d))) (pVar 0))) (tNot (tV (p1 (fun d => some (.bool (PyData.isBool d))) (pVar 0)))))))
def F_is_whole_number : Fn := mkFn 1 1 g_is_whole_number
def N_is_fraction : List Str := ["value", "x"]
def g_is_fraction : Sm := sSeq (sIf (tP (L3.tOr (tNot (tV (p1 (fun d => some (.bool (PyData.isTuple d))) (pVar 0)))) (L3.tOr (tV (p2 dNe (pN (l1 dLen) [pVar 0]) (pC (.int 2)))) (tNot (tV (pN (l1 dAll) [pComp [1] (.nm 1) (ipP (pVar 0)) (tYesP) (pCall F_is_whole_number [pVar 1])])))))) (sRet (eP (pC (.bool false)))) (sNx))
      (sRet (eP (pT (L3.tAnd (tV (p2 dGt (p2 dIx (pVar 0) (pC (.int 1))) (pC (.int 0)))) (tV (p2 dEq (pCall F_common_divisor [p2 dIx (pVar 0) (pC (.int 0)), p2 dIx (pVar 0) (pC (.int 1))]) (pC (.int 1))))))))
def F_is_fraction : Fn := mkFn 1 2 g_is_fraction
def N_is_part : List Str := ["value"]
def g_is_part : Sm := sRet (eP (pT (L3.tAnd (tV (pCall F_is_fraction [pVar 0])) (tV (pChain dLe dLt (pC (.int 0)) (p2 dIx (pVar 0) (pC (.int 0))) (p2 dIx (pVar 0) (pC (.int 1))))))))
def F_is_part : Fn := mkFn 1 1 g_is_part
def N_part_of : List Str := ["p", "q", "top", "bottom"]
def g_part_of : Sm := sSeq (sPat (.tp [.nm 2, .nm 3]) (eP (pCall F_fraction_of [pVar 0, pVar 1])))
      (sRet (eP (pCall F_fraction_of [p2 dMod (pVar 2) (pVar 3), pVar 3])))
def F_part_of : Fn := mkFn 2 4 g_part_of
def N_part_sum : List Str := ["one", "other"]
def g_part_sum : Sm := sRet (eP (pCall F_part_of [p2 dAdd (p2 dMul (p2 dIx (pVar 0) (pC (.int 0))) (p2 dIx (pVar 1) (pC (.int 1)))) (p2 dMul (p2 dIx (pVar 1) (pC (.int 0))) (p2 dIx (pVar 0) (pC (.int 1)))), p2 dMul (p2 dIx (pVar 0) (pC (.int 1))) (p2 dIx (pVar 1) (pC (.int 1)))]))
def F_part_sum : Fn := mkFn 2 2 g_part_sum
def N_part_times : List Str := ["k", "part"]
def g_part_times : Sm := sRet (eP (pCall F_part_of [p2 dMul (pVar 0) (p2 dIx (pVar 1) (pC (.int 0))), p2 dIx (pVar 1) (pC (.int 1))]))
def F_part_times : Fn := mkFn 2 2 g_part_times
def N_part_turned : List Str := ["part"]
def g_part_turned : Sm := sRet (eP (pCall F_part_of [p1 dNeg (p2 dIx (pVar 0) (pC (.int 0))), p2 dIx (pVar 0) (pC (.int 1))]))
def F_part_turned : Fn := mkFn 1 1 g_part_turned
def N_half_of : List Str := ["part", "c"]
def g_half_of : Sm := sSeq (sIf (tP (tV (p2 dLt (p2 dMul (pC (.int 2)) (p2 dIx (pVar 0) (pC (.int 0)))) (p2 dIx (pVar 0) (pC (.int 1)))))) (sRet (eP (pN dTup [pVar 0, pVar 1]))) (sNx))
      (sRet (eP (pN dTup [pCall F_part_sum [pVar 0, pN dTup [pC (.int 1), pC (.int 2)]], pCall F_fraction_turned [pVar 1]])))
def F_half_of : Fn := mkFn 2 2 g_half_of
def N_primes_of : List Str := ["q", "found", "p"]
def g_primes_of : Sm := sSeq (sPar [1, 2] [eF (pN dLst []), eP (pC (.int 2))])
      (sSeq (sWhile (tP (tV (p2 dLe (p2 dMul (pVar 2) (pVar 2)) (pVar 0)))) (sSeq (sIf (tP (tV (p2 dEq (p2 dMod (pVar 0) (pVar 2)) (pC (.int 0))))) (sSeq (sApp 1 (eP (pVar 2)))
      (sWhile (tP (tV (p2 dEq (p2 dMod (pVar 0) (pVar 2)) (pC (.int 0))))) (sVal 0 (eP (p2 dFdiv (pVar 0) (pVar 2)))))) (sNx))
      (sVal 2 (eP (p2 dAdd (pVar 2) (pC (.int 1)))))))
      (sRet (eP (pN (l1 dTuple) [pIf (tV (p2 dGt (pVar 0) (pC (.int 1)))) (pNS dLst [(true, pOwn 1), (false, pVar 0)]) (pOwn 1)]))))
def F_primes_of : Fn := mkFn 1 3 g_primes_of
def N_inverse_by : List Str := ["a", "m", "one", "other", "u", "v", "by"]
def g_inverse_by : Sm := sSeq (sPat (.tp [.nm 2, .nm 3, .nm 4, .nm 5]) (eP (pN dTup [p2 dMod (pVar 0) (pVar 1), pVar 1, pC (.int 1), pC (.int 0)])))
      (sSeq (sWhile (tP (tV (p2 dGt (pVar 3) (pC (.int 0))))) (sSeq (sVal 6 (eP (p2 dFdiv (pVar 2) (pVar 3))))
      (sPat (.tp [.nm 2, .nm 3, .nm 4, .nm 5]) (eP (pN dTup [pVar 3, p2 dSub (pVar 2) (p2 dMul (pVar 6) (pVar 3)), pVar 5, p2 dSub (pVar 4) (p2 dMul (pVar 6) (pVar 5))])))))
      (sRet (eP (p2 dMod (pVar 4) (pVar 1)))))
def F_inverse_by : Fn := mkFn 2 7 g_inverse_by
def N_prime_part : List Str := ["part", "p", "rest", "power"]
def g_prime_part : Sm := sSeq (sPar [2, 3] [eP (p2 dIx (pVar 0) (pC (.int 1))), eP (pC (.int 1))])
      (sSeq (sWhile (tP (tV (p2 dEq (p2 dMod (pVar 2) (pVar 1)) (pC (.int 0))))) (sPar [2, 3] [eP (p2 dFdiv (pVar 2) (pVar 1)), eP (p2 dMul (pVar 3) (pVar 1))]))
      (sRet (eP (pCall F_part_of [p2 dMul (p2 dIx (pVar 0) (pC (.int 0))) (pCall F_inverse_by [pVar 2, pVar 3]), pVar 3]))))
def F_prime_part : Fn := mkFn 2 4 g_prime_part
def N_loose_primes : List Str := ["part", "found", "p", "top", "bottom"]
def g_loose_primes : Sm := sSeq (sOwn 1 (eF (pN dLst [])))
      (sSeq (sFor (.nm 2) (iP (pCall F_primes_of [p2 dIx (pVar 0) (pC (.int 1))])) (sSeq (sPat (.tp [.nm 3, .nm 4]) (eP (pCall F_prime_part [pVar 0, pVar 2])))
      (sIf (tP (tV (p2 dGe (p2 dMul (pVar 3) (pVar 2)) (p2 dMul (p2 dSub (pVar 2) (pC (.int 1))) (pVar 4))))) (sApp 1 (eP (pVar 2))) (sNx))))
      (sRet (eMv 1)))
def F_loose_primes : Fn := mkFn 1 5 g_loose_primes
def N_is_led_part : List Str := ["part"]
def g_is_led_part : Sm := sRet (eP (p2 dEq (pCall F_loose_primes [pVar 0]) (pN dLst [])))
def F_is_led_part : Fn := mkFn 1 1 g_is_led_part
def N__law_source : List Str := ["script", "mixed", "cell"]
def g__law_source : Sm := sSeq (sVal 1 (eP (pC (.int 11))))
      (sSeq (sFor (.nm 2) (iScr 0) (sVal 1 (eP (p2 dMod (pN (l1 dInt) [p2 dAdd (p2 dAdd (p2 dMul (pVar 1) (pC (.int 69069))) (p2 dMul (pVar 2) (pC (.int 31)))) (pC (.int 5))]) (pC (.int 2147483629))))))
      (sRet (eSrc (p1 dRevL (pComp [2] (.nm 2) (ipScr 0) (tYesP) (pN (l1 dAbs) [pVar 2]))) (pC (.int 1)) (pVar 1) (pC (.int 0)))))
def F__law_source : Fn := mkFn 1 3 g__law_source
def N__law_pick : List Str := ["source", "many", "left", "mixed"]
def g__law_pick : Sm := sSeq (sWhile (tP (L3.tAnd (tV (p2 dGt (pVar 1) (pC (.int 1)))) (L3.tAnd (tV (p2 dLt (pSrc 0 "left") (pC (.int 2)))) (tV (p2 dGt (pN (l1 dLen) [pSrcC 0]) (pC (.int 0))))))) (sSrcPop 0 "left"))
      (sSeq (sVal 2 (eP (pSrc 0 "left")))
      (sSeq (sIf (tP (L3.tOr (tV (p2 dLt (pVar 1) (pC (.int 2)))) (tV (p2 dGt (pVar 2) (pC (.int 1)))))) (sSeq (sSrcPut 0 "left" (p2 dFdiv (pVar 2) (pN (l2 dMax2) [pC (.int 1), pVar 1])))
      (sRet (eP (p2 dMod (pN (l1 dInt) [pVar 2]) (pN (l2 dMax2) [pC (.int 1), pVar 1]))))) (sNx))
      (sSeq (sSrcPut 0 "turn" (p2 dAdd (pSrc 0 "turn") (pC (.int 1))))
      (sSeq (sVal 3 (eP (p2 dMod (pN (l1 dInt) [p2 dAdd (pSrc 0 "mixed") (p2 dMul (pSrc 0 "turn") (pC (.int 104729)))]) (pC (.int 998244353)))))
      (sSeq (sVal 3 (eP (p2 dMod (pN (l1 dInt) [p2 dAdd (p2 dMul (pVar 3) (pVar 3)) (p2 dMul (pSrc 0 "turn") (pC (.int 17)))]) (pC (.int 2147483647)))))
      (sSeq (sSrcPut 0 "mixed" (pVar 3))
      (sRet (eP (p2 dMod (pN (l1 dInt) [p2 dFdiv (pVar 3) (pC (.int 16))]) (pVar 1))))))))))
def F__law_pick : Fn := mkFn 2 4 g__law_pick
def N__law_of : List Str := ["source", "some"]
def g__law_of : Sm := sRet (e2 .c dIx (eP (pVar 1)) (eCallR F__law_pick 0 [eP (pN (l1 dLen) [pVar 1])]))
def F__law_of : Fn := mkFn 2 2 g__law_of
def N__law_fraction : List Str := ["p", "q", "a", "b"]
def g__law_fraction : Sm := sSeq (sPar [2, 3] [eP (pN (l1 dAbs) [pVar 0]), eP (pN (l1 dAbs) [pVar 1])])
      (sSeq (sWhile (tP (tV (p2 dGt (pVar 3) (pC (.int 0))))) (sPar [2, 3] [eP (pVar 3), eP (p2 dMod (pN (l1 dInt) [pVar 2]) (pVar 3))]))
      (sRet (eP (pIf (tV (p2 dGt (pVar 1) (pC (.int 0)))) (pN dTup [p2 dFdiv (pVar 0) (pVar 2), p2 dFdiv (pVar 1) (pVar 2)]) (pN dTup [p2 dFdiv (p2 dSub (pC (.int 0)) (pVar 0)) (pVar 2), p2 dFdiv (p2 dSub (pC (.int 0)) (pVar 1)) (pVar 2)])))))
def F__law_fraction : Fn := mkFn 2 4 g__law_fraction
def N__law_part : List Str := ["p", "q"]
def g__law_part : Sm := sSeq (sPat (.tp [.nm 0, .nm 1]) (eP (pCall F__law_fraction [pVar 0, pVar 1])))
      (sRet (eP (pCall F__law_fraction [p2 dMod (pN (l1 dInt) [pVar 0]) (pVar 1), pVar 1])))
def F__law_part : Fn := mkFn 2 2 g__law_part
def N__law_common : List Str := ["a", "b"]
def g__law_common : Sm := sSeq (sWhile (tP (tV (p2 dGt (pVar 1) (pC (.int 0))))) (sPar [0, 1] [eP (pVar 1), eP (p2 dMod (pN (l1 dInt) [pVar 0]) (pVar 1))]))
      (sRet (eP (pVar 0)))
def F__law_common : Fn := mkFn 2 2 g__law_common
def N__law_primes : List Str := ["q", "found", "p"]
def g__law_primes : Sm := sSeq (sPar [1, 2] [eP (pN dLst []), eP (pC (.int 2))])
      (sSeq (sWhile (tP (tV (p2 dGt (pVar 0) (pC (.int 1))))) (sIf (tP (tV (p2 dEq (p2 dMod (pN (l1 dInt) [pVar 0]) (pVar 2)) (pC (.int 0))))) (sSeq (sVal 0 (eP (p2 dFdiv (pVar 0) (pVar 2))))
      (sVal 1 (eP (p2 dAdd (pVar 1) (p2 dRep (pN dLst [pVar 2]) (pN (l1 dInt) [p2 dNotIn (pVar 2) (pVar 1)])))))) (sVal 2 (eP (p2 dAdd (pVar 2) (pC (.int 1)))))))
      (sRet (eP (pVar 1))))
def F__law_primes : Fn := mkFn 1 3 g__law_primes
def N__law_prime_part : List Str := ["part", "p", "power", "a", "late"]
def g__law_prime_part : Sm := sSeq (sVal 2 (eP (pC (.int 1))))
      (sSeq (sWhile (tP (tV (p2 dEq (p2 dMod (pN (l1 dInt) [p2 dIx (pVar 0) (pC (.int 1))]) (p2 dMul (pVar 2) (pVar 1))) (pC (.int 0))))) (sVal 2 (eP (p2 dMul (pVar 2) (pVar 1)))))
      (sSeq (sFor (.nm 3) (iR (pC (.int 0)) (pVar 2)) (sSeq (sVal 4 (eP (pCall F__law_part [p2 dSub (p2 dMul (p2 dIx (pVar 0) (pC (.int 0))) (pVar 2)) (p2 dMul (pVar 3) (p2 dIx (pVar 0) (pC (.int 1)))), p2 dMul (p2 dIx (pVar 0) (pC (.int 1))) (pVar 2)])))
      (sIf (tP (tV (p2 dNe (p2 dMod (pN (l1 dInt) [p2 dIx (pVar 4) (pC (.int 1))]) (pVar 1)) (pC (.int 0))))) (sRet (eP (pCall F__law_fraction [pVar 3, pVar 2]))) (sNx))))
      (sRet (eP (pC .none)))))
def F__law_prime_part : Fn := mkFn 2 5 g__law_prime_part
def N__law_bent : List Str := ["source", "value", "odd", "k", "road"]
def g__law_bent (R : Fn) : Sm := sSeq (sVal 2 (eP (pN dLst [pC .none, pC (.bool true), pC (.int 0), pC (.int 1), p1 dNeg (pC (.int 1)), pN dTup [], pN dLst [], pC (.dict []), pC (.str "0"), pN dTup [pC (.int 0), pC (.int 1)], pN dTup [pC (.int 2), pC (.int 4)], pN dTup [pC (.int 1), p1 dNeg (pC (.int 2))], pN dTup [pC (.int 1), pC (.bool true)], pN dTup [pC (.int 0), pC (.int 2)], pN dTup [p1 dNeg (pC (.int 1)), pC (.int 2)], pN dTup [pC (.int 3), pC (.int 2)], p2 dPow (pC (.int 10)) (pC (.int 50))])))
      (sSeq (sIf (tOrE (tP (tNot (tV (p1 (fun d => some (.bool (PyData.isTuple d))) (pVar 1))))) (tOrE (tP (tV (p2 dEq (pVar 1) (pN dTup [])))) (tVE (e2 .c dEq (eCallR F__law_pick 0 [eP (pC (.int 4))]) (eP (pC (.int 0))))))) (sRet (eCallR F__law_of 0 [eP (pVar 2)])) (sNx))
      (sSeq (sPar [3, 4] [eCallR F__law_pick 0 [eP (pN (l1 dLen) [pVar 1])], eCallR F__law_pick 0 [eP (pC (.int 5))]])
      (sSeq (sIf (tP (tV (p2 dLt (pVar 4) (pC (.int 2))))) (sRet (eP (p2 dIx (pN dLst [p2 dAdd (pCut (pVar 1) none (some (pVar 3))) (pCut (pVar 1) (some (p2 dAdd (pVar 3) (pC (.int 1)))) none), p2 dAdd (pCut (pVar 1) none (some (p2 dAdd (pVar 3) (pC (.int 1))))) (pCut (pVar 1) (some (pVar 3)) none)]) (pVar 4)))) (sNx))
      (sSeq (sIf (tP (tV (p2 dEq (pVar 4) (pC (.int 2))))) (sRet (eCallR F__law_of 0 [eP (pN dLst [p1 dRevT (pVar 1), pN (l1 dList) [pVar 1]])])) (sNx))
      (sRet (e2 .f dAdd (e2 .f dAdd (eP (pCut (pVar 1) none (some (pVar 3)))) (eN .c dTup [eCallR R 0 [eP (p2 dIx (pVar 1) (pVar 3))]])) (eP (pCut (pVar 1) (some (p2 dAdd (pVar 3) (pC (.int 1)))) none))))))))
def F__law_bent : Nat → Fn
  | 0 => fun _ => none
  | n + 1 => mkFn 2 5 (g__law_bent (F__law_bent n))
def N__law_is_fraction : List Str := ["value", "x"]
def g__law_is_fraction : Sm := sSeq (sIf (tP (L3.tOr (tNot (tV (p1 (fun d => some (.bool (PyData.isTuple d))) (pVar 0)))) (tV (p2 dNe (pN (l1 dLen) [pVar 0]) (pC (.int 2)))))) (sRet (eP (pC (.bool false)))) (sNx))
      (sSeq (sIf (tP (tV (p2 dNe (pComp [1] (.nm 1) (ipP (pVar 0)) (L3.tOr (tNot (tV (p1 (fun d => some (.bool (PyData.isInt d))) (pVar 1)))) (tV (p1 (fun d => some (.bool (PyData.isBool d))) (pVar 1)))) (pVar 1)) (pN dLst [])))) (sRet (eP (pC (.bool false)))) (sNx))
      (sRet (eP (pT (L3.tAnd (tV (p2 dGt (p2 dIx (pVar 0) (pC (.int 1))) (pC (.int 0)))) (tV (p2 dEq (pCall F__law_common [pN (l1 dAbs) [p2 dIx (pVar 0) (pC (.int 0))], p2 dIx (pVar 0) (pC (.int 1))]) (pC (.int 1)))))))))
def F__law_is_fraction : Fn := mkFn 1 2 g__law_is_fraction
def N_law : List Str := ["script", "source", "lap", "m", "every", "few", "far", "told", "due", "below", "value", "p", "q", "r", "s", "k", "x", "y", "a", "b", "prime", "primes", "whole", "led", "one", "held", "good", "turn", "part"]
def g_law : Sm := sSeq (sOwn 1 (eCallS F__law_source 0))
      (sSeq (sFor (.nm 2) (iR (pC (.int 0)) (pC (.int 6))) (sSeq (sVal 6 (eP (p2 dIx (pN dLst [pC (.int 5), pC (.int 12), pC (.int 60), pC (.int 360), p2 dPow (pC (.int 10)) (pC (.int 4)), p2 dPow (pC (.int 10)) (pC (.int 9))]) (pVar 2))))
      (sSeq (sPat (.tl [.nm 11, .nm 12, .nm 13, .nm 14]) (eComp [15] (.nm 15) (iR (pC (.int 0)) (pC (.int 4))) (tYesE) (e2 .c dSub (eCallR F__law_pick 1 [eP (p2 dAdd (p2 dMul (pC (.int 2)) (pVar 6)) (pC (.int 1)))]) (eP (pVar 6)))))
      (sSeq (sPar [12, 14, 15] [eP (pIf (tV (p2 dNe (pVar 12) (pC (.int 0)))) (pVar 12) (pC (.int 1))), eP (pIf (tV (p2 dNe (pVar 14) (pC (.int 0)))) (pVar 14) (p1 dNeg (pC (.int 1)))), e2 .c dSub (eCallR F__law_pick 1 [eP (pC (.int 2001))]) (eP (pC (.int 1000)))])
      (sSeq (sPar [16, 17] [eP (pCall F__law_fraction [pVar 11, pVar 12]), eP (pCall F__law_fraction [pVar 13, pVar 14])])
      (sSeq (sVal 7 (eP (pN dLst [pCall F_fraction_of [pVar 11, pVar 12], pCall F_fraction_sum [pVar 16, pVar 17], pCall F_fraction_times [pVar 16, pVar 17], pCall F_fraction_turned [pVar 16], pCall F_part_of [pVar 11, pVar 12]])))
      (sSeq (sVal 8 (eP (pN dLst [pVar 16, pCall F__law_fraction [p2 dAdd (p2 dMul (p2 dIx (pVar 16) (pC (.int 0))) (p2 dIx (pVar 17) (pC (.int 1)))) (p2 dMul (p2 dIx (pVar 17) (pC (.int 0))) (p2 dIx (pVar 16) (pC (.int 1)))), p2 dMul (p2 dIx (pVar 16) (pC (.int 1))) (p2 dIx (pVar 17) (pC (.int 1)))], pCall F__law_fraction [p2 dMul (p2 dIx (pVar 16) (pC (.int 0))) (p2 dIx (pVar 17) (pC (.int 0))), p2 dMul (p2 dIx (pVar 16) (pC (.int 1))) (p2 dIx (pVar 17) (pC (.int 1)))]])))
      (sSeq (sIf (tP (tV (p2 dNe (pN (l1 dRepr) [pVar 7]) (pN (l1 dRepr) [p2 dAdd (pVar 8) (pN dLst [pN dTup [p2 dSub (pC (.int 0)) (p2 dIx (pVar 16) (pC (.int 0))), p2 dIx (pVar 16) (pC (.int 1))], pCall F__law_part [pVar 11, pVar 12]])])))) (sRet (eP (pC (.bool false)))) (sNx))
      (sSeq (sPat (.tp [.nm 18, .nm 19]) (eP (pN dTup [pCall F__law_part [pVar 11, pVar 12], pCall F__law_part [pVar 13, pVar 14]])))
      (sSeq (sVal 7 (eP (pN dLst [pCall F_part_sum [pVar 18, pVar 19], pCall F_part_times [pVar 15, pVar 18], pCall F_part_turned [pVar 18]])))
      (sSeq (sVal 8 (eP (pN dLst [pCall F__law_part [p2 dAdd (p2 dMul (p2 dIx (pVar 18) (pC (.int 0))) (p2 dIx (pVar 19) (pC (.int 1)))) (p2 dMul (p2 dIx (pVar 19) (pC (.int 0))) (p2 dIx (pVar 18) (pC (.int 1)))), p2 dMul (p2 dIx (pVar 18) (pC (.int 1))) (p2 dIx (pVar 19) (pC (.int 1)))], pCall F__law_part [p2 dMul (pVar 15) (p2 dIx (pVar 18) (pC (.int 0))), p2 dIx (pVar 18) (pC (.int 1))], pCall F__law_part [p2 dSub (pC (.int 0)) (p2 dIx (pVar 18) (pC (.int 0))), p2 dIx (pVar 18) (pC (.int 1))]])))
      (sSeq (sIf (tP (tV (p2 dNe (pN (l1 dRepr) [pVar 7]) (pN (l1 dRepr) [pVar 8])))) (sRet (eP (pC (.bool false)))) (sNx))
      (sSeq (sVal 9 (eP (p2 dLt (p2 dMul (pC (.int 2)) (p2 dIx (pVar 18) (pC (.int 0)))) (p2 dIx (pVar 18) (pC (.int 1))))))
      (sSeq (sVal 8 (eP (pIf (tV (pVar 9)) (pN dTup [pVar 18, pVar 17]) (pN dTup [pCall F__law_part [p2 dSub (p2 dMul (pC (.int 2)) (p2 dIx (pVar 18) (pC (.int 0)))) (p2 dIx (pVar 18) (pC (.int 1))), p2 dMul (pC (.int 2)) (p2 dIx (pVar 18) (pC (.int 1)))], pN dTup [p2 dSub (pC (.int 0)) (p2 dIx (pVar 17) (pC (.int 0))), p2 dIx (pVar 17) (pC (.int 1))]]))))
      (sSeq (sIf (tP (tV (p2 dNe (pN (l1 dRepr) [pCall F_half_of [pVar 18, pVar 17]]) (pN (l1 dRepr) [pVar 8])))) (sRet (eP (pC (.bool false)))) (sNx))
      (sSeq (sIf (tP (tV (p2 dLt (pVar 2) (pC (.int 4))))) (sSeq (sPar [21, 22, 23] [eP (pCall F__law_primes [p2 dIx (pVar 18) (pC (.int 1))]), eP (pN dTup [pC (.int 0), pC (.int 1)]), eP (pC (.bool true))])
      (sSeq (sIf (tP (tV (p2 dNe (pN (l1 dRepr) [pCall F_primes_of [p2 dIx (pVar 18) (pC (.int 1))]]) (pN (l1 dRepr) [pN (l1 dTuple) [pVar 21]])))) (sRet (eP (pC (.bool false)))) (sNx))
      (sSeq (sFor (.nm 20) (iP (p2 dAdd (pVar 21) (pN dLst [pC (.int 2), pC (.int 7)]))) (sSeq (sVal 24 (eP (pCall F__law_prime_part [pVar 18, pVar 20])))
      (sSeq (sIf (tP (tV (p2 dNe (pN (l1 dRepr) [pCall F_prime_part [pVar 18, pVar 20]]) (pN (l1 dRepr) [pVar 24])))) (sRet (eP (pC (.bool false)))) (sNx))
      (sVal 23 (eP (pT (L3.tAnd (tV (pVar 23)) (tV (p2 dLt (p2 dMul (p2 dIx (pVar 24) (pC (.int 0))) (pVar 20)) (p2 dMul (p2 dSub (pVar 20) (pC (.int 1))) (p2 dIx (pVar 24) (pC (.int 1)))))))))))))
      (sSeq (sFor (.nm 20) (iP (pVar 21)) (sSeq (sVal 24 (eP (pCall F__law_prime_part [pVar 18, pVar 20])))
      (sVal 22 (eP (pCall F__law_part [p2 dAdd (p2 dMul (p2 dIx (pVar 22) (pC (.int 0))) (p2 dIx (pVar 24) (pC (.int 1)))) (p2 dMul (p2 dIx (pVar 24) (pC (.int 0))) (p2 dIx (pVar 22) (pC (.int 1)))), p2 dMul (p2 dIx (pVar 22) (pC (.int 1))) (p2 dIx (pVar 24) (pC (.int 1)))])))))
      (sIf (tP (L3.tOr (tV (p2 dNe (pVar 22) (pVar 18))) (tV (p2 dNe (pN (l1 dRepr) [pCall F_is_led_part [pVar 18]]) (pN (l1 dRepr) [pVar 23]))))) (sRet (eP (pC (.bool false)))) (sNx)))))) (sNx))
      (sFor (.nm 10) (iE (e2 .f dAdd (eP (pN dLst [pVar 16, pVar 18, pN (l1 dList) [pVar 18], p2 dAdd (pVar 18) (pN dTup [pC (.int 1)]), pN dTup [pVar 11, pVar 12], pC .none])) (eComp [27] (.nm 27) (iR (pC (.int 0)) (pC (.int 6))) (tYesE) (eCallR (F__law_bent 3) 1 [eP (pVar 18)])))) (sSeq (sPar [25, 26] [eP (pN (l1 dRepr) [pVar 10]), eP (pCall F__law_is_fraction [pVar 10])])
      (sSeq (sVal 8 (eP (pN dLst [pVar 26, pT (L3.tAnd (tV (pVar 26)) (tV (pChain dLe dLt (pC (.int 0)) (p2 dIx (pVar 10) (pC (.int 0))) (p2 dIx (pVar 10) (pC (.int 1))))))])))
      (sIf (tP (L3.tOr (tV (p2 dNe (pN (l1 dRepr) [pN dLst [pCall F_is_fraction [pVar 10], pCall F_is_part [pVar 10]]]) (pN (l1 dRepr) [pVar 8]))) (tV (p2 dNe (pN (l1 dRepr) [pVar 10]) (pVar 25))))) (sRet (eP (pC (.bool false)))) (sNx)))))))))))))))))))))
      (sSeq (sVal 3 (e2 .f dAdd (eP (pC (.int 1))) (eCallR F__law_pick 1 [eP (pC (.int 120))])))
      (sSeq (sVal 4 (eP (pComp [18] (.nm 18) (ipR (pC (.int 0)) (pVar 3)) (tYesP) (pCall F__law_fraction [pVar 18, pVar 3]))))
      (sSeq (sVal 5 (eP (pComp [18] (.nm 18) (ipR (pC (.int 0)) (pVar 3)) (tV (p2 dEq (pCall F__law_common [pVar 18, pVar 3]) (pC (.int 1)))) (pVar 18))))
      (sRet (eP (p2 dEq (pN (l1 dLen) [pComp [28] (.nm 28) (ipP (pVar 4)) (tV (pCall F_is_led_part [pVar 28])) (pVar 28)]) (pN (l2 dMax2) [pC (.int 1), pN (l1 dLen) [pVar 5]]))))))))
def F_law : Fn := mkFn 1 29 g_law
end K05
/-! Running the pure side: what each piece does, for simp. -/
namespace L3
open PySem
variable (ρ : Env) (i : Nat) (d : D) (a b c : P) (f g : D → D → Option D) (h : D → Option D) (t u : T)
@[simp] theorem ev_pVar : pVar i ρ = match ρ[i]? with | some (.val d) => some d | _ => none := rfl
@[simp] theorem ev_pOwn : pOwn i ρ = match ρ[i]? with | some (.val d) => some d | some (.own _ (.lst xs)) => some (.list xs) | some (.own _ (.dic kvs)) => some (.dict kvs) | _ => none := rfl
@[simp] theorem ev_pC : pC d ρ = some d := rfl
@[simp] theorem ev_p1 : p1 h a ρ = match a ρ with | some x => h x | none => none := rfl
@[simp] theorem ev_p2 : p2 f a b ρ = match a ρ with | some x => (match b ρ with | some y => f x y | none => none) | none => none := rfl
@[simp] theorem ev_evs0 : evs [] ρ = some [] := rfl
@[simp] theorem ev_evs1 (r : List P) : evs (a :: r) ρ = match a ρ with | some x => (match evs r ρ with | some xs => some (x :: xs) | none => none) | none => none := rfl
@[simp] theorem ev_evsS0 : evsS [] ρ = some [] := rfl
@[simp] theorem ev_evsS1 (r : List (Bool × P)) : evsS ((false, a) :: r) ρ = match a ρ with | some x => (match evsS r ρ with | some xs => some (x :: xs) | none => none) | none => none := rfl
@[simp] theorem ev_evsS2 (r : List (Bool × P)) : evsS ((true, a) :: r) ρ = match a ρ with | some x => (match seqOf x with | some ys => (match evsS r ρ with | some xs => some (ys ++ xs) | none => none) | none => none) | none => none := rfl
@[simp] theorem ev_pN (k : List D → Option D) (as : List P) : pN k as ρ = match evs as ρ with | some xs => k xs | none => none := rfl
@[simp] theorem ev_pNS (k : List D → Option D) (as : List (Bool × P)) : pNS k as ρ = match evsS as ρ with | some xs => k xs | none => none := rfl
@[simp] theorem ev_pChain : pChain f g a b c ρ = match a ρ with
  | some x => (match b ρ with
    | some y => (match f x y with
      | some (.bool true) => (match c ρ with | some z => g y z | none => none)
      | some (.bool false) => some (.bool false)
      | _ => none)
    | none => none)
  | none => none := rfl
@[simp] theorem ev_pIf : pIf t a b ρ = match t ρ with | some true => a ρ | some false => b ρ | none => none := rfl
@[simp] theorem ev_tV : tV a ρ = match a ρ with | some (.bool b) => some b | _ => none := rfl
@[simp] theorem ev_tNot : tNot t ρ = match t ρ with | some b => some (!b) | none => none := rfl
@[simp] theorem ev_tAnd : tAnd t u ρ = match t ρ with | some true => u ρ | some false => some false | none => none := rfl
@[simp] theorem ev_tOr : tOr t u ρ = match t ρ with | some true => some true | some false => u ρ | none => none := rfl
@[simp] theorem ev_pT : pT t ρ = match t ρ with | some b => some (.bool b) | none => none := rfl
@[simp] theorem ev_pO0 : pO none ρ = some none := rfl
@[simp] theorem ev_pO1 : pO (some a) ρ = match a ρ with | some (.int i) => some (some i) | _ => none := rfl
@[simp] theorem ev_pCut (lo hi : Option P) : pCut a lo hi ρ = match a ρ with
  | some x => (match pO lo ρ with | some l => (match pO hi ρ with | some h => dCut l h x | none => none) | none => none)
  | none => none := rfl
@[simp] theorem ev_pCall (F : Fn) (as : List P) : pCall F as ρ = match evs as ρ with | some xs => (match F (xs.map .val) with | some (_, c) => c.toD | none => none) | none => none := rfl
@[simp] theorem ev_pCallB (F : Fn) (as : List P) : pCallB F as ρ = match pCall F as ρ with | some d => if noref d then some d else none | none => none := rfl
@[simp] theorem ev_eP : eP a ρ = match a ρ with | some d => some (ρ, .val d) | none => none := rfl
@[simp] theorem ev_eF : eF a ρ = match a ρ with | some (.list xs) => some (ρ, .own false (.lst xs)) | some (.dict kvs) => some (ρ, .own false (.dic kvs)) | _ => none := rfl
@[simp] theorem ev_eMv : eMv i ρ = match ρ[i]? with | some (.own false o) => some (ρ.set i .un, .own false o) | _ => none := rfl
variable (e e' : E) (k : Kind) (te te' : TE') (m n : Sm)
@[simp] theorem ev_cellOf_c : cellOf .c d = .val d := by cases d <;> rfl
@[simp] theorem ev_cellOf_r : cellOf .r d = .val d := by cases d <;> rfl
@[simp] theorem ev_cellOf_fl (xs : List D) : cellOf .f (.list xs) = .own false (.lst xs) := rfl
@[simp] theorem ev_cellOf_ft (xs : List D) : cellOf .f (.tuple xs) = .val (.tuple xs) := rfl
@[simp] theorem ev_cellOf_fi (x : Int) : cellOf .f (.int x) = .val (.int x) := rfl
@[simp] theorem ev_cellOf_fs (x : Str) : cellOf .f (.str x) = .val (.str x) := rfl
@[simp] theorem ev_e1 : e1 k h e ρ = match e ρ with
  | some (ρ1, c) => (match c.toD with | some x => (match h x with | some d => some (ρ1, cellOf k d) | none => none) | none => none)
  | none => none := rfl
@[simp] theorem ev_e2 : e2 k f e e' ρ = match e ρ with
  | some (ρ1, c) => (match c.toD with
    | some x => (match e' ρ1 with
      | some (ρ2, c2) => (match c2.toD with | some y => (match f x y with | some d => some (ρ2, cellOf k d) | none => none) | none => none)
      | none => none)
    | none => none)
  | none => none := rfl
@[simp] theorem ev_eevs0 : eevs [] ρ = some (ρ, []) := rfl
@[simp] theorem ev_eevs1 (r : List E) : eevs (e :: r) ρ = match e ρ with
    | some (ρ1, c) => (match c.toD with
      | some x => (match eevs r ρ1 with | some (ρ2, xs) => some (ρ2, x :: xs) | none => none)
      | none => none)
    | none => none := rfl
@[simp] theorem ev_eN (q : List D → Option D) (as : List E) : eN k q as ρ = match eevs as ρ with
  | some (ρ1, xs) => (match q xs with | some d => some (ρ1, cellOf k d) | none => none)
  | none => none := rfl
@[simp] theorem ev_eIf : eIf te e e' ρ = match te ρ with | some (ρ1, true) => e ρ1 | some (ρ1, false) => e' ρ1 | none => none := rfl
@[simp] theorem ev_tP : tP t ρ = match t ρ with | some b => some (ρ, b) | none => none := rfl
@[simp] theorem ev_tVE : tVE e ρ = match e ρ with | some (ρ1, .val (.bool b)) => some (ρ1, b) | _ => none := rfl
@[simp] theorem ev_tNotE : tNotE te ρ = match te ρ with | some (ρ1, b) => some (ρ1, !b) | none => none := rfl
@[simp] theorem ev_tAndE : tAndE te te' ρ = match te ρ with | some (ρ1, true) => te' ρ1 | r => r := rfl
@[simp] theorem ev_tOrE : tOrE te te' ρ = match te ρ with | some (ρ1, false) => te' ρ1 | r => r := rfl
@[simp] theorem ev_put (x : Cell) : put i x ρ = match ρ[i]? with | some (.own true _) => none | some _ => some (ρ.set i x) | none => none := rfl
@[simp] theorem ev_bind0 : bind (.nm i) d ρ = put i (.val d) ρ := by rw [bind]
@[simp] theorem ev_bind1 (ps : List Pat) (xs : List D) : bind (.tp ps) (.tuple xs) ρ = binds ps xs ρ := by rw [bind]
@[simp] theorem ev_bind2 (ps : List Pat) (xs : List D) : bind (.tl ps) (.list xs) ρ = binds ps xs ρ := by rw [bind]
@[simp] theorem ev_binds0 : binds [] [] ρ = some ρ := by rw [binds]
@[simp] theorem ev_binds1 (p : Pat) (ps : List Pat) (x : D) (xs : List D) : binds (p :: ps) (x :: xs) ρ = match bind p x ρ with | some ρ1 => binds ps xs ρ1 | none => none := by rw [binds]; first | done | (cases bind p x ρ <;> rfl)
@[simp] theorem ev_sNx : sNx ρ = some (ρ, .nx) := rfl
@[simp] theorem ev_sSeq : sSeq m n ρ = match m ρ with | some (ρ1, .nx) => n ρ1 | r => r := rfl
@[simp] theorem ev_sVal : sVal i e ρ = match e ρ with
  | some (ρ1, c) => (match c.toD with | some d => (match put i (.val d) ρ1 with | some ρ2 => some (ρ2, .nx) | none => none) | none => none)
  | none => none := rfl
@[simp] theorem ev_sOwn : sOwn i e ρ = match e ρ with
  | some (ρ1, .own false o) => (match put i (.own false o) ρ1 with | some ρ2 => some (ρ2, .nx) | none => none)
  | _ => none := rfl
@[simp] theorem ev_sPat (p : Pat) : sPat p e ρ = match e ρ with
  | some (ρ1, c) => (match c.toD with | some d => (match bind p d ρ1 with | some ρ2 => some (ρ2, .nx) | none => none) | none => none)
  | none => none := rfl
@[simp] theorem ev_sEx : sEx e ρ = match e ρ with | some (ρ1, _) => some (ρ1, .nx) | none => none := rfl
@[simp] theorem ev_sRet : sRet e ρ = match e ρ with | some (ρ1, c) => some (ρ1, .rt c) | none => none := rfl
@[simp] theorem ev_sIf : sIf te m n ρ = match te ρ with | some (ρ1, true) => m ρ1 | some (ρ1, false) => n ρ1 | none => none := rfl
@[simp] theorem ev_sApp : sApp i e ρ = if isLst ρ[i]? then (match e ρ with
  | some (ρ1, c) => (match c.toD, ρ1[i]? with
    | some d, some (.own fx (.lst xs)) => if decide (xs.length < 16777216) then some (ρ1.set i (.own fx (.lst (xs ++ [d]))), .nx) else none
    | _, _ => none)
  | none => none) else none := rfl
@[simp] theorem ev_isLst (fx : Bool) (xs : List D) : isLst (some (.own fx (.lst xs))) = true := rfl
@[simp] theorem ev_iP : iP a ρ = match a ρ with | some d => (match seqOf d with | some xs => some (ρ, xs) | none => none) | none => none := rfl
@[simp] theorem ev_iE : iE e ρ = match e ρ with | some (ρ1, c) => (match c.toD with | some d => (match seqOf d with | some xs => some (ρ1, xs) | none => none) | none => none) | none => none := rfl
@[simp] theorem ev_iR : iR a b ρ = match a ρ, b ρ with
  | some (.int i), some (.int j) => if r62 i && r62 j then some (ρ, rangeD i j) else none
  | _, _ => none := rfl
@[simp] theorem ev_ipP : ipP a ρ = match a ρ with | some d => seqOf d | none => none := rfl
@[simp] theorem ev_ipR : ipR a b ρ = match a ρ, b ρ with
  | some (.int i), some (.int j) => if r62 i && r62 j then some (rangeD i j) else none
  | _, _ => none := rfl
@[simp] theorem ev_sFor (p : Pat) (s : Ie) : sFor p s m ρ = match s ρ with | some (ρ1, xs) => forL p m xs ρ1 | none => none := rfl
@[simp] theorem ev_tYesP : tYesP ρ = some true := rfl
@[simp] theorem ev_tYesE : tYesE ρ = some (ρ, true) := rfl
@[simp] theorem ev_ecells0 : ecells [] ρ = some (ρ, []) := rfl
@[simp] theorem ev_ecells1 (r : List E) : ecells (e :: r) ρ = match e ρ with
    | some (ρ1, c) => (match ecells r ρ1 with | some (ρ2, cs) => some (ρ2, c :: cs) | none => none)
    | none => none := rfl
@[simp] theorem ev_puts0 : puts [] [] ρ = some ρ := rfl
@[simp] theorem ev_puts1 (is : List Nat) (x : Cell) (cs : List Cell) : puts (i :: is) (x :: cs) ρ = match put i x ρ with | some ρ1 => puts is cs ρ1 | none => none := rfl
@[simp] theorem ev_sPar (is : List Nat) (es : List E) : sPar is es ρ = match ecells es ρ with
  | some (ρ1, cs) => (match puts is cs ρ1 with | some ρ2 => some (ρ2, .nx) | none => none)
  | none => none := rfl
@[simp] theorem ev_mkFn (np nn : Nat) (cs : List Cell) : mkFn np nn m cs = if cs.length = np then (match m (cs ++ List.replicate (nn - np) .un) with
  | some (ρ, .nx) => some (backs cs ρ, .val .none)
  | some (ρ, .rt c) => some (backs cs ρ, c)
  | _ => none) else none := rfl
@[simp] theorem ev_backs0 : backs [] ρ = [] := by rw [backs]
@[simp] theorem ev_backs1 (o : Own) (r : List Cell) (x : Cell) : backs (.own true o :: r) (x :: ρ) = x :: backs r ρ := by rw [backs]
@[simp] theorem ev_backs2 (d : D) (r : List Cell) (x : Cell) : backs (.val d :: r) (x :: ρ) = .un :: backs r ρ := by rw [backs.eq_3 _ _ _ (by simp)]; rfl
@[simp] theorem ev_backs3 (d : List Int) (r : List Cell) (x : Cell) : backs (.scr d :: r) (x :: ρ) = .un :: backs r ρ := by rw [backs.eq_3 _ _ _ (by simp)]; rfl
@[simp] theorem ev_eCallV (F : Fn) (as : List E) : eCallV F as ρ = match eevs as ρ with
  | some (ρ1, ds) => (match F (ds.map .val) with | some (_, c) => some (ρ1, c) | none => none)
  | none => none := rfl
@[simp] theorem ev_isOwnO (fx : Bool) (o : Own) : isOwnO (some (.own fx o)) = true := rfl
@[simp] theorem ev_eCallR (F : Fn) (as : List E) : eCallR F i as ρ = if isOwnO ρ[i]? then (match eevs as ρ with
  | some (ρ1, ds) => (match ρ1[i]? with
    | some (.own fx o) => (match F (.own true o :: ds.map .val) with
      | some (.own _ o' :: _, c) => some (ρ1.set i (.own fx o'), c)
      | _ => none)
    | _ => none)
  | none => none) else none := rfl
@[simp] theorem ev_toD_val : (Cell.val d).toD = some d := rfl
@[simp] theorem ev_toD_own (fx : Bool) (xs : List D) : (Cell.own fx (.lst xs)).toD = some (.list xs) := rfl
@[simp] theorem ev_toD_dic (fx : Bool) (xs : List (D × D)) : (Cell.own fx (.dic xs)).toD = some (.dict xs) := rfl
@[simp] theorem ev_l1 (x : D) : l1 h [x] = h x := rfl
@[simp] theorem ev_l2 (x y : D) : l2 f [x, y] = f x y := rfl
/-! operations on written kinds -/
variable (x y : Int)
@[simp] theorem od_add : dAdd (.int x) (.int y) = some (.int (x + y)) := rfl
@[simp] theorem od_sub : dSub (.int x) (.int y) = some (.int (x - y)) := rfl
@[simp] theorem od_mul : dMul (.int x) (.int y) = if mulOk x y then some (.int (x * y)) else none := rfl
@[simp] theorem od_fdiv : dFdiv (.int x) (.int y) = if divOk y then some (.int (x.fdiv y)) else none := rfl
@[simp] theorem od_mod : dMod (.int x) (.int y) = if y = 0 then none else some (.int (x.fmod y)) := rfl
@[simp] theorem od_neg : dNeg (.int x) = some (.int (-x)) := rfl
@[simp] theorem od_lt : dLt (.int x) (.int y) = some (.bool (decide (x < y))) := rfl
@[simp] theorem od_le : dLe (.int x) (.int y) = some (.bool (decide (x ≤ y))) := rfl
@[simp] theorem od_gt : dGt (.int x) (.int y) = some (.bool (decide (y < x))) := rfl
@[simp] theorem od_ge : dGe (.int x) (.int y) = some (.bool (decide (y ≤ x))) := rfl
@[simp] theorem od_abs : dAbs (.int x) = some (.int (if x < 0 then -x else x)) := rfl
@[simp] theorem od_int : dInt (.int x) = some (.int x) := rfl
@[simp] theorem od_intb (b : Bool) : dInt (.bool b) = some (.int (if b then 1 else 0)) := rfl
@[simp] theorem od_eqi : dEq (.int x) (.int y) = some (.bool (decide (x = y))) := by
  unfold dEq okD
  rw [show PyData.eqv (.int x) (.int y) = decide (x = y) by simp [PyData.eqv, BEq.beq]]
  rfl
@[simp] theorem od_nei : dNe (.int x) (.int y) = some (.bool (!decide (x = y))) := by
  unfold dNe okD
  rw [show PyData.eqv (.int x) (.int y) = decide (x = y) by simp [PyData.eqv, BEq.beq]]
  rfl
@[simp] theorem od_tup (xs : List D) : dTup xs = if len24 xs.length then some (.tuple xs) else none := rfl
@[simp] theorem od_lst (xs : List D) : dLst xs = if len24 xs.length then some (.list xs) else none := rfl
@[simp] theorem od_seql (xs : List D) : seqOf (.list xs) = some xs := rfl
@[simp] theorem od_seqt (xs : List D) : seqOf (.tuple xs) = some xs := rfl
@[simp] theorem od_ixt (xs : List D) : dIx (.tuple xs) (.int x) = L2.atI xs x := rfl
@[simp] theorem od_ixl (xs : List D) : dIx (.list xs) (.int x) = L2.atI xs x := rfl
@[simp] theorem od_lent (xs : List D) : dLen (.tuple xs) = some (.int xs.length) := rfl
@[simp] theorem od_lenl (xs : List D) : dLen (.list xs) = some (.int xs.length) := rfl
@[simp] theorem od_tupl (xs : List D) : dTuple (.list xs) = some (.tuple xs) := rfl
@[simp] theorem od_tupt (xs : List D) : dTuple (.tuple xs) = some (.tuple xs) := rfl
theorem whileF_eq : whileF te m ρ = match te ρ with
  | some (ρ1, true) => (match m ρ1 with
    | some (ρ2, .nx) => whileF te m ρ2
    | some (ρ2, .ct) => whileF te m ρ2
    | some (ρ2, .bk) => some (ρ2, .nx)
    | some (ρ2, .rt c) => some (ρ2, .rt c)
    | none => none)
  | some (ρ1, false) => some (ρ1, .nx)
  | none => none := by
  rw [whileF]
  first
  | done
  | (rcases te ρ with _ | ⟨ρ1, _ | _⟩
     · rfl
     · rfl
     · dsimp only
       rcases m ρ1 with _ | ⟨ρ2, _ | _ | _ | _⟩ <;> rfl)
theorem sWhile_eq : sWhile te m ρ = match te ρ with
  | some (ρ1, true) => (match m ρ1 with
    | some (ρ2, .nx) => sWhile te m ρ2
    | some (ρ2, .ct) => sWhile te m ρ2
    | some (ρ2, .bk) => some (ρ2, .nx)
    | some (ρ2, .rt c) => some (ρ2, .rt c)
    | none => none)
  | some (ρ1, false) => some (ρ1, .nx)
  | none => none := whileF_eq ρ te m
@[simp] theorem at_nn (xs : List D) (n : Nat) (h : n < xs.length) : L2.atI xs (n : Int) = xs[n]? := by
  unfold L2.atI L2.ixN
  simp [h]
@[simp] theorem at0 (x : D) (xs : List D) : L2.atI (x :: xs) 0 = some x := by
  have := at_nn (x :: xs) 0 (by simp)
  simpa using this
@[simp] theorem at1 (x y : D) (xs : List D) : L2.atI (x :: y :: xs) 1 = some y := by
  have := at_nn (x :: y :: xs) 1 (by simp)
  simpa using this
end L3
/-! Running the pure side: drawings, loops. -/
namespace L3
open PySem
variable (ρ : Env) (i : Nat) (a b c d : P) (s : Src) (n : Int) (k : Str) (fx : Bool)
@[simp] theorem src_getl : s.get "left" = some s.left := rfl
@[simp] theorem src_getm : s.get "mixed" = some s.mixed := rfl
@[simp] theorem src_gett : s.get "turn" = some s.turn := rfl
@[simp] theorem src_putl : s.put "left" n = some { s with left := n } := rfl
@[simp] theorem src_putm : s.put "mixed" n = some { s with mixed := n } := rfl
@[simp] theorem src_putt : s.put "turn" n = some { s with turn := n } := rfl
@[simp] theorem ev_pSrc : pSrc i k ρ = match ρ[i]? with
  | some (.own _ (.src s)) => (match s.get k with | some n => some (.int n) | none => none)
  | _ => none := rfl
@[simp] theorem ev_pSrcC : pSrcC i ρ = match ρ[i]? with
  | some (.own _ (.src s)) => some (.list (s.cells.map .int))
  | _ => none := rfl
@[simp] theorem ev_sSrcPut : sSrcPut i k a ρ = match a ρ, ρ[i]? with
  | some (.int n), some (.own fx (.src s)) => (match s.put k n with | some s' => some (ρ.set i (.own fx (.src s')), .nx) | none => none)
  | _, _ => none := rfl
@[simp] theorem ev_sSrcPop : sSrcPop i k ρ = match ρ[i]? with
  | some (.own fx (.src s)) => (match s.cells.getLast? with
    | some n => (match ({ s with cells := s.cells.dropLast } : Src).put k n with | some s' => some (ρ.set i (.own fx (.src s')), .nx) | none => none)
    | none => none)
  | _ => none := rfl
@[simp] theorem ev_eSrc : eSrc a b c d ρ = match a ρ, b ρ, c ρ, d ρ with
  | some (.list xs), some (.int l), some (.int m), some (.int t) => (match intsOf xs with | some ns => some (ρ, .own false (.src ⟨ns, l, m, t⟩)) | none => none)
  | _, _, _, _ => none := rfl
@[simp] theorem ev_iScr : iScr i ρ = match ρ[i]? with | some (.scr ns) => some (ρ, ns.map .int) | _ => none := rfl
@[simp] theorem ev_ipScr : ipScr i ρ = match ρ[i]? with | some (.scr ns) => some (ns.map .int) | _ => none := rfl
@[simp] theorem ev_eCallS (F : Fn) : eCallS F i ρ = match ρ[i]? with
  | some (.scr ns) => (match F [.scr ns] with | some (_, c) => some (ρ, c) | none => none)
  | _ => none := rfl
@[simp] theorem od_max (x y : Int) : dMax2 (.int x) (.int y) = some (.int (if y > x then y else x)) := rfl
@[simp] theorem od_min (x y : Int) : dMin2 (.int x) (.int y) = some (.int (if y < x then y else x)) := rfl
@[simp] theorem intsOf_map (ns : List Int) : intsOf (ns.map .int) = some ns := by
  induction ns with
  | nil => rfl
  | cons n r ih => simp [intsOf, ih]
end L3
/-! How long a value's text is. -/
namespace L3
open PySem
mutual
/-- a bound of the text's length -/
def wt : D → Nat
  | .none => 4
  | .bool _ => 5
  | .int _ => 1921
  | .str x => (reprText x).length
  | .list xs => wts xs + 2
  | .tuple xs => wts xs + 3
  | .dict kvs => (dictText (PyData.shownKv kvs)).length
def wts : List D → Nat
  | [] => 0
  | x :: r => wt x + 2 + wts r
end
theorem textFrom_le : ∀ (ts : List Str) (k : Nat) (acc : Str), (textFrom k acc ts).length ≤ acc.length + (ts.map fun t => t.length + 2).sum
  | [], k, acc => by show acc.length ≤ _; simp
  | t :: r, k, acc => by
    have h1 := textFrom_le r (k + 1) (acc ++ (if k > 0 then ", " else "" : String) ++ t)
    have e : (acc ++ (if k > 0 then ", " else "" : String) ++ t).length = acc.length + (if k > 0 then 2 else 0) + t.length := by
      rw [strLen_append, strLen_append]
      split <;> rfl
    have h2 : (if k > 0 then 2 else 0 : Nat) ≤ 2 := by split <;> omega
    show (textFrom (k + 1) _ r).length ≤ _
    rw [e] at h1
    simp only [List.map_cons, List.sum_cons]
    omega
theorem tupleText_le (ts : List Str) : (tupleText ts).length ≤ (ts.map fun t => t.length + 2).sum + 3 := by
  unfold tupleText
  rw [strLen_append, strLen_append]
  have e1 : ((("(" : String) : Str)).length = 1 := rfl
  have e3 : (((if ts.length == 1 then ",)" else ")" : String) : Str)).length ≤ 2 := by split <;> decide
  by_cases h : ts = []
  · subst h
    show 1 + 0 + _ ≤ _
    omega
  · have := join_length_add ts h
    unfold piled at this
    omega
theorem listText_le (ts : List Str) : (listText ts).length ≤ (ts.map fun t => t.length + 2).sum + 2 := by
  unfold listText
  rw [strLen_append]
  have := textFrom_le ts 0 "["
  have e1 : ((("[" : String) : Str)).length = 1 := rfl
  have e2 : ((("]" : String) : Str)).length = 1 := rfl
  omega
mutual
theorem shown_le : ∀ d : D, d.showable = true → d.shown.length ≤ wt d
  | .none, _ => by decide
  | .bool b, _ => by cases b <;> decide
  | .int i, h => by
    have h : i.natAbs.log2 < 1920 := by simpa [PyData.showable] using h
    exact PyProof.Rows.int_text_len_1921 h
  | .str x, _ => Nat.le_refl _
  | .list xs, h => by
    have := shownAll_le xs (by simpa [PyData.showable] using h)
    have := listText_le (PyData.shownAll xs)
    show (listText (PyData.shownAll xs)).length ≤ wts xs + 2
    omega
  | .tuple xs, h => by
    have := shownAll_le xs (by simpa [PyData.showable] using h)
    have := tupleText_le (PyData.shownAll xs)
    show (tupleText (PyData.shownAll xs)).length ≤ wts xs + 3
    omega
  | .dict kvs, _ => Nat.le_refl _
theorem shownAll_le : ∀ xs : List D, PyData.showableAll xs = true → ((PyData.shownAll xs).map fun t => t.length + 2).sum ≤ wts xs
  | [], _ => by simp [PyData.shownAll, wts]
  | x :: r, h => by
    simp only [PyData.showableAll, Bool.and_eq_true] at h
    have h1 := shown_le x h.1
    have h2 := shownAll_le r h.2
    simp only [PyData.shownAll, List.map_cons, List.sum_cons, wts]
    omega
end
theorem dRepr_some {d : D} (h1 : d.showable = true) (h2 : d.depth ≤ 50) (h3 : d.hasDict = false ∨ noList d = true) (h4 : wt d ≤ 16777216) : dRepr d = some (.str d.shown) := by
  have := shown_le d h1
  unfold dRepr
  rw [if_pos]
  simp only [Bool.and_eq_true, Bool.or_eq_true, Bool.not_eq_true', decide_eq_true_eq]
  exact ⟨⟨⟨h1, h2⟩, h3⟩, decide_eq_true (by omega)⟩
theorem showableAll_of : ∀ {xs : List D}, (∀ x ∈ xs, x.showable = true) → PyData.showableAll xs = true
  | [], _ => rfl
  | x :: r, h => by
    rw [PyData.showableAll, h x (List.mem_cons_self ..), showableAll_of fun y hy => h y (List.mem_cons_of_mem _ hy)]; rfl
theorem depthAll_le {n : Nat} : ∀ {xs : List D}, (∀ x ∈ xs, x.depth ≤ n) → PyData.depthAll xs ≤ n
  | [], _ => Nat.zero_le _
  | x :: r, h => by
    have h1 := h x (List.mem_cons_self ..)
    have h2 := depthAll_le fun y hy => h y (List.mem_cons_of_mem _ hy)
    rw [PyData.depthAll]
    omega
theorem hasDictAll_of : ∀ {xs : List D}, (∀ x ∈ xs, x.hasDict = false) → PyData.hasDictAll xs = false
  | [], _ => rfl
  | x :: r, h => by
    rw [PyData.hasDictAll, h x (List.mem_cons_self ..), hasDictAll_of fun y hy => h y (List.mem_cons_of_mem _ hy)]; rfl
theorem noLists_of : ∀ {xs : List D}, (∀ x ∈ xs, noList x = true) → noLists xs = true
  | [], _ => rfl
  | x :: r, h => by
    rw [noLists, h x (List.mem_cons_self ..), noLists_of fun y hy => h y (List.mem_cons_of_mem _ hy)]; rfl
theorem wts_le {n : Nat} : ∀ {xs : List D}, (∀ x ∈ xs, wt x ≤ n) → wts xs ≤ xs.length * (n + 2)
  | [], _ => Nat.zero_le _
  | x :: r, h => by
    have h1 := h x (List.mem_cons_self ..)
    have h2 := wts_le fun y hy => h y (List.mem_cons_of_mem _ hy)
    rw [wts, List.length_cons, Nat.succ_mul]
    omega
/-- of small parts -/
structure Part (x : D) : Prop where
  sh : x.showable = true
  dp : x.depth ≤ 20
  wt : wt x ≤ 10000
theorem repr_tuple {xs : List D} (h : ∀ x ∈ xs, Part x) (hd : (∀ x ∈ xs, x.hasDict = false) ∨ ∀ x ∈ xs, noList x = true) (hl : xs.length ≤ 1000) : ∃ t, dRepr (.tuple xs) = some (.str t) := by
  refine ⟨_, dRepr_some ?_ ?_ ?_ ?_⟩
  · show PyData.showableAll xs = true
    exact showableAll_of fun x hx => (h x hx).sh
  · have := depthAll_le fun x hx => (h x hx).dp
    simp only [PyData.depth]
    omega
  · rcases hd with hd | hd
    · exact .inl (hasDictAll_of hd)
    · exact .inr (noLists_of hd)
  · have := wts_le fun x hx => (h x hx).wt
    have : xs.length * (10000 + 2) ≤ 1000 * (10000 + 2) := Nat.mul_le_mul_right _ hl
    show wts xs + 3 ≤ _
    omega
theorem repr_list {xs : List D} (h : ∀ x ∈ xs, Part x) (hd : ∀ x ∈ xs, x.hasDict = false) (hl : xs.length ≤ 1000) : ∃ t, dRepr (.list xs) = some (.str t) := by
  refine ⟨_, dRepr_some ?_ ?_ ?_ ?_⟩
  · show PyData.showableAll xs = true
    exact showableAll_of fun x hx => (h x hx).sh
  · have := depthAll_le fun x hx => (h x hx).dp
    simp only [PyData.depth]
    omega
  · exact .inl (hasDictAll_of hd)
  · have := wts_le fun x hx => (h x hx).wt
    have : xs.length * (10000 + 2) ≤ 1000 * (10000 + 2) := Nat.mul_le_mul_right _ hl
    show wts xs + 2 ≤ _
    omega
theorem part_int {i : Int} (h : i.natAbs.log2 < 1920) : Part (.int i) := ⟨decide_eq_true h, Nat.zero_le _, by show 1921 ≤ _; omega⟩
theorem part_bool {b : Bool} : Part (.bool b) := ⟨rfl, Nat.zero_le _, by show 5 ≤ _; omega⟩
end L3
/-! Running a law's body: an environment by what is known of it. -/
namespace L3
open PySem
/-- n places; the drawing's source at 1; nothing else is owned -/
structure G (n : Nat) (ρ : L3.Env) (s : Src) : Prop where
  len : ρ.length = n
  src : ρ[1]? = some (.own false (.src s))
  free : ∀ i, i ≠ 1 → ∀ fx o, ρ[i]? ≠ some (.own fx o)
def Fr (L : List Nat) (ρ ρ' : L3.Env) : Prop := ∀ j, j ∉ L → ρ'[j]? = ρ[j]?
section
variable {n : Nat} {ρ ρ' : L3.Env} {s s' : Src} {i j : Nat} {x : Cell}
theorem G.put (g : G n ρ s) (h1 : i ≠ 1) (hi : i < n) : put i x ρ = some (ρ.set i x) := by
  unfold L3.put
  cases e : ρ[i]? with
  | none => rw [List.getElem?_eq_none_iff, g.len] at e; omega
  | some c =>
    cases c with
    | own fx o => exact absurd e (g.free i h1 fx o)
    | _ => rfl
theorem G.set (g : G n ρ s) (h1 : i ≠ 1) (hx : isOwn x = false) : G n (ρ.set i x) s := by
  refine ⟨by rw [List.length_set]; exact g.len, by rw [List.getElem?_set_ne h1]; exact g.src, fun j hj fx o e => ?_⟩
  by_cases h : i = j
  · subst h
    rw [List.getElem?_set] at e
    split at e
    · split at e
      · cases e; cases hx
      · cases e
    · rename_i z; exact z rfl
  · rw [List.getElem?_set_ne h] at e
    exact g.free j hj fx o e
theorem G.one (g : G n ρ s) (hn : 1 < n) : G n (ρ.set 1 (.own false (.src s'))) s' := by
  refine ⟨by rw [List.length_set]; exact g.len, List.getElem?_set_self (by rw [g.len]; exact hn), fun j hj fx o e => ?_⟩
  rw [List.getElem?_set_ne (Ne.symm hj)] at e
  exact g.free j hj fx o e
theorem G.got (g : G n ρ s) (hi : i < n) : (ρ.set i x)[i]? = some x := List.getElem?_set_self (by rw [g.len]; exact hi)
theorem Fr.refl (L : List Nat) : Fr L ρ ρ := fun _ _ => rfl
theorem Fr.set (h : i ∈ L) : Fr L ρ (ρ.set i x) := fun j hj => List.getElem?_set_ne (by rintro rfl; exact hj h)
theorem Fr.trans {ρ2 : L3.Env} {L : List Nat} (a : Fr L ρ ρ') (b : Fr L ρ' ρ2) : Fr L ρ ρ2 := fun j hj => (b j hj).trans (a j hj)
theorem Fr.more {L M : List Nat} (a : Fr L ρ ρ') (h : ∀ x ∈ L, x ∈ M) : Fr M ρ ρ' := fun j hj => a j fun z => hj (h j z)
/-- a statement runs on, with what is known then -/
def Ok (b : Sm) (ρ : L3.Env) (Q : L3.Env → Out → Prop) : Prop := ∃ ρ' o, b ρ = some (ρ', o) ∧ Q ρ' o
theorem Ok.seq {a b : Sm} {Q : L3.Env → Out → Prop} (h : Ok a ρ fun ρ1 o => o = .nx ∧ Ok b ρ1 Q) : Ok (sSeq a b) ρ Q := by
  obtain ⟨ρ1, o, e, rfl, ρ2, o2, e2, q⟩ := h
  exact ⟨ρ2, o2, by rw [ev_sSeq, e]; exact e2, q⟩
theorem Ok.val {p : P} {d : D} {Q : L3.Env → Out → Prop} (g : G n ρ s) (e : p ρ = some d) (h1 : i ≠ 1) (hi : i < n) (q : Q (ρ.set i (.val d)) .nx) : Ok (sVal i (eP p)) ρ Q :=
  ⟨_, _, by rw [ev_sVal, ev_eP, e]; dsimp only; rw [ev_toD_val]; dsimp only; rw [g.put h1 hi], q⟩
theorem Ok.ifF {t : T} {a : Sm} {Q : L3.Env → Out → Prop} (e : t ρ = some false) (q : Q ρ .nx) : Ok (sIf (tP t) a sNx) ρ Q := ⟨_, _, by rw [ev_sIf, ev_tP, e]; rfl, q⟩
/-- over the items of a loop, an invariant by their number -/
theorem Ok.for {p : Pat} {a : Ie} {b : Sm} {Q : L3.Env → Out → Prop} {xs : List D} {ρ1 : L3.Env} (e : a ρ = some (ρ1, xs)) (I : Nat → L3.Env → Prop) (h0 : I 0 ρ1)
    (hs : ∀ k ρ (hk : k < xs.length), I k ρ → ∃ ρ2, bind p xs[k] ρ = some ρ2 ∧ Ok b ρ2 fun ρ3 o => o = .nx ∧ I (k + 1) ρ3) (q : ∀ ρ, I xs.length ρ → Q ρ .nx) : Ok (sFor p a b) ρ Q := by
  have go : ∀ (m k : Nat), k + m = xs.length → ∀ ρ, I k ρ → ∃ ρ', forL p b (xs.drop k) ρ = some (ρ', .nx) ∧ I xs.length ρ' := fun m => by
    induction m with
    | zero =>
      intro k hk ρ hi
      rw [List.drop_eq_nil_of_le (by omega), forL]
      exact ⟨ρ, rfl, by rw [← hk]; exact hi⟩
    | succ m ih =>
      intro k hk ρ hi
      have hlt : k < xs.length := by omega
      obtain ⟨ρ2, e1, ρ3, o, e2, rfl, i2⟩ := hs k ρ hlt hi
      obtain ⟨ρ4, e3, i3⟩ := ih (k + 1) (by omega) ρ3 i2
      refine ⟨ρ4, ?_, i3⟩
      rw [List.drop_eq_getElem_cons hlt, forL, e1]
      dsimp only
      rw [e2]
      exact e3
  obtain ⟨ρ', e2, i2⟩ := go xs.length 0 (by omega) ρ1 h0
  rw [List.drop_zero] at e2
  exact ⟨ρ', .nx, by rw [ev_sFor, e]; exact e2, q ρ' i2⟩
end
end L3
/-! k05, the plain law: fractions. -/
namespace K05
open PySem PySem.Spec PyProof.Rows L2 L3
theorem fmod_nn (a b : Nat) : Int.fmod (a : Int) (b : Int) = ((a % b : Nat) : Int) := by
  rw [Int.fmod_eq_emod_of_nonneg _ (Int.natCast_nonneg b)]; rfl
theorem gcd_step (a b : Nat) : Nat.gcd b (a % b) = Nat.gcd a b := by
  rw [Nat.gcd_comm b, ← Nat.gcd_rec, Nat.gcd_comm]
theorem loop_cd : ∀ (b a : Nat), sWhile (tP (tV (p2 dGt (pVar 1) (pC (.int 0))))) (sPar [0, 1] [eP (pVar 1), eP (p2 dMod (pVar 0) (pVar 1))]) [.val (.int a), .val (.int b)] = some ([.val (.int (Nat.gcd a b : Nat)), .val (.int 0)], .nx) := by
  intro b
  induction b using Nat.strongRecOn with
  | _ b ih =>
    intro a
    rw [sWhile_eq]
    by_cases h : b = 0
    · subst h; simp
    · have h0 : 0 < b := Nat.pos_of_ne_zero h
      have h1 : (0 : Int) < (b : Int) := by omega
      have h2 : (b : Int) ≠ 0 := by omega
      have z := ih (a % b) (Nat.mod_lt _ h0) b
      rw [gcd_step] at z
      simp [h0, h, h1, h2, fmod_nn]
      simpa using z
theorem loop_lc : ∀ (b a : Nat), sWhile (tP (tV (p2 dGt (pVar 1) (pC (.int 0))))) (sPar [0, 1] [eP (pVar 1), eP (p2 dMod (pN (l1 dInt) [pVar 0]) (pVar 1))]) [.val (.int a), .val (.int b)] = some ([.val (.int (Nat.gcd a b : Nat)), .val (.int 0)], .nx) := by
  intro b
  induction b using Nat.strongRecOn with
  | _ b ih =>
    intro a
    rw [sWhile_eq]
    by_cases h : b = 0
    · subst h; simp
    · have h0 : 0 < b := Nat.pos_of_ne_zero h
      have h1 : (0 : Int) < (b : Int) := by omega
      have h2 : (b : Int) ≠ 0 := by omega
      have z := ih (a % b) (Nat.mod_lt _ h0) b
      rw [gcd_step] at z
      simp [h0, h, h1, h2, fmod_nn]
      simpa using z
theorem loop_lf (P Q : Cell) : ∀ (b a : Nat), sWhile (tP (tV (p2 dGt (pVar 3) (pC (.int 0))))) (sPar [2, 3] [eP (pVar 3), eP (p2 dMod (pN (l1 dInt) [pVar 2]) (pVar 3))]) [P, Q, .val (.int a), .val (.int b)] = some ([P, Q, .val (.int (Nat.gcd a b : Nat)), .val (.int 0)], .nx) := by
  intro b
  induction b using Nat.strongRecOn with
  | _ b ih =>
    intro a
    rw [sWhile_eq]
    by_cases h : b = 0
    · subst h; simp
    · have h0 : 0 < b := Nat.pos_of_ne_zero h
      have h1 : (0 : Int) < (b : Int) := by omega
      have h2 : (b : Int) ≠ 0 := by omega
      have z := ih (a % b) (Nat.mod_lt _ h0) b
      rw [gcd_step] at z
      simp [h0, h, h1, h2, fmod_nn]
      simpa using z
theorem abs_nat (x : Int) : (if x < 0 then -x else x) = (x.natAbs : Int) := by
  split <;> omega
theorem common_divisor (a b : Int) : F_common_divisor [.val (.int a), .val (.int b)] = some ([.un, .un], .val (.int (Int.gcd a b : Nat))) := by
  unfold F_common_divisor g_common_divisor
  have z := loop_cd b.natAbs a.natAbs
  simp only [ev_mkFn, ev_sSeq, ev_sPar, ev_ecells1, ev_ecells0]
  simp [abs_nat, z, Int.gcd]
theorem law_common (a b : Nat) : F__law_common [.val (.int a), .val (.int b)] = some ([.un, .un], .val (.int (Nat.gcd a b : Nat))) := by
  unfold F__law_common g__law_common
  have z := loop_lc b a
  simp only [ev_mkFn, ev_sSeq]
  simp [z]
/-- a fraction's form -/
def norm (p q : Int) : Int × Int := if 0 < q then (p / (Int.gcd p q : Nat), q / (Int.gcd p q : Nat)) else (-p / (Int.gcd p q : Nat), -q / (Int.gcd p q : Nat))
def frD (x : Int × Int) : D := .tuple [.int x.1, .int x.2]
/-- small enough for a division -/
def Sm9 (q : Int) : Prop := q.natAbs.log2 < 9000
theorem divOk_of {q : Int} (h : q ≠ 0) (s : q.natAbs.log2 < 9000) : divOk q = true := decide_eq_true ⟨h, s⟩
theorem log2_mono {a b : Nat} (h : a ≤ b) : a.log2 ≤ b.log2 := by
  by_cases ha : a = 0
  · subst ha; simp
  · exact (Nat.le_log2 (by omega)).mpr (Nat.le_trans (Nat.log2_self_le ha) h)
theorem gcd_ok {p q : Int} (h : q ≠ 0) (s : q.natAbs.log2 < 9000) : divOk ((Int.gcd p q : Nat) : Int) = true ∧ divOk (-((Int.gcd p q : Nat) : Int)) = true := by
  have hg : Int.gcd p q ≤ q.natAbs := Nat.le_of_dvd (by omega) (Nat.gcd_dvd_right _ _)
  have h0 : 0 < Int.gcd p q := Nat.pos_of_ne_zero fun z => h (Int.gcd_eq_zero_iff.mp z).2
  have hl := log2_mono hg
  refine ⟨divOk_of (by omega) ?_, divOk_of (by omega) ?_⟩
  · rw [Int.natAbs_natCast]; omega
  · rw [Int.natAbs_neg, Int.natAbs_natCast]; omega
theorem fdiv_pos (p : Int) {g : Nat} : p.fdiv (g : Int) = p / (g : Int) := Int.fdiv_eq_ediv_of_nonneg p (Int.natCast_nonneg g)
theorem fdiv_negd {p : Int} {g : Nat} (h : (g : Int) ∣ p) : p.fdiv (-(g : Int)) = -p / (g : Int) := by
  obtain ⟨k, rfl⟩ := h
  by_cases hg : (g : Int) = 0
  · rw [hg]; simp
  · rw [Int.fdiv_eq_ediv_of_dvd ⟨-k, by rw [Int.mul_neg, Int.neg_mul, Int.neg_neg]⟩, show (g : Int) * k = -(g : Int) * (-k) by rw [Int.mul_neg, Int.neg_mul, Int.neg_neg], Int.mul_ediv_cancel_left _ (by omega)]
    rw [show -(-(g : Int) * -k) = (g : Int) * (-k) by rw [Int.neg_mul, Int.neg_neg], Int.mul_ediv_cancel_left _ hg]
theorem fraction_of (p q : Int) (h : q ≠ 0) (s : q.natAbs.log2 < 9000) : F_fraction_of [.val (.int p), .val (.int q)] = some ([.un, .un], .val (frD (norm p q))) := by
  obtain ⟨g1, g2⟩ := gcd_ok (p := p) h s
  have d1 : ((Int.gcd p q : Nat) : Int) ∣ p := Int.gcd_dvd_left ..
  have d2 : ((Int.gcd p q : Nat) : Int) ∣ q := Int.gcd_dvd_right ..
  unfold F_fraction_of g_fraction_of
  by_cases hq : 0 < q
  · simp [common_divisor, hq, g1, fdiv_pos, norm, frD, len24]
  · simp [common_divisor, hq, g2, fdiv_negd d1, fdiv_negd d2, norm, frD, len24]
theorem law_fraction (p q : Int) (h : q ≠ 0) (s : q.natAbs.log2 < 9000) : F__law_fraction [.val (.int p), .val (.int q)] = some ([.un, .un], .val (frD (norm p q))) := by
  obtain ⟨g1, g2⟩ := gcd_ok (p := p) h s
  unfold F__law_fraction g__law_fraction
  have z := loop_lf (.val (.int p)) (.val (.int q)) q.natAbs p.natAbs
  simp only [ev_mkFn, ev_sSeq, ev_sPar, ev_ecells1, ev_ecells0]
  rw [show Nat.gcd p.natAbs q.natAbs = Int.gcd p q from rfl] at z
  by_cases hq : 0 < q
  · simp [abs_nat, z, hq, g1, fdiv_pos, norm, frD, len24]
  · simp [abs_nat, z, hq, g1, fdiv_pos, norm, frD, len24]
end K05
/-! k05, the plain law: parts. -/
namespace K05
open PySem PySem.Spec PyProof.Rows L2 L3
def normP (p q : Int) : Int × Int := norm ((norm p q).1 % (norm p q).2) (norm p q).2
theorem gcd_pos {p q : Int} (h : q ≠ 0) : 0 < Int.gcd p q := Nat.pos_of_ne_zero fun z => h (Int.gcd_eq_zero_iff.mp z).2
theorem natAbs_ediv_le (a : Int) (g : Nat) : (g : Int) ∣ a → (a / (g : Int)).natAbs ≤ a.natAbs := fun ⟨k, e⟩ => by
  by_cases hg : g = 0
  · subst hg; simp
  · rw [e, Int.mul_ediv_cancel_left _ (by omega), Int.natAbs_mul]
    exact Nat.le_mul_of_pos_left _ (by rw [Int.natAbs_natCast]; omega)
theorem norm_pos {p q : Int} (h : q ≠ 0) : 0 < (norm p q).2 ∧ (norm p q).2.natAbs ≤ q.natAbs ∧ (norm p q).1.natAbs ≤ p.natAbs := by
  have h0 : (0 : Int) < ((Int.gcd p q : Nat) : Int) := by have := gcd_pos (p := p) h; omega
  have d1 : ((Int.gcd p q : Nat) : Int) ∣ p := Int.gcd_dvd_left ..
  have d2 : ((Int.gcd p q : Nat) : Int) ∣ q := Int.gcd_dvd_right ..
  unfold norm
  split
  · rename_i hq
    refine ⟨Int.ediv_pos_of_pos_of_dvd hq (by omega) d2, natAbs_ediv_le _ _ d2, natAbs_ediv_le _ _ d1⟩
  · rename_i hq
    refine ⟨Int.ediv_pos_of_pos_of_dvd (by omega) (by omega) (Int.dvd_neg.mpr d2), ?_, ?_⟩
    · have := natAbs_ediv_le _ _ (Int.dvd_neg.mpr d2); rwa [Int.natAbs_neg] at this
    · have := natAbs_ediv_le _ _ (Int.dvd_neg.mpr d1); rwa [Int.natAbs_neg] at this
theorem log2_le {a b : Int} (h : a.natAbs ≤ b.natAbs) (s : b.natAbs.log2 < 9000) : a.natAbs.log2 < 9000 := Nat.lt_of_le_of_lt (log2_mono h) s
theorem fmod_pos {a b : Int} (h : 0 < b) : a.fmod b = a % b := Int.fmod_eq_emod_of_nonneg a (by omega)
theorem part_of (p q : Int) (h : q ≠ 0) (s : q.natAbs.log2 < 9000) : F_part_of [.val (.int p), .val (.int q)] = some ([.un, .un], .val (frD (normP p q))) := by
  obtain ⟨n1, n2, n3⟩ := norm_pos (p := p) h
  have z := fraction_of ((norm p q).1 % (norm p q).2) (norm p q).2 (by omega) (log2_le n2 s)
  have hn : (norm p q).2 ≠ 0 := by omega
  unfold F_part_of g_part_of
  simp [fraction_of p q h s, frD, hn, fmod_pos n1, z, normP]
theorem law_part (p q : Int) (h : q ≠ 0) (s : q.natAbs.log2 < 9000) : F__law_part [.val (.int p), .val (.int q)] = some ([.un, .un], .val (frD (normP p q))) := by
  obtain ⟨n1, n2, n3⟩ := norm_pos (p := p) h
  have z := law_fraction ((norm p q).1 % (norm p q).2) (norm p q).2 (by omega) (log2_le n2 s)
  have hn : (norm p q).2 ≠ 0 := by omega
  unfold F__law_part g__law_part
  simp [law_fraction p q h s, frD, hn, fmod_pos n1, z, normP]
/-! ### sizes -/
/-- below 2^31 -/
def S31 (x : Int) : Prop := x.natAbs < 2147483648
theorem mulOk31 {a b : Int} (h : S31 a) : mulOk a b = true := decide_eq_true (.inr (.inl (by unfold S31 at h; omega)))
theorem mulOk31' {a b : Int} (h : S31 b) : mulOk a b = true := decide_eq_true (.inr (.inr (by unfold S31 at h; omega)))
theorem mul31 {a b : Int} (h : S31 a) (k : S31 b) : (a * b).natAbs < 4611686018427387904 := by
  rw [Int.natAbs_mul]
  exact Nat.lt_of_lt_of_le (Nat.mul_lt_mul'' h k) (by decide)
theorem log2_64 {a : Nat} (h : a < 18446744073709551616) : a.log2 < 9000 := by
  by_cases ha : a = 0
  · subst ha; decide
  · have := (Nat.log2_lt ha).mpr (show a < 2 ^ 64 from h)
    omega
theorem mul_ne {a b : Int} (h : a ≠ 0) (k : b ≠ 0) : a * b ≠ 0 := Int.mul_ne_zero h k
theorem pair_ix0 (x : Int × Int) : dIx (frD x) (.int 0) = some (.int x.1) := by simp [frD]
theorem pair_ix1 (x : Int × Int) : dIx (frD x) (.int 1) = some (.int x.2) := by simp [frD]
theorem fraction_sum (x y : Int × Int) (h1 : S31 x.1) (h2 : S31 x.2) (h3 : S31 y.1) (h4 : S31 y.2) (n1 : x.2 ≠ 0) (n2 : y.2 ≠ 0) :
    F_fraction_sum [.val (frD x), .val (frD y)] = some ([.un, .un], .val (frD (norm (x.1 * y.2 + y.1 * x.2) (x.2 * y.2)))) := by
  have z := fraction_of (x.1 * y.2 + y.1 * x.2) (x.2 * y.2) (mul_ne n1 n2) (log2_64 (Nat.lt_trans (mul31 h2 h4) (by decide)))
  unfold F_fraction_sum g_fraction_sum
  simp [pair_ix0, pair_ix1, mulOk31 h1, mulOk31 h2, mulOk31 h3, z]
theorem fraction_times (x y : Int × Int) (h1 : S31 x.1) (h2 : S31 x.2) (h4 : S31 y.2) (n1 : x.2 ≠ 0) (n2 : y.2 ≠ 0) :
    F_fraction_times [.val (frD x), .val (frD y)] = some ([.un, .un], .val (frD (norm (x.1 * y.1) (x.2 * y.2)))) := by
  have z := fraction_of (x.1 * y.1) (x.2 * y.2) (mul_ne n1 n2) (log2_64 (Nat.lt_trans (mul31 h2 h4) (by decide)))
  unfold F_fraction_times g_fraction_times
  simp [pair_ix0, pair_ix1, mulOk31 h1, mulOk31 h2, z]
theorem fraction_turned (x : Int × Int) : F_fraction_turned [.val (frD x)] = some ([.un], .val (frD (-x.1, x.2))) := by
  unfold F_fraction_turned g_fraction_turned
  simp [pair_ix0, pair_ix1, len24]
  rfl
theorem part_sum (x y : Int × Int) (h1 : S31 x.1) (h2 : S31 x.2) (h3 : S31 y.1) (h4 : S31 y.2) (n1 : x.2 ≠ 0) (n2 : y.2 ≠ 0) :
    F_part_sum [.val (frD x), .val (frD y)] = some ([.un, .un], .val (frD (normP (x.1 * y.2 + y.1 * x.2) (x.2 * y.2)))) := by
  have z := part_of (x.1 * y.2 + y.1 * x.2) (x.2 * y.2) (mul_ne n1 n2) (log2_64 (Nat.lt_trans (mul31 h2 h4) (by decide)))
  unfold F_part_sum g_part_sum
  simp [pair_ix0, pair_ix1, mulOk31 h1, mulOk31 h2, mulOk31 h3, z]
theorem part_times (k : Int) (x : Int × Int) (h1 : S31 k) (h2 : S31 x.2) (n1 : x.2 ≠ 0) :
    F_part_times [.val (.int k), .val (frD x)] = some ([.un, .un], .val (frD (normP (k * x.1) x.2))) := by
  have z := part_of (k * x.1) x.2 n1 (log2_64 (Nat.lt_trans h2 (by decide)))
  unfold F_part_times g_part_times
  simp [pair_ix0, pair_ix1, mulOk31 h1, z]
theorem part_turned (x : Int × Int) (h2 : S31 x.2) (n1 : x.2 ≠ 0) :
    F_part_turned [.val (frD x)] = some ([.un], .val (frD (normP (-x.1) x.2))) := by
  have z := part_of (-x.1) x.2 n1 (log2_64 (Nat.lt_trans h2 (by decide)))
  unfold F_part_turned g_part_turned
  simp [pair_ix0, pair_ix1, z]
/-- one whole turn on -/
theorem norm_add (p q : Int) (h : 0 < q) : norm (p + q) q = ((norm p q).1 + (norm p q).2, (norm p q).2) := by
  have e : Int.gcd (p + q) q = Int.gcd p q := by simp
  have d2 : ((Int.gcd p q : Nat) : Int) ∣ q := Int.gcd_dvd_right ..
  unfold norm
  rw [if_pos h, if_pos h, e]
  rw [Int.add_ediv_of_dvd_right d2]
theorem normP_add (p q : Int) (h : 0 < q) : normP (p + q) q = normP p q := by
  unfold normP
  rw [norm_add p q h]
  simp
theorem half_of (x c : Int × Int) (h1 : S31 x.1) (h2 : S31 x.2) (h0 : 0 < x.2) :
    F_half_of [.val (frD x), .val (frD c)] = some ([.un, .un], .val (.tuple (if 2 * x.1 < x.2 then [frD x, frD c] else [frD (normP (2 * x.1 - x.2) (2 * x.2)), frD (-c.1, c.2)]))) := by
  unfold F_half_of g_half_of
  have z := part_sum x (1, 2) h1 h2 (show S31 1 by unfold S31; decide) (show S31 2 by unfold S31; decide) (by omega) (by decide)
  have e : normP (x.1 * 2 + 1 * x.2) (x.2 * 2) = normP (2 * x.1 - x.2) (2 * x.2) := by
    have := normP_add (2 * x.1 - x.2) (2 * x.2) (by omega)
    rw [← this]
    congr 1 <;> omega
  simp only [e] at z
  have z2 := fraction_turned c
  have m2 : mulOk 2 x.1 = true := mulOk31 (show S31 2 by unfold S31; decide)
  by_cases hb : 2 * x.1 < x.2
  · simp [pair_ix0, pair_ix1, m2, hb, len24]
  · have z3 : F_part_sum [.val (frD x), .val (.tuple [.int 1, .int 2])] = some ([.un, .un], .val (frD (normP (2 * x.1 - x.2) (2 * x.2)))) := z
    simp [pair_ix0, pair_ix1, m2, hb, len24, z3, z2]
end K05
/-! k05, the plain law: what is a fraction. -/
namespace K05
open PySem PySem.Spec PyProof.Rows L2 L3
def wh (d : D) : Bool := d.isInt && !d.isBool
theorem wh_int {d : D} (h : wh d = true) : ∃ n, d = .int n := by
  cases d <;> first | exact ⟨_, rfl⟩ | (simp [wh, PyData.isInt, PyData.isBool] at h)
theorem is_whole_number (d : D) : F_is_whole_number [.val d] = some ([.un], .val (.bool (wh d))) := by
  unfold F_is_whole_number g_is_whole_number
  cases d <;> simp [wh, PyData.isInt, PyData.isBool]
/-- a fraction: two whole numbers in lowest terms, the bottom above 0 -/
def isFr : D → Bool
  | .tuple [.int p, .int q] => decide (0 < q) && decide (Int.gcd p q = 1)
  | _ => false
theorem len2 (xs : List D) (h : xs.length ≠ 2) : ((xs.length : Int) = 2) = False := by
  apply propext
  constructor
  · intro z; omega
  · intro z; exact z.elim
theorem is_fraction (d : D) : F_is_fraction [.val d] = some ([.un], .val (.bool (isFr d))) := by
  unfold F_is_fraction g_is_fraction
  cases d with
  | tuple xs =>
    by_cases hl : xs.length = 2
    · match xs, hl with
      | [x, y], _ =>
        have hx := is_whole_number x
        have hy := is_whole_number y
        cases wx : wh x with
        | false =>
          rw [wx] at hx
          have e : isFr (.tuple [x, y]) = false := by cases x <;> first | rfl | (simp [wh, PyData.isInt, PyData.isBool] at wx)
          cases wy : wh y <;> rw [wy] at hy <;> simp [PyData.isTuple, pComp, compP, freeAt, isOwn, wipeE, hx, hy, dAll, small1, PyData.truthy, len24, e]
        | true =>
          obtain ⟨p, rfl⟩ := wh_int wx
          rw [wx] at hx
          cases wy : wh y with
          | false =>
            rw [wy] at hy
            have e : isFr (.tuple [.int p, y]) = false := by cases y <;> first | rfl | (simp [wh, PyData.isInt, PyData.isBool] at wy)
            simp [PyData.isTuple, pComp, compP, freeAt, isOwn, wipeE, hx, hy, dAll, small1, PyData.truthy, len24, e]
          | true =>
            obtain ⟨q, rfl⟩ := wh_int wy
            rw [wy] at hy
            have hg := common_divisor p q
            by_cases hq : 0 < q
            · simp [PyData.isTuple, pComp, compP, freeAt, isOwn, wipeE, hx, hy, dAll, small1, PyData.truthy, len24, hq, hg, isFr]
              omega
            · simp [PyData.isTuple, pComp, compP, freeAt, isOwn, wipeE, hx, hy, dAll, small1, PyData.truthy, len24, hq, hg, isFr]
    · have e : isFr (.tuple xs) = false := by
        match xs, hl with
        | [], _ => rfl
        | [x], _ => cases x <;> rfl
        | x :: y :: z :: r, _ => cases x <;> cases y <;> rfl
        | [x, y], h => exact absurd rfl h
      simp [PyData.isTuple, len2 xs hl, e]
  | _ => simp [PyData.isTuple, isFr]
theorem law_is_fraction (d : D) : F__law_is_fraction [.val d] = some ([.un], .val (.bool (isFr d))) := by
  unfold F__law_is_fraction g__law_is_fraction
  have ne1 : ∀ (x : D) (r : List D), dNe (.list (x :: r)) (.list []) = some (.bool true) := fun x r => by
    unfold dNe
    rw [show emp (.list (x :: r)) (.list []) = true from rfl]
    simp [PyData.eqv, PyData.eqvAll]
  have t1 : ∀ xs : List D, (PyData.tuple xs).isTuple = true := fun _ => rfl
  have i1 : ∀ p : Int, (PyData.int p).isInt = true := fun _ => rfl
  have i2 : ∀ p : Int, (PyData.int p).isBool = false := fun _ => rfl
  have ne0 : dNe (.list []) (.list []) = some (.bool false) := by rfl
  cases d with
  | tuple xs =>
    by_cases hl : xs.length = 2
    · match xs, hl with
      | [x, y], _ =>
        cases wx : wh x with
        | false =>
          have e : isFr (.tuple [x, y]) = false := by cases x <;> first | rfl | (simp [wh, PyData.isInt, PyData.isBool] at wx)
          have hx : (x.isInt = false ∨ x.isInt = true ∧ x.isBool = true) := by revert wx; unfold wh; cases x.isInt <;> cases x.isBool <;> simp
          have hy : (y.isInt = false ∨ (y.isInt = true ∧ y.isBool = true) ∨ (y.isInt = true ∧ y.isBool = false)) := by cases y.isInt <;> cases y.isBool <;> simp
          rcases hx with hx | ⟨hx, hx2⟩ <;> rcases hy with hy | ⟨hy, hy2⟩ | ⟨hy, hy2⟩ <;> simp [t1, pComp, compP, freeAt, isOwn, wipeE, len24, e, *]
        | true =>
          obtain ⟨p, rfl⟩ := wh_int wx
          cases wy : wh y with
          | false =>
            have e : isFr (.tuple [.int p, y]) = false := by cases y <;> first | rfl | (simp [wh, PyData.isInt, PyData.isBool] at wy)
            have hy : (y.isInt = false ∨ y.isInt = true ∧ y.isBool = true) := by revert wy; unfold wh; cases y.isInt <;> cases y.isBool <;> simp
            rcases hy with hy | ⟨hy, hy2⟩ <;> simp [t1, i1, i2, pComp, compP, freeAt, isOwn, wipeE, len24, e, *]
          | true =>
            obtain ⟨q, rfl⟩ := wh_int wy
            by_cases hq : 0 < q
            · have hg := law_common p.natAbs q.natAbs
              rw [show ((q.natAbs : Nat) : Int) = q by omega] at hg
              simp [t1, i1, i2, pComp, compP, freeAt, isOwn, wipeE, len24, hq, isFr, ne0, abs_nat, hg]
              rw [show Nat.gcd p.natAbs q.natAbs = Int.gcd p q from rfl]
              omega
            · simp [t1, i1, i2, pComp, compP, freeAt, isOwn, wipeE, len24, hq, isFr, ne0]
    · have e : isFr (.tuple xs) = false := by
        match xs, hl with
        | [], _ => rfl
        | [x], _ => cases x <;> rfl
        | x :: y :: z :: r, _ => cases x <;> cases y <;> rfl
        | [x, y], h => exact absurd rfl h
      simp [PyData.isTuple, len2 xs hl, e]
  | _ => simp [PyData.isTuple, isFr]
end K05
/-! k05, the plain law: drawings. -/
namespace K05
open PySem PySem.Spec PyProof.Rows L2 L3
def isPt : D → Bool
  | .tuple [.int p, .int q] => (decide (0 < q) && decide (Int.gcd p q = 1)) && (decide (0 ≤ p) && decide (p < q))
  | _ => false
theorem isFr_inv {d : D} (h : isFr d = true) : ∃ p q, d = .tuple [.int p, .int q] := by
  unfold isFr at h
  split at h
  · exact ⟨_, _, rfl⟩
  · cases h
theorem is_part (d : D) : F_is_part [.val d] = some ([.un], .val (.bool (isPt d))) := by
  unfold F_is_part g_is_part
  have z := is_fraction d
  cases h : isFr d with
  | false =>
    rw [h] at z
    have e : isPt d = false := by
      unfold isPt
      split
      · rename_i p q
        rw [show (decide (0 < q) && decide (Int.gcd p q = 1)) = isFr (.tuple [.int p, .int q]) from rfl, h]; rfl
      · rfl
    simp [z, e]
  | true =>
    obtain ⟨p, q, rfl⟩ := isFr_inv h
    rw [h] at z
    have e : isPt (.tuple [.int p, .int q]) = (decide (0 ≤ p) && decide (p < q)) := by
      show (isFr (.tuple [.int p, .int q]) && _) = _
      rw [h, Bool.true_and]
    by_cases h0 : 0 ≤ p
    · simp [z, e, h0]
    · simp [z, e, h0]
/-! ### drawing -/
abbrev tPick : TE' := tP (L3.tAnd (tV (p2 dGt (pVar 1) (pC (.int 1)))) (L3.tAnd (tV (p2 dLt (pSrc 0 "left") (pC (.int 2)))) (tV (p2 dGt (pN (l1 dLen) [pSrcC 0]) (pC (.int 0))))))
theorem loop_pick (m : Int) : ∀ (n : Nat) (s : Src), s.cells.length = n → ∃ s', sWhile tPick (sSrcPop 0 "left") [.own true (.src s), .val (.int m), .un, .un] = some ([.own true (.src s'), .val (.int m), .un, .un], .nx) := by
  intro n
  induction n with
  | zero =>
    intro s hs
    refine ⟨s, ?_⟩
    rw [sWhile_eq]
    by_cases h1 : 1 < m
    · by_cases h2 : s.left < 2
      · simp [tPick, h1, h2, hs]
      · simp [tPick, h1, h2]
    · simp [tPick, h1]
  | succ n ih =>
    intro s hs
    rw [sWhile_eq]
    by_cases h1 : 1 < m
    · by_cases h2 : s.left < 2
      · cases hg : s.cells.getLast? with
        | none => rw [List.getLast?_eq_none_iff] at hg; rw [hg] at hs; cases hs
        | some x =>
          obtain ⟨s', e⟩ := ih { s with cells := s.cells.dropLast, left := x } (by simp [hs])
          have hp : (0 : Int) < (n : Int) + 1 := by omega
          refine ⟨s', ?_⟩
          simp [tPick, h1, h2, hs, hg, hp]
          exact e
      · exact ⟨s, by simp [tPick, h1, h2]⟩
    · exact ⟨s, by simp [tPick, h1]⟩
theorem pick (s : Src) (m : Int) (hm : m.natAbs.log2 < 9000) : ∃ s' r, F__law_pick [.own true (.src s), .val (.int m)] = some ([.own true (.src s'), .un], .val (.int r)) ∧ 0 ≤ r ∧ (r < m ∨ r = 0) := by
  obtain ⟨s1, e1⟩ := loop_pick m _ s rfl
  have e1' := e1
  simp only [tPick] at e1'
  unfold F__law_pick g__law_pick
  by_cases hm2 : m < 2
  · by_cases hm1 : m > 1
    · omega
    · have d1 : divOk 1 = true := by decide
      exact ⟨{ s1 with left := s1.left.fdiv 1 }, 0, by simp [e1', hm2, hm1, d1], by omega, .inr rfl⟩
  · have hm1 : m > 1 := by omega
    have d1 : divOk m = true := divOk_of (by omega) hm
    have hmne : m ≠ 0 := by omega
    by_cases hl : 1 < s1.left
    · refine ⟨{ s1 with left := s1.left.fdiv m }, s1.left % m, by simp [e1', hm2, hm1, hl, d1, hmne, fmod_pos (show 0 < m by omega)], Int.emod_nonneg _ hmne, .inl (Int.emod_lt_of_pos _ (by omega))⟩
    · have mo : ∀ x : Int, mulOk x 104729 = true := fun x => mulOk31' (by unfold S31; decide)
      have mo2 : ∀ x : Int, mulOk x 17 = true := fun x => mulOk31' (by unfold S31; decide)
      have hb : ∀ x : Int, S31 (x % 998244353) := fun x => by unfold S31; have := Int.emod_nonneg x (b := 998244353) (by decide); have := Int.emod_lt_of_pos x (b := 998244353) (by decide); omega
      have d16 : divOk 16 = true := by decide
      have f1 : ∀ x : Int, x.fmod 998244353 = x % 998244353 := fun x => fmod_pos (by decide)
      have f2 : ∀ x : Int, x.fmod 2147483647 = x % 2147483647 := fun x => fmod_pos (by decide)
      have mm : ∀ x : Int, mulOk (x % 998244353) (x % 998244353) = true := fun x => mulOk31 (hb x)
      refine ⟨_, _, by simp [e1', hm2, hm1, hl, mo, mo2, f1, f2, mm, d16, hmne, fmod_pos (show 0 < m by omega)]; exact ⟨rfl, rfl⟩, Int.emod_nonneg _ hmne, .inl (Int.emod_lt_of_pos _ (by omega))⟩
end K05
/-! k05, the plain law: drawn values. -/
namespace K05
open PySem PySem.Spec PyProof.Rows L2 L3
theorem source_loop (sc : List Int) : ∀ (ns : List Int) (m : Int) (c : Cell), isOwn c = false → ∃ m' c', isOwn c' = false ∧
    forL (.nm 2) (sVal 1 (eP (p2 dMod (pN (l1 dInt) [p2 dAdd (p2 dAdd (p2 dMul (pVar 1) (pC (.int 69069))) (p2 dMul (pVar 2) (pC (.int 31)))) (pC (.int 5))]) (pC (.int 2147483629))))) (ns.map .int) [.scr sc, .val (.int m), c] = some ([.scr sc, .val (.int m'), c'], .nx) := by
  intro ns
  induction ns with
  | nil => intro m c hc; exact ⟨m, c, hc, rfl⟩
  | cons n r ih =>
    intro m c hc
    have m1 : mulOk m 69069 = true := mulOk31' (by unfold S31; decide)
    have m2 : mulOk n 31 = true := mulOk31' (by unfold S31; decide)
    obtain ⟨m', c', h1, h2⟩ := ih ((m * 69069 + n * 31 + 5).fmod 2147483629) (.val (.int n)) rfl
    refine ⟨m', c', h1, ?_⟩
    rw [List.map_cons, forL]
    cases c with
    | own fx o => cases hc
    | un => simp [m1, m2]; exact h2
    | scr x => simp [m1, m2]; exact h2
    | val x => simp [m1, m2]; exact h2
theorem comp_abs (ρ : L3.Env) (hρ : 2 < ρ.length) : ∀ (ns : List Int) (hc : ∀ o, ρ[2]? ≠ some (Cell.own true o)), compP (.nm 2) tYesP (pN (l1 dAbs) [pVar 2]) ρ (ns.map .int) = some ((ns.map fun n => (if n < 0 then -n else n)).map .int) := by
  intro ns hc
  induction ns with
  | nil => rfl
  | cons n r ih =>
    rw [List.map_cons, compP]
    have hb : bind (.nm 2) (.int n) ρ = some (ρ.set 2 (.val (.int n))) := by
      rw [ev_bind0]
      unfold put
      cases e : ρ[2]? with
      | none => rw [List.getElem?_eq_none_iff] at e; omega
      | some c =>
        cases c with
        | own fx o =>
          cases fx with
          | true => exact absurd e (hc o)
          | false => rfl
        | _ => rfl
    rw [hb]
    simp [List.getElem?_set_self hρ, ih]
theorem source (ns : List Int) (hl : ns.length ≤ 63) : ∃ s, F__law_source [.scr ns] = some ([.un], .own false (.src s)) := by
  obtain ⟨m', c', h1, h2⟩ := source_loop ns ns 11 .un rfl
  obtain ⟨zs, hz⟩ : ∃ zs : List Int, compP (.nm 2) tYesP (pN (l1 dAbs) [pVar 2]) [.scr ns, .val (.int m'), .un] (ns.map .int) = some (zs.map .int) := ⟨_, comp_abs [.scr ns, .val (.int m'), .un] (by simp) ns (by simp)⟩
  refine ⟨⟨zs.reverse, 1, m', 0⟩, ?_⟩
  unfold F__law_source g__law_source
  have hlen : len24 ns.length = true := decide_eq_true (by omega)
  simp [h2, pComp, freeAt, h1, hlen, wipeE, hz, dRevL, ← List.map_reverse]
theorem pickL (s : Src) (n : Nat) (h0 : 0 < n) (hn : n < 1000000) : ∃ s' r, F__law_pick [.own true (.src s), .val (.int n)] = some ([.own true (.src s'), .un], .val (.int (r : Nat))) ∧ r < n := by
  obtain ⟨s', r, e, h1, h2⟩ := pick s n (by rw [Int.natAbs_natCast]; exact log2_64 (by omega))
  obtain ⟨k, rfl⟩ := Int.eq_ofNat_of_zero_le h1
  exact ⟨s', k, e, by omega⟩
theorem law_of (s : Src) (xs : List D) (h0 : xs ≠ []) (hn : xs.length < 1000000) : ∃ s' x, F__law_of [.own true (.src s), .val (.list xs)] = some ([.own true (.src s'), .un], .val x) ∧ x ∈ xs := by
  obtain ⟨s', r, e, hr⟩ := pickL s xs.length (List.length_pos_iff.mpr h0) hn
  refine ⟨s', xs[r], ?_, List.getElem_mem hr⟩
  unfold F__law_of g__law_of
  simp [e, hr]
def oddD : List D := [.none, .bool true, .int 0, .int 1, .int (-1), .tuple [], .list [], .dict [], .str "0", .tuple [.int 0, .int 1], .tuple [.int 2, .int 4], .tuple [.int 1, .int (-2)], .tuple [.int 1, .bool true], .tuple [.int 0, .int 2], .tuple [.int (-1), .int 2], .tuple [.int 3, .int 2], .int (10 ^ 50)]
/-- the values whose text is told -/
def Told (d : D) : Prop := ∃ t, dRepr d = some (.str t)
theorem told_of {d : D} (h1 : d.showable = true) (h2 : d.depth ≤ 50) (h3 : d.hasDict = false ∨ noList d = true) (h4 : wt d ≤ 16777216) : Told d := ⟨_, dRepr_some h1 h2 h3 h4⟩
theorem odd_told : ∀ d ∈ oddD, Told d := by
  intro d hd
  unfold oddD at hd
  simp only [List.mem_cons, List.not_mem_nil, or_false] at hd
  rcases hd with rfl | rfl | rfl | rfl | rfl | rfl | rfl | rfl | rfl | rfl | rfl | rfl | rfl | rfl | rfl | rfl | rfl <;> exact told_of (by decide +kernel) (by decide +kernel) (by decide +kernel) (by decide +kernel)
theorem oddE (ρ : L3.Env) : pN dLst [pC .none, pC (.bool true), pC (.int 0), pC (.int 1), p1 dNeg (pC (.int 1)), pN dTup [], pN dLst [], pC (.dict []), pC (.str "0"), pN dTup [pC (.int 0), pC (.int 1)], pN dTup [pC (.int 2), pC (.int 4)], pN dTup [pC (.int 1), p1 dNeg (pC (.int 2))], pN dTup [pC (.int 1), pC (.bool true)], pN dTup [pC (.int 0), pC (.int 2)], pN dTup [p1 dNeg (pC (.int 1)), pC (.int 2)], pN dTup [pC (.int 3), pC (.int 2)], p2 dPow (pC (.int 10)) (pC (.int 50))] ρ = some (.list oddD) := by rfl
theorem odd_pick (s : Src) : ∃ s' x, F__law_of [.own true (.src s), .val (.list oddD)] = some ([.own true (.src s'), .un], .val x) ∧ x ∈ oddD := law_of s oddD (by decide) (by decide)
/-- a whole number bent -/
theorem bent_int (n : Nat) (s : Src) (i : Int) : ∃ s' x, F__law_bent (n + 1) [.own true (.src s), .val (.int i)] = some ([.own true (.src s'), .un], .val x) ∧ x ∈ oddD := by
  obtain ⟨s', x, e, hx⟩ := odd_pick s
  refine ⟨s', x, ?_, hx⟩
  unfold F__law_bent g__law_bent
  have t0 : (PyData.int i).isTuple = false := rfl
  simp [-ev_pN, oddE, t0, e]
theorem dEq_pair (x y : D) : dEq (.tuple [.int 0, .int 1]) (.tuple []) = some (.bool false) := by rfl
theorem pair_ne (i j : Int) : dEq (.tuple [.int i, .int j]) (.tuple []) = some (.bool false) := by
  unfold dEq
  rw [if_pos (by rfl)]
  simp [PyData.eqv, PyData.eqvAll]
theorem int31 {i : Int} (h : S31 i) : i.natAbs.log2 < 1920 := by
  have := log2_mono (show i.natAbs ≤ 2147483648 from Nat.le_of_lt h)
  have e : Nat.log2 2147483648 = 31 := by decide +kernel
  omega
theorem odd_part : ∀ x ∈ oddD, Part x ∧ (x.hasDict = false ∨ noList x = true) := by
  intro d hd
  unfold oddD at hd
  simp only [List.mem_cons, List.not_mem_nil, or_false] at hd
  rcases hd with rfl | rfl | rfl | rfl | rfl | rfl | rfl | rfl | rfl | rfl | rfl | rfl | rfl | rfl | rfl | rfl | rfl <;> exact ⟨⟨by decide +kernel, by decide +kernel, by decide +kernel⟩, by decide +kernel⟩
/-- a tuple with at most one odd part -/
theorem told_one {l r : List Int} {x : D} (hx : Part x ∧ (x.hasDict = false ∨ noList x = true)) (hl : ∀ i ∈ l, S31 i) (hr : ∀ i ∈ r, S31 i) (h1 : l.length ≤ 10) (h2 : r.length ≤ 10) : Told (.tuple (l.map .int ++ [x] ++ r.map .int)) := by
  have mem : ∀ y ∈ l.map PyData.int ++ [x] ++ r.map PyData.int, (∃ i, y = .int i ∧ S31 i) ∨ y = x := fun y hy => by
    simp only [List.mem_append, List.mem_map, List.mem_singleton] at hy
    rcases hy with (⟨i, hi, rfl⟩ | hy) | ⟨i, hi, rfl⟩
    · exact .inl ⟨i, rfl, hl i hi⟩
    · exact .inr hy
    · exact .inl ⟨i, rfl, hr i hi⟩
  refine repr_tuple (fun y hy => ?_) ?_ (by simp; omega)
  · rcases mem y hy with ⟨i, rfl, hi⟩ | rfl
    · exact part_int (int31 hi)
    · exact hx.1
  · rcases hx.2 with h | h
    · refine .inl fun y hy => ?_
      rcases mem y hy with ⟨i, rfl, _⟩ | rfl
      · rfl
      · exact h
    · refine .inr fun y hy => ?_
      rcases mem y hy with ⟨i, rfl, _⟩ | rfl
      · rfl
      · exact h
theorem told_ints {l : List Int} (hl : ∀ i ∈ l, S31 i) (h1 : l.length ≤ 10) : Told (.tuple (l.map .int)) ∧ Told (.list (l.map .int)) := by
  have mem : ∀ y ∈ l.map PyData.int, Part y ∧ y.hasDict = false := fun y hy => by
    obtain ⟨i, hi, rfl⟩ := List.mem_map.mp hy
    exact ⟨part_int (int31 (hl i hi)), rfl⟩
  exact ⟨repr_tuple (fun y hy => (mem y hy).1) (.inl fun y hy => (mem y hy).2) (by simp; omega), repr_list (fun y hy => (mem y hy).1) (fun y hy => (mem y hy).2) (by simp; omega)⟩
section
variable (x y : D)
theorem c00 : dCut none (some 0) (.tuple [x, y]) = some (.tuple []) := rfl
theorem c01 : dCut none (some 1) (.tuple [x, y]) = some (.tuple [x]) := rfl
theorem c02 : dCut none (some 2) (.tuple [x, y]) = some (.tuple [x, y]) := rfl
theorem c10 : dCut (some 0) none (.tuple [x, y]) = some (.tuple [x, y]) := rfl
theorem c11 : dCut (some 1) none (.tuple [x, y]) = some (.tuple [y]) := rfl
theorem c12 : dCut (some 2) none (.tuple [x, y]) = some (.tuple []) := rfl
theorem od_addt (xs ys : List D) : dAdd (.tuple xs) (.tuple ys) = if len24 (xs.length + ys.length) then some (.tuple (xs ++ ys)) else none := rfl
end
theorem bent_pair (n : Nat) (s : Src) (i j : Int) (hi : S31 i) (hj : S31 j) : ∃ s' x, F__law_bent (n + 2) [.own true (.src s), .val (.tuple [.int i, .int j])] = some ([.own true (.src s'), .un], .val x) ∧ Told x := by
  obtain ⟨s1, r1, e1, h1⟩ := pickL s 4 (by decide) (by decide)
  have e1 : F__law_pick [.own true (.src s), .val (.int 4)] = some ([.own true (.src s1), .un], .val (.int (r1 : Nat))) := e1
  have t1 : (PyData.tuple [.int i, .int j]).isTuple = true := rfl
  have hne := pair_ne i j
  have hin : ∀ l : List Int, (∀ x ∈ l, x = i ∨ x = j) → ∀ x ∈ l, S31 x := fun l h x hx => by rcases h x hx with rfl | rfl <;> assumption
  show ∃ s' x, mkFn 2 5 (g__law_bent (F__law_bent (n + 1))) [.own true (.src s), .val (.tuple [.int i, .int j])] = some ([.own true (.src s'), .un], .val x) ∧ Told x
  generalize hF : F__law_bent (n + 1) = FB
  have bi : ∀ s i, ∃ s' x, FB [.own true (.src s), .val (.int i)] = some ([.own true (.src s'), .un], .val x) ∧ x ∈ oddD := fun s i => by rw [← hF]; exact bent_int n s i
  unfold g__law_bent
  by_cases hr : r1 = 0
  · subst hr
    obtain ⟨s', x, e, hx⟩ := odd_pick s1
    refine ⟨s', x, ?_, odd_told x hx⟩
    simp only [oddD, Int.reducePow] at e
    simp [t1, hne, e1, e, dPow, len24]
  · have hr' : ¬ (r1 : Int) = 0 := by omega
    obtain ⟨s2, k, e2, h2⟩ := pickL s1 2 (by decide) (by decide)
    have e2 : F__law_pick [.own true (.src s1), .val (.int 2)] = some ([.own true (.src s2), .un], .val (.int (k : Nat))) := e2
    obtain ⟨s3, rd, e3, h3⟩ := pickL s2 5 (by decide) (by decide)
    have e3 : F__law_pick [.own true (.src s2), .val (.int 5)] = some ([.own true (.src s3), .un], .val (.int (rd : Nat))) := e3
    have hk : k = 0 ∨ k = 1 := by omega
    by_cases hrd : rd < 2
    · have hrd2 : rd = 0 ∨ rd = 1 := by omega
      have A1 : Told (.tuple [.int j]) := (told_ints (l := [j]) (hin _ (by simp)) (by simp)).1
      have A2 : Told (.tuple [.int i]) := (told_ints (l := [i]) (hin _ (by simp)) (by simp)).1
      have A3 : Told (.tuple [.int i, .int i, .int j]) := (told_ints (l := [i, i, j]) (hin _ (by simp)) (by simp)).1
      have A4 : Told (.tuple [.int i, .int j, .int j]) := (told_ints (l := [i, j, j]) (hin _ (by simp)) (by simp)).1
      rcases hk with rfl | rfl <;> rcases hrd2 with rfl | rfl
      · exact ⟨s3, _, by simp [t1, hne, e1, e2, e3, hr, hr', dPow, len24, c00, c01, c02, c10, c11, c12, od_addt], A1⟩
      · exact ⟨s3, _, by simp [t1, hne, e1, e2, e3, hr, hr', dPow, len24, c00, c01, c02, c10, c11, c12, od_addt], A3⟩
      · exact ⟨s3, _, by simp [t1, hne, e1, e2, e3, hr, hr', dPow, len24, c00, c01, c02, c10, c11, c12, od_addt], A2⟩
      · exact ⟨s3, _, by simp [t1, hne, e1, e2, e3, hr, hr', dPow, len24, c00, c01, c02, c10, c11, c12, od_addt], A4⟩
    · have hrd' : ¬ (rd : Int) < 2 := by omega
      by_cases hr2 : rd = 2
      · subst hr2
        obtain ⟨s4, x, e4, hx⟩ := law_of s3 [.tuple [.int j, .int i], .list [.int i, .int j]] (by simp) (by simp)
        refine ⟨s4, x, by simp [t1, hne, e1, e2, e3, hr, hr', dPow, len24, dRevT, dList, e4], ?_⟩
        rcases List.mem_cons.mp hx with rfl | hx
        · exact (told_ints (l := [j, i]) (hin _ (by simp)) (by simp)).1
        · rw [List.mem_singleton.mp hx]
          exact (told_ints (l := [i, j]) (hin _ (by simp)) (by simp)).2
      · have hr2' : ¬ (rd : Int) = 2 := by omega
        rcases hk with rfl | rfl
        · obtain ⟨s4, x, e4, hx⟩ := bi s3 i
          refine ⟨s4, .tuple ([] ++ [x] ++ [.int j]), by simp [t1, hne, e1, e2, e3, hr, hrd, hr2, hr', hrd', hr2', dPow, len24, e4, c00, c01, c02, c10, c11, c12, od_addt], ?_⟩
          exact told_one (l := []) (r := [j]) (odd_part x hx) (by simp) (hin _ (by simp)) (by simp) (by simp)
        · obtain ⟨s4, x, e4, hx⟩ := bi s3 j
          refine ⟨s4, .tuple ([.int i] ++ [x] ++ []), by simp [t1, hne, e1, e2, e3, hr, hrd, hr2, hr', hrd', hr2', dPow, len24, e4, c00, c01, c02, c10, c11, c12, od_addt], ?_⟩
          exact told_one (l := [i]) (r := []) (odd_part x hx) (hin _ (by simp)) (by simp) (by simp) (by simp)
end K05
/-! k05, the plain law: primes and p-parts; the loops. -/
namespace K05
open PySem PySem.Spec PyProof.Rows L2 L3
theorem fdiv_nn (a b : Nat) : Int.fdiv (a : Int) (b : Int) = ((a / b : Nat) : Int) := by
  rw [Int.fdiv_eq_ediv_of_nonneg _ (Int.natCast_nonneg b)]; rfl
theorem divN {n : Nat} (h0 : n ≠ 0) (h : n < 2147483648) : divOk (n : Int) = true := divOk_of (by omega) (by rw [Int.natAbs_natCast]; exact log2_64 (by omega))
theorem mulN {n m : Nat} (h : n < 2147483648) : mulOk (n : Int) (m : Int) = true := mulOk31 (by unfold S31; omega)
theorem mulN' {n m : Nat} (h : m < 2147483648) : mulOk (n : Int) (m : Int) = true := mulOk31' (by unfold S31; omega)
/-! ### q without its p -/
def stripL (p : Nat) : Nat → Nat → Option Nat
  | 0, _ => none
  | f + 1, q => if q % p = 0 then stripL p f (q / p) else some q
theorem loop_strip (F : Cell) (p : Nat) (hp : p ≠ 0) (hp2 : p < 2147483648) : ∀ (f q r : Nat), stripL p f q = some r →
    sWhile (tP (tV (p2 dEq (p2 dMod (pVar 0) (pVar 2)) (pC (.int 0))))) (sVal 0 (eP (p2 dFdiv (pVar 0) (pVar 2)))) [.val (.int q), F, .val (.int p)] = some ([.val (.int r), F, .val (.int p)], .nx) := by
  intro f
  induction f with
  | zero => intro q r h; cases h
  | succ f ih =>
    intro q r h
    rw [stripL] at h
    rw [sWhile_eq]
    have hp' : (p : Int) ≠ 0 := by omega
    have hd := divN hp hp2
    by_cases hq : q % p = 0
    · rw [if_pos hq] at h
      have z := ih _ _ h
      have hq' : (((q % p : Nat) : Int) = 0) := by omega
      simp [hp, hp', fmod_nn, fdiv_nn, hd, hq, hq', -Int.natCast_emod, -Int.natCast_ediv]
      simpa [-Int.natCast_emod, -Int.natCast_ediv] using z
    · rw [if_neg hq] at h
      cases h
      have hq' : ¬ (((q % p : Nat) : Int) = 0) := by omega
      simp [hp, hp', fmod_nn, hq, hq', -Int.natCast_emod, -Int.natCast_ediv]
/-! ### primes_of -/
def ppL : Nat → Nat → Nat → List Nat → Option (List Nat)
  | 0, _, _, _ => none
  | f + 1, q, p, found => if p * p ≤ q then (if q % p = 0 then (match stripL p 20 q with | some r => ppL f r (p + 1) (found ++ [p]) | none => none) else ppL f q (p + 1) found)
    else some (if 1 < q then found ++ [q] else found)
def natsD (l : List Nat) : List D := l.map fun (n : Nat) => PyData.int (n : Int)
theorem loop_pp : ∀ (f q p : Nat) (found res : List Nat), 0 < p → p < 1000000 - f → found.length < 1000 - f → ppL f q p found = some res → f < 900 →
    ∃ (q' p' : Nat) (l : List Nat), sWhile (tP (tV (p2 dLe (p2 dMul (pVar 2) (pVar 2)) (pVar 0)))) (sSeq (sIf (tP (tV (p2 dEq (p2 dMod (pVar 0) (pVar 2)) (pC (.int 0))))) (sSeq (sApp 1 (eP (pVar 2)))
      (sWhile (tP (tV (p2 dEq (p2 dMod (pVar 0) (pVar 2)) (pC (.int 0))))) (sVal 0 (eP (p2 dFdiv (pVar 0) (pVar 2)))))) (sNx))
      (sVal 2 (eP (p2 dAdd (pVar 2) (pC (.int 1)))))) [.val (.int q), .own false (.lst (natsD found)), .val (.int p)] = some ([.val (.int q'), .own false (.lst (natsD l)), .val (.int p')], .nx) ∧ res = (if 1 < q' then l ++ [q'] else l) ∧ l.length < 1000 := by
  intro f
  induction f with
  | zero => intro q p found res _ _ _ h; cases h
  | succ f ih =>
    intro q p found res hp hb hl h hf
    rw [ppL] at h
    rw [sWhile_eq]
    have hp0 : p ≠ 0 := by omega
    have hp' : (p : Int) ≠ 0 := by omega
    have hm : mulOk (p : Int) (p : Int) = true := mulN (by omega)
    by_cases hc : p * p ≤ q
    · rw [if_pos hc] at h
      have hc' : ((p : Int) * (p : Int) ≤ (q : Int)) := by exact_mod_cast hc
      by_cases hq : q % p = 0
      · rw [if_pos hq] at h
        cases z : stripL p 20 q with
        | none => rw [z] at h; cases h
        | some r =>
          rw [z] at h
          have ls := loop_strip (.own false (.lst (natsD found ++ [.int p]))) p hp0 (by omega) 20 q r z
          obtain ⟨q', p', l, e, hr, hl2⟩ := ih r (p + 1) (found ++ [p]) res (by omega) (by omega) (by rw [List.length_append, List.length_singleton]; omega) h (by omega)
          refine ⟨q', p', l, ?_, hr, hl2⟩
          have hq' : (((q % p : Nat) : Int) = 0) := by omega
          have hlen : (natsD found).length < 16777216 := by unfold natsD; rw [List.length_map]; omega
          have en : natsD (found ++ [p]) = natsD found ++ [.int p] := by simp [natsD]
          rw [en] at e
          simp [hm, hc', hp0, hp', fmod_nn, hq, hq', hlen, ls, -Int.natCast_emod]
          simpa using e
      · rw [if_neg hq] at h
        obtain ⟨q', p', l, e, hr, hl2⟩ := ih q (p + 1) found res (by omega) (by omega) (by omega) h (by omega)
        refine ⟨q', p', l, ?_, hr, hl2⟩
        have hq' : ¬ (((q % p : Nat) : Int) = 0) := by omega
        simp [hm, hc', hp0, hp', fmod_nn, hq, hq', -Int.natCast_emod]
        simpa using e
    · rw [if_neg hc] at h
      have hc' : ¬ ((p : Int) * (p : Int) ≤ (q : Int)) := by exact_mod_cast hc
      cases h
      exact ⟨q, p, found, by simp [hm, hc'], rfl, by omega⟩
theorem primes_of (q : Nat) (res : List Nat) (h : ppL 300 q 2 [] = some res) : F_primes_of [.val (.int q)] = some ([.un], .val (.tuple (natsD res))) := by
  obtain ⟨q', p', l, e, hr, hl⟩ := loop_pp 300 q 2 [] res (by omega) (by omega) (by simp) h (by omega)
  unfold F_primes_of g_primes_of
  have e0 : natsD [] = [] := rfl
  rw [e0] at e
  have hlen : (natsD l).length < 1000 := by unfold natsD; rw [List.length_map]; exact hl
  have h24 : len24 ((natsD l).length + 1) = true := decide_eq_true (by omega)
  have h24' : len24 0 = true := rfl
  have e2 : (((2 : Nat) : Int)) = 2 := rfl
  rw [e2] at e
  by_cases hq : 1 < q'
  · have hq' : (1 : Int) < (q' : Int) := by omega
    rw [if_pos hq] at hr
    have h25 : len24 (l.length + 1) = true := decide_eq_true (by omega)
    unfold natsD at e ⊢
    simp [e, hq, hq', h25, h24', hr]
  · have hq' : ¬ (1 : Int) < (q' : Int) := by omega
    rw [if_neg hq] at hr
    simp [e, hq, hq', h24', hr]
/-! ### the law's primes -/
def lpL : Nat → Nat → Nat → List Nat → Option (List Nat)
  | 0, _, _, _ => none
  | f + 1, q, p, found => if 1 < q then (if q % p = 0 then lpL f (q / p) p (if p ∈ found then found else found ++ [p]) else lpL f q (p + 1) found) else some found
theorem plainAll_nats : ∀ l : List Nat, PyData.plainAll (natsD l) = true
  | [] => rfl
  | n :: r => by show (true && PyData.plainAll (natsD r)) = true; rw [plainAll_nats r]; rfl
theorem depthAll_nats : ∀ l : List Nat, PyData.depthAll (natsD l) = 0
  | [] => rfl
  | n :: r => by show max 0 (PyData.depthAll (natsD r)) = 0; rw [depthAll_nats r]; rfl
theorem any_nats (p : Nat) : ∀ l : List Nat, ((natsD l).any fun y => PyData.eqv y (.int p)) = decide (p ∈ l)
  | [] => rfl
  | n :: r => by
    show (PyData.eqv (.int n) (.int p) || (natsD r).any fun y => PyData.eqv y (.int p)) = _
    rw [any_nats p r, show PyData.eqv (.int n) (.int p) = decide (n = p) by simp [PyData.eqv, BEq.beq]; omega]
    by_cases h : n = p
    · subst h; simp
    · simp [h, Ne.symm h]
theorem notin_nats (p : Nat) (l : List Nat) : dNotIn (.int p) (.list (natsD l)) = some (.bool (!decide (p ∈ l))) := by
  unfold dNotIn
  simp only [od_seql, plainAll_nats, depthAll_nats, any_nats]
  rfl
theorem rep01 (x : D) (b : Bool) : dRep (.list [x]) (.int (if b = true then 1 else 0)) = some (.list (if b = true then [x] else [])) := by cases b <;> rfl
theorem loop_lp : ∀ (f q p : Nat) (found res : List Nat), 0 < p → p < 1000000 - f → found.length < 1000 - f → lpL f q p found = some res → f < 900 →
    ∃ (q' p' : Nat), sWhile (tP (tV (p2 dGt (pVar 0) (pC (.int 1))))) (sIf (tP (tV (p2 dEq (p2 dMod (pN (l1 dInt) [pVar 0]) (pVar 2)) (pC (.int 0))))) (sSeq (sVal 0 (eP (p2 dFdiv (pVar 0) (pVar 2))))
      (sVal 1 (eP (p2 dAdd (pVar 1) (p2 dRep (pN dLst [pVar 2]) (pN (l1 dInt) [p2 dNotIn (pVar 2) (pVar 1)])))))) (sVal 2 (eP (p2 dAdd (pVar 2) (pC (.int 1)))))) [.val (.int q), .val (.list (natsD found)), .val (.int p)] = some ([.val (.int q'), .val (.list (natsD res)), .val (.int p')], .nx) := by
  intro f
  induction f with
  | zero => intro q p found res _ _ _ h; cases h
  | succ f ih =>
    intro q p found res hp hb hl h hf
    rw [lpL] at h
    rw [sWhile_eq]
    have hp0 : p ≠ 0 := by omega
    have hp' : (p : Int) ≠ 0 := by omega
    have hd := divN hp0 (show p < 2147483648 by omega)
    by_cases hc : 1 < q
    · rw [if_pos hc] at h
      have hc' : (1 : Int) < (q : Int) := by omega
      by_cases hq : q % p = 0
      · rw [if_pos hq] at h
        have hq' : (((q % p : Nat) : Int) = 0) := by omega
        have ni := notin_nats p found
        by_cases hm : p ∈ found
        · rw [if_pos hm] at h
          obtain ⟨q', p', e⟩ := ih _ _ _ _ hp (by omega) (by omega) h (by omega)
          refine ⟨q', p', ?_⟩
          have r0 : dRep (.list [.int p]) (.int 0) = some (.list []) := rfl
          have ad : dAdd (.list (natsD found)) (.list []) = some (.list (natsD found)) := by
            show (if len24 ((natsD found).length + 0) then some (PyData.list (natsD found ++ [])) else none) = _
            rw [if_pos (show len24 ((natsD found).length + 0) = true from decide_eq_true (by unfold natsD; rw [List.length_map]; omega)), List.append_nil]
          simp [hc, hc', hp0, hp', fmod_nn, fdiv_nn, hd, hq, hq', ni, hm, r0, ad, len24, -Int.natCast_emod, -Int.natCast_ediv]
          simpa [-Int.natCast_ediv] using e
        · rw [if_neg hm] at h
          obtain ⟨q', p', e⟩ := ih _ _ _ _ hp (by omega) (by rw [List.length_append, List.length_singleton]; omega) h (by omega)
          refine ⟨q', p', ?_⟩
          have r0 : dRep (.list [.int p]) (.int 1) = some (.list [.int p]) := rfl
          have ad : dAdd (.list (natsD found)) (.list [.int p]) = some (.list (natsD found ++ [.int p])) := by
            show (if len24 ((natsD found).length + 1) then some (PyData.list (natsD found ++ [.int p])) else none) = _
            rw [if_pos (show len24 ((natsD found).length + 1) = true from decide_eq_true (by unfold natsD; rw [List.length_map]; omega))]
          have en : natsD (found ++ [p]) = natsD found ++ [.int p] := by simp [natsD]
          rw [en] at e
          simp [hc, hc', hp0, hp', fmod_nn, fdiv_nn, hd, hq, hq', ni, hm, r0, ad, len24, -Int.natCast_emod, -Int.natCast_ediv]
          simpa [-Int.natCast_ediv] using e
      · rw [if_neg hq] at h
        obtain ⟨q', p', e⟩ := ih _ _ _ _ (by omega) (by omega) (by omega) h (by omega)
        refine ⟨q', p', ?_⟩
        have hq' : ¬ (((q % p : Nat) : Int) = 0) := by omega
        simp [hc, hc', hp0, hp', fmod_nn, hq, hq', -Int.natCast_emod]
        simpa using e
    · rw [if_neg hc] at h
      have hc' : ¬ (1 : Int) < (q : Int) := by omega
      cases h
      exact ⟨q, p, by simp [hc, hc']⟩
theorem law_primes (q : Nat) (res : List Nat) (h : lpL 800 q 2 [] = some res) : F__law_primes [.val (.int q)] = some ([.un], .val (.list (natsD res))) := by
  obtain ⟨q', p', e⟩ := loop_lp 800 q 2 [] res (by omega) (by omega) (by simp) h (by omega)
  have e0 : natsD [] = [] := rfl
  have e2 : (((2 : Nat) : Int)) = 2 := rfl
  rw [e0, e2] at e
  unfold F__law_primes g__law_primes
  have h24' : len24 0 = true := rfl
  simp [e, h24']
def primesL (q : Nat) : List Nat := (ppL 300 q 2 []).getD []
def okPr (q : Nat) : Bool := decide (ppL 300 q 2 [] = some (primesL q)) && decide (lpL 800 q 2 [] = some (primesL q))
def allBelow (n : Nat) (f : Nat → Bool) : Bool := (List.range n).all f
theorem allBelow_get {n : Nat} {f : Nat → Bool} (h : allBelow n f = true) {q : Nat} (hq : q < n) : f q = true := List.all_eq_true.mp h q (List.mem_range.mpr hq)
theorem primes_all : allBelow 360 (fun q => okPr (q + 1)) = true := by decide +kernel
theorem primes_ok (q : Nat) (h0 : 0 < q) (h : q ≤ 360) : F_primes_of [.val (.int q)] = some ([.un], .val (.tuple (natsD (primesL q)))) ∧ F__law_primes [.val (.int q)] = some ([.un], .val (.list (natsD (primesL q)))) := by
  have z := allBelow_get primes_all (q := q - 1) (by omega)
  rw [show q - 1 + 1 = q by omega] at z
  unfold okPr at z
  simp only [Bool.and_eq_true, decide_eq_true_eq] at z
  exact ⟨primes_of q _ z.1, law_primes q _ z.2⟩
end K05
/-! k05, the plain law: p-parts. -/
namespace K05
open PySem PySem.Spec PyProof.Rows L2 L3
/-! ### inverses -/
def invL : Nat → Nat → Nat → Int → Int → Option Int
  | 0, _, _, _, _ => none
  | f + 1, one, other, u, v => if other = 0 then some u else invL f other (one % other) v (u - (one / other : Nat) * v)
theorem sub_mod (a b : Nat) : (a : Int) - ((a / b : Nat) : Int) * (b : Int) = ((a % b : Nat) : Int) := by
  have h := Nat.div_add_mod a b
  have : ((a : Nat) : Int) = ((b * (a / b) + a % b : Nat) : Int) := by rw [h]
  rw [this, Int.natCast_add, Int.natCast_mul, Int.mul_comm]
  omega
theorem loop_inv (A M : Cell) : ∀ (f one other : Nat) (u v w : Int) (BY : Cell), (∀ o, BY ≠ .own true o) → one < 2147483648 → other < 2147483648 → invL f one other u v = some w →
    ∃ x y z Y, sWhile (tP (tV (p2 dGt (pVar 3) (pC (.int 0))))) (sSeq (sVal 6 (eP (p2 dFdiv (pVar 2) (pVar 3))))
      (sPat (.tp [.nm 2, .nm 3, .nm 4, .nm 5]) (eP (pN dTup [pVar 3, p2 dSub (pVar 2) (p2 dMul (pVar 6) (pVar 3)), pVar 5, p2 dSub (pVar 4) (p2 dMul (pVar 6) (pVar 5))])))) [A, M, .val (.int one), .val (.int other), .val (.int u), .val (.int v), BY] = some ([A, M, x, y, .val (.int w), z, Y], .nx) := by
  intro f
  induction f with
  | zero => intro one other u v w BY _ _ _ h; cases h
  | succ f ih =>
    intro one other u v w BY hB h1 h2 h
    rw [invL] at h
    rw [sWhile_eq]
    by_cases ho : other = 0
    · rw [if_pos ho] at h
      cases h
      subst ho
      exact ⟨_, _, _, _, by simp; exact ⟨rfl, rfl, rfl, rfl⟩⟩
    · rw [if_neg ho] at h
      have hlt := Nat.mod_lt one (Nat.pos_of_ne_zero ho)
      obtain ⟨x, y, z, Y, e⟩ := ih other (one % other) v (u - (one / other : Nat) * v) w (.val (.int (one / other : Nat))) (fun o z => by cases z) h2 (by omega) h
      refine ⟨x, y, z, Y, ?_⟩
      have ho1 : 0 < other := Nat.pos_of_ne_zero ho
      have ho' : (0 : Int) < (other : Int) := by omega
      have hd := divN ho h2
      have hq : one / other < 2147483648 := Nat.lt_of_le_of_lt (Nat.div_le_self _ _) h1
      have m1 : mulOk ((one / other : Nat) : Int) (other : Int) = true := mulN hq
      have m2 : ∀ x : Int, mulOk ((one / other : Nat) : Int) x = true := fun x => mulOk31 (by unfold S31; rw [Int.natAbs_natCast]; exact hq)
      have sm := sub_mod one other
      cases BY with
      | own fx o =>
        cases fx with
        | true => exact absurd rfl (hB o)
        | false => simp [ho1, ho', fdiv_nn, hd, m1, m2, len24, sm, -Int.natCast_emod, -Int.natCast_ediv]; exact e
      | un => simp [ho1, ho', fdiv_nn, hd, m1, m2, len24, sm, -Int.natCast_emod, -Int.natCast_ediv]; exact e
      | scr ns => simp [ho1, ho', fdiv_nn, hd, m1, m2, len24, sm, -Int.natCast_emod, -Int.natCast_ediv]; exact e
      | val d => simp [ho1, ho', fdiv_nn, hd, m1, m2, len24, sm, -Int.natCast_emod, -Int.natCast_ediv]; exact e
def invV (a m : Nat) : Option Int := (invL 40 (a % m) m 1 0).map fun u => u % (m : Int)
theorem inverse_by (a m : Nat) (w : Int) (h0 : m ≠ 0) (hm : m < 2147483648) (h : invV a m = some w) : F_inverse_by [.val (.int a), .val (.int m)] = some ([.un, .un], .val (.int w)) := by
  unfold invV at h
  cases z : invL 40 (a % m) m 1 0 with
  | none => rw [z] at h; cases h
  | some u =>
    rw [z] at h
    cases h
    obtain ⟨x, y, z', Y, e⟩ := loop_inv (.val (.int a)) (.val (.int m)) 40 (a % m) m 1 0 u .un (fun o z => by cases z) (Nat.lt_trans (Nat.mod_lt a (Nat.pos_of_ne_zero h0)) hm) hm z
    have hm' : (m : Int) ≠ 0 := by omega
    unfold F_inverse_by g_inverse_by
    simp [h0, hm', fmod_nn, len24, fmod_pos (show (0 : Int) < (m : Int) by omega), -Int.natCast_emod]
    simp only [← Int.natCast_emod, e]
    simp [h0, fmod_pos (show (0 : Int) < (m : Int) by omega)]
/-! ### the power of p in q -/
def splitL (p : Nat) : Nat → Nat → Nat → Option (Nat × Nat)
  | 0, _, _ => none
  | f + 1, r, w => if r % p = 0 then splitL p f (r / p) (w * p) else some (r, w)
theorem loop_split (A P : Cell) (p : Nat) (hP : P = .val (.int p)) (hp : p ≠ 0) (hp2 : p < 2147483648) : ∀ (f r w r' w' : Nat), splitL p f r w = some (r', w') →
    sWhile (tP (tV (p2 dEq (p2 dMod (pVar 2) (pVar 1)) (pC (.int 0))))) (sPar [2, 3] [eP (p2 dFdiv (pVar 2) (pVar 1)), eP (p2 dMul (pVar 3) (pVar 1))]) [A, P, .val (.int r), .val (.int w)] = some ([A, P, .val (.int r'), .val (.int w')], .nx) := by
  subst hP
  intro f
  induction f with
  | zero => intro r w r' w' h; cases h
  | succ f ih =>
    intro r w r' w' h
    rw [splitL] at h
    rw [sWhile_eq]
    have hp' : (p : Int) ≠ 0 := by omega
    have hd := divN hp hp2
    have hm : mulOk (w : Int) (p : Int) = true := mulN' hp2
    by_cases hq : r % p = 0
    · rw [if_pos hq] at h
      have z := ih _ _ _ _ h
      have hq' : (((r % p : Nat) : Int) = 0) := by omega
      simp [hp, hp', fmod_nn, fdiv_nn, hd, hm, hq, hq', -Int.natCast_emod, -Int.natCast_ediv]
      simpa [-Int.natCast_emod, -Int.natCast_ediv] using z
    · rw [if_neg hq] at h
      cases h
      have hq' : ¬ (((r % p : Nat) : Int) = 0) := by omega
      simp [hp, hp', fmod_nn, hq, hq', -Int.natCast_emod]
/-- the program's p-part of x/A -/
theorem prime_part (x A p r w : Nat) (v : Int) (hx : x < 2147483648) (hA : A < 2147483648) (hp : p ≠ 0) (hp2 : p < 2147483648) (hs : splitL p 20 A 1 = some (r, w)) (hw : w ≠ 0) (hw2 : w < 2147483648) (hv : invV r w = some v) :
    F_prime_part [.val (frD (x, A)), .val (.int p)] = some ([.un, .un], .val (frD (normP (x * v) w))) := by
  have l := loop_split (.val (frD (x, A))) (.val (.int p)) p rfl hp hp2 20 A 1 r w hs
  have i := inverse_by r w v hw hw2 hv
  have pt := part_of (x * v) w (by omega) (log2_64 (by rw [Int.natAbs_natCast]; omega))
  have m1 : mulOk (x : Int) v = true := mulOk31 (by unfold S31; omega)
  have e1 : (((1 : Nat) : Int)) = 1 := rfl
  rw [e1] at l
  unfold F_prime_part g_prime_part
  simp [pair_ix0, pair_ix1, l, i, m1, pt]
/-! ### the law's p-part -/
def powL (A p : Nat) : Nat → Nat → Option Nat
  | 0, _ => none
  | f + 1, w => if A % (w * p) = 0 then powL A p f (w * p) else some w
theorem loop_pow (x A p : Nat) (c d : Cell) (hp : p ≠ 0) (hp2 : p < 2147483648) : ∀ (f w w' : Nat), w ≠ 0 → powL A p f w = some w' →
    sWhile (tP (tV (p2 dEq (p2 dMod (pN (l1 dInt) [p2 dIx (pVar 0) (pC (.int 1))]) (p2 dMul (pVar 2) (pVar 1))) (pC (.int 0))))) (sVal 2 (eP (p2 dMul (pVar 2) (pVar 1)))) [.val (frD (x, A)), .val (.int p), .val (.int w), c, d] = some ([.val (frD (x, A)), .val (.int p), .val (.int w'), c, d], .nx) := by
  intro f
  induction f with
  | zero => intro w w' _ h; cases h
  | succ f ih =>
    intro w w' hw h
    rw [powL] at h
    rw [sWhile_eq]
    have hm : mulOk (w : Int) (p : Int) = true := mulN' hp2
    have hwp : w * p ≠ 0 := Nat.mul_ne_zero hw hp
    have hwp' : (w : Int) * (p : Int) ≠ 0 := by exact_mod_cast hwp
    have fm : Int.fmod (A : Int) ((w : Int) * (p : Int)) = ((A % (w * p) : Nat) : Int) := by rw [← Int.natCast_mul, fmod_nn]
    by_cases hq : A % (w * p) = 0
    · rw [if_pos hq] at h
      have z := ih _ _ hwp h
      have hq' : (((A % (w * p) : Nat) : Int) = 0) := by omega
      simp [pair_ix1, hm, hp, hw, hwp', fm, hq, hq', -Int.natCast_emod]
      simpa [pair_ix1] using z
    · rw [if_neg hq] at h
      cases h
      have hq' : ¬ (((A % (w * p) : Nat) : Int) = 0) := by omega
      simp [pair_ix1, hm, hp, hw, hwp', fm, hq, hq', -Int.natCast_emod]
end K05
/-! k05, the plain law: p-parts, both ways. -/
namespace K05
open PySem PySem.Spec PyProof.Rows L2 L3
theorem norm_scale (x q k : Int) (hq : 0 < q) (hk : 0 < k) : norm (x * k) (q * k) = norm x q := by
  have e : ((Int.gcd (x * k) (q * k) : Nat) : Int) = ((Int.gcd x q : Nat) : Int) * k := by
    rw [Int.gcd_mul_right, Int.natCast_mul, Int.natAbs_of_nonneg (by omega)]
  unfold norm
  rw [if_pos hq, if_pos (Int.mul_pos hq hk), e, Int.mul_ediv_mul_of_pos_left _ _ hk, Int.mul_ediv_mul_of_pos_left _ _ hk]
theorem norm_cross {x q x' q' : Int} (hq : 0 < q) (hq' : 0 < q') (h : x * q' = x' * q) : norm x q = norm x' q' := by
  rw [← norm_scale x q q' hq hq', ← norm_scale x' q' q hq' hq, h, Int.mul_comm q q']
theorem norm_q {x q : Int} (hq : 0 < q) : norm x q = (x / (Int.gcd x q : Nat), q / (Int.gcd x q : Nat)) := by unfold norm; rw [if_pos hq]
theorem normP_eq (x q : Int) (hq : 0 < q) : normP x q = norm (x % q) q := by
  have h0 : (0 : Int) < ((Int.gcd x q : Nat) : Int) := by have := gcd_pos (p := x) (show q ≠ 0 by omega); omega
  obtain ⟨n1, _, _⟩ := norm_pos (p := x) (show q ≠ 0 by omega)
  unfold normP
  rw [norm_q hq] at n1 ⊢
  dsimp only at n1 ⊢
  generalize hg : ((Int.gcd x q : Nat) : Int) = g at *
  have dx : g ∣ x := by rw [← hg]; exact Int.gcd_dvd_left ..
  have dq : g ∣ q := by rw [← hg]; exact Int.gcd_dvd_right ..
  have ex : x = g * (x / g) := (Int.mul_ediv_cancel' dx).symm
  have eq : q = g * (q / g) := (Int.mul_ediv_cancel' dq).symm
  refine norm_cross n1 hq ?_
  have e : x % q = g * (x / g % (q / g)) := by
    have := Int.mul_emod_mul_of_pos (x / g) (q / g) h0
    rw [← ex, ← eq] at this
    exact this
  rw [e]
  generalize x / g % (q / g) = t
  rw [Int.mul_comm g t, Int.mul_assoc, Int.mul_ediv_cancel' dq]
theorem uniq (x r v w a : Int) (hw : 0 < w) (h : (r * v) % w = 1 % w) (h0 : 0 ≤ a) (h1 : a < w) : w ∣ (x - a * r) ↔ a = (x * v) % w := by
  have d : w ∣ (r * v - 1) := Int.dvd_of_emod_eq_zero (Int.emod_eq_emod_iff_emod_sub_eq_zero.mp h)
  constructor
  · intro z
    have z1 : w ∣ ((x - a * r) * v + a * (r * v - 1)) := Int.dvd_add (Int.dvd_trans z (Int.dvd_mul_right _ _)) (Int.dvd_trans d (Int.dvd_mul_left _ _))
    have e : (x - a * r) * v + a * (r * v - 1) = x * v - a := by
      rw [Int.sub_mul, Int.mul_sub, Int.mul_assoc, Int.mul_one]; omega
    rw [e] at z1
    have := Int.emod_eq_emod_iff_emod_sub_eq_zero.mpr (Int.emod_eq_zero_of_dvd z1)
    rw [this, Int.emod_eq_of_lt h0 h1]
  · intro z
    have z1 : w ∣ (x * v - a) := by
      refine Int.dvd_of_emod_eq_zero (Int.emod_eq_emod_iff_emod_sub_eq_zero.mp ?_)
      rw [Int.emod_eq_of_lt h0 h1]; exact z.symm
    have z2 : w ∣ ((x * v - a) * r - x * (r * v - 1)) := Int.dvd_sub (Int.dvd_trans z1 (Int.dvd_mul_right _ _)) (Int.dvd_trans d (Int.dvd_mul_left _ _))
    have e : (x * v - a) * r - x * (r * v - 1) = x - a * r := by
      rw [Int.sub_mul, Int.mul_sub, Int.mul_one, Int.mul_assoc x v r, Int.mul_comm v r]; omega
    rw [e] at z2
    exact z2
/-! ### the check of each bottom -/
structure PP where
  r : Nat
  w : Nat
  v : Int
def ppOf (A p : Nat) : PP := match splitL p 20 A 1 with
  | some (r, w) => ⟨r, w, (invV r w).getD 0⟩
  | none => ⟨0, 0, 0⟩
def chk (A p : Nat) : Bool := let t := ppOf A p
  decide (splitL p 20 A 1 = some (t.r, t.w)) && decide (t.w ≠ 0) && decide (invV t.r t.w = some t.v) && decide (t.r * t.w = A) && decide (((t.r : Int) * t.v) % (t.w : Int) = 1 % (t.w : Int)) && decide (powL A p 20 1 = some t.w) && decide (p ≠ 0) && decide (p < 1000) &&
    allBelow A fun y => decide ((A / Nat.gcd y A) % p = 0) == !decide (y % t.w = 0)
def chkA (A : Nat) : Bool := (primesL A ++ [2, 7]).all (chk A)
end K05
/-! k05, the plain law: the check of each bottom. -/
namespace K05
open PySem PySem.Spec PyProof.Rows L2 L3
theorem chk_all : allBelow 360 (fun q => chkA (q + 1)) = true := by decide +kernel
theorem chk_ok (A p : Nat) (h0 : 0 < A) (h : A ≤ 360) (hp : p ∈ primesL A ++ [2, 7]) : chk A p = true := by
  have z := allBelow_get chk_all (q := A - 1) (by omega)
  rw [show A - 1 + 1 = A by omega] at z
  exact List.all_eq_true.mp z p hp
end K05
/-! k05, the plain law: p-parts of the law. -/
namespace K05
open PySem PySem.Spec PyProof.Rows L2 L3
structure Chk (A p : Nat) (t : PP) : Prop where
  sp : splitL p 20 A 1 = some (t.r, t.w)
  w0 : t.w ≠ 0
  iv : invV t.r t.w = some t.v
  rw' : t.r * t.w = A
  one : ((t.r : Int) * t.v) % (t.w : Int) = 1 % (t.w : Int)
  pw : powL A p 20 1 = some t.w
  p0 : p ≠ 0
  p1 : p < 1000
  bt : ∀ y, y < A → ((A / Nat.gcd y A) % p = 0 ↔ ¬ y % t.w = 0)
theorem chk_get {A p : Nat} (h : chk A p = true) : Chk A p (ppOf A p) := by
  unfold chk at h
  simp only [Bool.and_eq_true, decide_eq_true_eq] at h
  obtain ⟨⟨⟨⟨⟨⟨⟨⟨h1, h2⟩, h3⟩, h4⟩, h5⟩, h6⟩, h7⟩, h8⟩, h9⟩ := h
  refine ⟨h1, h2, h3, h4, h5, h6, h7, h8, fun y hy => ?_⟩
  have := allBelow_get h9 hy
  by_cases a : (A / Nat.gcd y A) % p = 0 <;> by_cases b : y % (ppOf A p).w = 0 <;> simp [a, b] at this ⊢
/-- the bottom of what is left once a/w is taken away -/
theorem late_bottom {A p : Nat} {t : PP} (c : Chk A p t) (hA : 0 < A) (x a : Int) : ((normP (x * (t.w : Int) - a * (A : Int)) ((A : Int) * (t.w : Int))).2 % (p : Int) = 0) ↔ ¬ (t.w : Int) ∣ (x - a * (t.r : Int)) := by
  have hw : (0 : Int) < (t.w : Int) := by have := c.w0; omega
  have hA' : (0 : Int) < (A : Int) := by omega
  have e1 : x * (t.w : Int) - a * (A : Int) = (x - a * (t.r : Int)) * (t.w : Int) := by
    rw [← c.rw', Int.natCast_mul, Int.sub_mul, Int.mul_assoc]
  have e2 : normP ((x - a * (t.r : Int)) * (t.w : Int)) ((A : Int) * (t.w : Int)) = norm ((x - a * (t.r : Int)) % (A : Int)) (A : Int) := by
    rw [normP_eq _ _ (Int.mul_pos hA' hw), Int.mul_comm (x - a * (t.r : Int)) (t.w : Int), Int.mul_comm (A : Int) (t.w : Int), Int.mul_emod_mul_of_pos _ _ hw, Int.mul_comm (t.w : Int) ((x - a * (t.r : Int)) % (A : Int)), Int.mul_comm (t.w : Int) (A : Int), norm_scale _ _ _ hA' hw]
  rw [e1, e2, norm_q hA']
  dsimp only
  obtain ⟨y, hy⟩ := Int.eq_ofNat_of_zero_le (Int.emod_nonneg (x - a * (t.r : Int)) (show (A : Int) ≠ 0 by omega))
  have hyA : y < A := by have := Int.emod_lt_of_pos (x - a * (t.r : Int)) hA'; omega
  rw [hy]
  have g : Int.gcd (y : Int) (A : Int) = Nat.gcd y A := rfl
  rw [g]
  have b := c.bt y hyA
  have l : ((A : Int) / ((Nat.gcd y A : Nat) : Int) % (p : Int) = 0) ↔ ((A / Nat.gcd y A) % p = 0) := by
    rw [← Int.natCast_ediv, ← Int.natCast_emod]; omega
  rw [l, b]
  have dw : (t.w : Int) ∣ (A : Int) := ⟨t.r, by rw [← c.rw', Int.natCast_mul, Int.mul_comm]⟩
  have r1 : (y % t.w = 0) ↔ (t.w : Int) ∣ (x - a * (t.r : Int)) := by
    constructor
    · intro z
      have z1 : (t.w : Int) ∣ ((x - a * (t.r : Int)) % (A : Int)) := by rw [hy]; exact_mod_cast Nat.dvd_of_mod_eq_zero z
      have := Int.dvd_add z1 (Int.dvd_trans dw (Int.dvd_mul_right (A : Int) ((x - a * (t.r : Int)) / (A : Int))))
      rwa [Int.emod_add_mul_ediv] at this
    · intro z
      have z1 : (t.w : Int) ∣ ((x - a * (t.r : Int)) % (A : Int)) := by
        rw [Int.emod_def]
        exact Int.dvd_sub z (Int.dvd_trans dw (Int.dvd_mul_right _ _))
      rw [hy] at z1
      exact Nat.mod_eq_zero_of_dvd (by exact_mod_cast z1)
  rw [r1]
abbrev bodyA : Sm := sSeq (sVal 4 (eP (pCall F__law_part [p2 dSub (p2 dMul (p2 dIx (pVar 0) (pC (.int 0))) (pVar 2)) (p2 dMul (pVar 3) (p2 dIx (pVar 0) (pC (.int 1)))), p2 dMul (p2 dIx (pVar 0) (pC (.int 1))) (pVar 2)])))
      (sIf (tP (tV (p2 dNe (p2 dMod (pN (l1 dInt) [p2 dIx (pVar 4) (pC (.int 1))]) (pVar 1)) (pC (.int 0))))) (sRet (eP (pCall F__law_fraction [pVar 3, pVar 2]))) (sNx))
def notT : Cell → Bool
  | .own true _ => false
  | _ => true
theorem bodyA_run {A p : Nat} {t : PP} (c : Chk A p t) (hA : 0 < A) (hA2 : A ≤ 360) (x k : Nat) (hx : x < A) (hk : k < t.w) (c4 : Cell) (h4 : notT c4 = true) :
    ∃ late, bodyA [.val (frD (x, A)), .val (.int p), .val (.int t.w), .val (.int k), c4] = some ([.val (frD (x, A)), .val (.int p), .val (.int t.w), .val (.int k), .val late], if (t.w : Int) ∣ ((x : Int) - k * t.r) then .rt (.val (frD (norm k t.w))) else .nx) := by
  have hw := c.w0
  have hp := c.p0
  have hp1 := c.p1
  have hwA : t.w ≤ A := by
    have := c.rw'
    have hr : t.r ≠ 0 := fun z => by rw [z] at this; omega
    rw [← this]
    exact Nat.le_mul_of_pos_left _ (Nat.pos_of_ne_zero hr)
  have hAw : (A : Int) * (t.w : Int) ≠ 0 := mul_ne (by omega) (by omega)
  have lp := law_part ((x : Int) * t.w - k * A) ((A : Int) * t.w) hAw (log2_64 (Nat.lt_trans (mul31 (show S31 (A : Int) by unfold S31; omega) (show S31 (t.w : Int) by unfold S31; omega)) (by decide)))
  have lf := law_fraction (k : Int) (t.w : Int) (by omega) (log2_64 (by rw [Int.natAbs_natCast]; omega))
  have lb := late_bottom c hA x k
  have m1 : mulOk (x : Int) (t.w : Int) = true := mulN (by omega)
  have m2 : mulOk (k : Int) (A : Int) = true := mulN (by omega)
  have m3 : mulOk (A : Int) (t.w : Int) = true := mulN (by omega)
  have hp' : (p : Int) ≠ 0 := by omega
  refine ⟨frD (normP ((x : Int) * t.w - k * A) ((A : Int) * t.w)), ?_⟩
  have fm : ∀ z : Int, z.fmod (p : Int) = z % (p : Int) := fun z => fmod_pos (by omega)
  by_cases hd : (t.w : Int) ∣ ((x : Int) - k * t.r)
  · have hb : ¬ ((normP ((x : Int) * t.w - k * A) ((A : Int) * t.w)).2 % (p : Int) = 0) := fun z => (lb.mp z) hd
    cases c4 with
    | own fx o =>
      cases fx with
      | true => cases h4
      | false => simp [bodyA, pair_ix0, pair_ix1, m1, m2, m3, lp, fm, hp, hp', hb, lf, hd]
    | un => simp [bodyA, pair_ix0, pair_ix1, m1, m2, m3, lp, fm, hp, hp', hb, lf, hd]
    | scr ns => simp [bodyA, pair_ix0, pair_ix1, m1, m2, m3, lp, fm, hp, hp', hb, lf, hd]
    | val d => simp [bodyA, pair_ix0, pair_ix1, m1, m2, m3, lp, fm, hp, hp', hb, lf, hd]
  · have hb : ((normP ((x : Int) * t.w - k * A) ((A : Int) * t.w)).2 % (p : Int) = 0) := lb.mpr hd
    cases c4 with
    | own fx o =>
      cases fx with
      | true => cases h4
      | false => simp [bodyA, pair_ix0, pair_ix1, m1, m2, m3, lp, fm, hp, hp', hb, lf, hd]
    | un => simp [bodyA, pair_ix0, pair_ix1, m1, m2, m3, lp, fm, hp, hp', hb, lf, hd]
    | scr ns => simp [bodyA, pair_ix0, pair_ix1, m1, m2, m3, lp, fm, hp, hp', hb, lf, hd]
    | val d => simp [bodyA, pair_ix0, pair_ix1, m1, m2, m3, lp, fm, hp, hp', hb, lf, hd]
theorem loopA {A p : Nat} {t : PP} (c : Chk A p t) (hA : 0 < A) (hA2 : A ≤ 360) (x : Nat) (hx : x < A) (s : Nat) (hs : s < t.w) (es : (s : Int) = ((x : Int) * t.v) % (t.w : Int)) : ∀ (n j : Nat), j + n = t.w → j ≤ s → ∀ (c3 c4 : Cell), notT c3 = true → notT c4 = true →
    ∃ late, forL (.nm 3) bodyA ((List.range' j n).map fun (k : Nat) => PyData.int (k : Int)) [.val (frD (x, A)), .val (.int p), .val (.int t.w), c3, c4] = some ([.val (frD (x, A)), .val (.int p), .val (.int t.w), .val (.int s), .val late], .rt (.val (frD (norm s t.w)))) := by
  intro n
  induction n with
  | zero => intro j h1 h2; omega
  | succ n ih =>
    intro j h1 h2 c3 c4 h3 h4
    rw [List.range'_succ, List.map_cons, forL]
    have hb : bind (.nm 3) (.int (j : Int)) [.val (frD (x, A)), .val (.int p), .val (.int t.w), c3, c4] = some [.val (frD (x, A)), .val (.int p), .val (.int t.w), .val (.int (j : Int)), c4] := by
      cases c3 with
      | own fx o =>
        cases fx with
        | true => cases h3
        | false => simp
      | un => simp
      | scr ns => simp
      | val d => simp
    rw [hb]
    dsimp only
    obtain ⟨late, e⟩ := bodyA_run c hA hA2 x j hx (by omega) c4 h4
    rw [e]
    have u := uniq x t.r t.v t.w j (by have := c.w0; omega) c.one (by omega) (by omega)
    by_cases hj : j = s
    · subst hj
      rw [if_pos (u.mpr es)]
      exact ⟨late, rfl⟩
    · rw [if_neg fun z => hj (by have := u.mp z; omega)]
      exact ih (j + 1) (by omega) (by omega) _ _ rfl rfl
end K05
/-! k05, the plain law: the law's p-part. -/
namespace K05
open PySem PySem.Spec PyProof.Rows L2 L3
theorem law_prime_part {A p : Nat} {t : PP} (c : Chk A p t) (hA : 0 < A) (hA2 : A ≤ 360) (x : Nat) (hx : x < A) :
    F__law_prime_part [.val (frD (x, A)), .val (.int p)] = some ([.un, .un], .val (frD (normP ((x : Int) * t.v) t.w))) := by
  have hw : (0 : Int) < (t.w : Int) := by have := c.w0; omega
  obtain ⟨s, es⟩ := Int.eq_ofNat_of_zero_le (Int.emod_nonneg ((x : Int) * t.v) (show (t.w : Int) ≠ 0 by omega))
  have hs : s < t.w := by have := Int.emod_lt_of_pos ((x : Int) * t.v) hw; omega
  have hwA : t.w ≤ A := by
    have := c.rw'
    have hr : t.r ≠ 0 := fun z => by rw [z] at this; omega
    rw [← this]
    exact Nat.le_mul_of_pos_left _ (Nat.pos_of_ne_zero hr)
  have p1 := c.p1
  have lw := loop_pow x A p .un .un c.p0 (by omega) 20 1 t.w (by omega) c.pw
  have e1 : (((1 : Nat) : Int)) = 1 := rfl
  rw [e1] at lw
  obtain ⟨late, lA⟩ := loopA c hA hA2 x hx s hs es.symm t.w 0 (by omega) (by omega) .un .un rfl rfl
  have er : rangeD 0 (t.w : Int) = (List.range' 0 t.w).map fun (k : Nat) => PyData.int (k : Int) := by
    unfold rangeD
    rw [List.range_eq_range', show ((t.w : Int) - 0).toNat = t.w by omega]
    congr 1
    funext k
    rw [Int.zero_add]
  have r1 : r62 0 = true := by decide
  have r2 : r62 (t.w : Int) = true := decide_eq_true (by
    rw [Int.natAbs_natCast]
    have := log2_mono (show t.w ≤ 1024 by omega)
    have e : Nat.log2 1024 = 10 := by decide +kernel
    omega)
  rw [normP_eq _ _ hw, es]
  unfold F__law_prime_part g__law_prime_part
  simp only [bodyA] at lA
  simp [lw, r1, r2, er, lA]
end K05
/-! k05, the plain law: p-parts added. -/
namespace K05
open PySem PySem.Spec PyProof.Rows L2 L3
theorem norm_val {x q : Int} (hq : 0 < q) : (norm x q).1 * q = x * (norm x q).2 ∧ 0 < (norm x q).2 := by
  refine ⟨?_, (norm_pos (p := x) (show q ≠ 0 by omega)).1⟩
  rw [norm_q hq]
  dsimp only
  generalize hg : ((Int.gcd x q : Nat) : Int) = g
  have dx : g ∣ x := by rw [← hg]; exact Int.gcd_dvd_left ..
  have dq : g ∣ q := by rw [← hg]; exact Int.gcd_dvd_right ..
  have ex : x = g * (x / g) := (Int.mul_ediv_cancel' dx).symm
  have eq : q = g * (q / g) := (Int.mul_ediv_cancel' dq).symm
  generalize x / g = X at *
  generalize q / g = Q at *
  subst ex eq
  rw [Int.mul_comm g Q, ← Int.mul_assoc, Int.mul_comm (X * Q) g, ← Int.mul_assoc]
theorem normP_cross {x q x' q' : Int} (hq : 0 < q) (hq' : 0 < q') (h : x * q' = x' * q) : normP x q = normP x' q' := by
  unfold normP; rw [norm_cross hq hq' h]
theorem normP_mod {x x' q : Int} (hq : 0 < q) (h : x % q = x' % q) : normP x q = normP x' q := by
  rw [normP_eq x q hq, normP_eq x' q hq, h]
theorem normP_val {x q : Int} (hq : 0 < q) : (normP x q).1 * q = (x % q) * (normP x q).2 ∧ 0 < (normP x q).2 := by
  rw [normP_eq x q hq]; exact norm_val hq
theorem emod_right (T w r : Int) (hr : 0 < r) : (T % w * r) % (w * r) = (T * r) % (w * r) := by
  rw [Int.mul_comm _ r, Int.mul_comm w r, Int.mul_comm T r, Int.mul_emod_mul_of_pos _ _ hr, Int.mul_emod_mul_of_pos _ _ hr, Int.emod_emod]
theorem normP_sum (S T r w A : Int) (hr : 0 < r) (hw : 0 < w) (hA : r * w = A) :
    normP ((normP S A).1 * (normP T w).2 + (normP T w).1 * (normP S A).2) ((normP S A).2 * (normP T w).2) = normP (S + T * r) A := by
  have hA0 : 0 < A := by rw [← hA]; exact Int.mul_pos hr hw
  obtain ⟨e1, p1⟩ := normP_val (x := S) hA0
  obtain ⟨e2, p2⟩ := normP_val (x := T) hw
  generalize normP S A = W at *
  generalize normP T w = o at *
  obtain ⟨W1, W2⟩ := W
  obtain ⟨o1, o2⟩ := o
  dsimp only at *
  rw [normP_cross (x' := S % A + T % w * r) (q' := A) (Int.mul_pos p1 p2) hA0 ?_]
  · refine normP_mod hA0 ?_
    have h1 : (T % w * r) % A = (T * r) % A := by
      rw [← hA, Int.mul_comm r w, emod_right T w r hr]
    rw [Int.add_emod, h1, Int.emod_emod, ← Int.add_emod]
  · have e3 : o1 * W2 * A = (T % w * r) * (W2 * o2) := by
      rw [← hA]
      calc o1 * W2 * (r * w) = (o1 * w) * (W2 * r) := by simp only [Int.mul_assoc, Int.mul_left_comm, Int.mul_comm]
        _ = (T % w * o2) * (W2 * r) := by rw [e2]
        _ = _ := by simp only [Int.mul_assoc, Int.mul_left_comm, Int.mul_comm]
    have e4 : W1 * o2 * A = (S % A) * (W2 * o2) := by
      calc W1 * o2 * A = (W1 * A) * o2 := by simp only [Int.mul_assoc, Int.mul_left_comm, Int.mul_comm]
        _ = (S % A * W2) * o2 := by rw [e1]
        _ = _ := by simp only [Int.mul_assoc]
    rw [Int.add_mul, e3, e4, Int.add_mul]
/-- the numbers that the p-parts give together -/
def sumV (A : Nat) : List Nat → Int
  | [] => 0
  | p :: r => (ppOf A p).v * (ppOf A p).r + sumV A r
theorem sum_all : allBelow 360 (fun q => decide (sumV (q + 1) (primesL (q + 1)) % ((q + 1 : Nat) : Int) = 1 % ((q + 1 : Nat) : Int))) = true := by decide +kernel
theorem sum_ok (A : Nat) (h0 : 0 < A) (h : A ≤ 360) : sumV A (primesL A) % (A : Int) = 1 % (A : Int) := by
  have z := allBelow_get sum_all (q := A - 1) (by omega)
  rw [show A - 1 + 1 = A by omega] at z
  exact of_decide_eq_true z
/-- a part in lowest terms is its own form -/
theorem norm_self {x A : Nat} (hA : 0 < A) (hx : x < A) (hg : Nat.gcd x A = 1) : normP x A = (((x : Nat) : Int), ((A : Nat) : Int)) := by
  have hA' : (0 : Int) < (A : Int) := by omega
  rw [normP_eq _ _ hA', Int.emod_eq_of_lt (by omega) (by omega), norm_q hA', show Int.gcd (x : Int) (A : Int) = 1 from hg]
  simp
end K05
/-! k05, the plain law: led parts. -/
namespace K05
open PySem PySem.Spec PyProof.Rows L2 L3
def oneP (x A p : Nat) : Int × Int := normP ((x : Int) * (ppOf A p).v) (ppOf A p).w
def looseB (x A p : Nat) : Bool := decide (((p : Int) - 1) * (oneP x A p).2 ≤ (oneP x A p).1 * (p : Int))
theorem wle {A p : Nat} {t : PP} (c : Chk A p t) (hA : 0 < A) : t.w ≤ A := by
  have := c.rw'
  have hr : t.r ≠ 0 := fun z => by rw [z] at this; omega
  rw [← this]
  exact Nat.le_mul_of_pos_left _ (Nat.pos_of_ne_zero hr)
theorem prime_partC {A p : Nat} (c : Chk A p (ppOf A p)) (hA : 0 < A) (hA2 : A ≤ 360) (x : Nat) (hx : x < A) : F_prime_part [.val (frD (x, A)), .val (.int p)] = some ([.un, .un], .val (frD (oneP x A p))) := by
  have := wle c hA
  have := c.p1
  exact prime_part x A p _ _ _ (by omega) (by omega) c.p0 (by omega) c.sp c.w0 (by omega) c.iv
theorem loop_loose (x A : Nat) (hA : 0 < A) (hA2 : A ≤ 360) (hx : x < A) : ∀ (ps : List Nat) (found : List Nat) (c2 c3 c4 : Cell), (∀ p ∈ ps, Chk A p (ppOf A p)) → found.length + ps.length < 1000 → notT c2 = true → notT c3 = true → notT c4 = true →
    ∃ d2 d3 d4, forL (.nm 2) (sSeq (sPat (.tp [.nm 3, .nm 4]) (eP (pCall F_prime_part [pVar 0, pVar 2])))
      (sIf (tP (tV (p2 dGe (p2 dMul (pVar 3) (pVar 2)) (p2 dMul (p2 dSub (pVar 2) (pC (.int 1))) (pVar 4))))) (sApp 1 (eP (pVar 2))) (sNx))) (natsD ps) [.val (frD (x, A)), .own false (.lst (natsD found)), c2, c3, c4] =
      some ([.val (frD (x, A)), .own false (.lst (natsD (found ++ ps.filter (looseB x A)))), d2, d3, d4], .nx) := by
  intro ps
  induction ps with
  | nil => intro found c2 c3 c4 _ _ _ _ _; exact ⟨c2, c3, c4, by simp [natsD, forL]⟩
  | cons p r ih =>
    intro found c2 c3 c4 hc hl h2 h3 h4
    have c := hc p (List.mem_cons_self ..)
    have pp : F_prime_part [.val (frD (x, A)), .val (.int p)] = some ([.un, .un], .val (.tuple [.int (oneP x A p).1, .int (oneP x A p).2])) := prime_partC c hA hA2 x hx
    have lb : looseB x A p = decide (((p : Int) - 1) * (oneP x A p).2 ≤ (oneP x A p).1 * (p : Int)) := rfl
    have hp1 := c.p1
    rw [List.length_cons] at hl
    have m1 : mulOk (oneP x A p).1 (p : Int) = true := mulOk31' (by unfold S31; omega)
    have m2 : mulOk ((p : Int) - 1) (oneP x A p).2 = true := mulOk31 (by unfold S31; omega)
    have hlen : (natsD found).length < 16777216 := by unfold natsD; rw [List.length_map]; omega
    have put2 : ∀ (a b d e f g : Cell), notT d = true → put 2 a [e, f, d, b, g] = some [e, f, a, b, g] := fun a b d e f g h => by
      cases d with
      | own fx o => cases fx with | true => cases h | false => simp
      | un => simp
      | scr ns => simp
      | val d => simp
    have put3 : ∀ (a b d e f g : Cell), notT d = true → put 3 a [e, f, b, d, g] = some [e, f, b, a, g] := fun a b d e f g h => by
      cases d with
      | own fx o => cases fx with | true => cases h | false => simp
      | un => simp
      | scr ns => simp
      | val d => simp
    have put4 : ∀ (a b d e f g : Cell), notT d = true → put 4 a [e, f, b, g, d] = some [e, f, b, g, a] := fun a b d e f g h => by
      cases d with
      | own fx o => cases fx with | true => cases h | false => simp
      | un => simp
      | scr ns => simp
      | val d => simp
    rw [show natsD (p :: r) = .int (p : Int) :: natsD r from rfl, forL, ev_bind0, put2 _ _ _ _ _ _ h2]
    dsimp only
    by_cases hb : ((p : Int) - 1) * (oneP x A p).2 ≤ (oneP x A p).1 * (p : Int)
    · obtain ⟨d2, d3, d4, e⟩ := ih (found ++ [p]) (.val (.int (p : Int))) (.val (.int (oneP x A p).1)) (.val (.int (oneP x A p).2)) (fun q hq => hc q (List.mem_cons_of_mem _ hq)) (by rw [List.length_append, List.length_singleton]; omega) rfl rfl rfl
      refine ⟨d2, d3, d4, ?_⟩
      have hf : (p :: r).filter (looseB x A) = p :: r.filter (looseB x A) := by simp [List.filter_cons, lb, hb]
      rw [hf]
      have en : natsD (found ++ [p]) = natsD found ++ [.int p] := by simp [natsD]
      rw [en, List.append_assoc, List.singleton_append] at e
      simp [-ev_put, pp, put3 _ _ _ _ _ _ h3, put4 _ _ _ _ _ _ h4, m1, m2, hb, hlen]
      exact e
    · obtain ⟨d2, d3, d4, e⟩ := ih found (.val (.int (p : Int))) (.val (.int (oneP x A p).1)) (.val (.int (oneP x A p).2)) (fun q hq => hc q (List.mem_cons_of_mem _ hq)) (by omega) rfl rfl rfl
      refine ⟨d2, d3, d4, ?_⟩
      have hf : (p :: r).filter (looseB x A) = r.filter (looseB x A) := by simp [List.filter_cons, lb, hb]
      rw [hf]
      simp [-ev_put, pp, put3 _ _ _ _ _ _ h3, put4 _ _ _ _ _ _ h4, m1, m2, hb, hlen]
      exact e
def ledB (x A : Nat) : Bool := (primesL A).all fun p => !looseB x A p
end K05
/-! k05, the plain law: led parts judged, counted. -/
namespace K05
open PySem PySem.Spec PyProof.Rows L2 L3
theorem chk_mem {A p : Nat} (h0 : 0 < A) (h : A ≤ 360) (hp : p ∈ primesL A) : Chk A p (ppOf A p) := chk_get (chk_ok A p h0 h (List.mem_append_left _ hp))
theorem primes_len_all : allBelow 360 (fun q => decide ((primesL (q + 1)).length < 100)) = true := by decide +kernel
theorem primes_len (q : Nat) (h0 : 0 < q) (h : q ≤ 360) : (primesL q).length < 100 := by
  have z := allBelow_get primes_len_all (q := q - 1) (by omega)
  rw [show q - 1 + 1 = q by omega] at z
  exact of_decide_eq_true z
theorem loose_primes (x A : Nat) (hA : 0 < A) (hA2 : A ≤ 360) (hx : x < A) : F_loose_primes [.val (frD (x, A))] = some ([.un], .own false (.lst (natsD ((primesL A).filter (looseB x A))))) := by
  have hp := (primes_ok A hA hA2).1
  have hl := primes_len A hA hA2
  obtain ⟨d2, d3, d4, e⟩ := loop_loose x A hA hA2 hx (primesL A) [] .un .un .un (fun p hp => chk_mem hA hA2 hp) (by simp; omega) rfl rfl rfl
  rw [List.nil_append, show natsD [] = [] from rfl] at e
  unfold F_loose_primes g_loose_primes
  have h24' : len24 0 = true := rfl
  simp [pair_ix1, hp, h24', e]
theorem is_led_part (x A : Nat) (hA : 0 < A) (hA2 : A ≤ 360) (hx : x < A) : F_is_led_part [.val (frD (x, A))] = some ([.un], .val (.bool (ledB x A))) := by
  have l := loose_primes x A hA hA2 hx
  have e : dEq (.list (natsD ((primesL A).filter (looseB x A)))) (.list []) = some (.bool (ledB x A)) := by
    unfold dEq
    rw [if_pos (by simp [emp])]
    congr 2
    unfold ledB
    cases h : (primesL A).filter (looseB x A) with
    | nil =>
      have : ∀ p ∈ primesL A, looseB x A p = false := by simpa [List.filter_eq_nil_iff] using h
      show PyData.eqv (.list []) (.list []) = _
      rw [show PyData.eqv (.list []) (.list []) = true from rfl]
      symm
      rw [List.all_eq_true]
      intro p hp
      rw [this p hp]; rfl
    | cons q r =>
      have hq : q ∈ (primesL A).filter (looseB x A) := by rw [h]; exact List.mem_cons_self ..
      have hq := List.mem_filter.mp hq
      show PyData.eqv (.list (.int (q : Int) :: natsD r)) (.list []) = _
      rw [show PyData.eqv (.list (.int (q : Int) :: natsD r)) (.list []) = false by simp [PyData.eqv, PyData.eqvAll]]
      symm
      rw [List.all_eq_false]
      exact ⟨q, hq.1, by rw [hq.2]; simp⟩
  unfold F_is_led_part g_is_led_part
  have h24' : len24 0 = true := rfl
  simp [l, h24', e]
def ledN (a m : Nat) : Bool := ledB (a / Nat.gcd a m) (m / Nat.gcd a m)
def cnt (m : Nat) : Bool := decide (((List.range m).filter fun a => ledN a m).length = max 1 ((List.range m).filter fun a => decide (Nat.gcd a m = 1)).length)
theorem cnt_all : allBelow 120 (fun q => cnt (q + 1)) = true := by decide +kernel
end K05
/-! k05, the plain law: the law's body, first statements. -/
namespace K05
open PySem PySem.Spec PyProof.Rows L2 L3
theorem st_far {ρ : L3.Env} {s : Src} (g : G 29 ρ s) (lap : Nat) (hl : lap < 6) (h2 : ρ[2]? = some (.val (.int lap))) :
    ∃ far : Int, (p2 dIx (pN dLst [pC (.int 5), pC (.int 12), pC (.int 60), pC (.int 360), p2 dPow (pC (.int 10)) (pC (.int 4)), p2 dPow (pC (.int 10)) (pC (.int 9))]) (pVar 2)) ρ = some (.int far) ∧ 1 ≤ far ∧ far ≤ 1000000000 ∧ (lap < 4 → far ≤ 360) := by
  have hd : dPow (.int 10) (.int 4) = some (.int 10000) := by rfl
  have hd2 : dPow (.int 10) (.int 9) = some (.int 1000000000) := by rfl
  have h24 : len24 6 = true := rfl
  have hc : lap = 0 ∨ lap = 1 ∨ lap = 2 ∨ lap = 3 ∨ lap = 4 ∨ lap = 5 := by omega
  rcases hc with rfl | rfl | rfl | rfl | rfl | rfl
  · exact ⟨5, by simp [hd, hd2, h24, h2], by omega, by omega, by omega⟩
  · exact ⟨12, by simp [hd, hd2, h24, h2], by omega, by omega, by omega⟩
  · exact ⟨60, by simp [hd, hd2, h24, h2]; rfl, by omega, by omega, by omega⟩
  · exact ⟨360, by simp [hd, hd2, h24, h2]; rfl, by omega, by omega, by omega⟩
  · exact ⟨10000, by simp [hd, hd2, h24, h2]; rfl, by omega, by omega, by omega⟩
  · exact ⟨1000000000, by simp [hd, hd2, h24, h2]; rfl, by omega, by omega, by omega⟩
abbrev eDraw : E := e2 .c dSub (eCallR F__law_pick 1 [eP (p2 dAdd (p2 dMul (pC (.int 2)) (pVar 6)) (pC (.int 1)))]) (eP (pVar 6))
theorem draw_one {ρ : L3.Env} {s : Src} (g : G 29 ρ s) (far : Int) (h6 : ρ[6]? = some (.val (.int far))) (h1 : 1 ≤ far) (h2 : far ≤ 1000000000) :
    ∃ (s' : Src) (r : Int), eDraw ρ = some (ρ.set 1 (.own false (.src s')), .val (.int r)) ∧ -far ≤ r ∧ r ≤ far := by
  obtain ⟨s', r, e, b1, b2⟩ := pick s (2 * far + 1) (log2_64 (by omega))
  refine ⟨s', r - far, ?_, by omega, by omega⟩
  have m : mulOk 2 far = true := mulOk31 (show S31 2 by unfold S31; decide)
  have e6 : (ρ.set 1 (.own false (.src s')))[6]? = some (.val (.int far)) := by rw [List.getElem?_set_ne (by decide)]; exact h6
  simp [eDraw, h6, m, g.src, e, e6]
theorem draws {far : Int} (h1 : 1 ≤ far) (h2 : far ≤ 1000000000) : ∀ (n j : Nat) (ρ : L3.Env) (s : Src), G 29 ρ s → ρ[6]? = some (.val (.int far)) → ρ[15]? = some .un →
    ∃ (ρ' : L3.Env) (s' : Src) (rs : List Int), compL [15] (.nm 15) tYesE eDraw ((List.range' j n).map fun (k : Nat) => PyData.int (k : Int)) ρ = some (ρ', rs.map .int) ∧ rs.length = n ∧ (∀ r ∈ rs, -far ≤ r ∧ r ≤ far) ∧ G 29 ρ' s' ∧ Fr [1] ρ ρ' := by
  intro n
  induction n with
  | zero => intro j ρ s g h6 h15; exact ⟨ρ, s, [], rfl, rfl, (fun r hr => by cases hr), g, fun _ _ => rfl⟩
  | succ n ih =>
    intro j ρ s g h6 h15
    rw [List.range'_succ, List.map_cons, compL, ev_bind0, g.put (by decide) (by decide)]
    have g1 := g.set (i := 15) (x := .val (.int (j : Int))) (by decide) rfl
    have h61 : (ρ.set 15 (.val (.int (j : Int))))[6]? = some (.val (.int far)) := by rw [List.getElem?_set_ne (by decide)]; exact h6
    obtain ⟨s', r, e, b1, b2⟩ := draw_one g1 far h61 h1 h2
    have g2 := g1.one (s' := s') (by decide)
    have g3 := g2.set (i := 15) (x := .un) (by decide) rfl
    obtain ⟨ρ', s'', rs, e2, hl, hb, g4, f4⟩ := ih (j + 1) (((ρ.set 15 (.val (.int (j : Int)))).set 1 (.own false (.src s'))).set 15 .un) s' g3 (by rw [List.getElem?_set_ne (by decide), List.getElem?_set_ne (by decide)]; exact h61) (g2.got (by decide))
    refine ⟨ρ', s'', r :: rs, ?_, by simp [hl], fun x hx => ?_, g4, fun k hk => ?_⟩
    · dsimp only [tYesE]
      rw [e]
      dsimp only
      rw [ev_toD_val]
      dsimp only [wipeE]
      rw [e2]
      rfl
    · rcases List.mem_cons.mp hx with rfl | hx
      · exact ⟨b1, b2⟩
      · exact hb x hx
    · rw [f4 k hk]
      have hk1 : k ≠ 1 := fun z => hk (by rw [z]; simp)
      by_cases hk15 : k = 15
      · subst hk15; rw [g2.got (by decide), h15]
      · rw [List.getElem?_set_ne (Ne.symm hk15), List.getElem?_set_ne (Ne.symm hk1), List.getElem?_set_ne (Ne.symm hk15)]
theorem four {l : List Int} (h : l.length = 4) : ∃ a b c d, l = [a, b, c, d] := by
  match l, h with
  | [a, b, c, d], _ => exact ⟨a, b, c, d, rfl⟩
/-- p, q, r, s are drawn -/
theorem st_draw {ρ : L3.Env} {s : Src} (g : G 29 ρ s) (far : Int) (h6 : ρ[6]? = some (.val (.int far))) (h1 : 1 ≤ far) (h2 : far ≤ 1000000000) :
    ∃ ρ' s' a b c d, sPat (.tl [.nm 11, .nm 12, .nm 13, .nm 14]) (eComp [15] (.nm 15) (iR (pC (.int 0)) (pC (.int 4))) (tYesE) eDraw) ρ = some (ρ', .nx) ∧ G 29 ρ' s' ∧ Fr [1, 11, 12, 13, 14] ρ ρ' ∧
      ρ'[11]? = some (.val (.int a)) ∧ ρ'[12]? = some (.val (.int b)) ∧ ρ'[13]? = some (.val (.int c)) ∧ ρ'[14]? = some (.val (.int d)) ∧ a.natAbs ≤ far.natAbs ∧ b.natAbs ≤ far.natAbs ∧ c.natAbs ≤ far.natAbs ∧ d.natAbs ≤ far.natAbs := by
  have hr : rangeD 0 4 = (List.range' 0 4).map fun (k : Nat) => PyData.int (k : Int) := by rfl
  obtain ⟨x15, h15⟩ : ∃ x, ρ[15]? = some x := ⟨ρ[15]'(by rw [g.len]; decide), by rw [List.getElem?_eq_getElem]⟩
  have hx : isOwn x15 = false := by
    cases x15 with
    | own fx o => exact absurd h15 (g.free 15 (by decide) fx o)
    | _ => rfl
  have g0 := g.set (i := 15) (x := .un) (by decide) rfl
  obtain ⟨ρ1, s1, rs, e1, hl, hb, g1, f1⟩ := draws h1 h2 4 0 (ρ.set 15 .un) s g0 (by rw [List.getElem?_set_ne (by decide)]; exact h6) (g.got (by decide))
  obtain ⟨a, b, c, d, rfl⟩ := four hl
  have g2 := g1.set (i := 15) (x := x15) (by decide) hx
  have g3 := g2.set (i := 11) (x := .val (.int a)) (by decide) rfl
  have g4 := g3.set (i := 12) (x := .val (.int b)) (by decide) rfl
  have g5 := g4.set (i := 13) (x := .val (.int c)) (by decide) rfl
  have g6 := g5.set (i := 14) (x := .val (.int d)) (by decide) rfl
  have ba := hb a (by simp)
  have bb := hb b (by simp)
  have bc := hb c (by simp)
  have bd := hb d (by simp)
  refine ⟨_, s1, a, b, c, d, ?_, g6, fun k hk => ?_, ?_, ?_, ?_, g5.got (by decide), by omega, by omega, by omega, by omega⟩
  · have ec : eComp [15] (.nm 15) (iR (pC (.int 0)) (pC (.int 4))) (tYesE) eDraw ρ = some (ρ1.set 15 x15, .own false (.lst [.int a, .int b, .int c, .int d])) := by
      unfold eComp
      rw [ev_iR]
      dsimp only [ev_pC]
      rw [show (r62 0 && r62 4) = true from rfl, if_pos rfl, hr]
      dsimp only
      rw [show (freeAt [15] ρ && len24 ((List.range' 0 4).map fun (k : Nat) => PyData.int (k : Int)).length) = true by simp [freeAt, h15, hx, len24], if_pos rfl]
      dsimp only [wipeE]
      rw [e1]
      simp [restore, List.getD_eq_getElem?_getD, h15]
    rw [ev_sPat, ec]
    simp only [ev_toD_own, ev_bind2, ev_binds1, ev_binds0, ev_bind0]
    rw [g2.put (by decide) (by decide)]
    dsimp only
    rw [g3.put (by decide) (by decide)]
    dsimp only
    rw [g4.put (by decide) (by decide)]
    dsimp only
    rw [g5.put (by decide) (by decide)]
  · simp only [List.mem_cons, List.not_mem_nil, or_false, not_or] at hk
    obtain ⟨k1, k2, k3, k4, k5⟩ := hk
    rw [List.getElem?_set_ne (Ne.symm k5), List.getElem?_set_ne (Ne.symm k4), List.getElem?_set_ne (Ne.symm k3), List.getElem?_set_ne (Ne.symm k2)]
    by_cases h : k = 15
    · subst h; rw [g1.got (by decide), h15]
    · rw [List.getElem?_set_ne (Ne.symm h), f1 k (by simpa using k1), List.getElem?_set_ne (Ne.symm h)]
  · rw [List.getElem?_set_ne (by decide), List.getElem?_set_ne (by decide), List.getElem?_set_ne (by decide)]; exact g2.got (by decide)
  · rw [List.getElem?_set_ne (by decide), List.getElem?_set_ne (by decide)]; exact g3.got (by decide)
  · rw [List.getElem?_set_ne (by decide)]; exact g4.got (by decide)
end K05
/-! k05, the plain law: the law's body, further statements. -/
namespace K05
open PySem PySem.Spec PyProof.Rows L2 L3
theorem st_qs {ρ : L3.Env} {s : Src} (g : G 29 ρ s) (b d : Int) (h12 : ρ[12]? = some (.val (.int b))) (h14 : ρ[14]? = some (.val (.int d))) :
    ∃ ρ' s' k, sPar [12, 14, 15] [eP (pIf (tV (p2 dNe (pVar 12) (pC (.int 0)))) (pVar 12) (pC (.int 1))), eP (pIf (tV (p2 dNe (pVar 14) (pC (.int 0)))) (pVar 14) (p1 dNeg (pC (.int 1)))), e2 .c dSub (eCallR F__law_pick 1 [eP (pC (.int 2001))]) (eP (pC (.int 1000)))] ρ = some (ρ', .nx) ∧ G 29 ρ' s' ∧ Fr [1, 12, 14, 15] ρ ρ' ∧
      ρ'[12]? = some (.val (.int (if b = 0 then 1 else b))) ∧ ρ'[14]? = some (.val (.int (if d = 0 then -1 else d))) ∧ ρ'[15]? = some (.val (.int k)) ∧ -1000 ≤ k ∧ k ≤ 1000 := by
  obtain ⟨s', r, e, b1, b2⟩ := pick s 2001 (by decide)
  have g0 := g.one (s' := s') (by decide)
  have g1 := g0.set (i := 12) (x := .val (.int (if b = 0 then 1 else b))) (by decide) rfl
  have g2 := g1.set (i := 14) (x := .val (.int (if d = 0 then -1 else d))) (by decide) rfl
  have g3 := g2.set (i := 15) (x := .val (.int (r - 1000))) (by decide) rfl
  have e1 : pIf (tV (p2 dNe (pVar 12) (pC (.int 0)))) (pVar 12) (pC (.int 1)) ρ = some (.int (if b = 0 then 1 else b)) := by
    by_cases h : b = 0 <;> simp [h12, h]
  have ee2 : pIf (tV (p2 dNe (pVar 14) (pC (.int 0)))) (pVar 14) (p1 dNeg (pC (.int 1))) ρ = some (.int (if d = 0 then -1 else d)) := by
    by_cases h : d = 0 <;> simp [h14, h]
  have e3 : e2 .c dSub (eCallR F__law_pick 1 [eP (pC (.int 2001))]) (eP (pC (.int 1000))) ρ = some (ρ.set 1 (.own false (.src s')), .val (.int (r - 1000))) := by
    simp [g.src, e]
  refine ⟨_, s', r - 1000, ?_, g3, fun k hk => ?_, ?_, ?_, g2.got (by decide), by omega, by omega⟩
  · rw [ev_sPar]
    simp only [ev_ecells1, ev_ecells0, ev_eP, e1, ee2, e3, ev_puts1, ev_puts0]
    rw [g0.put (by decide) (by decide)]
    dsimp only
    rw [g1.put (by decide) (by decide)]
    dsimp only
    rw [g2.put (by decide) (by decide)]
  · simp only [List.mem_cons, List.not_mem_nil, or_false, not_or] at hk
    obtain ⟨k1, k2, k3, k4⟩ := hk
    rw [List.getElem?_set_ne (Ne.symm k4), List.getElem?_set_ne (Ne.symm k3), List.getElem?_set_ne (Ne.symm k2), List.getElem?_set_ne (Ne.symm k1)]
  · rw [List.getElem?_set_ne (by decide), List.getElem?_set_ne (by decide)]; exact g0.got (by decide)
  · rw [List.getElem?_set_ne (by decide)]; exact g1.got (by decide)
/-- the numbers of a lap -/
structure Lap (ρ : L3.Env) (p q r s k : Int) : Prop where
  h11 : ρ[11]? = some (.val (.int p))
  h12 : ρ[12]? = some (.val (.int q))
  h13 : ρ[13]? = some (.val (.int r))
  h14 : ρ[14]? = some (.val (.int s))
  h15 : ρ[15]? = some (.val (.int k))
  q0 : q ≠ 0
  s0 : s ≠ 0
  bp : S31 p
  bq : S31 q
  br : S31 r
  bs : S31 s
  bk : S31 k
theorem Lap.fr {ρ ρ' : L3.Env} {p q r s k : Int} {L : List Nat} (l : Lap ρ p q r s k) (f : Fr L ρ ρ') (h : (11 ∉ L ∧ 12 ∉ L ∧ 13 ∉ L ∧ 14 ∉ L ∧ 15 ∉ L)) : Lap ρ' p q r s k :=
  { l with h11 := (f 11 h.1).trans l.h11, h12 := (f 12 h.2.1).trans l.h12, h13 := (f 13 h.2.2.1).trans l.h13, h14 := (f 14 h.2.2.2.1).trans l.h14, h15 := (f 15 h.2.2.2.2).trans l.h15 }
theorem s31_log {x : Int} (h : S31 x) : x.natAbs.log2 < 9000 := log2_64 (Nat.lt_trans h (by decide))
/-- x and y -/
theorem st_xy {ρ : L3.Env} {sr : Src} (g : G 29 ρ sr) {p q r s k : Int} (l : Lap ρ p q r s k) :
    ∃ ρ', sPar [16, 17] [eP (pCall F__law_fraction [pVar 11, pVar 12]), eP (pCall F__law_fraction [pVar 13, pVar 14])] ρ = some (ρ', .nx) ∧ G 29 ρ' sr ∧ Fr [16, 17] ρ ρ' ∧ ρ'[16]? = some (.val (frD (norm p q))) ∧ ρ'[17]? = some (.val (frD (norm r s))) := by
  have f1 := law_fraction p q l.q0 (s31_log l.bq)
  have f2 := law_fraction r s l.s0 (s31_log l.bs)
  have g1 := g.set (i := 16) (x := .val (frD (norm p q))) (by decide) rfl
  have g2 := g1.set (i := 17) (x := .val (frD (norm r s))) (by decide) rfl
  have e1 : pCall F__law_fraction [pVar 11, pVar 12] ρ = some (frD (norm p q)) := by simp [l.h11, l.h12, f1]
  have e2 : pCall F__law_fraction [pVar 13, pVar 14] ρ = some (frD (norm r s)) := by simp [l.h13, l.h14, f2]
  refine ⟨_, ?_, g2, fun k hk => ?_, ?_, g1.got (by decide)⟩
  · rw [ev_sPar]
    simp only [ev_ecells1, ev_ecells0, ev_eP, e1, e2, ev_puts1, ev_puts0]
    rw [g.put (by decide) (by decide)]
    dsimp only
    rw [g1.put (by decide) (by decide)]
  · simp only [List.mem_cons, List.not_mem_nil, or_false, not_or] at hk
    rw [List.getElem?_set_ne (Ne.symm hk.2), List.getElem?_set_ne (Ne.symm hk.1)]
  · rw [List.getElem?_set_ne (by decide)]; exact g.got (by decide)
theorem norm_31 {p q : Int} (h : q ≠ 0) (bp : S31 p) (bq : S31 q) : S31 (norm p q).1 ∧ S31 (norm p q).2 ∧ (norm p q).2 ≠ 0 ∧ 0 < (norm p q).2 := by
  obtain ⟨n1, n2, n3⟩ := norm_pos (p := p) h
  exact ⟨Nat.lt_of_le_of_lt n3 bp, Nat.lt_of_le_of_lt n2 bq, by omega, n1⟩
/-- what the program tells of the fractions, and what is due -/
def told1 (p q r s : Int) : List D := [frD (norm p q), frD (norm ((norm p q).1 * (norm r s).2 + (norm r s).1 * (norm p q).2) ((norm p q).2 * (norm r s).2)), frD (norm ((norm p q).1 * (norm r s).1) ((norm p q).2 * (norm r s).2)), frD (-(norm p q).1, (norm p q).2), frD (normP p q)]
theorem st_told1 {ρ : L3.Env} {sr : Src} (g : G 29 ρ sr) {p q r s k : Int} (l : Lap ρ p q r s k) (h16 : ρ[16]? = some (.val (frD (norm p q)))) (h17 : ρ[17]? = some (.val (frD (norm r s)))) :
    (pN dLst [pCall F_fraction_of [pVar 11, pVar 12], pCall F_fraction_sum [pVar 16, pVar 17], pCall F_fraction_times [pVar 16, pVar 17], pCall F_fraction_turned [pVar 16], pCall F_part_of [pVar 11, pVar 12]]) ρ = some (.list (told1 p q r s)) := by
  obtain ⟨a1, a2, a3, _⟩ := norm_31 l.q0 l.bp l.bq
  obtain ⟨b1, b2, b3, _⟩ := norm_31 l.s0 l.br l.bs
  have f1 := fraction_of p q l.q0 (s31_log l.bq)
  have f2 := fraction_sum (norm p q) (norm r s) a1 a2 b1 b2 a3 b3
  have f3 := fraction_times (norm p q) (norm r s) a1 a2 b2 a3 b3
  have f4 := fraction_turned (norm p q)
  have f5 := part_of p q l.q0 (s31_log l.bq)
  simp [l.h11, l.h12, h16, h17, f1, f2, f3, f4, f5, told1, len24]
theorem st_due1 {ρ : L3.Env} {sr : Src} (g : G 29 ρ sr) {p q r s k : Int} (l : Lap ρ p q r s k) (h16 : ρ[16]? = some (.val (frD (norm p q)))) (h17 : ρ[17]? = some (.val (frD (norm r s)))) :
    (pN dLst [pVar 16, pCall F__law_fraction [p2 dAdd (p2 dMul (p2 dIx (pVar 16) (pC (.int 0))) (p2 dIx (pVar 17) (pC (.int 1)))) (p2 dMul (p2 dIx (pVar 17) (pC (.int 0))) (p2 dIx (pVar 16) (pC (.int 1)))), p2 dMul (p2 dIx (pVar 16) (pC (.int 1))) (p2 dIx (pVar 17) (pC (.int 1)))], pCall F__law_fraction [p2 dMul (p2 dIx (pVar 16) (pC (.int 0))) (p2 dIx (pVar 17) (pC (.int 0))), p2 dMul (p2 dIx (pVar 16) (pC (.int 1))) (p2 dIx (pVar 17) (pC (.int 1)))]]) ρ = some (.list ((told1 p q r s).take 3)) := by
  obtain ⟨a1, a2, a3, _⟩ := norm_31 l.q0 l.bp l.bq
  obtain ⟨b1, b2, b3, _⟩ := norm_31 l.s0 l.br l.bs
  have lg := log2_64 (Nat.lt_trans (mul31 a2 b2) (by decide))
  have f2 := law_fraction ((norm p q).1 * (norm r s).2 + (norm r s).1 * (norm p q).2) ((norm p q).2 * (norm r s).2) (mul_ne a3 b3) lg
  have f3 := law_fraction ((norm p q).1 * (norm r s).1) ((norm p q).2 * (norm r s).2) (mul_ne a3 b3) lg
  simp [h16, h17, pair_ix0, pair_ix1, mulOk31 a1, mulOk31 a2, mulOk31 b1, f2, f3, told1, len24]
end K05
/-! k05, the plain law: the law's body, texts compared. -/
namespace K05
open PySem PySem.Spec PyProof.Rows L2 L3
theorem ne_str (t : Str) : dNe (.str t) (.str t) = some (.bool false) := by
  unfold dNe
  rw [if_pos (by rfl)]
  simp [PyData.eqv]
theorem same_repr {ρ : L3.Env} {a b : P} {d : D} (ha : a ρ = some d) (hb : b ρ = some d) (ht : Told d) : tV (p2 dNe (pN (l1 dRepr) [a]) (pN (l1 dRepr) [b])) ρ = some false := by
  obtain ⟨t, ht⟩ := ht
  simp [ha, hb, ht, ne_str]
theorem log_1920 {x : Int} (h : x.natAbs < 4611686018427387904) : x.natAbs.log2 < 1920 := by
  by_cases h0 : x.natAbs = 0
  · rw [h0]; decide
  · have := (Nat.log2_lt h0).mpr (show x.natAbs < 2 ^ 62 from h)
    omega
theorem part_fr {x : Int × Int} (h1 : x.1.natAbs.log2 < 1920) (h2 : x.2.natAbs.log2 < 1920) : Part (frD x) ∧ (frD x).hasDict = false := by
  refine ⟨⟨?_, ?_, ?_⟩, rfl⟩
  · show PyData.showableAll [.int x.1, .int x.2] = true
    exact L3.showableAll_of fun y hy => by
      simp only [List.mem_cons, List.not_mem_nil, or_false] at hy
      rcases hy with rfl | rfl
      · exact decide_eq_true h1
      · exact decide_eq_true h2
  · show max 0 (max 0 0) + 1 ≤ 20; decide
  · show (1921 + 2 + (1921 + 2 + 0)) + 3 ≤ 10000; decide
theorem told_fr {x : Int × Int} (h1 : x.1.natAbs.log2 < 1920) (h2 : x.2.natAbs.log2 < 1920) : Told (frD x) :=
  repr_tuple (xs := [.int x.1, .int x.2]) (fun y hy => by
    simp only [List.mem_cons, List.not_mem_nil, or_false] at hy
    rcases hy with rfl | rfl
    · exact part_int h1
    · exact part_int h2) (.inl fun y hy => by
    simp only [List.mem_cons, List.not_mem_nil, or_false] at hy
    rcases hy with rfl | rfl <;> rfl) (by simp)
/-- a list of fractions is told -/
theorem told_frs {l : List (Int × Int)} (h : ∀ x ∈ l, x.1.natAbs.log2 < 1920 ∧ x.2.natAbs.log2 < 1920) (hl : l.length ≤ 1000) : Told (.list (l.map frD)) ∧ Told (.tuple (l.map frD)) := by
  have m : ∀ y ∈ l.map frD, Part y ∧ y.hasDict = false := fun y hy => by
    obtain ⟨x, hx, rfl⟩ := List.mem_map.mp hy
    exact part_fr (h x hx).1 (h x hx).2
  exact ⟨repr_list (fun y hy => (m y hy).1) (fun y hy => (m y hy).2) (by rw [List.length_map]; exact hl), repr_tuple (fun y hy => (m y hy).1) (.inl fun y hy => (m y hy).2) (by rw [List.length_map]; exact hl)⟩
theorem log_31 {x : Int} (h : S31 x) : x.natAbs.log2 < 1920 := log_1920 (Nat.lt_trans h (by decide))
/-- a form's size -/
theorem norm_log {p q : Int} (h : q ≠ 0) (h1 : p.natAbs.log2 < 1920) (h2 : q.natAbs.log2 < 1920) : (norm p q).1.natAbs.log2 < 1920 ∧ (norm p q).2.natAbs.log2 < 1920 := by
  obtain ⟨n1, n2, n3⟩ := norm_pos (p := p) h
  exact ⟨Nat.lt_of_le_of_lt (log2_mono n3) h1, Nat.lt_of_le_of_lt (log2_mono n2) h2⟩
theorem normP_b {p q : Int} (h : q ≠ 0) : 0 ≤ (normP p q).1 ∧ (normP p q).1 < (normP p q).2 ∧ (normP p q).2.natAbs ≤ q.natAbs := by
  obtain ⟨n1, n2, n3⟩ := norm_pos (p := p) h
  have m0 := Int.emod_nonneg (norm p q).1 (show (norm p q).2 ≠ 0 by omega)
  have m1 := Int.emod_lt_of_pos (norm p q).1 n1
  obtain ⟨v1, v2⟩ := norm_val (x := (norm p q).1 % (norm p q).2) n1
  obtain ⟨_, k2, _⟩ := norm_pos (p := (norm p q).1 % (norm p q).2) (show (norm p q).2 ≠ 0 by omega)
  unfold normP
  generalize (norm p q).1 % (norm p q).2 = X at *
  generalize (norm p q).2 = Q at *
  generalize norm X Q = W at *
  refine ⟨?_, ?_, by omega⟩
  · by_cases h : 0 ≤ W.1
    · exact h
    · exfalso
      have := Int.mul_neg_of_neg_of_pos (show W.1 < 0 by omega) n1
      have := Int.mul_nonneg m0 (show 0 ≤ W.2 by omega)
      omega
  · have := Int.mul_lt_mul_of_pos_right m1 v2
    rw [← v1, Int.mul_comm Q W.2] at this
    exact Int.lt_of_mul_lt_mul_right this (by omega)
theorem told_1 {p q r s : Int} (q0 : q ≠ 0) (s0 : s ≠ 0) (bp : S31 p) (bq : S31 q) (br : S31 r) (bs : S31 s) : Told (.list (told1 p q r s)) := by
  obtain ⟨a1, a2, a3, a4⟩ := norm_31 q0 bp bq
  obtain ⟨b1, b2, b3, b4⟩ := norm_31 s0 br bs
  have d1 := mul31 a1 b2
  have d2 := mul31 b1 a2
  have d3 := mul31 a2 b2
  have d4 := mul31 a1 b1
  have L1 : ((norm p q).1 * (norm r s).2 + (norm r s).1 * (norm p q).2).natAbs.log2 < 1920 := by
    have h : ((norm p q).1 * (norm r s).2 + (norm r s).1 * (norm p q).2).natAbs < 2 ^ 63 := by
      generalize (norm p q).1 * (norm r s).2 = X at *
      generalize (norm r s).1 * (norm p q).2 = Y at *
      omega
    by_cases h0 : ((norm p q).1 * (norm r s).2 + (norm r s).1 * (norm p q).2).natAbs = 0
    · rw [h0]; decide
    · have := (Nat.log2_lt h0).mpr h
      omega
  have n1 := norm_log (mul_ne a3 b3) L1 (log_1920 d3)
  have n2 := norm_log (mul_ne a3 b3) (log_1920 d4) (log_1920 d3)
  obtain ⟨c1, c2, c3⟩ := normP_b (p := p) q0
  have c4 : S31 (normP p q).2 := Nat.lt_of_le_of_lt c3 bq
  have c5 : S31 (normP p q).1 := by unfold S31 at c4 ⊢; omega
  refine (told_frs (l := [norm p q, norm ((norm p q).1 * (norm r s).2 + (norm r s).1 * (norm p q).2) ((norm p q).2 * (norm r s).2), norm ((norm p q).1 * (norm r s).1) ((norm p q).2 * (norm r s).2), (-(norm p q).1, (norm p q).2), normP p q]) (fun x hx => ?_) (by simp)).1
  simp only [List.mem_cons, List.not_mem_nil, or_false] at hx
  rcases hx with rfl | rfl | rfl | rfl | rfl
  · exact ⟨log_31 a1, log_31 a2⟩
  · exact n1
  · exact n2
  · exact ⟨by rw [Int.natAbs_neg]; exact log_31 a1, log_31 a2⟩
  · exact ⟨log_31 c5, log_31 c4⟩
end K05
/-! k05, the plain law: the law's body, parts. -/
namespace K05
open PySem PySem.Spec PyProof.Rows L2 L3
theorem st_cmp1 {ρ : L3.Env} {sr : Src} (g : G 29 ρ sr) {p q r s k : Int} (l : Lap ρ p q r s k) (h16 : ρ[16]? = some (.val (frD (norm p q)))) (h7 : ρ[7]? = some (.val (.list (told1 p q r s)))) (h8 : ρ[8]? = some (.val (.list ((told1 p q r s).take 3)))) :
    tV (p2 dNe (pN (l1 dRepr) [pVar 7]) (pN (l1 dRepr) [p2 dAdd (pVar 8) (pN dLst [pN dTup [p2 dSub (pC (.int 0)) (p2 dIx (pVar 16) (pC (.int 0))), p2 dIx (pVar 16) (pC (.int 1))], pCall F__law_part [pVar 11, pVar 12]])])) ρ = some false := by
  have lp := law_part p q l.q0 (s31_log l.bq)
  refine same_repr (d := .list (told1 p q r s)) (by simp [h7]) ?_ (told_1 l.q0 l.s0 l.bp l.bq l.br l.bs)
  have ad : ∀ xs ys : List D, dAdd (.list xs) (.list ys) = if len24 (xs.length + ys.length) then some (.list (xs ++ ys)) else none := fun _ _ => rfl
  simp [h8, h16, pair_ix0, pair_ix1, l.h11, l.h12, lp, ad, told1, len24, frD]
structure Prt (a : Int × Int) : Prop where
  p0 : 0 ≤ a.1
  lt : a.1 < a.2
  b : S31 a.2
theorem Prt.b1 {a : Int × Int} (h : Prt a) : S31 a.1 := by have := h.p0; have := h.lt; have := h.b; unfold S31 at *; omega
theorem Prt.pos {a : Int × Int} (h : Prt a) : 0 < a.2 := by have := h.p0; have := h.lt; omega
theorem prt_of {p q : Int} (h : q ≠ 0) (b : S31 q) : Prt (normP p q) := by
  obtain ⟨h1, h2, h3⟩ := normP_b (p := p) h
  exact ⟨h1, h2, Nat.lt_of_le_of_lt h3 b⟩
theorem st_ab {ρ : L3.Env} {sr : Src} (g : G 29 ρ sr) {p q r s k : Int} (l : Lap ρ p q r s k) :
    ∃ ρ', sPat (.tp [.nm 18, .nm 19]) (eP (pN dTup [pCall F__law_part [pVar 11, pVar 12], pCall F__law_part [pVar 13, pVar 14]])) ρ = some (ρ', .nx) ∧ G 29 ρ' sr ∧ Fr [18, 19] ρ ρ' ∧ ρ'[18]? = some (.val (frD (normP p q))) ∧ ρ'[19]? = some (.val (frD (normP r s))) := by
  have f1 := law_part p q l.q0 (s31_log l.bq)
  have f2 := law_part r s l.s0 (s31_log l.bs)
  have g1 := g.set (i := 18) (x := .val (frD (normP p q))) (by decide) rfl
  have g2 := g1.set (i := 19) (x := .val (frD (normP r s))) (by decide) rfl
  have e1 : pN dTup [pCall F__law_part [pVar 11, pVar 12], pCall F__law_part [pVar 13, pVar 14]] ρ = some (.tuple [frD (normP p q), frD (normP r s)]) := by simp [l.h11, l.h12, l.h13, l.h14, f1, f2, len24]
  refine ⟨_, ?_, g2, fun k hk => ?_, ?_, g1.got (by decide)⟩
  · rw [ev_sPat, ev_eP, e1]
    simp only [ev_toD_val, ev_bind1, ev_binds1, ev_binds0, ev_bind0]
    rw [g.put (by decide) (by decide)]
    dsimp only
    rw [g1.put (by decide) (by decide)]
  · simp only [List.mem_cons, List.not_mem_nil, or_false, not_or] at hk
    rw [List.getElem?_set_ne (Ne.symm hk.2), List.getElem?_set_ne (Ne.symm hk.1)]
  · rw [List.getElem?_set_ne (by decide)]; exact g.got (by decide)
def told2 (a b : Int × Int) (k : Int) : List (Int × Int) := [normP (a.1 * b.2 + b.1 * a.2) (a.2 * b.2), normP (k * a.1) a.2, normP (-a.1) a.2]
theorem st_told2 {ρ : L3.Env} {a b : Int × Int} {k : Int} (ha : Prt a) (hb : Prt b) (hk : S31 k) (h18 : ρ[18]? = some (.val (frD a))) (h19 : ρ[19]? = some (.val (frD b))) (h15 : ρ[15]? = some (.val (.int k))) :
    (pN dLst [pCall F_part_sum [pVar 18, pVar 19], pCall F_part_times [pVar 15, pVar 18], pCall F_part_turned [pVar 18]]) ρ = some (.list ((told2 a b k).map frD)) := by
  have := ha.pos
  have := hb.pos
  have f1 := part_sum a b ha.b1 ha.b hb.b1 hb.b (by omega) (by omega)
  have f2 := part_times k a hk ha.b (by omega)
  have f3 := part_turned a ha.b (by omega)
  simp [h18, h19, h15, f1, f2, f3, told2, len24]
theorem st_due2 {ρ : L3.Env} {a b : Int × Int} {k : Int} (ha : Prt a) (hb : Prt b) (hk : S31 k) (h18 : ρ[18]? = some (.val (frD a))) (h19 : ρ[19]? = some (.val (frD b))) (h15 : ρ[15]? = some (.val (.int k))) :
    (pN dLst [pCall F__law_part [p2 dAdd (p2 dMul (p2 dIx (pVar 18) (pC (.int 0))) (p2 dIx (pVar 19) (pC (.int 1)))) (p2 dMul (p2 dIx (pVar 19) (pC (.int 0))) (p2 dIx (pVar 18) (pC (.int 1)))), p2 dMul (p2 dIx (pVar 18) (pC (.int 1))) (p2 dIx (pVar 19) (pC (.int 1)))], pCall F__law_part [p2 dMul (pVar 15) (p2 dIx (pVar 18) (pC (.int 0))), p2 dIx (pVar 18) (pC (.int 1))], pCall F__law_part [p2 dSub (pC (.int 0)) (p2 dIx (pVar 18) (pC (.int 0))), p2 dIx (pVar 18) (pC (.int 1))]]) ρ = some (.list ((told2 a b k).map frD)) := by
  have ap := ha.pos
  have bp := hb.pos
  have f1 := law_part (a.1 * b.2 + b.1 * a.2) (a.2 * b.2) (mul_ne (by omega) (by omega)) (log2_64 (Nat.lt_trans (mul31 ha.b hb.b) (by decide)))
  have f2 := law_part (k * a.1) a.2 (by omega) (s31_log ha.b)
  have f3 := law_part (-a.1) a.2 (by omega) (s31_log ha.b)
  simp [h18, h19, h15, pair_ix0, pair_ix1, mulOk31 ha.b1, mulOk31 ha.b, mulOk31 hb.b1, mulOk31 hk, f1, f2, f3, told2, len24]
theorem told_2 {a b : Int × Int} {k : Int} (ha : Prt a) (hb : Prt b) : Told (.list ((told2 a b k).map frD)) := by
  have ap := ha.pos
  have bp := hb.pos
  have key : ∀ x q : Int, q ≠ 0 → q.natAbs < 4611686018427387904 → (normP x q).1.natAbs.log2 < 1920 ∧ (normP x q).2.natAbs.log2 < 1920 := fun x q hq hb => by
    obtain ⟨h1, h2, h3⟩ := normP_b (p := x) hq
    exact ⟨log_1920 (by omega), log_1920 (by omega)⟩
  refine (told_frs (fun x hx => ?_) (by simp [told2])).1
  simp only [told2, List.mem_cons, List.not_mem_nil, or_false] at hx
  rcases hx with rfl | rfl | rfl
  · exact key _ _ (mul_ne (by omega) (by omega)) (mul31 ha.b hb.b)
  · exact key _ _ (by omega) (Nat.lt_trans ha.b (by decide))
  · exact key _ _ (by omega) (Nat.lt_trans ha.b (by decide))
theorem st_cmp2 {ρ : L3.Env} {d : D} (h7 : ρ[7]? = some (.val d)) (h8 : ρ[8]? = some (.val d)) (ht : Told d) : tV (p2 dNe (pN (l1 dRepr) [pVar 7]) (pN (l1 dRepr) [pVar 8])) ρ = some false :=
  same_repr (d := d) (by simp [h7]) (by simp [h8]) ht
def halfD (a y : Int × Int) : List (Int × Int) := if 2 * a.1 < a.2 then [a, y] else [normP (2 * a.1 - a.2) (2 * a.2), (-y.1, y.2)]
theorem st_below {ρ : L3.Env} {a : Int × Int} (ha : Prt a) (h18 : ρ[18]? = some (.val (frD a))) : (p2 dLt (p2 dMul (pC (.int 2)) (p2 dIx (pVar 18) (pC (.int 0)))) (p2 dIx (pVar 18) (pC (.int 1)))) ρ = some (.bool (decide (2 * a.1 < a.2))) := by
  have m2 : mulOk 2 a.1 = true := mulOk31 (show S31 2 by unfold S31; decide)
  simp [h18, pair_ix0, pair_ix1, m2]
theorem st_half {ρ : L3.Env} {a y : Int × Int} (ha : Prt a) (h18 : ρ[18]? = some (.val (frD a))) (h17 : ρ[17]? = some (.val (frD y))) (h9 : ρ[9]? = some (.val (.bool (decide (2 * a.1 < a.2))))) :
    (pIf (tV (pVar 9)) (pN dTup [pVar 18, pVar 17]) (pN dTup [pCall F__law_part [p2 dSub (p2 dMul (pC (.int 2)) (p2 dIx (pVar 18) (pC (.int 0)))) (p2 dIx (pVar 18) (pC (.int 1))), p2 dMul (pC (.int 2)) (p2 dIx (pVar 18) (pC (.int 1)))], pN dTup [p2 dSub (pC (.int 0)) (p2 dIx (pVar 17) (pC (.int 0))), p2 dIx (pVar 17) (pC (.int 1))]])) ρ = some (.tuple ((halfD a y).map frD)) := by
  have ap := ha.pos
  have ab := ha.b
  have m2 : ∀ x : Int, mulOk 2 x = true := fun x => mulOk31 (show S31 2 by unfold S31; decide)
  have f1 := law_part (2 * a.1 - a.2) (2 * a.2) (by omega) (log2_64 (by unfold S31 at ab; omega))
  by_cases hb : 2 * a.1 < a.2
  · simp [h9, hb, h18, h17, halfD, len24]
  · simp [h9, hb, h18, h17, pair_ix0, pair_ix1, m2, f1, halfD, len24, frD]
theorem told_half {a y : Int × Int} (ha : Prt a) (h1 : S31 y.1) (h2 : S31 y.2) : Told (.tuple ((halfD a y).map frD)) := by
  have ap := ha.pos
  have ab := ha.b
  obtain ⟨n1, n2, n3⟩ := normP_b (p := 2 * a.1 - a.2) (show 2 * a.2 ≠ 0 by omega)
  unfold S31 at ab
  refine (told_frs (fun x hx => ?_) (by unfold halfD; split <;> simp)).2
  unfold halfD at hx
  split at hx
  · simp only [List.mem_cons, List.not_mem_nil, or_false] at hx
    rcases hx with rfl | rfl
    · exact ⟨log_31 ha.b1, log_31 ha.b⟩
    · exact ⟨log_31 h1, log_31 h2⟩
  · simp only [List.mem_cons, List.not_mem_nil, or_false] at hx
    rcases hx with rfl | rfl
    · exact ⟨log_1920 (by omega), log_1920 (by omega)⟩
    · exact ⟨by rw [Int.natAbs_neg]; exact log_31 h1, log_31 h2⟩
theorem st_cmp3 {ρ : L3.Env} {a y : Int × Int} (ha : Prt a) (h1 : S31 y.1) (h2 : S31 y.2) (h18 : ρ[18]? = some (.val (frD a))) (h17 : ρ[17]? = some (.val (frD y))) (h8 : ρ[8]? = some (.val (.tuple ((halfD a y).map frD)))) :
    tV (p2 dNe (pN (l1 dRepr) [pCall F_half_of [pVar 18, pVar 17]]) (pN (l1 dRepr) [pVar 8])) ρ = some false := by
  have f := half_of a y ha.b1 ha.b ha.pos
  refine same_repr (d := .tuple ((halfD a y).map frD)) ?_ (by simp [h8]) (told_half ha h1 h2)
  by_cases hb : 2 * a.1 < a.2
  · simp [hb] at f
    simp [h18, h17, f, halfD, hb]
  · simp [hb] at f
    simp [h18, h17, f, halfD, hb]
end K05
/-! k05, the plain law: the law's body, primes. -/
namespace K05
open PySem PySem.Spec PyProof.Rows L2 L3
theorem law_prime_partC {A p : Nat} (c : Chk A p (ppOf A p)) (hA : 0 < A) (hA2 : A ≤ 360) (x : Nat) (hx : x < A) : F__law_prime_part [.val (frD (x, A)), .val (.int p)] = some ([.un, .un], .val (frD (oneP x A p))) := law_prime_part c hA hA2 x hx
theorem part_nat (n : Nat) (h : n ≤ 1000000) : Part (.int (n : Int)) := part_int (log_1920 (by omega))
theorem told_nats {l : List Nat} (h : ∀ n ∈ l, n ≤ 1000000) (hl : l.length ≤ 1000) : Told (.tuple (natsD l)) := by
  have m : ∀ y ∈ natsD l, Part y ∧ y.hasDict = false := fun y hy => by
    obtain ⟨n, hn, rfl⟩ := List.mem_map.mp hy
    exact ⟨part_nat n (h n hn), rfl⟩
  exact repr_tuple (fun y hy => (m y hy).1) (.inl fun y hy => (m y hy).2) (by unfold natsD; rw [List.length_map]; exact hl)
theorem st_cmp4 {ρ : L3.Env} {x A : Nat} (hA : 0 < A) (hA2 : A ≤ 360) (h18 : ρ[18]? = some (.val (frD (x, A)))) (h21 : ρ[21]? = some (.val (.list (natsD (primesL A))))) :
    tV (p2 dNe (pN (l1 dRepr) [pCall F_primes_of [p2 dIx (pVar 18) (pC (.int 1))]]) (pN (l1 dRepr) [pN (l1 dTuple) [pVar 21]])) ρ = some false := by
  have f := (primes_ok A hA hA2).1
  refine same_repr (d := .tuple (natsD (primesL A))) (by simp [h18, pair_ix1, f]) (by simp [h21]) (told_nats (fun n hn => ?_) ?_)
  · have := (chk_mem hA hA2 hn).p1; omega
  · have := primes_len A hA hA2; omega
theorem oneP_log {x A p : Nat} (c : Chk A p (ppOf A p)) (hA : 0 < A) (hA2 : A ≤ 360) : (oneP x A p).1.natAbs < 1000 ∧ (oneP x A p).2.natAbs < 1000 ∧ 0 < (oneP x A p).2 := by
  have w1 := wle c hA
  have w0 := c.w0
  obtain ⟨h1, h2, h3⟩ := normP_b (p := (x : Int) * (ppOf A p).v) (show ((ppOf A p).w : Int) ≠ 0 by omega)
  unfold oneP
  omega
theorem st_cmp5 {ρ : L3.Env} {x A p : Nat} (c : Chk A p (ppOf A p)) (hA : 0 < A) (hA2 : A ≤ 360) (hx : x < A) (h18 : ρ[18]? = some (.val (frD (x, A)))) (h20 : ρ[20]? = some (.val (.int p))) (h24 : ρ[24]? = some (.val (frD (oneP x A p)))) :
    tV (p2 dNe (pN (l1 dRepr) [pCall F_prime_part [pVar 18, pVar 20]]) (pN (l1 dRepr) [pVar 24])) ρ = some false := by
  have f := prime_partC c hA hA2 x hx
  obtain ⟨o1, o2, _⟩ := oneP_log (x := x) c hA hA2
  exact same_repr (d := frD (oneP x A p)) (by simp [h18, h20, f]) (by simp [h24]) (told_fr (log_1920 (by omega)) (log_1920 (by omega)))
theorem st_led {ρ : L3.Env} {x A p : Nat} (c : Chk A p (ppOf A p)) (b : Bool) (h23 : ρ[23]? = some (.val (.bool b))) (h20 : ρ[20]? = some (.val (.int p))) (h24 : ρ[24]? = some (.val (frD (oneP x A p)))) :
    (pT (L3.tAnd (tV (pVar 23)) (tV (p2 dLt (p2 dMul (p2 dIx (pVar 24) (pC (.int 0))) (pVar 20)) (p2 dMul (p2 dSub (pVar 20) (pC (.int 1))) (p2 dIx (pVar 24) (pC (.int 1)))))))) ρ = some (.bool (b && !looseB x A p)) := by
  have p1 := c.p1
  have m1 : mulOk (oneP x A p).1 (p : Int) = true := mulOk31' (by unfold S31; omega)
  have m2 : mulOk ((p : Int) - 1) (oneP x A p).2 = true := mulOk31 (by unfold S31; omega)
  have e : (!looseB x A p) = decide ((oneP x A p).1 * (p : Int) < ((p : Int) - 1) * (oneP x A p).2) := by
    unfold looseB
    by_cases h : ((p : Int) - 1) * (oneP x A p).2 ≤ (oneP x A p).1 * (p : Int)
    · rw [decide_eq_true h, decide_eq_false (by omega)]; rfl
    · rw [decide_eq_false h, decide_eq_true (by omega)]; rfl
  rw [e]
  cases b with
  | true => simp [h23, h20, h24, pair_ix0, pair_ix1, m1, m2]
  | false => simp [h23]
/-- a further prime that does not divide is no hindrance -/
def extra (A p : Nat) : Bool := decide (p ∈ primesL A) || decide ((ppOf A p).w = 1)
theorem extra_all : allBelow 360 (fun q => extra (q + 1) 2 && extra (q + 1) 7) = true := by decide +kernel
theorem loose_one {x A p : Nat} (hp : 2 ≤ p) (h : (ppOf A p).w = 1) : looseB x A p = false := by
  have e : oneP x A p = (0, 1) := by
    unfold oneP
    rw [h, normP_eq _ _ (by decide)]
    simp [Int.emod_one]
    rfl
  unfold looseB
  rw [e]
  exact decide_eq_false (by simp; omega)
theorem led_extra (x A p : Nat) (h0 : 0 < A) (h : A ≤ 360) (hp : p = 2 ∨ p = 7) : (ledB x A && !looseB x A p) = ledB x A := by
  have z := allBelow_get extra_all (q := A - 1) (by omega)
  rw [show A - 1 + 1 = A by omega, Bool.and_eq_true] at z
  have z : extra A p = true := by rcases hp with rfl | rfl; exact z.1; exact z.2
  unfold extra at z
  rw [Bool.or_eq_true, decide_eq_true_eq, decide_eq_true_eq] at z
  rcases z with z | z
  · cases hl : ledB x A with
    | false => rfl
    | true =>
      unfold ledB at hl
      rw [List.all_eq_true] at hl
      rw [hl p z]; rfl
  · rw [loose_one (by omega) z]; simp
end K05
/-! k05, the plain law: the law's body, the loops over primes. -/
namespace K05
open PySem PySem.Spec PyProof.Rows L2 L3
abbrev body1 : Sm := sSeq (sVal 24 (eP (pCall F__law_prime_part [pVar 18, pVar 20])))
      (sSeq (sIf (tP (tV (p2 dNe (pN (l1 dRepr) [pCall F_prime_part [pVar 18, pVar 20]]) (pN (l1 dRepr) [pVar 24])))) (sRet (eP (pC (.bool false)))) (sNx))
      (sVal 23 (eP (pT (L3.tAnd (tV (pVar 23)) (tV (p2 dLt (p2 dMul (p2 dIx (pVar 24) (pC (.int 0))) (pVar 20)) (p2 dMul (p2 dSub (pVar 20) (pC (.int 1))) (p2 dIx (pVar 24) (pC (.int 1)))))))))))
theorem natsD_get {l : List Nat} {k : Nat} (h : k < (natsD l).length) : (natsD l)[k] = .int ((l[k]'(by unfold natsD at h; rwa [List.length_map] at h) : Nat) : Int) := by simp only [natsD, List.getElem_map]
theorem all_take {f : Nat → Bool} {l : List Nat} {k : Nat} (h : k < l.length) : (l.take (k + 1)).all f = ((l.take k).all f && f l[k]) := by
  rw [List.take_add_one, List.getElem?_eq_getElem h, List.all_append]
  simp only [Option.toList_some, List.all_cons, List.all_nil, Bool.and_true]
theorem loop1 {ρ : L3.Env} {sr : Src} (g : G 29 ρ sr) {x A : Nat} (hA : 0 < A) (hA2 : A ≤ 360) (hx : x < A) (h18 : ρ[18]? = some (.val (frD (x, A)))) (h21 : ρ[21]? = some (.val (.list (natsD (primesL A))))) (h23 : ρ[23]? = some (.val (.bool true)))
    {Q : L3.Env → Out → Prop} (q : ∀ ρ', G 29 ρ' sr → Fr [20, 23, 24] ρ ρ' → ρ'[23]? = some (.val (.bool (ledB x A))) → Q ρ' .nx) :
    Ok (sFor (.nm 20) (iP (p2 dAdd (pVar 21) (pN dLst [pC (.int 2), pC (.int 7)]))) body1) ρ Q := by
  have hl := primes_len A hA hA2
  have en : natsD (primesL A) ++ [.int 2, .int 7] = natsD (primesL A ++ [2, 7]) := by simp [natsD]
  have e : iP (p2 dAdd (pVar 21) (pN dLst [pC (.int 2), pC (.int 7)])) ρ = some (ρ, natsD (primesL A ++ [2, 7])) := by
    have ad : dAdd (.list (natsD (primesL A))) (.list [.int 2, .int 7]) = some (.list (natsD (primesL A ++ [2, 7]))) := by
      show (if len24 ((natsD (primesL A)).length + 2) then some (PyData.list (natsD (primesL A) ++ [.int 2, .int 7])) else none) = _
      rw [if_pos (show len24 ((natsD (primesL A)).length + 2) = true from decide_eq_true (by unfold natsD; rw [List.length_map]; omega)), en]
    have l2 : len24 2 = true := rfl
    simp [h21, l2, ad]
  refine Ok.for e (fun k ρ' => G 29 ρ' sr ∧ Fr [20, 23, 24] ρ ρ' ∧ ρ'[23]? = some (.val (.bool (((primesL A ++ [2, 7]).take k).all fun p => !looseB x A p)))) ⟨g, Fr.refl _, by simpa using h23⟩ (fun k ρ' hk ⟨g', f', h'⟩ => ?_) fun ρ' ⟨g', f', h'⟩ => ?_
  · have hk' : k < (primesL A ++ [2, 7]).length := by unfold natsD at hk; rwa [List.length_map] at hk
    rw [natsD_get hk]
    generalize hp : (primesL A ++ [2, 7])[k] = p
    have c : Chk A p (ppOf A p) := chk_get (chk_ok A p hA hA2 (hp ▸ List.getElem_mem hk'))
    have g1 := g'.set (i := 20) (x := .val (.int (p : Int))) (by decide) rfl
    refine ⟨_, by rw [ev_bind0]; exact g'.put (by decide) (by decide), ?_⟩
    have a18 : (ρ'.set 20 (.val (.int (p : Int))))[18]? = some (.val (frD (x, A))) := by rw [List.getElem?_set_ne (by decide), f' 18 (by decide)]; exact h18
    have a20 : (ρ'.set 20 (.val (.int (p : Int))))[20]? = some (.val (.int (p : Int))) := g'.got (by decide)
    have a23 : (ρ'.set 20 (.val (.int (p : Int))))[23]? = some (.val (.bool (((primesL A ++ [2, 7]).take k).all fun p => !looseB x A p))) := by rw [List.getElem?_set_ne (by decide)]; exact h'
    generalize hρ1 : ρ'.set 20 (.val (.int (p : Int))) = ρ1 at *
    have f1 : Fr [20, 23, 24] ρ ρ1 := by rw [← hρ1]; exact f'.trans (Fr.set (by decide))
    have lp := law_prime_partC c hA hA2 x hx
    refine Ok.seq (Ok.val g1 (d := frD (oneP x A p)) (by simp [a18, a20, lp]) (by decide) (by decide) ⟨rfl, ?_⟩)
    have g2 := g1.set (i := 24) (x := .val (frD (oneP x A p))) (by decide) rfl
    have b18 : (ρ1.set 24 (.val (frD (oneP x A p))))[18]? = some (.val (frD (x, A))) := by rw [List.getElem?_set_ne (by decide)]; exact a18
    have b20 : (ρ1.set 24 (.val (frD (oneP x A p))))[20]? = some (.val (.int (p : Int))) := by rw [List.getElem?_set_ne (by decide)]; exact a20
    have b23 : (ρ1.set 24 (.val (frD (oneP x A p))))[23]? = some (.val (.bool (((primesL A ++ [2, 7]).take k).all fun p => !looseB x A p))) := by rw [List.getElem?_set_ne (by decide)]; exact a23
    have b24 : (ρ1.set 24 (.val (frD (oneP x A p))))[24]? = some (.val (frD (oneP x A p))) := g1.got (by decide)
    generalize hρ2 : ρ1.set 24 (.val (frD (oneP x A p))) = ρ2 at *
    have f2 : Fr [20, 23, 24] ρ ρ2 := by rw [← hρ2]; exact f1.trans (Fr.set (by decide))
    refine Ok.seq (Ok.ifF (st_cmp5 c hA hA2 hx b18 b20 b24) ⟨rfl, ?_⟩)
    refine Ok.val g2 (st_led c _ b23 b20 b24) (by decide) (by decide) ⟨rfl, g2.set (by decide) rfl, f2.trans (Fr.set (by decide)), ?_⟩
    rw [g2.got (by decide), all_take hk', hp]
  · refine q ρ' g' f' ?_
    have hlen : (natsD (primesL A ++ [2, 7])).length = (primesL A ++ [2, 7]).length := by unfold natsD; rw [List.length_map]
    rw [hlen, List.take_length] at h'
    rw [h']
    have e2 := led_extra x A 2 hA hA2 (.inl rfl)
    have e7 := led_extra x A 7 hA hA2 (.inr rfl)
    have : ((primesL A ++ [2, 7]).all fun p => !looseB x A p) = ledB x A := by
      rw [List.all_append]
      show (ledB x A && (!looseB x A 2 && (!looseB x A 7 && true))) = _
      rw [Bool.and_true, ← Bool.and_assoc, e2, e7]
    rw [this]
abbrev body2 : Sm := sSeq (sVal 24 (eP (pCall F__law_prime_part [pVar 18, pVar 20])))
      (sVal 22 (eP (pCall F__law_part [p2 dAdd (p2 dMul (p2 dIx (pVar 22) (pC (.int 0))) (p2 dIx (pVar 24) (pC (.int 1)))) (p2 dMul (p2 dIx (pVar 24) (pC (.int 0))) (p2 dIx (pVar 22) (pC (.int 1)))), p2 dMul (p2 dIx (pVar 22) (pC (.int 1))) (p2 dIx (pVar 24) (pC (.int 1)))])))
theorem sumV_snoc (A p : Nat) : ∀ l : List Nat, sumV A (l ++ [p]) = sumV A l + (ppOf A p).v * (ppOf A p).r
  | [] => by simp [sumV]
  | q :: r => by rw [List.cons_append, sumV, sumV, sumV_snoc A p r]; omega
theorem loop2 {ρ : L3.Env} {sr : Src} (g : G 29 ρ sr) {x A : Nat} (hA : 0 < A) (hA2 : A ≤ 360) (hx : x < A) (h18 : ρ[18]? = some (.val (frD (x, A)))) (h21 : ρ[21]? = some (.val (.list (natsD (primesL A))))) (h22 : ρ[22]? = some (.val (frD (0, 1))))
    {Q : L3.Env → Out → Prop} (q : ∀ ρ', G 29 ρ' sr → Fr [20, 22, 24] ρ ρ' → ρ'[22]? = some (.val (frD (normP x A))) → Q ρ' .nx) :
    Ok (sFor (.nm 20) (iP (pVar 21)) body2) ρ Q := by
  have hA' : (0 : Int) < (A : Int) := by omega
  have e : iP (pVar 21) ρ = some (ρ, natsD (primesL A)) := by simp [h21]
  have n0 : normP 0 A = (0, 1) := by
    rw [normP_eq _ _ hA', Int.zero_emod, norm_q hA']
    have : ((Int.gcd 0 (A : Int) : Nat) : Int) = A := by simp
    rw [this, Int.zero_ediv, Int.ediv_self (by omega)]
  refine Ok.for e (fun k ρ' => G 29 ρ' sr ∧ Fr [20, 22, 24] ρ ρ' ∧ ρ'[22]? = some (.val (frD (normP ((x : Int) * sumV A ((primesL A).take k)) A)))) ⟨g, Fr.refl _, by simp [sumV, n0, h22]⟩ (fun k ρ' hk ⟨g', f', h'⟩ => ?_) fun ρ' ⟨g', f', h'⟩ => ?_
  · have hk' : k < (primesL A).length := by unfold natsD at hk; rwa [List.length_map] at hk
    rw [natsD_get hk]
    generalize hp : (primesL A)[k] = p
    have c : Chk A p (ppOf A p) := chk_mem hA hA2 (hp ▸ List.getElem_mem hk')
    have g1 := g'.set (i := 20) (x := .val (.int (p : Int))) (by decide) rfl
    refine ⟨_, by rw [ev_bind0]; exact g'.put (by decide) (by decide), ?_⟩
    have a18 : (ρ'.set 20 (.val (.int (p : Int))))[18]? = some (.val (frD (x, A))) := by rw [List.getElem?_set_ne (by decide), f' 18 (by decide)]; exact h18
    have a20 : (ρ'.set 20 (.val (.int (p : Int))))[20]? = some (.val (.int (p : Int))) := g'.got (by decide)
    have a22 := h'
    rw [← List.getElem?_set_ne (i := 20) (a := .val (.int (p : Int))) (by decide)] at a22
    generalize hρ1 : ρ'.set 20 (.val (.int (p : Int))) = ρ1 at *
    have f1 : Fr [20, 22, 24] ρ ρ1 := by rw [← hρ1]; exact f'.trans (Fr.set (by decide))
    have lp := law_prime_partC c hA hA2 x hx
    refine Ok.seq (Ok.val g1 (d := frD (oneP x A p)) (by simp [a18, a20, lp]) (by decide) (by decide) ⟨rfl, ?_⟩)
    have g2 := g1.set (i := 24) (x := .val (frD (oneP x A p))) (by decide) rfl
    have b22 := a22
    rw [← List.getElem?_set_ne (i := 24) (a := .val (frD (oneP x A p))) (by decide)] at b22
    have b24 : (ρ1.set 24 (.val (frD (oneP x A p))))[24]? = some (.val (frD (oneP x A p))) := g1.got (by decide)
    generalize hρ2 : ρ1.set 24 (.val (frD (oneP x A p))) = ρ2 at *
    have f2 : Fr [20, 22, 24] ρ ρ2 := by rw [← hρ2]; exact f1.trans (Fr.set (by decide))
    have hr : (0 : Int) < ((ppOf A p).r : Int) := by
      have := c.rw'
      have : (ppOf A p).r ≠ 0 := fun z => by rw [z] at this; omega
      omega
    have hw : (0 : Int) < ((ppOf A p).w : Int) := by have := c.w0; omega
    have ns := normP_sum ((x : Int) * sumV A ((primesL A).take k)) ((x : Int) * (ppOf A p).v) (ppOf A p).r (ppOf A p).w A hr hw (by rw [← Int.natCast_mul, c.rw'])
    obtain ⟨o1, o2, o3⟩ := oneP_log (x := x) c hA hA2
    obtain ⟨w1, w2, w3⟩ := normP_b (p := (x : Int) * sumV A ((primesL A).take k)) (show (A : Int) ≠ 0 by omega)
    generalize hW : normP ((x : Int) * sumV A ((primesL A).take k)) A = W at *
    rw [show normP ((x : Int) * (ppOf A p).v) (ppOf A p).w = oneP x A p from rfl] at ns
    generalize oneP x A p = o at *
    have s1 : S31 W.1 := by unfold S31; omega
    have s2 : S31 W.2 := by unfold S31; omega
    have s3 : S31 o.1 := by unfold S31; omega
    have s4 : S31 o.2 := by unfold S31; omega
    have lq := law_part (W.1 * o.2 + o.1 * W.2) (W.2 * o.2) (mul_ne (by omega) (by omega)) (log2_64 (Nat.lt_trans (mul31 s2 s4) (by decide)))
    rw [ns] at lq
    refine Ok.val g2 (d := frD (normP ((x : Int) * sumV A ((primesL A).take (k + 1))) A)) ?_ (by decide) (by decide) ⟨rfl, g2.set (by decide) rfl, f2.trans (Fr.set (by decide)), g2.got (by decide)⟩
    have es : (x : Int) * sumV A ((primesL A).take (k + 1)) = (x : Int) * sumV A ((primesL A).take k) + (x : Int) * (ppOf A p).v * (ppOf A p).r := by
      rw [List.take_add_one, List.getElem?_eq_getElem hk', hp]
      show (x : Int) * sumV A ((primesL A).take k ++ [p]) = _
      rw [sumV_snoc, Int.mul_add, Int.mul_assoc]
    rw [es]
    simp [b22, b24, pair_ix0, pair_ix1, mulOk31 s1, mulOk31 s2, mulOk31 s3, lq]
  · refine q ρ' g' f' ?_
    have hlen : (natsD (primesL A)).length = (primesL A).length := by unfold natsD; rw [List.length_map]
    rw [hlen, List.take_length] at h'
    rw [h', normP_mod hA' (x' := (x : Int)) ?_]
    have so := sum_ok A hA hA2
    rw [Int.mul_emod, so, ← Int.mul_emod, Int.mul_one]
end K05
/-! k05, the plain law: the law's body, the block of primes; the values. -/
namespace K05
open PySem PySem.Spec PyProof.Rows L2 L3
theorem normP_idem {p q : Int} (h : q ≠ 0) : normP (normP p q).1 (normP p q).2 = normP p q := by
  obtain ⟨n1, _, _⟩ := norm_pos (p := p) h
  obtain ⟨h1, h2, h3⟩ := normP_b (p := p) h
  have hp : 0 < (normP p q).2 := by omega
  rw [normP_eq _ _ hp, Int.emod_eq_of_lt h1 h2]
  have v := norm_val (x := (norm p q).1 % (norm p q).2) n1
  have := norm_cross (x := (normP p q).1) (x' := (norm p q).1 % (norm p q).2) hp n1 v.1
  rw [this]; rfl
theorem ne_fr (a : Int × Int) : dNe (frD a) (frD a) = some (.bool false) := by
  unfold dNe frD
  rw [if_pos (by rfl)]
  simp [PyData.eqv, PyData.eqvAll]
abbrev block : Sm := sSeq (sPar [21, 22, 23] [eP (pCall F__law_primes [p2 dIx (pVar 18) (pC (.int 1))]), eP (pN dTup [pC (.int 0), pC (.int 1)]), eP (pC (.bool true))])
      (sSeq (sIf (tP (tV (p2 dNe (pN (l1 dRepr) [pCall F_primes_of [p2 dIx (pVar 18) (pC (.int 1))]]) (pN (l1 dRepr) [pN (l1 dTuple) [pVar 21]])))) (sRet (eP (pC (.bool false)))) (sNx))
      (sSeq (sFor (.nm 20) (iP (p2 dAdd (pVar 21) (pN dLst [pC (.int 2), pC (.int 7)]))) body1)
      (sSeq (sFor (.nm 20) (iP (pVar 21)) body2)
      (sIf (tP (L3.tOr (tV (p2 dNe (pVar 22) (pVar 18))) (tV (p2 dNe (pN (l1 dRepr) [pCall F_is_led_part [pVar 18]]) (pN (l1 dRepr) [pVar 23]))))) (sRet (eP (pC (.bool false)))) (sNx)))))
theorem told_bool (b : Bool) : Told (.bool b) := told_of rfl (Nat.zero_le _) (.inl rfl) (by show 5 ≤ _; omega)
theorem st_block {ρ : L3.Env} {sr : Src} (g : G 29 ρ sr) {x A : Nat} (hA : 0 < A) (hA2 : A ≤ 360) (hx : x < A) (hi : normP (x : Int) (A : Int) = ((x : Int), (A : Int))) (h18 : ρ[18]? = some (.val (frD (x, A)))) :
    Ok block ρ fun ρ' o => o = .nx ∧ G 29 ρ' sr ∧ Fr [20, 21, 22, 23, 24] ρ ρ' := by
  have f := (primes_ok A hA hA2).2
  have g1 := g.set (i := 21) (x := .val (.list (natsD (primesL A)))) (by decide) rfl
  have g2 := g1.set (i := 22) (x := .val (frD (0, 1))) (by decide) rfl
  have g3 := g2.set (i := 23) (x := .val (.bool true)) (by decide) rfl
  have e1 : pCall F__law_primes [p2 dIx (pVar 18) (pC (.int 1))] ρ = some (.list (natsD (primesL A))) := by simp [h18, pair_ix1, f]
  have ee2 : pN dTup [pC (.int 0), pC (.int 1)] ρ = some (frD (0, 1)) := by rfl
  have st : sPar [21, 22, 23] [eP (pCall F__law_primes [p2 dIx (pVar 18) (pC (.int 1))]), eP (pN dTup [pC (.int 0), pC (.int 1)]), eP (pC (.bool true))] ρ = some (((ρ.set 21 (.val (.list (natsD (primesL A))))).set 22 (.val (frD (0, 1)))).set 23 (.val (.bool true)), .nx) := by
    rw [ev_sPar]
    simp only [ev_ecells1, ev_ecells0, ev_eP, e1, ee2, ev_pC, ev_puts1, ev_puts0]
    rw [g.put (by decide) (by decide)]
    dsimp only
    rw [g1.put (by decide) (by decide)]
    dsimp only
    rw [g2.put (by decide) (by decide)]
  refine Ok.seq ⟨_, _, st, rfl, ?_⟩
  have a18 : (((ρ.set 21 (.val (.list (natsD (primesL A))))).set 22 (.val (frD (0, 1)))).set 23 (.val (.bool true)))[18]? = some (.val (frD (x, A))) := by
    rw [List.getElem?_set_ne (by decide), List.getElem?_set_ne (by decide), List.getElem?_set_ne (by decide)]; exact h18
  have a21 : (((ρ.set 21 (.val (.list (natsD (primesL A))))).set 22 (.val (frD (0, 1)))).set 23 (.val (.bool true)))[21]? = some (.val (.list (natsD (primesL A)))) := by
    rw [List.getElem?_set_ne (by decide), List.getElem?_set_ne (by decide)]; exact g.got (by decide)
  have a22 : (((ρ.set 21 (.val (.list (natsD (primesL A))))).set 22 (.val (frD (0, 1)))).set 23 (.val (.bool true)))[22]? = some (.val (frD (0, 1))) := by
    rw [List.getElem?_set_ne (by decide)]; exact g1.got (by decide)
  have a23 : (((ρ.set 21 (.val (.list (natsD (primesL A))))).set 22 (.val (frD (0, 1)))).set 23 (.val (.bool true)))[23]? = some (.val (.bool true)) := g2.got (by decide)
  have f0 : Fr [20, 21, 22, 23, 24] ρ (((ρ.set 21 (.val (.list (natsD (primesL A))))).set 22 (.val (frD (0, 1)))).set 23 (.val (.bool true))) := ((L3.Fr.set (by decide)).trans (L3.Fr.set (by decide))).trans (L3.Fr.set (by decide))
  generalize ((ρ.set 21 (.val (.list (natsD (primesL A))))).set 22 (.val (frD (0, 1)))).set 23 (.val (.bool true)) = ρ1 at *
  refine Ok.seq (Ok.ifF (st_cmp4 hA hA2 a18 a21) ⟨rfl, ?_⟩)
  refine Ok.seq (loop1 g3 hA hA2 hx a18 a21 a23 fun ρ2 h2 f2 b23 => ⟨rfl, ?_⟩)
  have b18 := (f2 18 (by decide)).trans a18
  have b21 := (f2 21 (by decide)).trans a21
  have b22 := (f2 22 (by decide)).trans a22
  refine Ok.seq (loop2 h2 hA hA2 hx b18 b21 b22 fun ρ3 h3 f3 c22 => ⟨rfl, ?_⟩)
  have c18 := (f3 18 (by decide)).trans b18
  have c23 := (f3 23 (by decide)).trans b23
  rw [hi] at c22
  have fl := is_led_part x A hA hA2 hx
  refine Ok.ifF ?_ ⟨rfl, h3, (f0.trans (f2.more (by decide))).trans (f3.more (by decide))⟩
  have t2 := same_repr (ρ := ρ3) (a := pCall F_is_led_part [pVar 18]) (b := pVar 23) (d := .bool (ledB x A)) (by simp [c18, fl]) (by simp [c23]) (told_bool _)
  rw [ev_tOr, t2]
  simp [c22, c18, ne_fr]
end K05
/-! k05, the plain law: the law's body, values. -/
namespace K05
open PySem PySem.Spec PyProof.Rows L2 L3
abbrev eBent : E := eCallR (F__law_bent 3) 1 [eP (pVar 18)]
theorem bent_one {ρ : L3.Env} {s : Src} (g : G 29 ρ s) {a : Int × Int} (h18 : ρ[18]? = some (.val (frD a))) (h1 : S31 a.1) (h2 : S31 a.2) : ∃ (s' : Src) (v : D), eBent ρ = some (ρ.set 1 (.own false (.src s')), .val v) ∧ Told v := by
  obtain ⟨s', v, e, t⟩ := bent_pair 1 s a.1 a.2 h1 h2
  refine ⟨s', v, ?_, t⟩
  have e : F__law_bent 3 [.own true (.src s), .val (frD a)] = some ([.own true (.src s'), .un], .val v) := e
  simp [eBent, h18, g.src, e]
theorem bents {a : Int × Int} (h1 : S31 a.1) (h2 : S31 a.2) : ∀ (n j : Nat) (ρ : L3.Env) (s : Src), G 29 ρ s → ρ[18]? = some (.val (frD a)) → ρ[27]? = some .un →
    ∃ (ρ' : L3.Env) (s' : Src) (vs : List D), compL [27] (.nm 27) tYesE eBent ((List.range' j n).map fun (k : Nat) => PyData.int (k : Int)) ρ = some (ρ', vs) ∧ vs.length = n ∧ (∀ v ∈ vs, Told v) ∧ G 29 ρ' s' ∧ L3.Fr [1] ρ ρ' := by
  intro n
  induction n with
  | zero => intro j ρ s g h6 h15; exact ⟨ρ, s, [], rfl, rfl, (fun r hr => by cases hr), g, fun _ _ => rfl⟩
  | succ n ih =>
    intro j ρ s g h6 h15
    rw [List.range'_succ, List.map_cons, compL, ev_bind0, g.put (by decide) (by decide)]
    have g1 := g.set (i := 27) (x := .val (.int (j : Int))) (by decide) rfl
    have h61 : (ρ.set 27 (.val (.int (j : Int))))[18]? = some (.val (frD a)) := by rw [List.getElem?_set_ne (by decide)]; exact h6
    obtain ⟨s', v, e, tv⟩ := bent_one g1 h61 h1 h2
    have g2 := g1.one (s' := s') (by decide)
    have g3 := g2.set (i := 27) (x := .un) (by decide) rfl
    obtain ⟨ρ', s'', vs, e2, hl, hb, g4, f4⟩ := ih (j + 1) (((ρ.set 27 (.val (.int (j : Int)))).set 1 (.own false (.src s'))).set 27 .un) s' g3 (by rw [List.getElem?_set_ne (by decide), List.getElem?_set_ne (by decide)]; exact h61) (g2.got (by decide))
    refine ⟨ρ', s'', v :: vs, ?_, by simp [hl], fun x hx => ?_, g4, fun k hk => ?_⟩
    · dsimp only [tYesE]
      rw [e]
      dsimp only
      rw [ev_toD_val]
      dsimp only [wipeE]
      rw [e2]
    · rcases List.mem_cons.mp hx with rfl | hx
      · exact tv
      · exact hb x hx
    · rw [f4 k hk]
      have hk1 : k ≠ 1 := fun z => hk (by rw [z]; simp)
      by_cases hk15 : k = 27
      · subst hk15; rw [g2.got (by decide), h15]
      · rw [List.getElem?_set_ne (Ne.symm hk15), List.getElem?_set_ne (Ne.symm hk1), List.getElem?_set_ne (Ne.symm hk15)]
theorem bentComp {ρ : L3.Env} {s : Src} (g : G 29 ρ s) {a : Int × Int} (h18 : ρ[18]? = some (.val (frD a))) (h1 : S31 a.1) (h2 : S31 a.2) :
    ∃ ρ' s' vs, eComp [27] (.nm 27) (iR (pC (.int 0)) (pC (.int 6))) (tYesE) eBent ρ = some (ρ', .own false (.lst vs)) ∧ G 29 ρ' s' ∧ L3.Fr [1] ρ ρ' ∧ vs.length = 6 ∧ ∀ v ∈ vs, Told v := by
  have hr : rangeD 0 6 = (List.range' 0 6).map fun (k : Nat) => PyData.int (k : Int) := by rfl
  obtain ⟨x15, h15⟩ : ∃ x, ρ[27]? = some x := ⟨ρ[27]'(by rw [g.len]; decide), by rw [List.getElem?_eq_getElem]⟩
  have hx : isOwn x15 = false := by
    cases x15 with
    | own fx o => exact absurd h15 (g.free 27 (by decide) fx o)
    | _ => rfl
  have g0 := g.set (i := 27) (x := .un) (by decide) rfl
  obtain ⟨ρ1, s1, vs, e1, hl, hb, g1, f1⟩ := bents h1 h2 6 0 (ρ.set 27 .un) s g0 (by rw [List.getElem?_set_ne (by decide)]; exact h18) (g.got (by decide))
  have g2 := g1.set (i := 27) (x := x15) (by decide) hx
  refine ⟨ρ1.set 27 x15, s1, vs, ?_, g2, fun k hk => ?_, hl, hb⟩
  · unfold eComp
    rw [ev_iR]
    dsimp only [ev_pC]
    rw [show (r62 0 && r62 6) = true from rfl, if_pos rfl, hr]
    dsimp only
    rw [show (freeAt [27] ρ && len24 ((List.range' 0 6).map fun (k : Nat) => PyData.int (k : Int)).length) = true by simp [freeAt, h15, hx, len24], if_pos rfl]
    dsimp only [wipeE]
    rw [e1]
    simp [restore, List.getD_eq_getElem?_getD, h15]
  · by_cases h : k = 27
    · subst h; rw [g1.got (by decide), h15]
    · rw [List.getElem?_set_ne (Ne.symm h), f1 k hk, List.getElem?_set_ne (Ne.symm h)]
abbrev body3 : Sm := sSeq (sPar [25, 26] [eP (pN (l1 dRepr) [pVar 10]), eP (pCall F__law_is_fraction [pVar 10])])
      (sSeq (sVal 8 (eP (pN dLst [pVar 26, pT (L3.tAnd (tV (pVar 26)) (tV (pChain dLe dLt (pC (.int 0)) (p2 dIx (pVar 10) (pC (.int 0))) (p2 dIx (pVar 10) (pC (.int 1))))))])))
      (sIf (tP (L3.tOr (tV (p2 dNe (pN (l1 dRepr) [pN dLst [pCall F_is_fraction [pVar 10], pCall F_is_part [pVar 10]]]) (pN (l1 dRepr) [pVar 8]))) (tV (p2 dNe (pN (l1 dRepr) [pVar 10]) (pVar 25))))) (sRet (eP (pC (.bool false)))) (sNx)))
theorem st_value {ρ : L3.Env} {sr : Src} (g : G 29 ρ sr) {d : D} (td : Told d) (h10 : ρ[10]? = some (.val d)) : Ok body3 ρ fun ρ' o => o = .nx ∧ G 29 ρ' sr ∧ L3.Fr [8, 25, 26] ρ ρ' := by
  obtain ⟨t, ht⟩ := td
  have lf := law_is_fraction d
  have f := is_fraction d
  have fpt := is_part d
  have g1 := g.set (i := 25) (x := .val (.str t)) (by decide) rfl
  have g2 := g1.set (i := 26) (x := .val (.bool (isFr d))) (by decide) rfl
  have st : sPar [25, 26] [eP (pN (l1 dRepr) [pVar 10]), eP (pCall F__law_is_fraction [pVar 10])] ρ = some ((ρ.set 25 (.val (.str t))).set 26 (.val (.bool (isFr d))), .nx) := by
    rw [ev_sPar]
    have e1 : pN (l1 dRepr) [pVar 10] ρ = some (.str t) := by simp [h10, ht]
    have ee2 : pCall F__law_is_fraction [pVar 10] ρ = some (.bool (isFr d)) := by simp [h10, lf]
    simp only [ev_ecells1, ev_ecells0, ev_eP, e1, ee2, ev_puts1, ev_puts0]
    rw [g.put (by decide) (by decide)]
    dsimp only
    rw [g1.put (by decide) (by decide)]
  refine Ok.seq ⟨_, _, st, rfl, ?_⟩
  have a10 : ((ρ.set 25 (.val (.str t))).set 26 (.val (.bool (isFr d))))[10]? = some (.val d) := by rw [List.getElem?_set_ne (by decide), List.getElem?_set_ne (by decide)]; exact h10
  have a25 : ((ρ.set 25 (.val (.str t))).set 26 (.val (.bool (isFr d))))[25]? = some (.val (.str t)) := by rw [List.getElem?_set_ne (by decide)]; exact g.got (by decide)
  have a26 : ((ρ.set 25 (.val (.str t))).set 26 (.val (.bool (isFr d))))[26]? = some (.val (.bool (isFr d))) := g1.got (by decide)
  have f0 : L3.Fr [8, 25, 26] ρ ((ρ.set 25 (.val (.str t))).set 26 (.val (.bool (isFr d)))) := (L3.Fr.set (by decide)).trans (L3.Fr.set (by decide))
  generalize (ρ.set 25 (.val (.str t))).set 26 (.val (.bool (isFr d))) = ρ1 at *
  have du : (pN dLst [pVar 26, pT (L3.tAnd (tV (pVar 26)) (tV (pChain dLe dLt (pC (.int 0)) (p2 dIx (pVar 10) (pC (.int 0))) (p2 dIx (pVar 10) (pC (.int 1))))))]) ρ1 = some (.list [.bool (isFr d), .bool (isPt d)]) := by
    have l2 : len24 2 = true := rfl
    cases h : isFr d with
    | false =>
      have e : isPt d = false := by
        unfold isPt
        split
        · rename_i p q
          rw [show (decide (0 < q) && decide (Int.gcd p q = 1)) = isFr (.tuple [.int p, .int q]) from rfl, h]; rfl
        · rfl
      rw [h] at a26
      simp [a26, e, l2]
    | true =>
      obtain ⟨p, q, rfl⟩ := isFr_inv h
      rw [h] at a26
      have e : isPt (.tuple [.int p, .int q]) = (decide (0 ≤ p) && decide (p < q)) := by
        show (isFr (.tuple [.int p, .int q]) && _) = _
        rw [h, Bool.true_and]
      by_cases h0 : 0 ≤ p
      · simp [a26, a10, e, h0, l2]
      · simp [a26, a10, e, h0, l2]
  refine Ok.seq (Ok.val g2 du (by decide) (by decide) ⟨rfl, ?_⟩)
  have g3 := g2.set (i := 8) (x := .val (.list [.bool (isFr d), .bool (isPt d)])) (by decide) rfl
  have b10 : (ρ1.set 8 (.val (.list [.bool (isFr d), .bool (isPt d)])))[10]? = some (.val d) := by rw [List.getElem?_set_ne (by decide)]; exact a10
  have b25 : (ρ1.set 8 (.val (.list [.bool (isFr d), .bool (isPt d)])))[25]? = some (.val (.str t)) := by rw [List.getElem?_set_ne (by decide)]; exact a25
  have b8 : (ρ1.set 8 (.val (.list [.bool (isFr d), .bool (isPt d)])))[8]? = some (.val (.list [.bool (isFr d), .bool (isPt d)])) := g2.got (by decide)
  have f1 : L3.Fr [8, 25, 26] ρ (ρ1.set 8 (.val (.list [.bool (isFr d), .bool (isPt d)]))) := f0.trans (L3.Fr.set (by decide))
  generalize ρ1.set 8 (.val (.list [.bool (isFr d), .bool (isPt d)])) = ρ2 at *
  have tb : Told (.list [.bool (isFr d), .bool (isPt d)]) := repr_list (fun y hy => by
    simp only [List.mem_cons, List.not_mem_nil, or_false] at hy
    rcases hy with rfl | rfl <;> exact part_bool) (fun y hy => by
    simp only [List.mem_cons, List.not_mem_nil, or_false] at hy
    rcases hy with rfl | rfl <;> rfl) (by simp)
  have l2 : len24 2 = true := rfl
  have t1 := same_repr (ρ := ρ2) (a := pN dLst [pCall F_is_fraction [pVar 10], pCall F_is_part [pVar 10]]) (b := pVar 8) (by simp [b10, f, fpt, l2]) (by simp [b8]) tb
  refine Ok.ifF ?_ ⟨rfl, g3, f1⟩
  rw [ev_tOr, t1]
  simp [b10, b25, ht, ne_str]
end K05
/-! k05, the plain law: a lap. -/
namespace K05
open PySem PySem.Spec PyProof.Rows L2 L3
abbrev vals0 : P := pN dLst [pVar 16, pVar 18, pN (l1 dList) [pVar 18], p2 dAdd (pVar 18) (pN dTup [pC (.int 1)]), pN dTup [pVar 11, pVar 12], pC .none]
theorem loop3 {ρ : L3.Env} {sr : Src} (g : G 29 ρ sr) {p q r s k : Int} (l : Lap ρ p q r s k) {x a : Int × Int} (h16 : ρ[16]? = some (.val (frD x))) (h18 : ρ[18]? = some (.val (frD a))) (x1 : S31 x.1) (x2 : S31 x.2) (a1 : S31 a.1) (a2 : S31 a.2)
    {Q : L3.Env → Out → Prop} (qq : ∀ ρ' sr', G 29 ρ' sr' → Q ρ' .nx) :
    Ok (sFor (.nm 10) (iE (e2 .f dAdd (eP vals0) (eComp [27] (.nm 27) (iR (pC (.int 0)) (pC (.int 6))) (tYesE) eBent))) body3) ρ Q := by
  obtain ⟨ρ1, s1, vs, e1, g1, f1, hl, ht⟩ := bentComp g h18 a1 a2
  have ev0 : vals0 ρ = some (.list [frD x, frD a, .list [.int a.1, .int a.2], .tuple [.int a.1, .int a.2, .int 1], .tuple [.int p, .int q], .none]) := by
    have d1 : dList (frD a) = some (.list [.int a.1, .int a.2]) := rfl
    have d2 : dAdd (frD a) (.tuple [.int 1]) = some (.tuple [.int a.1, .int a.2, .int 1]) := rfl
    simp [vals0, h16, h18, l.h11, l.h12, d1, d2, len24]
  have e : iE (e2 .f dAdd (eP vals0) (eComp [27] (.nm 27) (iR (pC (.int 0)) (pC (.int 6))) (tYesE) eBent)) ρ = some (ρ1, [frD x, frD a, .list [.int a.1, .int a.2], .tuple [.int a.1, .int a.2, .int 1], .tuple [.int p, .int q], .none] ++ vs) := by
    have ad : ∀ xs ys : List D, dAdd (.list xs) (.list ys) = if len24 (xs.length + ys.length) then some (.list (xs ++ ys)) else none := fun _ _ => rfl
    rw [ev_iE, ev_e2, ev_eP, ev0]
    dsimp only
    rw [ev_toD_val]
    dsimp only
    rw [e1]
    dsimp only
    rw [ev_toD_own]
    dsimp only
    rw [ad, show len24 (_ + vs.length) = true from by rw [hl]; rfl]
    rfl
  have told : ∀ v ∈ [frD x, frD a, .list [.int a.1, .int a.2], .tuple [.int a.1, .int a.2, .int 1], .tuple [.int p, .int q], .none] ++ vs, Told v := fun v hv => by
    rcases List.mem_append.mp hv with hv | hv
    · simp only [List.mem_cons, List.not_mem_nil, or_false] at hv
      have in2 : ∀ i ∈ [a.1, a.2], S31 i := fun i hi => by
        simp only [List.mem_cons, List.not_mem_nil, or_false] at hi
        rcases hi with rfl | rfl <;> assumption
      have in3 : ∀ i ∈ [a.1, a.2, 1], S31 i := fun i hi => by
        simp only [List.mem_cons, List.not_mem_nil, or_false] at hi
        rcases hi with rfl | rfl | rfl
        · exact a1
        · exact a2
        · show S31 1; unfold S31; decide
      have inq : ∀ i ∈ [p, q], S31 i := fun i hi => by
        simp only [List.mem_cons, List.not_mem_nil, or_false] at hi
        rcases hi with rfl | rfl
        · exact l.bp
        · exact l.bq
      rcases hv with rfl | rfl | rfl | rfl | rfl | rfl
      · exact told_fr (log_31 x1) (log_31 x2)
      · exact told_fr (log_31 a1) (log_31 a2)
      · exact (told_ints (l := [a.1, a.2]) in2 (by simp)).2
      · exact (told_ints (l := [a.1, a.2, 1]) in3 (by simp)).1
      · exact (told_ints (l := [p, q]) inq (by simp)).1
      · exact told_of rfl (Nat.zero_le _) (.inl rfl) (by show 4 ≤ _; omega)
    · exact ht v hv
  refine Ok.for e (fun k ρ' => G 29 ρ' s1) g1 (fun k ρ' hk g' => ?_) fun ρ' g' => qq ρ' s1 g'
  have g2 := g'.set (i := 10) (x := .val ([frD x, frD a, .list [.int a.1, .int a.2], .tuple [.int a.1, .int a.2, .int 1], .tuple [.int p, .int q], .none] ++ vs)[k]) (by decide) rfl
  obtain ⟨ρ3, o, e3, eo, g3, _⟩ := st_value g2 (told _ (List.getElem_mem hk)) (g'.got (by decide))
  exact ⟨_, by rw [ev_bind0]; exact g'.put (by decide) (by decide), ρ3, o, e3, eo, g3⟩
abbrev bodyLap : Sm := sSeq (sVal 6 (eP (p2 dIx (pN dLst [pC (.int 5), pC (.int 12), pC (.int 60), pC (.int 360), p2 dPow (pC (.int 10)) (pC (.int 4)), p2 dPow (pC (.int 10)) (pC (.int 9))]) (pVar 2))))
      (sSeq (sPat (.tl [.nm 11, .nm 12, .nm 13, .nm 14]) (eComp [15] (.nm 15) (iR (pC (.int 0)) (pC (.int 4))) (tYesE) (e2 .c dSub (eCallR F__law_pick 1 [eP (p2 dAdd (p2 dMul (pC (.int 2)) (pVar 6)) (pC (.int 1)))]) (eP (pVar 6)))))
      (sSeq (sPar [12, 14, 15] [eP (pIf (tV (p2 dNe (pVar 12) (pC (.int 0)))) (pVar 12) (pC (.int 1))), eP (pIf (tV (p2 dNe (pVar 14) (pC (.int 0)))) (pVar 14) (p1 dNeg (pC (.int 1)))), e2 .c dSub (eCallR F__law_pick 1 [eP (pC (.int 2001))]) (eP (pC (.int 1000)))])
      (sSeq (sPar [16, 17] [eP (pCall F__law_fraction [pVar 11, pVar 12]), eP (pCall F__law_fraction [pVar 13, pVar 14])])
      (sSeq (sVal 7 (eP (pN dLst [pCall F_fraction_of [pVar 11, pVar 12], pCall F_fraction_sum [pVar 16, pVar 17], pCall F_fraction_times [pVar 16, pVar 17], pCall F_fraction_turned [pVar 16], pCall F_part_of [pVar 11, pVar 12]])))
      (sSeq (sVal 8 (eP (pN dLst [pVar 16, pCall F__law_fraction [p2 dAdd (p2 dMul (p2 dIx (pVar 16) (pC (.int 0))) (p2 dIx (pVar 17) (pC (.int 1)))) (p2 dMul (p2 dIx (pVar 17) (pC (.int 0))) (p2 dIx (pVar 16) (pC (.int 1)))), p2 dMul (p2 dIx (pVar 16) (pC (.int 1))) (p2 dIx (pVar 17) (pC (.int 1)))], pCall F__law_fraction [p2 dMul (p2 dIx (pVar 16) (pC (.int 0))) (p2 dIx (pVar 17) (pC (.int 0))), p2 dMul (p2 dIx (pVar 16) (pC (.int 1))) (p2 dIx (pVar 17) (pC (.int 1)))]])))
      (sSeq (sIf (tP (tV (p2 dNe (pN (l1 dRepr) [pVar 7]) (pN (l1 dRepr) [p2 dAdd (pVar 8) (pN dLst [pN dTup [p2 dSub (pC (.int 0)) (p2 dIx (pVar 16) (pC (.int 0))), p2 dIx (pVar 16) (pC (.int 1))], pCall F__law_part [pVar 11, pVar 12]])])))) (sRet (eP (pC (.bool false)))) (sNx))
      (sSeq (sPat (.tp [.nm 18, .nm 19]) (eP (pN dTup [pCall F__law_part [pVar 11, pVar 12], pCall F__law_part [pVar 13, pVar 14]])))
      (sSeq (sVal 7 (eP (pN dLst [pCall F_part_sum [pVar 18, pVar 19], pCall F_part_times [pVar 15, pVar 18], pCall F_part_turned [pVar 18]])))
      (sSeq (sVal 8 (eP (pN dLst [pCall F__law_part [p2 dAdd (p2 dMul (p2 dIx (pVar 18) (pC (.int 0))) (p2 dIx (pVar 19) (pC (.int 1)))) (p2 dMul (p2 dIx (pVar 19) (pC (.int 0))) (p2 dIx (pVar 18) (pC (.int 1)))), p2 dMul (p2 dIx (pVar 18) (pC (.int 1))) (p2 dIx (pVar 19) (pC (.int 1)))], pCall F__law_part [p2 dMul (pVar 15) (p2 dIx (pVar 18) (pC (.int 0))), p2 dIx (pVar 18) (pC (.int 1))], pCall F__law_part [p2 dSub (pC (.int 0)) (p2 dIx (pVar 18) (pC (.int 0))), p2 dIx (pVar 18) (pC (.int 1))]])))
      (sSeq (sIf (tP (tV (p2 dNe (pN (l1 dRepr) [pVar 7]) (pN (l1 dRepr) [pVar 8])))) (sRet (eP (pC (.bool false)))) (sNx))
      (sSeq (sVal 9 (eP (p2 dLt (p2 dMul (pC (.int 2)) (p2 dIx (pVar 18) (pC (.int 0)))) (p2 dIx (pVar 18) (pC (.int 1))))))
      (sSeq (sVal 8 (eP (pIf (tV (pVar 9)) (pN dTup [pVar 18, pVar 17]) (pN dTup [pCall F__law_part [p2 dSub (p2 dMul (pC (.int 2)) (p2 dIx (pVar 18) (pC (.int 0)))) (p2 dIx (pVar 18) (pC (.int 1))), p2 dMul (pC (.int 2)) (p2 dIx (pVar 18) (pC (.int 1)))], pN dTup [p2 dSub (pC (.int 0)) (p2 dIx (pVar 17) (pC (.int 0))), p2 dIx (pVar 17) (pC (.int 1))]]))))
      (sSeq (sIf (tP (tV (p2 dNe (pN (l1 dRepr) [pCall F_half_of [pVar 18, pVar 17]]) (pN (l1 dRepr) [pVar 8])))) (sRet (eP (pC (.bool false)))) (sNx))
      (sSeq (sIf (tP (tV (p2 dLt (pVar 2) (pC (.int 4))))) (sSeq (sPar [21, 22, 23] [eP (pCall F__law_primes [p2 dIx (pVar 18) (pC (.int 1))]), eP (pN dTup [pC (.int 0), pC (.int 1)]), eP (pC (.bool true))])
      (sSeq (sIf (tP (tV (p2 dNe (pN (l1 dRepr) [pCall F_primes_of [p2 dIx (pVar 18) (pC (.int 1))]]) (pN (l1 dRepr) [pN (l1 dTuple) [pVar 21]])))) (sRet (eP (pC (.bool false)))) (sNx))
      (sSeq (sFor (.nm 20) (iP (p2 dAdd (pVar 21) (pN dLst [pC (.int 2), pC (.int 7)]))) (sSeq (sVal 24 (eP (pCall F__law_prime_part [pVar 18, pVar 20])))
      (sSeq (sIf (tP (tV (p2 dNe (pN (l1 dRepr) [pCall F_prime_part [pVar 18, pVar 20]]) (pN (l1 dRepr) [pVar 24])))) (sRet (eP (pC (.bool false)))) (sNx))
      (sVal 23 (eP (pT (L3.tAnd (tV (pVar 23)) (tV (p2 dLt (p2 dMul (p2 dIx (pVar 24) (pC (.int 0))) (pVar 20)) (p2 dMul (p2 dSub (pVar 20) (pC (.int 1))) (p2 dIx (pVar 24) (pC (.int 1)))))))))))))
      (sSeq (sFor (.nm 20) (iP (pVar 21)) (sSeq (sVal 24 (eP (pCall F__law_prime_part [pVar 18, pVar 20])))
      (sVal 22 (eP (pCall F__law_part [p2 dAdd (p2 dMul (p2 dIx (pVar 22) (pC (.int 0))) (p2 dIx (pVar 24) (pC (.int 1)))) (p2 dMul (p2 dIx (pVar 24) (pC (.int 0))) (p2 dIx (pVar 22) (pC (.int 1)))), p2 dMul (p2 dIx (pVar 22) (pC (.int 1))) (p2 dIx (pVar 24) (pC (.int 1)))])))))
      (sIf (tP (L3.tOr (tV (p2 dNe (pVar 22) (pVar 18))) (tV (p2 dNe (pN (l1 dRepr) [pCall F_is_led_part [pVar 18]]) (pN (l1 dRepr) [pVar 23]))))) (sRet (eP (pC (.bool false)))) (sNx)))))) (sNx))
      (sFor (.nm 10) (iE (e2 .f dAdd (eP (pN dLst [pVar 16, pVar 18, pN (l1 dList) [pVar 18], p2 dAdd (pVar 18) (pN dTup [pC (.int 1)]), pN dTup [pVar 11, pVar 12], pC .none])) (eComp [27] (.nm 27) (iR (pC (.int 0)) (pC (.int 6))) (tYesE) (eCallR (F__law_bent 3) 1 [eP (pVar 18)])))) (sSeq (sPar [25, 26] [eP (pN (l1 dRepr) [pVar 10]), eP (pCall F__law_is_fraction [pVar 10])])
      (sSeq (sVal 8 (eP (pN dLst [pVar 26, pT (L3.tAnd (tV (pVar 26)) (tV (pChain dLe dLt (pC (.int 0)) (p2 dIx (pVar 10) (pC (.int 0))) (p2 dIx (pVar 10) (pC (.int 1))))))])))
      (sIf (tP (L3.tOr (tV (p2 dNe (pN (l1 dRepr) [pN dLst [pCall F_is_fraction [pVar 10], pCall F_is_part [pVar 10]]]) (pN (l1 dRepr) [pVar 8]))) (tV (p2 dNe (pN (l1 dRepr) [pVar 10]) (pVar 25))))) (sRet (eP (pC (.bool false)))) (sNx)))))))))))))))))))
end K05
/-! k05, the plain law: a lap, whole. -/
namespace K05
open PySem PySem.Spec PyProof.Rows L2 L3
theorem lap_ok {ρ : L3.Env} {s0 : Src} (g : G 29 ρ s0) (lap : Nat) (hl : lap < 6) (h2 : ρ[2]? = some (.val (.int lap))) : Ok bodyLap ρ fun ρ' o => o = .nx ∧ ∃ s', G 29 ρ' s' := by
  obtain ⟨far, ef, b1, b2, b3⟩ := st_far g lap hl h2
  refine Ok.seq (Ok.val g ef (by decide) (by decide) ⟨rfl, ?_⟩)
  have g1 := g.set (i := 6) (x := .val (.int far)) (by decide) rfl
  have a6 : (ρ.set 6 (.val (.int far)))[6]? = some (.val (.int far)) := g.got (by decide)
  have a2 : (ρ.set 6 (.val (.int far)))[2]? = some (.val (.int lap)) := by rw [List.getElem?_set_ne (by decide)]; exact h2
  generalize ρ.set 6 (.val (.int far)) = ρ1 at *
  obtain ⟨ρ2, s2, p, q, r, sx, e2', g2, f2, p11, p12, p13, p14, bp, bq, br, bs⟩ := st_draw g1 far a6 b1 b2
  refine Ok.seq ⟨_, _, e2', rfl, ?_⟩
  have c2 := (f2 2 (by decide)).trans a2
  obtain ⟨ρ3, s3, k, e3', g3, f3, r12, r14, r15, k1, k2⟩ := st_qs g2 q sx p12 p14
  refine Ok.seq ⟨_, _, e3', rfl, ?_⟩
  have d2 := (f3 2 (by decide)).trans c2
  generalize hQ : (if q = 0 then 1 else q) = q' at *
  generalize hS : (if sx = 0 then -1 else sx) = s' at *
  have q0 : q' ≠ 0 := by rw [← hQ]; split <;> omega
  have sx0 : s' ≠ 0 := by rw [← hS]; split <;> omega
  have bq' : q'.natAbs ≤ far.natAbs := by rw [← hQ]; split <;> omega
  have bs' : s'.natAbs ≤ far.natAbs := by rw [← hS]; split <;> omega
  have l3 : Lap ρ3 p q' r s' k := ⟨(f3 11 (by decide)).trans p11, r12, (f3 13 (by decide)).trans p13, r14, r15, q0, sx0, by unfold S31; omega, by unfold S31; omega, by unfold S31; omega, by unfold S31; omega, by unfold S31; omega⟩
  obtain ⟨ρ4, e4', g4, f4, x16, y17⟩ := st_xy g3 l3
  refine Ok.seq ⟨_, _, e4', rfl, ?_⟩
  have l4 := l3.fr f4 (by decide)
  have e2 := (f4 2 (by decide)).trans d2
  -- told, due, compared
  refine Ok.seq (Ok.val g4 (st_told1 g4 l4 x16 y17) (by decide) (by decide) ⟨rfl, ?_⟩)
  have g5 := g4.set (i := 7) (x := .val (.list (told1 p q' r s'))) (by decide) rfl
  have f5 : L3.Fr [7] ρ4 (ρ4.set 7 (.val (.list (told1 p q' r s')))) := L3.Fr.set (by decide)
  have t7 : (ρ4.set 7 (.val (.list (told1 p q' r s'))))[7]? = some (.val (.list (told1 p q' r s'))) := g4.got (by decide)
  generalize ρ4.set 7 (.val (.list (told1 p q' r s'))) = ρ5 at *
  have l5 := l4.fr f5 (by decide)
  have x5 := (f5 16 (by decide)).trans x16
  have y5 := (f5 17 (by decide)).trans y17
  refine Ok.seq (Ok.val g5 (st_due1 g5 l5 x5 y5) (by decide) (by decide) ⟨rfl, ?_⟩)
  have g6 := g5.set (i := 8) (x := .val (.list ((told1 p q' r s').take 3))) (by decide) rfl
  have f6 : L3.Fr [8] ρ5 (ρ5.set 8 (.val (.list ((told1 p q' r s').take 3)))) := L3.Fr.set (by decide)
  have t8 : (ρ5.set 8 (.val (.list ((told1 p q' r s').take 3))))[8]? = some (.val (.list ((told1 p q' r s').take 3))) := g5.got (by decide)
  generalize ρ5.set 8 (.val (.list ((told1 p q' r s').take 3))) = ρ6 at *
  have l6 := l5.fr f6 (by decide)
  have x6 := (f6 16 (by decide)).trans x5
  have y6 := (f6 17 (by decide)).trans y5
  refine Ok.seq (Ok.ifF (st_cmp1 g6 l6 x6 ((f6 7 (by decide)).trans t7) t8) ⟨rfl, ?_⟩)
  obtain ⟨ρ7, e7', g7, f7, a18, b19⟩ := st_ab g6 l6
  refine Ok.seq ⟨_, _, e7', rfl, ?_⟩
  have l7 := l6.fr f7 (by decide)
  have y7 := (f7 17 (by decide)).trans y6
  have x7 := (f7 16 (by decide)).trans x6
  have pa : Prt (normP p q') := prt_of q0 l7.bq
  have pb : Prt (normP r s') := prt_of sx0 l7.bs
  refine Ok.seq (Ok.val g7 (st_told2 pa pb l7.bk a18 b19 l7.h15) (by decide) (by decide) ⟨rfl, ?_⟩)
  generalize hT : PyData.list ((told2 (normP p q') (normP r s') k).map frD) = T at *
  have g8 := g7.set (i := 7) (x := .val T) (by decide) rfl
  have f8 : L3.Fr [7] ρ7 (ρ7.set 7 (.val T)) := L3.Fr.set (by decide)
  have u7 : (ρ7.set 7 (.val T))[7]? = some (.val T) := g7.got (by decide)
  generalize ρ7.set 7 (.val T) = ρ8 at *
  have l8 := l7.fr f8 (by decide)
  refine Ok.seq (Ok.val g8 (d := T) (by rw [← hT]; exact st_due2 pa pb l8.bk ((f8 18 (by decide)).trans a18) ((f8 19 (by decide)).trans b19) l8.h15) (by decide) (by decide) ⟨rfl, ?_⟩)
  have g9 := g8.set (i := 8) (x := .val T) (by decide) rfl
  have f9 : L3.Fr [8] ρ8 (ρ8.set 8 (.val T)) := L3.Fr.set (by decide)
  have u8 : (ρ8.set 8 (.val T))[8]? = some (.val T) := g8.got (by decide)
  generalize ρ8.set 8 (.val T) = ρ9 at *
  refine Ok.seq (Ok.ifF (st_cmp2 ((f9 7 (by decide)).trans u7) u8 (by rw [← hT]; exact told_2 pa pb)) ⟨rfl, ?_⟩)
  have f79 : L3.Fr [7, 8] ρ7 ρ9 := (f8.more (by decide)).trans (f9.more (by decide))
  have a9 := (f79 18 (by decide)).trans a18
  have y9 := (f79 17 (by decide)).trans y7
  have x9 := (f79 16 (by decide)).trans x7
  have l9 := l7.fr f79 (by decide)
  have z9 : ρ9[2]? = some (.val (.int lap)) := (f79 2 (by decide)).trans ((f7 2 (by decide)).trans ((f6 2 (by decide)).trans ((f5 2 (by decide)).trans e2)))
  refine Ok.seq (Ok.val g9 (st_below pa a9) (by decide) (by decide) ⟨rfl, ?_⟩)
  generalize hB : PyData.bool (decide (2 * (normP p q').1 < (normP p q').2)) = Bb at *
  have g10 := g9.set (i := 9) (x := .val Bb) (by decide) rfl
  have f10 : L3.Fr [9] ρ9 (ρ9.set 9 (.val Bb)) := L3.Fr.set (by decide)
  have u9 : (ρ9.set 9 (.val Bb))[9]? = some (.val Bb) := g9.got (by decide)
  generalize ρ9.set 9 (.val Bb) = ρ10 at *
  have a10 := (f10 18 (by decide)).trans a9
  have y10 := (f10 17 (by decide)).trans y9
  rw [← hB] at u9
  refine Ok.seq (Ok.val g10 (st_half pa a10 y10 u9) (by decide) (by decide) ⟨rfl, ?_⟩)
  generalize hH : PyData.tuple ((halfD (normP p q') (norm r s')).map frD) = Hh at *
  have g11 := g10.set (i := 8) (x := .val Hh) (by decide) rfl
  have f11 : L3.Fr [8] ρ10 (ρ10.set 8 (.val Hh)) := L3.Fr.set (by decide)
  have v8 : (ρ10.set 8 (.val Hh))[8]? = some (.val Hh) := g10.got (by decide)
  generalize ρ10.set 8 (.val Hh) = ρ11 at *
  have a11 := (f11 18 (by decide)).trans a10
  have y11 := (f11 17 (by decide)).trans y10
  obtain ⟨n1, n2, n3, n4⟩ := norm_31 l9.s0 l9.br l9.bs
  obtain ⟨m1, m2, m3, m4⟩ := norm_31 l9.q0 l9.bp l9.bq
  refine Ok.seq (Ok.ifF (st_cmp3 pa n1 n2 a11 y11 (by rw [hH]; exact v8)) ⟨rfl, ?_⟩)
  have f911 : L3.Fr [8, 9] ρ9 ρ11 := (f10.more (by decide)).trans (f11.more (by decide))
  have z11 := (f911 2 (by decide)).trans z9
  have x11 := (f911 16 (by decide)).trans x9
  have l11 := l9.fr f911 (by decide)
  refine Ok.seq (a := sIf _ block sNx) (Q := fun ρ' o => o = .nx ∧ ∃ s', G 29 ρ' s') ?_
  have fin : ∀ ρ12, G 29 ρ12 s3 → L3.Fr [20, 21, 22, 23, 24] ρ11 ρ12 → Ok (sFor (.nm 10) (iE (L3.e2 .f dAdd (eP vals0) (eComp [27] (.nm 27) (iR (pC (.int 0)) (pC (.int 6))) (tYesE) eBent))) body3) ρ12 fun ρ' o => o = .nx ∧ ∃ s', G 29 ρ' s' := fun ρ12 g12 f12 =>
    loop3 g12 (l11.fr f12 (by decide)) ((f12 16 (by decide)).trans x11) ((f12 18 (by decide)).trans a11) m1 m2 pa.b1 pa.b fun ρ' sr' g' => ⟨rfl, sr', g'⟩
  have tl : tP (tV (p2 dLt (pVar 2) (pC (.int 4)))) ρ11 = some (ρ11, decide ((lap : Int) < 4)) := by simp [z11]
  by_cases hlap : (lap : Int) < 4
  · have hA2 : far ≤ 360 := b3 (by omega)
    obtain ⟨h1, h2', h3⟩ := normP_b (p := p) q0
    obtain ⟨x, hx⟩ := Int.eq_ofNat_of_zero_le h1
    obtain ⟨A, hA⟩ := Int.eq_ofNat_of_zero_le (show 0 ≤ (normP p q').2 by omega)
    have hi := normP_idem (p := p) q0
    have ea : normP p q' = ((x : Int), (A : Int)) := by rw [← hx, ← hA]
    rw [ea] at a11 hi
    obtain ⟨ρ12, o, e12, rfl, g12, f12⟩ := st_block g11 (show 0 < A by omega) (show A ≤ 360 by omega) (show x < A by omega) hi a11
    refine ⟨ρ12, .nx, ?_, rfl, fin ρ12 g12 f12⟩
    rw [ev_sIf, tl, decide_eq_true hlap]
    exact e12
  · refine ⟨ρ11, .nx, ?_, rfl, fin ρ11 g11 (fun _ _ => rfl)⟩
    rw [ev_sIf, tl, decide_eq_false hlap]
    rfl
end K05
/-! k05, the plain law: the end. -/
namespace K05
open PySem PySem.Spec PyProof.Rows L2 L3
theorem compP_by {p : Pat} {t : T} {e : P} {ρ : L3.Env} (f : D → Bool) (h : D → D) : ∀ (xs : List D), (∀ x ∈ xs, ∃ ρx, bind p x ρ = some ρx ∧ t ρx = some (f x) ∧ (f x = true → e ρx = some (h x))) → compP p t e ρ xs = some ((xs.filter f).map h)
  | [], _ => rfl
  | x :: r, hx => by
    obtain ⟨ρx, e1, e2, e3⟩ := hx x (List.mem_cons_self ..)
    have ih := compP_by f h r fun y hy => hx y (List.mem_cons_of_mem _ hy)
    rw [compP, e1]
    dsimp only
    rw [e2]
    cases hf : f x with
    | true =>
      dsimp only
      rw [e3 hf]
      dsimp only
      rw [ih, List.filter_cons_of_pos hf]
      rfl
    | false =>
      dsimp only
      rw [ih, List.filter_cons_of_neg (by rw [hf]; decide)]
theorem pComp_by {i : Nat} {a : Ip} {t : T} {e : P} {ρ : L3.Env} {s : Src} (g : G 29 ρ s) (h1 : i ≠ 1) (hi : i < 29) {xs : List D} (ha : a ρ = some xs) (hl : xs.length ≤ 16777216) (f : D → Bool) (h : D → D)
    (hx : ∀ x ∈ xs, t ((ρ.set i .un).set i (.val x)) = some (f x) ∧ (f x = true → e ((ρ.set i .un).set i (.val x)) = some (h x))) : pComp [i] (.nm i) a t e ρ = some (.list ((xs.filter f).map h)) := by
  have g0 := g.set (i := i) (x := .un) h1 rfl
  have fr : freeAt [i] ρ = true := by
    unfold freeAt
    cases z : ρ[i]? with
    | none => rw [List.getElem?_eq_none_iff, g.len] at z; omega
    | some c =>
      cases c with
      | own fx o => exact absurd z (g.free i h1 fx o)
      | un => simp [z, isOwn]
      | scr ns => simp [z, isOwn]
      | val d => simp [z, isOwn]
  have c := compP_by (p := .nm i) (t := t) (e := e) (ρ := ρ.set i .un) f h xs fun x hm => ⟨_, by rw [ev_bind0]; exact g0.put h1 hi, hx x hm⟩
  unfold pComp
  rw [ha]
  dsimp only
  rw [fr, show len24 xs.length = true from decide_eq_true hl, Bool.and_self, if_pos rfl]
  dsimp only [wipeE]
  rw [c]
def fracOf (m : Nat) : D → D
  | .int a => frD (norm a m)
  | _ => .none
def isG (m : Nat) : D → Bool
  | .int a => decide (Nat.gcd a.toNat m = 1)
  | _ => false
def isLed : D → Bool
  | .tuple [.int x, .int A] => ledB x.toNat A.toNat
  | _ => false
theorem norm_nat (a m : Nat) (hm : 0 < m) : norm (a : Int) (m : Int) = (((a / Nat.gcd a m : Nat) : Int), ((m / Nat.gcd a m : Nat) : Int)) := by
  rw [norm_q (by omega)]; rfl
theorem st_end {ρ : L3.Env} {s : Src} (g : G 29 ρ s) : Ok (sSeq (sVal 3 (L3.e2 .f dAdd (eP (pC (.int 1))) (eCallR F__law_pick 1 [eP (pC (.int 120))])))
      (sSeq (sVal 4 (eP (pComp [18] (.nm 18) (ipR (pC (.int 0)) (pVar 3)) (tYesP) (pCall F__law_fraction [pVar 18, pVar 3]))))
      (sSeq (sVal 5 (eP (pComp [18] (.nm 18) (ipR (pC (.int 0)) (pVar 3)) (tV (p2 dEq (pCall F__law_common [pVar 18, pVar 3]) (pC (.int 1)))) (pVar 18))))
      (sRet (eP (p2 dEq (pN (l1 dLen) [pComp [28] (.nm 28) (ipP (pVar 4)) (tV (pCall F_is_led_part [pVar 28])) (pVar 28)]) (pN (l2 dMax2) [pC (.int 1), pN (l1 dLen) [pVar 5]]))))))) ρ fun ρ' o => o = .rt (.val (.bool true)) ∧ ρ'.length = 29 := by
  obtain ⟨s', r, e, hr⟩ := pickL s 120 (by decide) (by decide)
  have e : F__law_pick [.own true (.src s), .val (.int 120)] = some ([.own true (.src s'), .un], .val (.int (r : Nat))) := e
  have g0 := g.one (s' := s') (by decide)
  obtain ⟨m, hm⟩ : ∃ m, m = 1 + r := ⟨_, rfl⟩
  have g1 := g0.set (i := 3) (x := .val (.int (m : Int))) (by decide) rfl
  have st : sVal 3 (L3.e2 .f dAdd (eP (pC (.int 1))) (eCallR F__law_pick 1 [eP (pC (.int 120))])) ρ = some ((ρ.set 1 (.own false (.src s'))).set 3 (.val (.int (m : Int))), .nx) := by
    have em : (1 : Int) + (r : Int) = (m : Int) := by omega
    rw [ev_sVal, show L3.e2 .f dAdd (eP (pC (.int 1))) (eCallR F__law_pick 1 [eP (pC (.int 120))]) ρ = some (ρ.set 1 (.own false (.src s')), .val (.int (m : Int))) by simp [g.src, e, em]]
    dsimp only
    rw [ev_toD_val]
    dsimp only
    rw [g0.put (by decide) (by decide)]
  refine Ok.seq ⟨_, _, st, rfl, ?_⟩
  have a3 : ((ρ.set 1 (.own false (.src s'))).set 3 (.val (.int (m : Int))))[3]? = some (.val (.int (m : Int))) := g0.got (by decide)
  generalize (ρ.set 1 (.own false (.src s'))).set 3 (.val (.int (m : Int))) = ρ1 at *
  have m0 : 0 < m := by omega
  have m1 : m ≤ 120 := by omega
  have er : rangeD 0 (m : Int) = (List.range m).map fun (k : Nat) => PyData.int (k : Int) := by
    unfold rangeD
    rw [show ((m : Int) - 0).toNat = m by omega]
    congr 1
    funext k
    rw [Int.zero_add]
  have r62m : r62 (m : Int) = true := decide_eq_true (by
    rw [Int.natAbs_natCast]
    have := log2_mono (show m ≤ 1024 by omega)
    have e : Nat.log2 1024 = 10 := by decide +kernel
    omega)
  have rng : ∀ ρ : L3.Env, ρ[3]? = some (.val (.int (m : Int))) → ipR (pC (.int 0)) (pVar 3) ρ = some ((List.range m).map fun (k : Nat) => PyData.int (k : Int)) := fun ρ h => by
    rw [ev_ipR, ev_pC, ev_pVar, h]
    dsimp only
    rw [show r62 0 = true from rfl, r62m, Bool.and_self, if_pos rfl, er]
  have lenr : ((List.range m).map fun (k : Nat) => PyData.int (k : Int)).length ≤ 16777216 := by rw [List.length_map, List.length_range]; omega
  have c4 := pComp_by (i := 18) (t := tYesP) (e := pCall F__law_fraction [pVar 18, pVar 3]) g1 (by decide) (by decide) (rng ρ1 a3) lenr (fun _ => true) (fracOf m) fun x hx => by
    obtain ⟨a, ha, rfl⟩ := List.mem_map.mp hx
    have g2 := g1.set (i := 18) (x := .un) (by decide) rfl
    have lf := law_fraction (a : Int) (m : Int) (by omega) (log2_64 (by rw [Int.natAbs_natCast]; omega))
    refine ⟨rfl, fun _ => ?_⟩
    have q18 : ((ρ1.set 18 .un).set 18 (.val (.int (a : Int))))[18]? = some (.val (.int (a : Int))) := g2.got (by decide)
    have q3 : ((ρ1.set 18 .un).set 18 (.val (.int (a : Int))))[3]? = some (.val (.int (m : Int))) := by rw [List.getElem?_set_ne (by decide), List.getElem?_set_ne (by decide)]; exact a3
    simp only [ev_pCall, ev_evs1, ev_evs0, ev_pVar, q18, q3]
    simp [lf, fracOf]
  have f4 : (((List.range m).map fun (k : Nat) => PyData.int (k : Int)).filter fun _ => true).map (fracOf m) = (List.range m).map fun (a : Nat) => frD (norm (a : Int) m) := by
    rw [List.filter_eq_self.mpr (fun _ _ => rfl), List.map_map]
    rfl
  rw [f4] at c4
  refine Ok.seq (Ok.val g1 c4 (by decide) (by decide) ⟨rfl, ?_⟩)
  have g4 := g1.set (i := 4) (x := .val (.list ((List.range m).map fun (a : Nat) => frD (norm (a : Int) m)))) (by decide) rfl
  have b3 : (ρ1.set 4 (.val (.list ((List.range m).map fun (a : Nat) => frD (norm (a : Int) m)))))[3]? = some (.val (.int (m : Int))) := by rw [List.getElem?_set_ne (by decide)]; exact a3
  have b4 : (ρ1.set 4 (.val (.list ((List.range m).map fun (a : Nat) => frD (norm (a : Int) m)))))[4]? = some (.val (.list ((List.range m).map fun (a : Nat) => frD (norm (a : Int) m)))) := g1.got (by decide)
  generalize ρ1.set 4 (.val (.list ((List.range m).map fun (a : Nat) => frD (norm (a : Int) m)))) = ρ2 at *
  have c5 := pComp_by (i := 18) (t := tV (p2 dEq (pCall F__law_common [pVar 18, pVar 3]) (pC (.int 1)))) (e := pVar 18) g4 (by decide) (by decide) (rng ρ2 b3) lenr (isG m) (fun d => d) fun x hx => by
    obtain ⟨a, ha, rfl⟩ := List.mem_map.mp hx
    have g2 := g4.set (i := 18) (x := .un) (by decide) rfl
    have lc := law_common a m
    have q18 : ((ρ2.set 18 .un).set 18 (.val (.int (a : Int))))[18]? = some (.val (.int (a : Int))) := g2.got (by decide)
    have q3 : ((ρ2.set 18 .un).set 18 (.val (.int (a : Int))))[3]? = some (.val (.int (m : Int))) := by rw [List.getElem?_set_ne (by decide), List.getElem?_set_ne (by decide)]; exact b3
    refine ⟨?_, fun _ => by rw [ev_pVar, q18]⟩
    simp only [ev_tV, ev_p2, ev_pC, ev_pCall, ev_evs1, ev_evs0, ev_pVar, q18, q3]
    have e1 : (((Nat.gcd a m : Nat) : Int) = 1) ↔ Nat.gcd a m = 1 := by omega
    simp [lc, e1, isG]
  refine Ok.seq (Ok.val g4 c5 (by decide) (by decide) ⟨rfl, ?_⟩)
  generalize hF : (((List.range m).map fun (k : Nat) => PyData.int (k : Int)).filter (isG m)) = L5 at *
  have n5 : L5.length = ((List.range m).filter fun a => decide (Nat.gcd a m = 1)).length := by
    rw [← hF, List.filter_map, List.length_map]
    rfl
  have g5 := g4.set (i := 5) (x := .val (.list (L5.map fun d => d))) (by decide) rfl
  have d4 : (ρ2.set 5 (.val (.list (L5.map fun d => d))))[4]? = some (.val (.list ((List.range m).map fun (a : Nat) => frD (norm (a : Int) m)))) := by rw [List.getElem?_set_ne (by decide)]; exact b4
  have d5 : (ρ2.set 5 (.val (.list (L5.map fun d => d))))[5]? = some (.val (.list (L5.map fun d => d))) := g4.got (by decide)
  generalize ρ2.set 5 (.val (.list (L5.map fun d => d))) = ρ3 at *
  have c28 := pComp_by (i := 28) (a := ipP (pVar 4)) (t := tV (pCall F_is_led_part [pVar 28])) (e := pVar 28) g5 (by decide) (by decide) (xs := (List.range m).map fun (a : Nat) => frD (norm (a : Int) m)) (by simp [d4]) (by rw [List.length_map, List.length_range]; omega) isLed (fun d => d) fun x hx => by
    obtain ⟨a, ha, rfl⟩ := List.mem_map.mp hx
    have ha := List.mem_range.mp ha
    have g2 := g5.set (i := 28) (x := .un) (by decide) rfl
    have q28 : ∀ v, ((ρ3.set 28 .un).set 28 (.val v))[28]? = some (.val v) := fun v => g2.got (by decide)
    have gp : 0 < Nat.gcd a m := Nat.gcd_pos_of_pos_right _ m0
    have hA : 0 < m / Nat.gcd a m := Nat.div_pos (Nat.le_of_dvd m0 (Nat.gcd_dvd_right _ _)) gp
    have hA2 : m / Nat.gcd a m ≤ 360 := Nat.le_trans (Nat.div_le_self _ _) (by omega)
    have hx : a / Nat.gcd a m < m / Nat.gcd a m := Nat.div_lt_div_of_lt_of_dvd (Nat.gcd_dvd_right _ _) ha
    have il := is_led_part (a / Nat.gcd a m) (m / Nat.gcd a m) hA hA2 hx
    rw [norm_nat a m m0]
    refine ⟨?_, fun _ => by rw [ev_pVar, q28]⟩
    rw [ev_tV, ev_pCall]
    simp only [ev_evs1, ev_evs0, ev_pVar, q28, List.map_cons, List.map_nil]
    rw [il]
    rfl
  have n28 : (((List.range m).map fun (a : Nat) => frD (norm (a : Int) m)).filter isLed).length = ((List.range m).filter fun a => ledN a m).length := by
    rw [List.filter_map, List.length_map]
    congr 2
    funext a
    show isLed (frD (norm (a : Int) m)) = ledN a m
    rw [norm_nat a m m0]
    rfl
  have ct := allBelow_get cnt_all (q := m - 1) (by omega)
  rw [show m - 1 + 1 = m by omega] at ct
  have ct : ((List.range m).filter fun a => ledN a m).length = max 1 ((List.range m).filter fun a => decide (Nat.gcd a m = 1)).length := of_decide_eq_true ct
  refine ⟨ρ3, .rt (.val (.bool true)), ?_, rfl, g5.len⟩
  have lens : (p2 dEq (pN (l1 dLen) [pComp [28] (.nm 28) (ipP (pVar 4)) (tV (pCall F_is_led_part [pVar 28])) (pVar 28)]) (pN (l2 dMax2) [pC (.int 1), pN (l1 dLen) [pVar 5]])) ρ3 = some (.bool true) := by
    rw [ev_p2, ev_pN, ev_evs1, c28]
    dsimp only [ev_evs0]
    simp only [ev_pN, ev_evs1, ev_evs0, ev_pC, ev_pVar, d5, ev_l1, ev_l2, od_lenl, od_max, od_eqi, List.length_map]
    rw [n28, n5, ct]
    have : decide (((max 1 ((List.range m).filter fun a => decide (Nat.gcd a m = 1)).length : Nat) : Int) = if ((((List.range m).filter fun a => decide (Nat.gcd a m = 1)).length : Nat) : Int) > 1 then ((((List.range m).filter fun a => decide (Nat.gcd a m = 1)).length : Nat) : Int) else 1) = true := by
      refine decide_eq_true ?_
      split <;> omega
    rw [this]
  rw [ev_sRet, ev_eP, lens]
theorem pure_law (ns : List Int) (hl : ns.length ≤ 63) : ∃ cs', F_law [.scr ns] = some (cs', .val (.bool true)) := by
  obtain ⟨s, es⟩ := source ns hl
  have st : sOwn 1 (eCallS F__law_source 0) ([Cell.scr ns] ++ List.replicate (29 - 1) Cell.un) = some (([Cell.scr ns] ++ List.replicate (29 - 1) Cell.un).set 1 (.own false (.src s)), .nx) := by
    simp [es, List.replicate]
  have g : G 29 (([Cell.scr ns] ++ List.replicate (29 - 1) Cell.un).set 1 (.own false (.src s))) s := by
    refine ⟨by simp, rfl, fun i hi fx o e => ?_⟩
    rw [List.getElem?_set_ne (Ne.symm hi)] at e
    cases i with
    | zero => simp at e
    | succ i => rw [List.getElem?_append_right (by simp), List.getElem?_replicate] at e; split at e <;> cases e
  have main : Ok g_law ([Cell.scr ns] ++ List.replicate (29 - 1) Cell.un) fun ρ' o => o = .rt (.val (.bool true)) ∧ ρ'.length = 29 := by
    refine Ok.seq ⟨_, _, st, rfl, ?_⟩
    generalize ([Cell.scr ns] ++ List.replicate (29 - 1) Cell.un).set 1 (.own false (.src s)) = ρ0 at *
    have e6 : iR (pC (.int 0)) (pC (.int 6)) ρ0 = some (ρ0, (List.range' 0 6).map fun (k : Nat) => PyData.int (k : Int)) := by rfl
    refine Ok.seq (Ok.for e6 (fun k ρ => ∃ s, G 29 ρ s) ⟨s, g⟩ (fun k ρ hk ⟨s1, g1⟩ => ?_) fun ρ ⟨s1, g1⟩ => ⟨rfl, st_end g1⟩)
    have hk6 : k < 6 := by simpa using hk
    have g2 := g1.set (i := 2) (x := .val (.int (k : Int))) (by decide) rfl
    refine ⟨ρ.set 2 (.val (.int (k : Int))), ?_, lap_ok g2 k hk6 (g1.got (by decide))⟩
    rw [List.getElem_map, List.getElem_range', ev_bind0, g1.put (by decide) (by decide)]
    simp
  obtain ⟨ρ', o, e, rfl, _⟩ := main
  refine ⟨backs [.scr ns] ρ', ?_⟩
  show mkFn 1 29 g_law [Cell.scr ns] = _
  rw [ev_mkFn, if_pos (show [Cell.scr ns].length = 1 from rfl), e]
end K05
namespace K05
open PySem PySem.Spec PyProof.Rows L2 L3
/-! ### the text -/
def top (i : Nat) : Stmt := PySem.Challenge.pw_turnsthatfit_k05_whole_parts_and_fractio.main.body.getD i (.Pass ⟨0, 0, 0, 0⟩)
abbrev st_common_divisor : Stmt := top 1
abbrev st_fraction_of : Stmt := top 2
abbrev st_fraction_sum : Stmt := top 3
abbrev st_fraction_times : Stmt := top 4
abbrev st_fraction_turned : Stmt := top 5
abbrev st_is_whole_number : Stmt := top 6
abbrev st_is_fraction : Stmt := top 7
abbrev st_is_part : Stmt := top 8
abbrev st_part_of : Stmt := top 9
abbrev st_part_sum : Stmt := top 10
abbrev st_part_times : Stmt := top 11
abbrev st_part_turned : Stmt := top 12
abbrev st_half_of : Stmt := top 13
abbrev st_primes_of : Stmt := top 14
abbrev st_inverse_by : Stmt := top 15
abbrev st_prime_part : Stmt := top 16
abbrev st_loose_primes : Stmt := top 17
abbrev st_is_led_part : Stmt := top 18
abbrev st__law_source : Stmt := top 20
abbrev st__law_pick : Stmt := top 21
abbrev st__law_of : Stmt := top 22
abbrev st__law_fraction : Stmt := top 23
abbrev st__law_part : Stmt := top 24
abbrev st__law_common : Stmt := top 25
abbrev st__law_primes : Stmt := top 26
abbrev st__law_prime_part : Stmt := top 27
abbrev st__law_bent : Stmt := top 28
abbrev st__law_is_fraction : Stmt := top 29
abbrev st_law : Stmt := top 30
section
variable {P : Program} {w : World} {K : PySem.W.Frag} {mg : Str → Option Value} {base : Heap} {f : Addr} {fd : FuncData}
theorem nd_common_divisor : (N_common_divisor).Nodup := by decide +kernel
theorem c_common_divisor (D0 : FnP K "common_divisor" st_common_divisor f fd) (hm : mg "common_divisor" = some (.ref f)) (m_abs : mg "abs" = none) : Cg P w K mg base 1 "common_divisor" F_common_divisor := by
  refine cg_fun (k := 0) (N := N_common_divisor) (ps := ["a", "b"]) D0 hm (D0.bindsN fun _ _ _ _ _ _ us hl => match us, hl with | [_, _], _ => rfl) (by decide +kernel) fun cdv A outer s H hr hgd => ?_
  have hu := hr.units
  have nd := nd_common_divisor
  exact ssCons (sPar2 rfl nd (jacCons (jP (jB cAbs m_abs (jaCons (jVar 0) (jaNil)))) (jacCons (jP (jB cAbs m_abs (jaCons (jVar 1) (jaNil)))) (jacNil))))
      (ssCons (sWhileS PassesOwn.never (jtP (jtCmp oGt (jVar 1) (jInt))) (ssOne (sPar2 rfl nd (jacCons (jP (jVar 1)) (jacCons (jP (j2 oMod (jVar 0) (jVar 1))) (jacNil))))))
      (ssOne (sReturn (jP (jVar 0)))))
theorem nd_fraction_of : (N_fraction_of).Nodup := by decide +kernel
theorem c_fraction_of (D0 : FnP K "fraction_of" st_fraction_of f fd) (hm : mg "fraction_of" = some (.ref f)) (h_common_divisor : Cg P w K mg base 1 "common_divisor" F_common_divisor) : Cg P w K mg base 2 "fraction_of" F_fraction_of := by
  refine cg_fun (k := 1) (N := N_fraction_of) (ps := ["p", "q"]) D0 hm (D0.bindsN fun _ _ _ _ _ _ us hl => match us, hl with | [_, _], _ => rfl) (by decide +kernel) fun cdv A outer s H hr hgd => ?_
  have hu := hr.units
  have nd := nd_fraction_of
  exact ssCons (sSetV (i := 2) nd (jP (jIf (jtCmp oGt (jVar 1) (jInt)) (jpCall h_common_divisor hr hgd (jaCons (jVar 0) (jaCons (jVar 1) (jaNil)))) (jNeg oNeg (jpCall h_common_divisor hr hgd (jaCons (jVar 0) (jaCons (jVar 1) (jaNil))))))))
      (ssOne (sReturn (jP (jTup (jaCons (j2 oFdiv (jVar 0) (jVar 2)) (jaCons (j2 oFdiv (jVar 1) (jVar 2)) (jaNil)))))))
theorem nd_fraction_sum : (N_fraction_sum).Nodup := by decide +kernel
theorem c_fraction_sum (D0 : FnP K "fraction_sum" st_fraction_sum f fd) (hm : mg "fraction_sum" = some (.ref f)) (h_fraction_of : Cg P w K mg base 2 "fraction_of" F_fraction_of) : Cg P w K mg base 3 "fraction_sum" F_fraction_sum := by
  refine cg_fun (k := 2) (N := N_fraction_sum) (ps := ["x", "y"]) D0 hm (D0.bindsN fun _ _ _ _ _ _ us hl => match us, hl with | [_, _], _ => rfl) (by decide +kernel) fun cdv A outer s H hr hgd => ?_
  have hu := hr.units
  have nd := nd_fraction_sum
  exact ssOne (sReturn (jP (jpCall h_fraction_of hr hgd (jaCons (j2 oAdd (j2 oMul (jIx (jVar 0) (jInt)) (jIx (jVar 1) (jInt))) (j2 oMul (jIx (jVar 1) (jInt)) (jIx (jVar 0) (jInt)))) (jaCons (j2 oMul (jIx (jVar 0) (jInt)) (jIx (jVar 1) (jInt))) (jaNil))))))
theorem nd_fraction_times : (N_fraction_times).Nodup := by decide +kernel
theorem c_fraction_times (D0 : FnP K "fraction_times" st_fraction_times f fd) (hm : mg "fraction_times" = some (.ref f)) (h_fraction_of : Cg P w K mg base 2 "fraction_of" F_fraction_of) : Cg P w K mg base 3 "fraction_times" F_fraction_times := by
  refine cg_fun (k := 2) (N := N_fraction_times) (ps := ["x", "y"]) D0 hm (D0.bindsN fun _ _ _ _ _ _ us hl => match us, hl with | [_, _], _ => rfl) (by decide +kernel) fun cdv A outer s H hr hgd => ?_
  have hu := hr.units
  have nd := nd_fraction_times
  exact ssOne (sReturn (jP (jpCall h_fraction_of hr hgd (jaCons (j2 oMul (jIx (jVar 0) (jInt)) (jIx (jVar 1) (jInt))) (jaCons (j2 oMul (jIx (jVar 0) (jInt)) (jIx (jVar 1) (jInt))) (jaNil))))))
theorem nd_fraction_turned : (N_fraction_turned).Nodup := by decide +kernel
theorem c_fraction_turned (D0 : FnP K "fraction_turned" st_fraction_turned f fd) (hm : mg "fraction_turned" = some (.ref f)) : Cg P w K mg base 1 "fraction_turned" F_fraction_turned := by
  refine cg_fun (k := 0) (N := N_fraction_turned) (ps := ["x"]) D0 hm (D0.bindsN fun _ _ _ _ _ _ us hl => match us, hl with | [_], _ => rfl) (by decide +kernel) fun cdv A outer s H hr hgd => ?_
  have hu := hr.units
  have nd := nd_fraction_turned
  exact ssOne (sReturn (jP (jTup (jaCons (jNeg oNeg (jIx (jVar 0) (jInt))) (jaCons (jIx (jVar 0) (jInt)) (jaNil))))))
theorem nd_is_whole_number : (N_is_whole_number).Nodup := by decide +kernel
theorem c_is_whole_number (D0 : FnP K "is_whole_number" st_is_whole_number f fd) (hm : mg "is_whole_number" = some (.ref f)) (m_isinstance : mg "isinstance" = none) (m_int : mg "int" = none) (m_bool : mg "bool" = none) : Cg P w K mg base 1 "is_whole_number" F_is_whole_number := by
  refine cg_fun (k := 0) (N := N_is_whole_number) (ps := ["value"]) D0 hm (D0.bindsN fun _ _ _ _ _ _ us hl => match us, hl with | [_], _ => rfl) (by decide +kernel) fun cdv A outer s H hr hgd => ?_
  have hu := hr.units
  have nd := nd_is_whole_number
  exact ssOne (sReturn (jP (jbV (jbAnd (jbOf (jIs cIsInt m_isinstance m_int (jVar 0))) (jbOne (jbNot (jbOf (jIs cIsBool m_isinstance m_bool (jVar 0)))))))))
theorem nd_is_fraction : (N_is_fraction).Nodup := by decide +kernel
theorem c_is_fraction (D0 : FnP K "is_fraction" st_is_fraction f fd) (hm : mg "is_fraction" = some (.ref f)) (h_common_divisor : Cg P w K mg base 1 "common_divisor" F_common_divisor) (h_is_whole_number : Cg P w K mg base 1 "is_whole_number" F_is_whole_number) (m_isinstance : mg "isinstance" = none) (m_tuple : mg "tuple" = none) (m_len : mg "len" = none) (m_all : mg "all" = none) : Cg P w K mg base 2 "is_fraction" F_is_fraction := by
  refine cg_fun (k := 1) (N := N_is_fraction) (ps := ["value"]) D0 hm (D0.bindsN fun _ _ _ _ _ _ us hl => match us, hl with | [_], _ => rfl) (by decide +kernel) fun cdv A outer s H hr hgd => ?_
  have hu := hr.units
  have nd := nd_is_fraction
  exact ssCons (sIfS (jtP (jtW (jwOr (jtNot (jtVal (jIs cIsTuple m_isinstance m_tuple (jVar 0)))) (jwOr (jtCmp (oNe hu) (jB cLen m_len (jaCons (jVar 0) (jaNil))) (jInt)) (jwOr1 (jtNot (jtVal (jB (cAll rfl) m_all (jaCons (jComp (own := [("x", 1)]) rfl nd (ipSeq (jVar 0)) (by first | (show blkC N_is_fraction (defScope st_is_fraction) _ _ = true; decide +kernel) | rfl) (fun _ _ _ _ _ => gNm nd) (fun _ _ _ _ _ => jtsNil) (fun _ _ _ _ _ => jpCall h_is_whole_number hr hgd (jaCons (jVar 1) (jaNil)))) (jaNil)))))))))) (ssOne (sReturn (jP (jBl)))) (ssNil))
      (ssOne (sReturn (jP (jbV (jbAnd (jbOf (jCmp oGt (jIx (jVar 0) (jInt)) (jInt))) (jbOne (jbOf (jCmp (oEq hu) (jpCall h_common_divisor hr hgd (jaCons (jIx (jVar 0) (jInt)) (jaCons (jIx (jVar 0) (jInt)) (jaNil)))) (jInt)))))))))
theorem nd_is_part : (N_is_part).Nodup := by decide +kernel
theorem c_is_part (D0 : FnP K "is_part" st_is_part f fd) (hm : mg "is_part" = some (.ref f)) (h_is_fraction : Cg P w K mg base 2 "is_fraction" F_is_fraction) : Cg P w K mg base 3 "is_part" F_is_part := by
  refine cg_fun (k := 2) (N := N_is_part) (ps := ["value"]) D0 hm (D0.bindsN fun _ _ _ _ _ _ us hl => match us, hl with | [_], _ => rfl) (by decide +kernel) fun cdv A outer s H hr hgd => ?_
  have hu := hr.units
  have nd := nd_is_part
  exact ssOne (sReturn (jP (jbV (jbAnd (jbOf (jpCall h_is_fraction hr hgd (jaCons (jVar 0) (jaNil)))) (jbOne (jbOf (jChain (k := .r) oLe oLt (jInt) (jIx (jVar 0) (jInt)) (jIx (jVar 0) (jInt)))))))))
theorem nd_part_of : (N_part_of).Nodup := by decide +kernel
theorem c_part_of (D0 : FnP K "part_of" st_part_of f fd) (hm : mg "part_of" = some (.ref f)) (h_fraction_of : Cg P w K mg base 2 "fraction_of" F_fraction_of) : Cg P w K mg base 3 "part_of" F_part_of := by
  refine cg_fun (k := 2) (N := N_part_of) (ps := ["p", "q"]) D0 hm (D0.bindsN fun _ _ _ _ _ _ us hl => match us, hl with | [_, _], _ => rfl) (by decide +kernel) fun cdv A outer s H hr hgd => ?_
  have hu := hr.units
  have nd := nd_part_of
  exact ssCons (sAsg (jP (jpCall h_fraction_of hr hgd (jaCons (jVar 0) (jaCons (jVar 1) (jaNil))))) (gTp rfl (gsCons (gNm nd) (gsCons (gNm nd) (gsNil)))))
      (ssOne (sReturn (jP (jpCall h_fraction_of hr hgd (jaCons (j2 oMod (jVar 2) (jVar 3)) (jaCons (jVar 3) (jaNil)))))))
theorem nd_part_sum : (N_part_sum).Nodup := by decide +kernel
theorem c_part_sum (D0 : FnP K "part_sum" st_part_sum f fd) (hm : mg "part_sum" = some (.ref f)) (h_part_of : Cg P w K mg base 3 "part_of" F_part_of) : Cg P w K mg base 4 "part_sum" F_part_sum := by
  refine cg_fun (k := 3) (N := N_part_sum) (ps := ["one", "other"]) D0 hm (D0.bindsN fun _ _ _ _ _ _ us hl => match us, hl with | [_, _], _ => rfl) (by decide +kernel) fun cdv A outer s H hr hgd => ?_
  have hu := hr.units
  have nd := nd_part_sum
  exact ssOne (sReturn (jP (jpCall h_part_of hr hgd (jaCons (j2 oAdd (j2 oMul (jIx (jVar 0) (jInt)) (jIx (jVar 1) (jInt))) (j2 oMul (jIx (jVar 1) (jInt)) (jIx (jVar 0) (jInt)))) (jaCons (j2 oMul (jIx (jVar 0) (jInt)) (jIx (jVar 1) (jInt))) (jaNil))))))
theorem nd_part_times : (N_part_times).Nodup := by decide +kernel
theorem c_part_times (D0 : FnP K "part_times" st_part_times f fd) (hm : mg "part_times" = some (.ref f)) (h_part_of : Cg P w K mg base 3 "part_of" F_part_of) : Cg P w K mg base 4 "part_times" F_part_times := by
  refine cg_fun (k := 3) (N := N_part_times) (ps := ["k", "part"]) D0 hm (D0.bindsN fun _ _ _ _ _ _ us hl => match us, hl with | [_, _], _ => rfl) (by decide +kernel) fun cdv A outer s H hr hgd => ?_
  have hu := hr.units
  have nd := nd_part_times
  exact ssOne (sReturn (jP (jpCall h_part_of hr hgd (jaCons (j2 oMul (jVar 0) (jIx (jVar 1) (jInt))) (jaCons (jIx (jVar 1) (jInt)) (jaNil))))))
theorem nd_part_turned : (N_part_turned).Nodup := by decide +kernel
theorem c_part_turned (D0 : FnP K "part_turned" st_part_turned f fd) (hm : mg "part_turned" = some (.ref f)) (h_part_of : Cg P w K mg base 3 "part_of" F_part_of) : Cg P w K mg base 4 "part_turned" F_part_turned := by
  refine cg_fun (k := 3) (N := N_part_turned) (ps := ["part"]) D0 hm (D0.bindsN fun _ _ _ _ _ _ us hl => match us, hl with | [_], _ => rfl) (by decide +kernel) fun cdv A outer s H hr hgd => ?_
  have hu := hr.units
  have nd := nd_part_turned
  exact ssOne (sReturn (jP (jpCall h_part_of hr hgd (jaCons (jNeg oNeg (jIx (jVar 0) (jInt))) (jaCons (jIx (jVar 0) (jInt)) (jaNil))))))
theorem nd_half_of : (N_half_of).Nodup := by decide +kernel
theorem c_half_of (D0 : FnP K "half_of" st_half_of f fd) (hm : mg "half_of" = some (.ref f)) (h_part_sum : Cg P w K mg base 4 "part_sum" F_part_sum) (h_fraction_turned : Cg P w K mg base 1 "fraction_turned" F_fraction_turned) : Cg P w K mg base 5 "half_of" F_half_of := by
  refine cg_fun (k := 4) (N := N_half_of) (ps := ["part", "c"]) D0 hm (D0.bindsN fun _ _ _ _ _ _ us hl => match us, hl with | [_, _], _ => rfl) (by decide +kernel) fun cdv A outer s H hr hgd => ?_
  have hu := hr.units
  have nd := nd_half_of
  exact ssCons (sIfS (jtP (jtCmp oLt (j2 oMul (jInt) (jIx (jVar 0) (jInt))) (jIx (jVar 0) (jInt)))) (ssOne (sReturn (jP (jTup (jaCons (jVar 0) (jaCons (jVar 1) (jaNil))))))) (ssNil))
      (ssOne (sReturn (jP (jTup (jaCons (jpCall h_part_sum hr hgd (jaCons (jVar 0) (jaCons (jTup (jaCons (jInt) (jaCons (jInt) (jaNil)))) (jaNil)))) (jaCons (jpCall h_fraction_turned hr hgd (jaCons (jVar 1) (jaNil))) (jaNil)))))))
theorem nd_primes_of : (N_primes_of).Nodup := by decide +kernel
theorem c_primes_of (D0 : FnP K "primes_of" st_primes_of f fd) (hm : mg "primes_of" = some (.ref f)) (m_tuple : mg "tuple" = none) : Cg P w K mg base 1 "primes_of" F_primes_of := by
  refine cg_fun (k := 0) (N := N_primes_of) (ps := ["q"]) D0 hm (D0.bindsN fun _ _ _ _ _ _ us hl => match us, hl with | [_], _ => rfl) (by decide +kernel) fun cdv A outer s H hr hgd => ?_
  have hu := hr.units
  have nd := nd_primes_of
  exact ssCons (sPar2 rfl nd (jacCons (jF (jLst (jaNil))) (jacCons (jP (jInt)) (jacNil))))
      (ssCons (sWhileS PassesOwn.never (jtP (jtCmp oLe (j2 oMul (jVar 2) (jVar 2)) (jVar 0))) (ssCons (sIfS (jtP (jtCmp (oEq hu) (j2 oMod (jVar 0) (jVar 2)) (jInt))) (ssCons (sAppS (i := 1) (jP (jVar 2)))
      (ssOne (sWhileS PassesOwn.never (jtP (jtCmp (oEq hu) (j2 oMod (jVar 0) (jVar 2)) (jInt))) (ssOne (sSetV (i := 0) nd (jP (j2 oFdiv (jVar 0) (jVar 2)))))))) (ssNil))
      (ssOne (sSetV (i := 2) nd (jP (j2 oAdd (jVar 2) (jInt)))))))
      (ssOne (sReturn (jP (jTy cTuple m_tuple (jaCons (jIf (jtCmp oGt (jVar 0) (jInt)) (jLstS (jsStar (jOwn 1) (jsCons (jVar 0) (jsNil)))) (jOwn 1)) (jaNil)))))))
theorem nd_inverse_by : (N_inverse_by).Nodup := by decide +kernel
theorem c_inverse_by (D0 : FnP K "inverse_by" st_inverse_by f fd) (hm : mg "inverse_by" = some (.ref f)) : Cg P w K mg base 1 "inverse_by" F_inverse_by := by
  refine cg_fun (k := 0) (N := N_inverse_by) (ps := ["a", "m"]) D0 hm (D0.bindsN fun _ _ _ _ _ _ us hl => match us, hl with | [_, _], _ => rfl) (by decide +kernel) fun cdv A outer s H hr hgd => ?_
  have hu := hr.units
  have nd := nd_inverse_by
  exact ssCons (sAsg (jP (jTup (jaCons (j2 oMod (jVar 0) (jVar 1)) (jaCons (jVar 1) (jaCons (jInt) (jaCons (jInt) (jaNil))))))) (gTp rfl (gsCons (gNm nd) (gsCons (gNm nd) (gsCons (gNm nd) (gsCons (gNm nd) (gsNil)))))))
      (ssCons (sWhileS PassesOwn.never (jtP (jtCmp oGt (jVar 3) (jInt))) (ssCons (sSetV (i := 6) nd (jP (j2 oFdiv (jVar 2) (jVar 3))))
      (ssOne (sAsg (jP (jTup (jaCons (jVar 3) (jaCons (j2 oSub (jVar 2) (j2 oMul (jVar 6) (jVar 3))) (jaCons (jVar 5) (jaCons (j2 oSub (jVar 4) (j2 oMul (jVar 6) (jVar 5))) (jaNil))))))) (gTp rfl (gsCons (gNm nd) (gsCons (gNm nd) (gsCons (gNm nd) (gsCons (gNm nd) (gsNil))))))))))
      (ssOne (sReturn (jP (j2 oMod (jVar 4) (jVar 1))))))
theorem nd_prime_part : (N_prime_part).Nodup := by decide +kernel
theorem c_prime_part (D0 : FnP K "prime_part" st_prime_part f fd) (hm : mg "prime_part" = some (.ref f)) (h_part_of : Cg P w K mg base 3 "part_of" F_part_of) (h_inverse_by : Cg P w K mg base 1 "inverse_by" F_inverse_by) : Cg P w K mg base 4 "prime_part" F_prime_part := by
  refine cg_fun (k := 3) (N := N_prime_part) (ps := ["part", "p"]) D0 hm (D0.bindsN fun _ _ _ _ _ _ us hl => match us, hl with | [_, _], _ => rfl) (by decide +kernel) fun cdv A outer s H hr hgd => ?_
  have hu := hr.units
  have nd := nd_prime_part
  exact ssCons (sPar2 rfl nd (jacCons (jP (jIx (jVar 0) (jInt))) (jacCons (jP (jInt)) (jacNil))))
      (ssCons (sWhileS PassesOwn.never (jtP (jtCmp (oEq hu) (j2 oMod (jVar 2) (jVar 1)) (jInt))) (ssOne (sPar2 rfl nd (jacCons (jP (j2 oFdiv (jVar 2) (jVar 1))) (jacCons (jP (j2 oMul (jVar 3) (jVar 1))) (jacNil))))))
      (ssOne (sReturn (jP (jpCall h_part_of hr hgd (jaCons (j2 oMul (jIx (jVar 0) (jInt)) (jpCall h_inverse_by hr hgd (jaCons (jVar 2) (jaCons (jVar 3) (jaNil))))) (jaCons (jVar 3) (jaNil))))))))
theorem nd_loose_primes : (N_loose_primes).Nodup := by decide +kernel
theorem c_loose_primes (D0 : FnP K "loose_primes" st_loose_primes f fd) (hm : mg "loose_primes" = some (.ref f)) (h_primes_of : Cg P w K mg base 1 "primes_of" F_primes_of) (h_prime_part : Cg P w K mg base 4 "prime_part" F_prime_part) : Cg P w K mg base 5 "loose_primes" F_loose_primes := by
  refine cg_fun (k := 4) (N := N_loose_primes) (ps := ["part"]) D0 hm (D0.bindsN fun _ _ _ _ _ _ us hl => match us, hl with | [_], _ => rfl) (by decide +kernel) fun cdv A outer s H hr hgd => ?_
  have hu := hr.units
  have nd := nd_loose_primes
  exact ssCons (sSetO (i := 1) nd (jF (jLst (jaNil))))
      (ssCons (sForS PassesOwn.never rfl (iSeq (jpCall h_primes_of hr hgd (jaCons (jIx (jVar 0) (jInt)) (jaNil)))) (gNm nd) (ssCons (sAsg (jP (jpCall h_prime_part hr hgd (jaCons (jVar 0) (jaCons (jVar 2) (jaNil))))) (gTp rfl (gsCons (gNm nd) (gsCons (gNm nd) (gsNil)))))
      (ssOne (sIfS (jtP (jtCmp oGe (j2 oMul (jVar 3) (jVar 2)) (j2 oMul (j2 oSub (jVar 2) (jInt)) (jVar 4)))) (ssOne (sAppS (i := 1) (jP (jVar 2)))) (ssNil)))))
      (ssOne (sReturn (jMv (i := 1)))))
theorem nd_is_led_part : (N_is_led_part).Nodup := by decide +kernel
theorem c_is_led_part (D0 : FnP K "is_led_part" st_is_led_part f fd) (hm : mg "is_led_part" = some (.ref f)) (h_loose_primes : Cg P w K mg base 5 "loose_primes" F_loose_primes) : Cg P w K mg base 6 "is_led_part" F_is_led_part := by
  refine cg_fun (k := 5) (N := N_is_led_part) (ps := ["part"]) D0 hm (D0.bindsN fun _ _ _ _ _ _ us hl => match us, hl with | [_], _ => rfl) (by decide +kernel) fun cdv A outer s H hr hgd => ?_
  have hu := hr.units
  have nd := nd_is_led_part
  exact ssOne (sReturn (jP (jCmp (oEq hu) (jpCall h_loose_primes hr hgd (jaCons (jVar 0) (jaNil))) (jLst (jaNil)))))
theorem nd__law_source : (N__law_source).Nodup := by decide +kernel
theorem c__law_source (D0 : FnP K "_law_source" st__law_source f fd) (hm : mg "_law_source" = some (.ref f)) (m_int : mg "int" = none) (m_abs : mg "abs" = none) : Cg P w K mg base 1 "_law_source" F__law_source := by
  refine cg_fun (k := 0) (N := N__law_source) (ps := ["script"]) D0 hm (D0.bindsN fun _ _ _ _ _ _ us hl => match us, hl with | [_], _ => rfl) (by decide +kernel) fun cdv A outer s H hr hgd => ?_
  have hu := hr.units
  have nd := nd__law_source
  exact ssCons (sSetV (i := 1) nd (jP (jInt)))
      (ssCons (sForS PassesOwn.never rfl (iScrI (i := 0)) (gNm nd) (ssOne (sSetV (i := 1) nd (jP (j2 oMod (jTy cInt m_int (jaCons (j2 oAdd (j2 oAdd (j2 oMul (jVar 1) (jInt)) (j2 oMul (jVar 2) (jInt))) (jInt)) (jaNil))) (jInt))))))
      (ssOne (sReturn (jSrcNew (jRevL (jComp (own := [("cell", 2)]) rfl nd (ipScrI (i := 0)) (by first | (show blkC N__law_source (defScope st__law_source) _ _ = true; decide +kernel) | rfl) (fun _ _ _ _ _ => gNm nd) (fun _ _ _ _ _ => jtsNil) (fun _ _ _ _ _ => jB cAbs m_abs (jaCons (jVar 2) (jaNil))))) (jInt) (jVar 1) (jInt)))))
theorem nd__law_pick : (N__law_pick).Nodup := by decide +kernel
theorem c__law_pick (D0 : FnP K "_law_pick" st__law_pick f fd) (hm : mg "_law_pick" = some (.ref f)) (m_int : mg "int" = none) (m_len : mg "len" = none) (m_max : mg "max" = none) : Cg P w K mg base 1 "_law_pick" F__law_pick := by
  refine cg_fun (k := 0) (N := N__law_pick) (ps := ["source", "many"]) D0 hm (D0.bindsN fun _ _ _ _ _ _ us hl => match us, hl with | [_, _], _ => rfl) (by decide +kernel) fun cdv A outer s H hr hgd => ?_
  have hu := hr.units
  have nd := nd__law_pick
  exact ssCons (sWhileS PassesOwn.never (jtP (jtW (jwAnd (jtCmp oGt (jVar 1) (jInt)) (jwAnd (jtCmp oLt (jSrc (i := 0) hu) (jInt)) (jwAnd1 (jtCmp oGt (jB cLen m_len (jaCons (jSrcC (i := 0) hu) (jaNil))) (jInt))))))) (ssOne (sSrcPopS (i := 0) hu)))
      (ssCons (sSetV (i := 2) nd (jP (jSrc (i := 0) hu)))
      (ssCons (sIfS (jtP (jtW (jwOr (jtCmp oLt (jVar 1) (jInt)) (jwOr1 (jtCmp oGt (jVar 2) (jInt)))))) (ssCons (sSrcPutS (i := 0) hu (j2 oFdiv (jVar 2) (jB (cMax2 rfl) m_max (jaCons (jInt) (jaCons (jVar 1) (jaNil))))))
      (ssOne (sReturn (jP (j2 oMod (jTy cInt m_int (jaCons (jVar 2) (jaNil))) (jB (cMax2 rfl) m_max (jaCons (jInt) (jaCons (jVar 1) (jaNil))))))))) (ssNil))
      (ssCons (sSrcPutS (i := 0) hu (j2 oAdd (jSrc (i := 0) hu) (jInt)))
      (ssCons (sSetV (i := 3) nd (jP (j2 oMod (jTy cInt m_int (jaCons (j2 oAdd (jSrc (i := 0) hu) (j2 oMul (jSrc (i := 0) hu) (jInt))) (jaNil))) (jInt))))
      (ssCons (sSetV (i := 3) nd (jP (j2 oMod (jTy cInt m_int (jaCons (j2 oAdd (j2 oMul (jVar 3) (jVar 3)) (j2 oMul (jSrc (i := 0) hu) (jInt))) (jaNil))) (jInt))))
      (ssCons (sSrcPutS (i := 0) hu (jVar 3))
      (ssOne (sReturn (jP (j2 oMod (jTy cInt m_int (jaCons (j2 oFdiv (jVar 3) (jInt)) (jaNil))) (jVar 1)))))))))))
theorem nd__law_of : (N__law_of).Nodup := by decide +kernel
theorem c__law_of (D0 : FnP K "_law_of" st__law_of f fd) (hm : mg "_law_of" = some (.ref f)) (h__law_pick : Cg P w K mg base 1 "_law_pick" F__law_pick) (m_len : mg "len" = none) : Cg P w K mg base 2 "_law_of" F__law_of := by
  refine cg_fun (k := 1) (N := N__law_of) (ps := ["source", "some"]) D0 hm (D0.bindsN fun _ _ _ _ _ _ us hl => match us, hl with | [_, _], _ => rfl) (by decide +kernel) fun cdv A outer s H hr hgd => ?_
  have hu := hr.units
  have nd := nd__law_of
  exact ssOne (sReturn (jEIx (jP (jVar 1)) (jCallR (i := 0) h__law_pick hr hgd (jaeCons (jP (jB cLen m_len (jaCons (jVar 1) (jaNil)))) (jaeNil)))))
theorem nd__law_fraction : (N__law_fraction).Nodup := by decide +kernel
theorem c__law_fraction (D0 : FnP K "_law_fraction" st__law_fraction f fd) (hm : mg "_law_fraction" = some (.ref f)) (m_abs : mg "abs" = none) (m_int : mg "int" = none) : Cg P w K mg base 1 "_law_fraction" F__law_fraction := by
  refine cg_fun (k := 0) (N := N__law_fraction) (ps := ["p", "q"]) D0 hm (D0.bindsN fun _ _ _ _ _ _ us hl => match us, hl with | [_, _], _ => rfl) (by decide +kernel) fun cdv A outer s H hr hgd => ?_
  have hu := hr.units
  have nd := nd__law_fraction
  exact ssCons (sPar2 rfl nd (jacCons (jP (jB cAbs m_abs (jaCons (jVar 0) (jaNil)))) (jacCons (jP (jB cAbs m_abs (jaCons (jVar 1) (jaNil)))) (jacNil))))
      (ssCons (sWhileS PassesOwn.never (jtP (jtCmp oGt (jVar 3) (jInt))) (ssOne (sPar2 rfl nd (jacCons (jP (jVar 3)) (jacCons (jP (j2 oMod (jTy cInt m_int (jaCons (jVar 2) (jaNil))) (jVar 3))) (jacNil))))))
      (ssOne (sReturn (jP (jIf (jtCmp oGt (jVar 1) (jInt)) (jTup (jaCons (j2 oFdiv (jVar 0) (jVar 2)) (jaCons (j2 oFdiv (jVar 1) (jVar 2)) (jaNil)))) (jTup (jaCons (j2 oFdiv (j2 oSub (jInt) (jVar 0)) (jVar 2)) (jaCons (j2 oFdiv (j2 oSub (jInt) (jVar 1)) (jVar 2)) (jaNil)))))))))
theorem nd__law_part : (N__law_part).Nodup := by decide +kernel
theorem c__law_part (D0 : FnP K "_law_part" st__law_part f fd) (hm : mg "_law_part" = some (.ref f)) (h__law_fraction : Cg P w K mg base 1 "_law_fraction" F__law_fraction) (m_int : mg "int" = none) : Cg P w K mg base 2 "_law_part" F__law_part := by
  refine cg_fun (k := 1) (N := N__law_part) (ps := ["p", "q"]) D0 hm (D0.bindsN fun _ _ _ _ _ _ us hl => match us, hl with | [_, _], _ => rfl) (by decide +kernel) fun cdv A outer s H hr hgd => ?_
  have hu := hr.units
  have nd := nd__law_part
  exact ssCons (sAsg (jP (jpCall h__law_fraction hr hgd (jaCons (jVar 0) (jaCons (jVar 1) (jaNil))))) (gTp rfl (gsCons (gNm nd) (gsCons (gNm nd) (gsNil)))))
      (ssOne (sReturn (jP (jpCall h__law_fraction hr hgd (jaCons (j2 oMod (jTy cInt m_int (jaCons (jVar 0) (jaNil))) (jVar 1)) (jaCons (jVar 1) (jaNil)))))))
theorem nd__law_common : (N__law_common).Nodup := by decide +kernel
theorem c__law_common (D0 : FnP K "_law_common" st__law_common f fd) (hm : mg "_law_common" = some (.ref f)) (m_int : mg "int" = none) : Cg P w K mg base 1 "_law_common" F__law_common := by
  refine cg_fun (k := 0) (N := N__law_common) (ps := ["a", "b"]) D0 hm (D0.bindsN fun _ _ _ _ _ _ us hl => match us, hl with | [_, _], _ => rfl) (by decide +kernel) fun cdv A outer s H hr hgd => ?_
  have hu := hr.units
  have nd := nd__law_common
  exact ssCons (sWhileS PassesOwn.never (jtP (jtCmp oGt (jVar 1) (jInt))) (ssOne (sPar2 rfl nd (jacCons (jP (jVar 1)) (jacCons (jP (j2 oMod (jTy cInt m_int (jaCons (jVar 0) (jaNil))) (jVar 1))) (jacNil))))))
      (ssOne (sReturn (jP (jVar 0))))
theorem nd__law_primes : (N__law_primes).Nodup := by decide +kernel
theorem c__law_primes (D0 : FnP K "_law_primes" st__law_primes f fd) (hm : mg "_law_primes" = some (.ref f)) (m_int : mg "int" = none) : Cg P w K mg base 1 "_law_primes" F__law_primes := by
  refine cg_fun (k := 0) (N := N__law_primes) (ps := ["q"]) D0 hm (D0.bindsN fun _ _ _ _ _ _ us hl => match us, hl with | [_], _ => rfl) (by decide +kernel) fun cdv A outer s H hr hgd => ?_
  have hu := hr.units
  have nd := nd__law_primes
  exact ssCons (sPar2 rfl nd (jacCons (jP (jLst (jaNil))) (jacCons (jP (jInt)) (jacNil))))
      (ssCons (sWhileS PassesOwn.never (jtP (jtCmp oGt (jVar 0) (jInt))) (ssOne (sIfS (jtP (jtCmp (oEq hu) (j2 oMod (jTy cInt m_int (jaCons (jVar 0) (jaNil))) (jVar 2)) (jInt))) (ssCons (sSetV (i := 0) nd (jP (j2 oFdiv (jVar 0) (jVar 2))))
      (ssOne (sSetV (i := 1) nd (jP (j2 oAdd (jVar 1) (j2 oRep (jLst (jaCons (jVar 2) (jaNil))) (jTy cInt m_int (jaCons (jCmp (oNotIn hu) (jVar 2) (jVar 1)) (jaNil))))))))) (ssOne (sSetV (i := 2) nd (jP (j2 oAdd (jVar 2) (jInt))))))))
      (ssOne (sReturn (jP (jVar 1)))))
theorem nd__law_prime_part : (N__law_prime_part).Nodup := by decide +kernel
theorem c__law_prime_part (D0 : FnP K "_law_prime_part" st__law_prime_part f fd) (hm : mg "_law_prime_part" = some (.ref f)) (h__law_part : Cg P w K mg base 2 "_law_part" F__law_part) (h__law_fraction : Cg P w K mg base 1 "_law_fraction" F__law_fraction) (m_range : mg "range" = none) (m_int : mg "int" = none) : Cg P w K mg base 3 "_law_prime_part" F__law_prime_part := by
  refine cg_fun (k := 2) (N := N__law_prime_part) (ps := ["part", "p"]) D0 hm (D0.bindsN fun _ _ _ _ _ _ us hl => match us, hl with | [_, _], _ => rfl) (by decide +kernel) fun cdv A outer s H hr hgd => ?_
  have hu := hr.units
  have nd := nd__law_prime_part
  exact ssCons (sSetV (i := 2) nd (jP (jInt)))
      (ssCons (sWhileS PassesOwn.never (jtP (jtCmp (oEq hu) (j2 oMod (jTy cInt m_int (jaCons (jIx (jVar 0) (jInt)) (jaNil))) (j2 oMul (jVar 2) (jVar 1))) (jInt))) (ssOne (sSetV (i := 2) nd (jP (j2 oMul (jVar 2) (jVar 1))))))
      (ssCons (sForS PassesOwn.never rfl (iR1 m_range (jVar 2)) (gNm nd) (ssCons (sSetV (i := 4) nd (jP (jpCall h__law_part hr hgd (jaCons (j2 oSub (j2 oMul (jIx (jVar 0) (jInt)) (jVar 2)) (j2 oMul (jVar 3) (jIx (jVar 0) (jInt)))) (jaCons (j2 oMul (jIx (jVar 0) (jInt)) (jVar 2)) (jaNil))))))
      (ssOne (sIfS (jtP (jtCmp (oNe hu) (j2 oMod (jTy cInt m_int (jaCons (jIx (jVar 4) (jInt)) (jaNil))) (jVar 1)) (jInt))) (ssOne (sReturn (jP (jpCall h__law_fraction hr hgd (jaCons (jVar 3) (jaCons (jVar 2) (jaNil))))))) (ssNil)))))
      (ssOne (sReturn (jP (jNon))))))
theorem nd__law_bent : (N__law_bent).Nodup := by decide +kernel
theorem c__law_bent (D0 : FnP K "_law_bent" st__law_bent f fd) (hm : mg "_law_bent" = some (.ref f)) (h__law_of : Cg P w K mg base 2 "_law_of" F__law_of) (h__law_pick : Cg P w K mg base 1 "_law_pick" F__law_pick) (m_isinstance : mg "isinstance" = none) (m_tuple : mg "tuple" = none) (m_len : mg "len" = none) (m_list : mg "list" = none) : ∀ n, Cg P w K mg base (3 + n) "_law_bent" (F__law_bent n)
  | 0 => ⟨f, fd, ["source", "value"], ⟨fun _ _ e => (nomatch e), fun _ _ _ _ _ _ _ _ _ _ _ _ _ ⟨_, _, _, _, _, _, e, _⟩ => (nomatch e)⟩, hm, D0.kp, (D0.bindsN fun _ _ _ _ _ _ us hl => match us, hl with | [_, _], _ => rfl)⟩
  | n + 1 => by
    have cR := c__law_bent D0 hm h__law_of h__law_pick m_isinstance m_tuple m_len m_list n
    refine cg_fun (k := 3 + n) (N := N__law_bent) (ps := ["source", "value"]) D0 hm (D0.bindsN fun _ _ _ _ _ _ us hl => match us, hl with | [_, _], _ => rfl) (by decide +kernel) fun cdv A outer s H hr hgd => ?_
    have hu := hr.units
    have nd := nd__law_bent
    exact ssCons (sSetV (i := 2) nd (jP (jLst (jaCons (jNon) (jaCons (jBl) (jaCons (jInt) (jaCons (jInt) (jaCons (jNeg oNeg (jInt)) (jaCons (jTup (jaNil)) (jaCons (jLst (jaNil)) (jaCons (jDict0) (jaCons (jStr) (jaCons (jTup (jaCons (jInt) (jaCons (jInt) (jaNil)))) (jaCons (jTup (jaCons (jInt) (jaCons (jInt) (jaNil)))) (jaCons (jTup (jaCons (jInt) (jaCons (jNeg oNeg (jInt)) (jaNil)))) (jaCons (jTup (jaCons (jInt) (jaCons (jBl) (jaNil)))) (jaCons (jTup (jaCons (jInt) (jaCons (jInt) (jaNil)))) (jaCons (jTup (jaCons (jNeg oNeg (jInt)) (jaCons (jInt) (jaNil)))) (jaCons (jTup (jaCons (jInt) (jaCons (jInt) (jaNil)))) (jaCons (j2 oPow (jInt) (jInt)) (jaNil)))))))))))))))))))))
      (ssCons (sIfS (jtWe (jweOr (jtP (jtNot (jtVal (jIs cIsTuple m_isinstance m_tuple (jVar 1))))) (jweOr (jtP (jtCmp (oEq hu) (jVar 1) (jTup (jaNil)))) (jweOr1 (jtVEc (oEq hu) (jCallR (i := 0) h__law_pick hr hgd (jaeCons (jP (jInt)) (jaeNil))) (jP (jInt))))))) (ssOne (sReturn (jCallR (i := 0) h__law_of hr hgd (jaeCons (jP (jVar 2)) (jaeNil))))) (ssNil))
      (ssCons (sPar2 rfl nd (jacCons (jCallR (i := 0) h__law_pick hr hgd (jaeCons (jP (jB cLen m_len (jaCons (jVar 1) (jaNil)))) (jaeNil))) (jacCons (jCallR (i := 0) h__law_pick hr hgd (jaeCons (jP (jInt)) (jaeNil))) (jacNil))))
      (ssCons (sIfS (jtP (jtCmp oLt (jVar 4) (jInt))) (ssOne (sReturn (jP (jIx (jLst (jaCons (j2 oAdd (jCut (jVar 1) poNone (poSome (jVar 3))) (jCut (jVar 1) (poSome (j2 oAdd (jVar 3) (jInt))) poNone)) (jaCons (j2 oAdd (jCut (jVar 1) poNone (poSome (j2 oAdd (jVar 3) (jInt)))) (jCut (jVar 1) (poSome (jVar 3)) poNone)) (jaNil)))) (jVar 4))))) (ssNil))
      (ssCons (sIfS (jtP (jtCmp (oEq hu) (jVar 4) (jInt))) (ssOne (sReturn (jCallR (i := 0) h__law_of hr hgd (jaeCons (jP (jLst (jaCons (jRevT (jVar 1)) (jaCons (jTy cList m_list (jaCons (jVar 1) (jaNil))) (jaNil))))) (jaeNil))))) (ssNil))
      (ssOne (sReturn (jE2 oAdd (jE2 oAdd (jP (jCut (jVar 1) poNone (poSome (jVar 3)))) (jETup (jaeCons (jCallR (i := 0) cR hr hgd (jaeCons (jP (jIx (jVar 1) (jVar 3))) (jaeNil))) (jaeNil)))) (jP (jCut (jVar 1) (poSome (j2 oAdd (jVar 3) (jInt))) poNone)))))))))
theorem nd__law_is_fraction : (N__law_is_fraction).Nodup := by decide +kernel
theorem c__law_is_fraction (D0 : FnP K "_law_is_fraction" st__law_is_fraction f fd) (hm : mg "_law_is_fraction" = some (.ref f)) (h__law_common : Cg P w K mg base 1 "_law_common" F__law_common) (m_isinstance : mg "isinstance" = none) (m_tuple : mg "tuple" = none) (m_len : mg "len" = none) (m_abs : mg "abs" = none) (m_bool : mg "bool" = none) (m_int : mg "int" = none) : Cg P w K mg base 2 "_law_is_fraction" F__law_is_fraction := by
  refine cg_fun (k := 1) (N := N__law_is_fraction) (ps := ["value"]) D0 hm (D0.bindsN fun _ _ _ _ _ _ us hl => match us, hl with | [_], _ => rfl) (by decide +kernel) fun cdv A outer s H hr hgd => ?_
  have hu := hr.units
  have nd := nd__law_is_fraction
  exact ssCons (sIfS (jtP (jtW (jwOr (jtNot (jtVal (jIs cIsTuple m_isinstance m_tuple (jVar 0)))) (jwOr1 (jtCmp (oNe hu) (jB cLen m_len (jaCons (jVar 0) (jaNil))) (jInt)))))) (ssOne (sReturn (jP (jBl)))) (ssNil))
      (ssCons (sIfS (jtP (jtCmp (oNe hu) (jComp (own := [("x", 1)]) rfl nd (ipSeq (jVar 0)) (by first | (show blkC N__law_is_fraction (defScope st__law_is_fraction) _ _ = true; decide +kernel) | rfl) (fun _ _ _ _ _ => gNm nd) (fun _ _ _ _ _ => jtsOne (jtW (jwOr (jtNot (jtVal (jIs cIsInt m_isinstance m_int (jVar 1)))) (jwOr1 (jtVal (jIs cIsBool m_isinstance m_bool (jVar 1))))))) (fun _ _ _ _ _ => jVar 1)) (jLst (jaNil)))) (ssOne (sReturn (jP (jBl)))) (ssNil))
      (ssOne (sReturn (jP (jbV (jbAnd (jbOf (jCmp oGt (jIx (jVar 0) (jInt)) (jInt))) (jbOne (jbOf (jCmp (oEq hu) (jpCall h__law_common hr hgd (jaCons (jB cAbs m_abs (jaCons (jIx (jVar 0) (jInt)) (jaNil))) (jaCons (jIx (jVar 0) (jInt)) (jaNil)))) (jInt))))))))))
theorem nd_law : (N_law).Nodup := by decide +kernel
theorem c_law (D0 : FnP K "law" st_law f fd) (h__law_source : Cg P w K mg base 1 "_law_source" F__law_source) (h__law_pick : Cg P w K mg base 1 "_law_pick" F__law_pick) (h__law_fraction : Cg P w K mg base 1 "_law_fraction" F__law_fraction) (h_fraction_of : Cg P w K mg base 2 "fraction_of" F_fraction_of) (h_fraction_sum : Cg P w K mg base 3 "fraction_sum" F_fraction_sum) (h_fraction_times : Cg P w K mg base 3 "fraction_times" F_fraction_times) (h_fraction_turned : Cg P w K mg base 1 "fraction_turned" F_fraction_turned) (h_part_of : Cg P w K mg base 3 "part_of" F_part_of) (h__law_part : Cg P w K mg base 2 "_law_part" F__law_part) (h_part_sum : Cg P w K mg base 4 "part_sum" F_part_sum) (h_part_times : Cg P w K mg base 4 "part_times" F_part_times) (h_part_turned : Cg P w K mg base 4 "part_turned" F_part_turned) (h_half_of : Cg P w K mg base 5 "half_of" F_half_of) (h__law_primes : Cg P w K mg base 1 "_law_primes" F__law_primes) (h__law_prime_part : Cg P w K mg base 3 "_law_prime_part" F__law_prime_part) (h__law_bent : Cg P w K mg base 6 "_law_bent" (F__law_bent 3)) (h__law_is_fraction : Cg P w K mg base 2 "_law_is_fraction" F__law_is_fraction) (h__law_common : Cg P w K mg base 1 "_law_common" F__law_common) (h_primes_of : Cg P w K mg base 1 "primes_of" F_primes_of) (h_is_led_part : Cg P w K mg base 6 "is_led_part" F_is_led_part) (h_prime_part : Cg P w K mg base 4 "prime_part" F_prime_part) (h_is_fraction : Cg P w K mg base 2 "is_fraction" F_is_fraction) (h_is_part : Cg P w K mg base 3 "is_part" F_is_part) (m_range : mg "range" = none) (m_len : mg "len" = none) (m_max : mg "max" = none) (m_repr : mg "repr" = none) (m_list : mg "list" = none) (m_tuple : mg "tuple" = none) : GnOk P w K mg base 7 f fd ["script"] F_law := by
  refine gn_fun (k := 6) (N := N_law) (ps := ["script"]) D0 (by decide +kernel) fun cdv A outer s H hr hgd => ?_
  have hu := hr.units
  have nd := nd_law
  exact ssCons (sSetO (i := 1) nd (jCallS (i := 0) h__law_source hr hgd))
      (ssCons (sForS PassesOwn.never rfl (iR1 m_range (jInt)) (gNm nd) (ssCons (sSetV (i := 6) nd (jP (jIx (jLst (jaCons (jInt) (jaCons (jInt) (jaCons (jInt) (jaCons (jInt) (jaCons (j2 oPow (jInt) (jInt)) (jaCons (j2 oPow (jInt) (jInt)) (jaNil)))))))) (jVar 2))))
      (ssCons (sAsg (jEComp (own := [("k", 15)]) rfl nd (iR1 m_range (jInt)) (by first | (show blkC N_law (defScope st_law) _ _ = true; decide +kernel) | rfl) (fun _ _ _ _ _ => gNm nd) (fun _ _ _ _ _ => jtseNil) (fun _ _ _ _ _ => jE2 oSub (jCallR (i := 1) h__law_pick hr hgd (jaeCons (jP (j2 oAdd (j2 oMul (jInt) (jVar 6)) (jInt))) (jaeNil))) (jP (jVar 6)))) (gTl rfl (gsCons (gNm nd) (gsCons (gNm nd) (gsCons (gNm nd) (gsCons (gNm nd) (gsNil)))))))
      (ssCons (sPar3 rfl nd (jacCons (jP (jIf (jtCmp (oNe hu) (jVar 12) (jInt)) (jVar 12) (jInt))) (jacCons (jP (jIf (jtCmp (oNe hu) (jVar 14) (jInt)) (jVar 14) (jNeg oNeg (jInt)))) (jacCons (jE2 oSub (jCallR (i := 1) h__law_pick hr hgd (jaeCons (jP (jInt)) (jaeNil))) (jP (jInt))) (jacNil)))))
      (ssCons (sPar2 rfl nd (jacCons (jP (jpCall h__law_fraction hr hgd (jaCons (jVar 11) (jaCons (jVar 12) (jaNil))))) (jacCons (jP (jpCall h__law_fraction hr hgd (jaCons (jVar 13) (jaCons (jVar 14) (jaNil))))) (jacNil))))
      (ssCons (sSetV (i := 7) nd (jP (jLst (jaCons (jpCall h_fraction_of hr hgd (jaCons (jVar 11) (jaCons (jVar 12) (jaNil)))) (jaCons (jpCall h_fraction_sum hr hgd (jaCons (jVar 16) (jaCons (jVar 17) (jaNil)))) (jaCons (jpCall h_fraction_times hr hgd (jaCons (jVar 16) (jaCons (jVar 17) (jaNil)))) (jaCons (jpCall h_fraction_turned hr hgd (jaCons (jVar 16) (jaNil))) (jaCons (jpCall h_part_of hr hgd (jaCons (jVar 11) (jaCons (jVar 12) (jaNil)))) (jaNil)))))))))
      (ssCons (sSetV (i := 8) nd (jP (jLst (jaCons (jVar 16) (jaCons (jpCall h__law_fraction hr hgd (jaCons (j2 oAdd (j2 oMul (jIx (jVar 16) (jInt)) (jIx (jVar 17) (jInt))) (j2 oMul (jIx (jVar 17) (jInt)) (jIx (jVar 16) (jInt)))) (jaCons (j2 oMul (jIx (jVar 16) (jInt)) (jIx (jVar 17) (jInt))) (jaNil)))) (jaCons (jpCall h__law_fraction hr hgd (jaCons (j2 oMul (jIx (jVar 16) (jInt)) (jIx (jVar 17) (jInt))) (jaCons (j2 oMul (jIx (jVar 16) (jInt)) (jIx (jVar 17) (jInt))) (jaNil)))) (jaNil)))))))
      (ssCons (sIfS (jtP (jtCmp (oNe hu) (jB (cRepr hu hgd) m_repr (jaCons (jVar 7) (jaNil))) (jB (cRepr hu hgd) m_repr (jaCons (j2 oAdd (jVar 8) (jLst (jaCons (jTup (jaCons (j2 oSub (jInt) (jIx (jVar 16) (jInt))) (jaCons (jIx (jVar 16) (jInt)) (jaNil)))) (jaCons (jpCall h__law_part hr hgd (jaCons (jVar 11) (jaCons (jVar 12) (jaNil)))) (jaNil))))) (jaNil))))) (ssOne (sReturn (jP (jBl)))) (ssNil))
      (ssCons (sAsg (jP (jTup (jaCons (jpCall h__law_part hr hgd (jaCons (jVar 11) (jaCons (jVar 12) (jaNil)))) (jaCons (jpCall h__law_part hr hgd (jaCons (jVar 13) (jaCons (jVar 14) (jaNil)))) (jaNil))))) (gTp rfl (gsCons (gNm nd) (gsCons (gNm nd) (gsNil)))))
      (ssCons (sSetV (i := 7) nd (jP (jLst (jaCons (jpCall h_part_sum hr hgd (jaCons (jVar 18) (jaCons (jVar 19) (jaNil)))) (jaCons (jpCall h_part_times hr hgd (jaCons (jVar 15) (jaCons (jVar 18) (jaNil)))) (jaCons (jpCall h_part_turned hr hgd (jaCons (jVar 18) (jaNil))) (jaNil)))))))
      (ssCons (sSetV (i := 8) nd (jP (jLst (jaCons (jpCall h__law_part hr hgd (jaCons (j2 oAdd (j2 oMul (jIx (jVar 18) (jInt)) (jIx (jVar 19) (jInt))) (j2 oMul (jIx (jVar 19) (jInt)) (jIx (jVar 18) (jInt)))) (jaCons (j2 oMul (jIx (jVar 18) (jInt)) (jIx (jVar 19) (jInt))) (jaNil)))) (jaCons (jpCall h__law_part hr hgd (jaCons (j2 oMul (jVar 15) (jIx (jVar 18) (jInt))) (jaCons (jIx (jVar 18) (jInt)) (jaNil)))) (jaCons (jpCall h__law_part hr hgd (jaCons (j2 oSub (jInt) (jIx (jVar 18) (jInt))) (jaCons (jIx (jVar 18) (jInt)) (jaNil)))) (jaNil)))))))
      (ssCons (sIfS (jtP (jtCmp (oNe hu) (jB (cRepr hu hgd) m_repr (jaCons (jVar 7) (jaNil))) (jB (cRepr hu hgd) m_repr (jaCons (jVar 8) (jaNil))))) (ssOne (sReturn (jP (jBl)))) (ssNil))
      (ssCons (sSetV (i := 9) nd (jP (jCmp oLt (j2 oMul (jInt) (jIx (jVar 18) (jInt))) (jIx (jVar 18) (jInt)))))
      (ssCons (sSetV (i := 8) nd (jP (jIf (jtVal (jVar 9)) (jTup (jaCons (jVar 18) (jaCons (jVar 17) (jaNil)))) (jTup (jaCons (jpCall h__law_part hr hgd (jaCons (j2 oSub (j2 oMul (jInt) (jIx (jVar 18) (jInt))) (jIx (jVar 18) (jInt))) (jaCons (j2 oMul (jInt) (jIx (jVar 18) (jInt))) (jaNil)))) (jaCons (jTup (jaCons (j2 oSub (jInt) (jIx (jVar 17) (jInt))) (jaCons (jIx (jVar 17) (jInt)) (jaNil)))) (jaNil)))))))
      (ssCons (sIfS (jtP (jtCmp (oNe hu) (jB (cRepr hu hgd) m_repr (jaCons (jpCall h_half_of hr hgd (jaCons (jVar 18) (jaCons (jVar 17) (jaNil)))) (jaNil))) (jB (cRepr hu hgd) m_repr (jaCons (jVar 8) (jaNil))))) (ssOne (sReturn (jP (jBl)))) (ssNil))
      (ssCons (sIfS (jtP (jtCmp oLt (jVar 2) (jInt))) (ssCons (sPar3 rfl nd (jacCons (jP (jpCall h__law_primes hr hgd (jaCons (jIx (jVar 18) (jInt)) (jaNil)))) (jacCons (jP (jTup (jaCons (jInt) (jaCons (jInt) (jaNil))))) (jacCons (jP (jBl)) (jacNil)))))
      (ssCons (sIfS (jtP (jtCmp (oNe hu) (jB (cRepr hu hgd) m_repr (jaCons (jpCall h_primes_of hr hgd (jaCons (jIx (jVar 18) (jInt)) (jaNil))) (jaNil))) (jB (cRepr hu hgd) m_repr (jaCons (jTy cTuple m_tuple (jaCons (jVar 21) (jaNil))) (jaNil))))) (ssOne (sReturn (jP (jBl)))) (ssNil))
      (ssCons (sForS PassesOwn.never rfl (iSeq (j2 oAdd (jVar 21) (jLst (jaCons (jInt) (jaCons (jInt) (jaNil)))))) (gNm nd) (ssCons (sSetV (i := 24) nd (jP (jpCall h__law_prime_part hr hgd (jaCons (jVar 18) (jaCons (jVar 20) (jaNil))))))
      (ssCons (sIfS (jtP (jtCmp (oNe hu) (jB (cRepr hu hgd) m_repr (jaCons (jpCall h_prime_part hr hgd (jaCons (jVar 18) (jaCons (jVar 20) (jaNil)))) (jaNil))) (jB (cRepr hu hgd) m_repr (jaCons (jVar 24) (jaNil))))) (ssOne (sReturn (jP (jBl)))) (ssNil))
      (ssOne (sSetV (i := 23) nd (jP (jbV (jbAnd (jbOf (jVar 23)) (jbOne (jbOf (jCmp oLt (j2 oMul (jIx (jVar 24) (jInt)) (jVar 20)) (j2 oMul (j2 oSub (jVar 20) (jInt)) (jIx (jVar 24) (jInt))))))))))))))
      (ssCons (sForS PassesOwn.never rfl (iSeq (jVar 21)) (gNm nd) (ssCons (sSetV (i := 24) nd (jP (jpCall h__law_prime_part hr hgd (jaCons (jVar 18) (jaCons (jVar 20) (jaNil))))))
      (ssOne (sSetV (i := 22) nd (jP (jpCall h__law_part hr hgd (jaCons (j2 oAdd (j2 oMul (jIx (jVar 22) (jInt)) (jIx (jVar 24) (jInt))) (j2 oMul (jIx (jVar 24) (jInt)) (jIx (jVar 22) (jInt)))) (jaCons (j2 oMul (jIx (jVar 22) (jInt)) (jIx (jVar 24) (jInt))) (jaNil)))))))))
      (ssOne (sIfS (jtP (jtW (jwOr (jtCmp (oNe hu) (jVar 22) (jVar 18)) (jwOr1 (jtCmp (oNe hu) (jB (cRepr hu hgd) m_repr (jaCons (jpCall h_is_led_part hr hgd (jaCons (jVar 18) (jaNil))) (jaNil))) (jB (cRepr hu hgd) m_repr (jaCons (jVar 23) (jaNil)))))))) (ssOne (sReturn (jP (jBl)))) (ssNil))))))) (ssNil))
      (ssOne (sForS PassesOwn.never rfl (iSeqE (jE2 oAdd (jP (jLst (jaCons (jVar 16) (jaCons (jVar 18) (jaCons (jTy cList m_list (jaCons (jVar 18) (jaNil))) (jaCons (j2 oAdd (jVar 18) (jTup (jaCons (jInt) (jaNil)))) (jaCons (jTup (jaCons (jVar 11) (jaCons (jVar 12) (jaNil)))) (jaCons (jNon) (jaNil))))))))) (jEComp (own := [("turn", 27)]) rfl nd (iR1 m_range (jInt)) (by first | (show blkC N_law (defScope st_law) _ _ = true; decide +kernel) | rfl) (fun _ _ _ _ _ => gNm nd) (fun _ _ _ _ _ => jtseNil) (fun _ _ _ _ _ => jCallR (i := 1) h__law_bent hr hgd (jaeCons (jP (jVar 18)) (jaeNil)))))) (gNm nd) (ssCons (sPar2 rfl nd (jacCons (jP (jB (cRepr hu hgd) m_repr (jaCons (jVar 10) (jaNil)))) (jacCons (jP (jpCall h__law_is_fraction hr hgd (jaCons (jVar 10) (jaNil)))) (jacNil))))
      (ssCons (sSetV (i := 8) nd (jP (jLst (jaCons (jVar 26) (jaCons (jbV (jbAnd (jbOf (jVar 26)) (jbOne (jbOf (jChain (k := .r) oLe oLt (jInt) (jIx (jVar 10) (jInt)) (jIx (jVar 10) (jInt))))))) (jaNil))))))
      (ssOne (sIfS (jtP (jtW (jwOr (jtCmp (oNe hu) (jB (cRepr hu hgd) m_repr (jaCons (jLst (jaCons (jpCall h_is_fraction hr hgd (jaCons (jVar 10) (jaNil))) (jaCons (jpCall h_is_part hr hgd (jaCons (jVar 10) (jaNil))) (jaNil)))) (jaNil))) (jB (cRepr hu hgd) m_repr (jaCons (jVar 8) (jaNil)))) (jwOr1 (jtCmp (oNe hu) (jB (cRepr hu hgd) m_repr (jaCons (jVar 10) (jaNil))) (jVar 25)))))) (ssOne (sReturn (jP (jBl)))) (ssNil)))))))))))))))))))))))
      (ssCons (sSetV (i := 3) nd (jE2 oAdd (jP (jInt)) (jCallR (i := 1) h__law_pick hr hgd (jaeCons (jP (jInt)) (jaeNil)))))
      (ssCons (sSetC (fr := false) (i := 4) (own := [("a", 18)]) rfl nd rfl rfl (sw_true rfl rfl rfl rfl) (ipR1 m_range (jVar 3)) (by first | (show blkC N_law (defScope st_law) _ _ = true; decide +kernel) | rfl) (fun _ _ _ _ _ => gNm nd) (fun _ _ _ _ _ => jtsNil) (fun _ _ _ _ _ => jpCall h__law_fraction hr hgd (jaCons (jVar 18) (jaCons (jVar 3) (jaNil)))))
      (ssCons (sSetC (fr := false) (i := 5) (own := [("a", 18)]) rfl nd rfl rfl (sw_true rfl rfl rfl rfl) (ipR1 m_range (jVar 3)) (by first | (show blkC N_law (defScope st_law) _ _ = true; decide +kernel) | rfl) (fun _ _ _ _ _ => gNm nd) (fun _ _ _ _ _ => jtsOne (jtCmp (oEq hu) (jpCall h__law_common hr hgd (jaCons (jVar 18) (jaCons (jVar 3) (jaNil)))) (jInt))) (fun _ _ _ _ _ => jVar 18))
      (ssOne (sReturn (jP (jCmp (oEq hu) (jB cLen m_len (jaCons (jComp (own := [("part", 28)]) rfl nd (ipSeq (jVar 4)) (by first | (show blkC N_law (defScope st_law) _ _ = true; decide +kernel) | rfl) (fun _ _ _ _ _ => gNm nd) (fun _ _ _ _ _ => jtsOne (jtVal (jpCall h_is_led_part hr hgd (jaCons (jVar 28) (jaNil))))) (fun _ _ _ _ _ => jVar 28)) (jaNil))) (jB (cMax2 rfl) m_max (jaCons (jInt) (jaCons (jB cLen m_len (jaCons (jVar 5) (jaNil))) (jaNil))))))))))))
end
end K05
namespace K05
open PySem PySem.Spec PyProof.Rows L2 L3
def d_common_divisor : He.DefD := ⟨("common_divisor", none), "common_divisor", "common_divisor", defArgs st_common_divisor, defBody st_common_divisor, defScope st_common_divisor, [], []⟩
def d_fraction_of : He.DefD := ⟨("fraction_of", none), "fraction_of", "fraction_of", defArgs st_fraction_of, defBody st_fraction_of, defScope st_fraction_of, [], []⟩
def d_fraction_sum : He.DefD := ⟨("fraction_sum", none), "fraction_sum", "fraction_sum", defArgs st_fraction_sum, defBody st_fraction_sum, defScope st_fraction_sum, [], []⟩
def d_fraction_times : He.DefD := ⟨("fraction_times", none), "fraction_times", "fraction_times", defArgs st_fraction_times, defBody st_fraction_times, defScope st_fraction_times, [], []⟩
def d_fraction_turned : He.DefD := ⟨("fraction_turned", none), "fraction_turned", "fraction_turned", defArgs st_fraction_turned, defBody st_fraction_turned, defScope st_fraction_turned, [], []⟩
def d_is_whole_number : He.DefD := ⟨("is_whole_number", none), "is_whole_number", "is_whole_number", defArgs st_is_whole_number, defBody st_is_whole_number, defScope st_is_whole_number, [], []⟩
def d_is_fraction : He.DefD := ⟨("is_fraction", none), "is_fraction", "is_fraction", defArgs st_is_fraction, defBody st_is_fraction, defScope st_is_fraction, [], []⟩
def d_is_part : He.DefD := ⟨("is_part", none), "is_part", "is_part", defArgs st_is_part, defBody st_is_part, defScope st_is_part, [], []⟩
def d_part_of : He.DefD := ⟨("part_of", none), "part_of", "part_of", defArgs st_part_of, defBody st_part_of, defScope st_part_of, [], []⟩
def d_part_sum : He.DefD := ⟨("part_sum", none), "part_sum", "part_sum", defArgs st_part_sum, defBody st_part_sum, defScope st_part_sum, [], []⟩
def d_part_times : He.DefD := ⟨("part_times", none), "part_times", "part_times", defArgs st_part_times, defBody st_part_times, defScope st_part_times, [], []⟩
def d_part_turned : He.DefD := ⟨("part_turned", none), "part_turned", "part_turned", defArgs st_part_turned, defBody st_part_turned, defScope st_part_turned, [], []⟩
def d_half_of : He.DefD := ⟨("half_of", none), "half_of", "half_of", defArgs st_half_of, defBody st_half_of, defScope st_half_of, [], []⟩
def d_primes_of : He.DefD := ⟨("primes_of", none), "primes_of", "primes_of", defArgs st_primes_of, defBody st_primes_of, defScope st_primes_of, [], []⟩
def d_inverse_by : He.DefD := ⟨("inverse_by", none), "inverse_by", "inverse_by", defArgs st_inverse_by, defBody st_inverse_by, defScope st_inverse_by, [], []⟩
def d_prime_part : He.DefD := ⟨("prime_part", none), "prime_part", "prime_part", defArgs st_prime_part, defBody st_prime_part, defScope st_prime_part, [], []⟩
def d_loose_primes : He.DefD := ⟨("loose_primes", none), "loose_primes", "loose_primes", defArgs st_loose_primes, defBody st_loose_primes, defScope st_loose_primes, [], []⟩
def d_is_led_part : He.DefD := ⟨("is_led_part", none), "is_led_part", "is_led_part", defArgs st_is_led_part, defBody st_is_led_part, defScope st_is_led_part, [], []⟩
def d__law_source : He.DefD := ⟨("_law_source", none), "_law_source", "_law_source", defArgs st__law_source, defBody st__law_source, defScope st__law_source, [], []⟩
def d__law_pick : He.DefD := ⟨("_law_pick", none), "_law_pick", "_law_pick", defArgs st__law_pick, defBody st__law_pick, defScope st__law_pick, [], []⟩
def d__law_of : He.DefD := ⟨("_law_of", none), "_law_of", "_law_of", defArgs st__law_of, defBody st__law_of, defScope st__law_of, [], []⟩
def d__law_fraction : He.DefD := ⟨("_law_fraction", none), "_law_fraction", "_law_fraction", defArgs st__law_fraction, defBody st__law_fraction, defScope st__law_fraction, [], []⟩
def d__law_part : He.DefD := ⟨("_law_part", none), "_law_part", "_law_part", defArgs st__law_part, defBody st__law_part, defScope st__law_part, [], []⟩
def d__law_common : He.DefD := ⟨("_law_common", none), "_law_common", "_law_common", defArgs st__law_common, defBody st__law_common, defScope st__law_common, [], []⟩
def d__law_primes : He.DefD := ⟨("_law_primes", none), "_law_primes", "_law_primes", defArgs st__law_primes, defBody st__law_primes, defScope st__law_primes, [], []⟩
def d__law_prime_part : He.DefD := ⟨("_law_prime_part", none), "_law_prime_part", "_law_prime_part", defArgs st__law_prime_part, defBody st__law_prime_part, defScope st__law_prime_part, [], []⟩
def d__law_bent : He.DefD := ⟨("_law_bent", none), "_law_bent", "_law_bent", defArgs st__law_bent, defBody st__law_bent, defScope st__law_bent, [], []⟩
def d__law_is_fraction : He.DefD := ⟨("_law_is_fraction", none), "_law_is_fraction", "_law_is_fraction", defArgs st__law_is_fraction, defBody st__law_is_fraction, defScope st__law_is_fraction, [], []⟩
def d_law : He.DefD := ⟨("law", none), "law", "law", defArgs st_law, defBody st_law, defScope st_law, [], []⟩
def fn : List He.DefD := [d_common_divisor, d_fraction_of, d_fraction_sum, d_fraction_times, d_fraction_turned, d_is_whole_number, d_is_fraction, d_is_part, d_part_of, d_part_sum, d_part_times, d_part_turned, d_half_of, d_primes_of, d_inverse_by, d_prime_part, d_loose_primes, d_is_led_part, d__law_source, d__law_pick, d__law_of, d__law_fraction, d__law_part, d__law_common, d__law_primes, d__law_prime_part, d__law_bent, d__law_is_fraction, d_law]
def fa : List He.Fa := [.glo "common_divisor", .glo "fraction_of", .glo "fraction_sum", .glo "fraction_times", .glo "fraction_turned", .glo "is_whole_number", .glo "is_fraction", .glo "is_part", .glo "part_of", .glo "part_sum", .glo "part_times", .glo "part_turned", .glo "half_of", .glo "primes_of", .glo "inverse_by", .glo "prime_part", .glo "loose_primes", .glo "is_led_part", .glo "_law_source", .glo "_law_pick", .glo "_law_of", .glo "_law_fraction", .glo "_law_part", .glo "_law_common", .glo "_law_primes", .glo "_law_prime_part", .glo "_law_bent", .glo "_law_is_fraction", .glo "law", .free "abs", .free "isinstance", .free "int", .free "bool", .free "tuple", .free "len", .free "all", .free "max", .free "range", .free "list", .free "repr"]
abbrev RowO : PySem.W.OpenRow := PySem.W.OpenLaw.row PySem.Challenge.rw_turnsthatfit_k05_whole_parts_and_fractio
abbrev hk : PySem.W.Hook := He.hookD 4 fa fn
def ob (s : PySem.W.SharedT) : He.AlD := He.obsDG 4 fa fn (HandSHeadRun.getT s)
theorem ob_eq (s : PySem.W.SharedT) : ob s = hk.obs s.abs := He.obsDG_eq (HandSHeadRun.getT_eq s)
def loose : List PySem.Str := (["common_divisor", "fraction_of", "fraction_sum", "fraction_times", "fraction_turned", "is_whole_number", "is_fraction", "is_part", "part_of", "part_sum", "part_times", "part_turned", "half_of", "primes_of", "inverse_by", "prime_part", "loose_primes", "is_led_part", "_law_source", "_law_pick", "_law_of", "_law_fraction", "_law_part", "_law_common", "_law_primes", "_law_prime_part", "_law_bent", "_law_is_fraction"] : List PySem.Str)
theorem run (w : World) : HandSHeadRun.RunEq RowO (PySem.W.view RowO.prog [30]) hk ob 3300 loose w := by
  intro os
  kernel_rfl
theorem facts {P : Program} {w : World} {K : PySem.W.Frag} {h : Heap} {mg : Str → Option Value} {f : Addr} (X : K.In h) (G : h.Ns mainGlobals mg) (hfa : mg ("law" : Str) = some (.ref f)) (c : He.SaysD fa fn K) :
    ∃ fd : FuncData, (∀ (s : Shared) (v : Value), BindsTo s fd ⟨[v], []⟩ [("script", v)]) ∧ ∀ base : Heap, K.In base → base.Ns mainGlobals mg → GnOk P w K mg base 7 f fd ["script"] F_law := by
  obtain ⟨_, f_common_divisor⟩ := c.def_ 0 (d := d_common_divisor) rfl
  have z_common_divisor := He.glo_ok X G (c.fact 0 (f := .glo "common_divisor") rfl)
  obtain ⟨_, f_fraction_of⟩ := c.def_ 1 (d := d_fraction_of) rfl
  have z_fraction_of := He.glo_ok X G (c.fact 1 (f := .glo "fraction_of") rfl)
  obtain ⟨_, f_fraction_sum⟩ := c.def_ 2 (d := d_fraction_sum) rfl
  have z_fraction_sum := He.glo_ok X G (c.fact 2 (f := .glo "fraction_sum") rfl)
  obtain ⟨_, f_fraction_times⟩ := c.def_ 3 (d := d_fraction_times) rfl
  have z_fraction_times := He.glo_ok X G (c.fact 3 (f := .glo "fraction_times") rfl)
  obtain ⟨_, f_fraction_turned⟩ := c.def_ 4 (d := d_fraction_turned) rfl
  have z_fraction_turned := He.glo_ok X G (c.fact 4 (f := .glo "fraction_turned") rfl)
  obtain ⟨_, f_is_whole_number⟩ := c.def_ 5 (d := d_is_whole_number) rfl
  have z_is_whole_number := He.glo_ok X G (c.fact 5 (f := .glo "is_whole_number") rfl)
  obtain ⟨_, f_is_fraction⟩ := c.def_ 6 (d := d_is_fraction) rfl
  have z_is_fraction := He.glo_ok X G (c.fact 6 (f := .glo "is_fraction") rfl)
  obtain ⟨_, f_is_part⟩ := c.def_ 7 (d := d_is_part) rfl
  have z_is_part := He.glo_ok X G (c.fact 7 (f := .glo "is_part") rfl)
  obtain ⟨_, f_part_of⟩ := c.def_ 8 (d := d_part_of) rfl
  have z_part_of := He.glo_ok X G (c.fact 8 (f := .glo "part_of") rfl)
  obtain ⟨_, f_part_sum⟩ := c.def_ 9 (d := d_part_sum) rfl
  have z_part_sum := He.glo_ok X G (c.fact 9 (f := .glo "part_sum") rfl)
  obtain ⟨_, f_part_times⟩ := c.def_ 10 (d := d_part_times) rfl
  have z_part_times := He.glo_ok X G (c.fact 10 (f := .glo "part_times") rfl)
  obtain ⟨_, f_part_turned⟩ := c.def_ 11 (d := d_part_turned) rfl
  have z_part_turned := He.glo_ok X G (c.fact 11 (f := .glo "part_turned") rfl)
  obtain ⟨_, f_half_of⟩ := c.def_ 12 (d := d_half_of) rfl
  have z_half_of := He.glo_ok X G (c.fact 12 (f := .glo "half_of") rfl)
  obtain ⟨_, f_primes_of⟩ := c.def_ 13 (d := d_primes_of) rfl
  have z_primes_of := He.glo_ok X G (c.fact 13 (f := .glo "primes_of") rfl)
  obtain ⟨_, f_inverse_by⟩ := c.def_ 14 (d := d_inverse_by) rfl
  have z_inverse_by := He.glo_ok X G (c.fact 14 (f := .glo "inverse_by") rfl)
  obtain ⟨_, f_prime_part⟩ := c.def_ 15 (d := d_prime_part) rfl
  have z_prime_part := He.glo_ok X G (c.fact 15 (f := .glo "prime_part") rfl)
  obtain ⟨_, f_loose_primes⟩ := c.def_ 16 (d := d_loose_primes) rfl
  have z_loose_primes := He.glo_ok X G (c.fact 16 (f := .glo "loose_primes") rfl)
  obtain ⟨_, f_is_led_part⟩ := c.def_ 17 (d := d_is_led_part) rfl
  have z_is_led_part := He.glo_ok X G (c.fact 17 (f := .glo "is_led_part") rfl)
  obtain ⟨_, f__law_source⟩ := c.def_ 18 (d := d__law_source) rfl
  have z__law_source := He.glo_ok X G (c.fact 18 (f := .glo "_law_source") rfl)
  obtain ⟨_, f__law_pick⟩ := c.def_ 19 (d := d__law_pick) rfl
  have z__law_pick := He.glo_ok X G (c.fact 19 (f := .glo "_law_pick") rfl)
  obtain ⟨_, f__law_of⟩ := c.def_ 20 (d := d__law_of) rfl
  have z__law_of := He.glo_ok X G (c.fact 20 (f := .glo "_law_of") rfl)
  obtain ⟨_, f__law_fraction⟩ := c.def_ 21 (d := d__law_fraction) rfl
  have z__law_fraction := He.glo_ok X G (c.fact 21 (f := .glo "_law_fraction") rfl)
  obtain ⟨_, f__law_part⟩ := c.def_ 22 (d := d__law_part) rfl
  have z__law_part := He.glo_ok X G (c.fact 22 (f := .glo "_law_part") rfl)
  obtain ⟨_, f__law_common⟩ := c.def_ 23 (d := d__law_common) rfl
  have z__law_common := He.glo_ok X G (c.fact 23 (f := .glo "_law_common") rfl)
  obtain ⟨_, f__law_primes⟩ := c.def_ 24 (d := d__law_primes) rfl
  have z__law_primes := He.glo_ok X G (c.fact 24 (f := .glo "_law_primes") rfl)
  obtain ⟨_, f__law_prime_part⟩ := c.def_ 25 (d := d__law_prime_part) rfl
  have z__law_prime_part := He.glo_ok X G (c.fact 25 (f := .glo "_law_prime_part") rfl)
  obtain ⟨_, f__law_bent⟩ := c.def_ 26 (d := d__law_bent) rfl
  have z__law_bent := He.glo_ok X G (c.fact 26 (f := .glo "_law_bent") rfl)
  obtain ⟨_, f__law_is_fraction⟩ := c.def_ 27 (d := d__law_is_fraction) rfl
  have z__law_is_fraction := He.glo_ok X G (c.fact 27 (f := .glo "_law_is_fraction") rfl)
  obtain ⟨_, f_law⟩ := c.def_ 28 (d := d_law) rfl
  have z_law := He.glo_ok X G (c.fact 28 (f := .glo "law") rfl)
  have m_abs := He.free_ok X G (c.fact 29 (f := .free "abs") rfl)
  have m_isinstance := He.free_ok X G (c.fact 30 (f := .free "isinstance") rfl)
  have m_int := He.free_ok X G (c.fact 31 (f := .free "int") rfl)
  have m_bool := He.free_ok X G (c.fact 32 (f := .free "bool") rfl)
  have m_tuple := He.free_ok X G (c.fact 33 (f := .free "tuple") rfl)
  have m_len := He.free_ok X G (c.fact 34 (f := .free "len") rfl)
  have m_all := He.free_ok X G (c.fact 35 (f := .free "all") rfl)
  have m_max := He.free_ok X G (c.fact 36 (f := .free "max") rfl)
  have m_range := He.free_ok X G (c.fact 37 (f := .free "range") rfl)
  have m_list := He.free_ok X G (c.fact 38 (f := .free "list") rfl)
  have m_repr := He.free_ok X G (c.fact 39 (f := .free "repr") rfl)
  have e := hfa.symm.trans z_law
  cases e
  have b := FunD.bindsA (ps := ["script"]) f_law fun _ _ _ _ _ _ us hl => match us, hl with | [_], _ => rfl
  refine ⟨_, fun s v => b s [v] rfl, fun base _ _ => ?_⟩
  have h_common_divisor := c_common_divisor (P := P) (w := w) (base := base) f_common_divisor z_common_divisor m_abs
  have h_fraction_of := c_fraction_of (P := P) (w := w) (base := base) f_fraction_of z_fraction_of h_common_divisor
  have h_fraction_sum := c_fraction_sum (P := P) (w := w) (base := base) f_fraction_sum z_fraction_sum h_fraction_of
  have h_fraction_times := c_fraction_times (P := P) (w := w) (base := base) f_fraction_times z_fraction_times h_fraction_of
  have h_fraction_turned := c_fraction_turned (P := P) (w := w) (base := base) f_fraction_turned z_fraction_turned 
  have h_is_whole_number := c_is_whole_number (P := P) (w := w) (base := base) f_is_whole_number z_is_whole_number m_isinstance m_int m_bool
  have h_is_fraction := c_is_fraction (P := P) (w := w) (base := base) f_is_fraction z_is_fraction h_common_divisor h_is_whole_number m_isinstance m_tuple m_len m_all
  have h_is_part := c_is_part (P := P) (w := w) (base := base) f_is_part z_is_part h_is_fraction
  have h_part_of := c_part_of (P := P) (w := w) (base := base) f_part_of z_part_of h_fraction_of
  have h_part_sum := c_part_sum (P := P) (w := w) (base := base) f_part_sum z_part_sum h_part_of
  have h_part_times := c_part_times (P := P) (w := w) (base := base) f_part_times z_part_times h_part_of
  have h_part_turned := c_part_turned (P := P) (w := w) (base := base) f_part_turned z_part_turned h_part_of
  have h_half_of := c_half_of (P := P) (w := w) (base := base) f_half_of z_half_of h_part_sum h_fraction_turned
  have h_primes_of := c_primes_of (P := P) (w := w) (base := base) f_primes_of z_primes_of m_tuple
  have h_inverse_by := c_inverse_by (P := P) (w := w) (base := base) f_inverse_by z_inverse_by 
  have h_prime_part := c_prime_part (P := P) (w := w) (base := base) f_prime_part z_prime_part h_part_of h_inverse_by
  have h_loose_primes := c_loose_primes (P := P) (w := w) (base := base) f_loose_primes z_loose_primes h_primes_of h_prime_part
  have h_is_led_part := c_is_led_part (P := P) (w := w) (base := base) f_is_led_part z_is_led_part h_loose_primes
  have h__law_source := c__law_source (P := P) (w := w) (base := base) f__law_source z__law_source m_int m_abs
  have h__law_pick := c__law_pick (P := P) (w := w) (base := base) f__law_pick z__law_pick m_int m_len m_max
  have h__law_of := c__law_of (P := P) (w := w) (base := base) f__law_of z__law_of h__law_pick m_len
  have h__law_fraction := c__law_fraction (P := P) (w := w) (base := base) f__law_fraction z__law_fraction m_abs m_int
  have h__law_part := c__law_part (P := P) (w := w) (base := base) f__law_part z__law_part h__law_fraction m_int
  have h__law_common := c__law_common (P := P) (w := w) (base := base) f__law_common z__law_common m_int
  have h__law_primes := c__law_primes (P := P) (w := w) (base := base) f__law_primes z__law_primes m_int
  have h__law_prime_part := c__law_prime_part (P := P) (w := w) (base := base) f__law_prime_part z__law_prime_part h__law_part h__law_fraction m_range m_int
  have h__law_bent := c__law_bent (P := P) (w := w) (base := base) f__law_bent z__law_bent h__law_of h__law_pick m_isinstance m_tuple m_len m_list 3
  have h__law_is_fraction := c__law_is_fraction (P := P) (w := w) (base := base) f__law_is_fraction z__law_is_fraction h__law_common m_isinstance m_tuple m_len m_abs m_bool m_int
  exact c_law f_law h__law_source h__law_pick h__law_fraction h_fraction_of h_fraction_sum h_fraction_times h_fraction_turned h_part_of h__law_part h_part_sum h_part_times h_part_turned h_half_of h__law_primes h__law_prime_part h__law_bent h__law_is_fraction h__law_common h_primes_of h_is_led_part h_prime_part h_is_fraction h_is_part m_range m_len m_max m_repr m_list m_tuple
end K05
open PySem PySem.W PySem.Calls PyProof.Rows
theorem PySem.Challenge.cw_turnsthatfit_k05_whole_parts_and_fractio_holds : PySem.Challenge.rw_turnsthatfit_k05_whole_parts_and_fractio.Holds := by
  w_on; o_law
  refine HandSHeadRun.head_any (r := K05.RowO) (q := view K05.RowO.prog [30]) (H := K05.hk) (ob := K05.ob) (M := 3300) (loose := K05.loose) (d := HandSHeadRun.topDef K05.RowO.prog 30) (kwd := []) K05.ob_eq
    (by kernel_rfl) (fun s => by kernel_rfl) K05.run (by kernel_rfl) (by kernel_rfl) (by kernel_rfl) (by rfl) (by first | assumption | decide +kernel) (by decide +kernel) ⟨rfl, rfl, rfl, rfl, rfl, by decide +kernel⟩ ?hw ?hc
  case hw => w_witness2
  case hc =>
    refine L3.walk_ofG (l := PySem.Challenge.rw_turnsthatfit_k05_whole_parts_and_fractio) (n := 63) (k := 7) (x := "script") (F := K05.F_law) rfl (by decide) (by kernel_rfl) ⟨rfl, by decide, by decide⟩ ?F K05.pure_law
    intro w mg fa h Y G hmg0
    obtain ⟨K, KX, c⟩ := Y
    have hmg : mg ("law" : PySem.Str) = some (.ref fa) := by
      have e : (HandSHeadRun.topDef K05.RowO.prog 30).name = ("law" : PySem.Str) := by kernel_rfl
      rw [← e]
      exact hmg0
    obtain ⟨fd, hb, hF⟩ := K05.facts (P := (PySem.Challenge.rw_turnsthatfit_k05_whole_parts_and_fractio).prog) (w := w) KX G hmg c
    exact ⟨K, fd, KX, hb, hF⟩
