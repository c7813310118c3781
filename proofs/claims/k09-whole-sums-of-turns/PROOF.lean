import PyProof.Rows.All
import HandS.ForMost
import HandS.Wide
import KE.DataCmp
import KE.DataAny
import KE.DataIsa
import KE.KDictKeyed
import KE.SortData
import PyProof.ReprRoads
import HandS.TupAny
import HandS.TupMul
import HandS.Style
import HandS.NoneIn
import HandS.Star
import HandS.Codes
import HandS.HeadEnd
import HandS.Defaults
import HandS.Head0
import HandS.Head1
import HandS.Head2
import HandS.HeadHook1
import HandS.HeadHook2
import KE.KDictWalk
import KE.KDictSum
import HandS.ExcValue
import HandS.ExcOwn
import HandS.HeadHook4
import KE.KDictDisplayH
import HandS.Zip
import PyProof.Rows.RegStrFacts
import PySem.Challenge.RW_turnsthatfit_k09_whole_sums_of_turns
set_option Elab.async false
set_option linter.all false
set_option maxRecDepth 100000
set_option maxHeartbeats 0
/-! The pure side: Python values as trees, environments, and what a body does as a Lean function. -/
namespace L3
open PySem
abbrev D := PyData
mutual
def D.beq : D → D → Bool
  | .none, .none => true
  | .bool a, .bool b => a == b
  | .int a, .int b => a == b
  | .str a, .str b => decide (a = b)
  | .list a, .list b => D.beqs a b
  | .tuple a, .tuple b => D.beqs a b
  | .dict a, .dict b => D.beqk a b
  | _, _ => false
def D.beqs : List D → List D → Bool
  | [], [] => true
  | a :: r, b :: t => D.beq a b && D.beqs r t
  | _, _ => false
def D.beqk : List (D × D) → List (D × D) → Bool
  | [], [] => true
  | (a, c) :: r, (b, d) :: t => D.beq a b && D.beq c d && D.beqk r t
  | _, _ => false
end
mutual
theorem D.beq_refl : ∀ a : D, D.beq a a = true
  | .none => rfl
  | .bool b => by simp [D.beq]
  | .int b => by simp [D.beq]
  | .str b => by simp [D.beq]
  | .list a => by simp [D.beq, D.beqs_refl a]
  | .tuple a => by simp [D.beq, D.beqs_refl a]
  | .dict a => by simp [D.beq, D.beqk_refl a]
theorem D.beqs_refl : ∀ a : List D, D.beqs a a = true
  | [] => rfl
  | a :: r => by simp [D.beqs, D.beq_refl a, D.beqs_refl r]
theorem D.beqk_refl : ∀ a : List (D × D), D.beqk a a = true
  | [] => rfl
  | (a, c) :: r => by simp [D.beqk, D.beq_refl a, D.beq_refl c, D.beqk_refl r]
end
mutual
theorem D.of_beq : ∀ a b : D, D.beq a b = true → a = b
  | .none, b, h => by cases b <;> simp_all [D.beq]
  | .bool a, b, h => by cases b <;> simp_all [D.beq]
  | .int a, b, h => by cases b <;> simp_all [D.beq]
  | .str a, b, h => by cases b <;> simp_all [D.beq]
  | .list a, b, h => by
    cases b with
    | list c => rw [D.of_beqs a c (by simpa [D.beq] using h)]
    | _ => simp [D.beq] at h
  | .tuple a, b, h => by
    cases b with
    | tuple c => rw [D.of_beqs a c (by simpa [D.beq] using h)]
    | _ => simp [D.beq] at h
  | .dict a, b, h => by
    cases b with
    | dict c => rw [D.of_beqk a c (by simpa [D.beq] using h)]
    | _ => simp [D.beq] at h
theorem D.of_beqs : ∀ a b : List D, D.beqs a b = true → a = b
  | [], b, h => by cases b <;> simp_all [D.beqs]
  | a :: r, b, h => by
    cases b with
    | nil => simp [D.beqs] at h
    | cons c t =>
      simp only [D.beqs, Bool.and_eq_true] at h
      rw [D.of_beq a c h.1, D.of_beqs r t h.2]
theorem D.of_beqk : ∀ a b : List (D × D), D.beqk a b = true → a = b
  | [], b, h => by cases b <;> simp_all [D.beqk]
  | (a, c) :: r, b, h => by
    cases b with
    | nil => simp [D.beqk] at h
    | cons e t =>
      obtain ⟨b, d⟩ := e
      simp only [D.beqk, Bool.and_eq_true] at h
      rw [D.of_beq a b h.1.1, D.of_beq c d h.1.2, D.of_beqk r t h.2]
end
instance : DecidableEq D := fun a b => if h : D.beq a b = true then .isTrue (D.of_beq a b h) else .isFalse fun e => h (e ▸ D.beq_refl a)
/-- a drawing of numbers from the script: one dict and its list, known by reference -/
structure Src where
  cells : List Int
  left : Int
  mixed : Int
  turn : Int
  deriving DecidableEq
/-- what a name owns: a list or a dict that it alone may change -/
inductive Own where
  | lst (xs : List D)
  | dic (kvs : List (D × D))
  | src (s : Src)
  | lsts (xss : List (List D))
/-- what a name holds; fx: it came by reference and goes back to the caller -/
inductive Cell where
  | un
  | scr (ns : List Int)
  | val (d : D)
  | own (fx : Bool) (o : Own)
/-- how a value comes: read in place, standing, new -/
inductive Kind where
  | r | c | f
  deriving DecidableEq
abbrev Env := List Cell
abbrev P := Env → Option D
abbrev T := Env → Option Bool
abbrev E := Env → Option (Env × Cell)
abbrev TE' := Env → Option (Env × Bool)
inductive Out where
  | nx | bk | ct | rt (c : Cell)
abbrev Sm := Env → Option (Env × Out)
abbrev Fn := List Cell → Option (List Cell × Cell)
def Cell.toD : Cell → Option D
  | .val d => some d
  | .own _ (.lst xs) => some (.list xs)
  | .own _ (.dic kvs) => some (.dict kvs)
  | .own _ (.lsts xss) => some (.list (xss.map .list))
  | _ => none
/-! ### the operations -/
def mulOk (a b : Int) : Bool := decide (a.natAbs.log2 + b.natAbs.log2 < 1000000 ∨ a.natAbs < 18446744073709551616 ∨ b.natAbs < 18446744073709551616)
def divOk (b : Int) : Bool := decide (b ≠ 0 ∧ b.natAbs.log2 < 9000)
def len24 (n : Nat) : Bool := decide (n ≤ 16777216)
def dAdd : D → D → Option D
  | .int a, .int b => some (.int (a + b))
  | .str a, .str b => if len24 (a.length + b.length) then some (.str (a ++ b)) else none
  | .tuple a, .tuple b => if len24 (a.length + b.length) then some (.tuple (a ++ b)) else none
  | .list a, .list b => if len24 (a.length + b.length) then some (.list (a ++ b)) else none
  | _, _ => none
def dSub : D → D → Option D
  | .int a, .int b => some (.int (a - b))
  | _, _ => none
def dMul : D → D → Option D
  | .int a, .int b => if mulOk a b then some (.int (a * b)) else none
  | _, _ => none
/-- list * int -/
def dRep : D → D → Option D
  | .list a, .int k => if decide (k.natAbs < 9223372036854775808) && len24 (a.length * k.toNat) then some (.list (List.replicate k.toNat a).flatten) else none
  | _, _ => none
def dFdiv : D → D → Option D
  | .int a, .int b => if divOk b then some (.int (a.fdiv b)) else none
  | _, _ => none
def dMod : D → D → Option D
  | .int a, .int b => if b = 0 then none else some (.int (a.fmod b))
  | _, _ => none
def dNeg : D → Option D
  | .int a => some (.int (-a))
  | _ => none
def dLt : D → D → Option D
  | .int a, .int b => some (.bool (decide (a < b)))
  | _, _ => none
def dLe : D → D → Option D
  | .int a, .int b => some (.bool (decide (a ≤ b)))
  | _, _ => none
def dGt : D → D → Option D
  | .int a, .int b => some (.bool (decide (b < a)))
  | _, _ => none
def dGe : D → D → Option D
  | .int a, .int b => some (.bool (decide (b ≤ a)))
  | _, _ => none
def okD (a : D) : Bool := a.plain && decide (a.depth ≤ 50)
/-- a list against the empty one -/
def emp : D → D → Bool
  | .list _, .list [] => true
  | _, _ => false
def dEq (a b : D) : Option D := if (okD a && okD b) || emp a b then some (.bool (PyData.eqv a b)) else none
def dNe (a b : D) : Option D := if (okD a && okD b) || emp a b then some (.bool (!PyData.eqv a b)) else none
/-- a is None, the right side written -/
def dIsN (a : D) : D → Option D
  | .none => some (.bool (decide (a = .none)))
  | _ => none
def dNotN (a : D) : D → Option D
  | .none => some (.bool (!decide (a = .none)))
  | _ => none
def seqOf : D → Option (List D)
  | .list xs => some xs
  | .tuple xs => some xs
  | _ => none
def dIn (x c : D) : Option D := match seqOf c with
  | some xs => if okD x && PyData.plainAll xs && decide (PyData.depthAll xs ≤ 50) then some (.bool (xs.any fun y => PyData.eqv y x)) else none
  | none => none
def dNotIn (x c : D) : Option D := match seqOf c with
  | some xs => if okD x && PyData.plainAll xs && decide (PyData.depthAll xs ≤ 50) then some (.bool (!xs.any fun y => PyData.eqv y x)) else none
  | none => none
def dIx : D → D → Option D
  | .list xs, .int i => L2.atI xs i
  | .tuple xs, .int i => L2.atI xs i
  | .str z, .int i => if len24 z.length then (match L2.atI z.cps.toList i with | some c => some (.str ⟨#[c]⟩) | none => none) else none
  | _, _ => none
def dLen : D → Option D
  | .str s => if len24 s.length then some (.int s.length) else none
  | .list xs => some (.int xs.length)
  | .tuple xs => some (.int xs.length)
  | _ => none
def dAbs : D → Option D
  | .int a => some (.int (if a < 0 then -a else a))
  | _ => none
def dInt : D → Option D
  | .int a => some (.int a)
  | .bool b => some (.int (if b then 1 else 0))
  | _ => none
def dMax2 : D → D → Option D
  | .int i, .int j => some (.int (if j > i then j else i))
  | _, _ => none
def dMin2 : D → D → Option D
  | .int i, .int j => some (.int (if j < i then j else i))
  | _, _ => none
def dTuple : D → Option D
  | .list xs => some (.tuple xs)
  | .tuple xs => some (.tuple xs)
  | _ => none
def dList : D → Option D
  | .list xs => some (.list xs)
  | .tuple xs => some (.list xs)
  | _ => none
def dTup (xs : List D) : Option D := if len24 xs.length then some (.tuple xs) else none
def dLst (xs : List D) : Option D := if len24 xs.length then some (.list xs) else none
mutual
def noList : D → Bool
  | .list _ => false
  | .tuple xs => noLists xs
  | .dict kvs => noListk kvs
  | _ => true
def noLists : List D → Bool
  | [] => true
  | x :: r => noList x && noLists r
def noListk : List (D × D) → Bool
  | [] => true
  | (k, x) :: r => noList k && noList x && noListk r
end
def dRepr (d : D) : Option D := if d.showable && decide (d.depth ≤ 50) && (!d.hasDict || noList d) && len24 d.shown.length then some (.str d.shown) else none
/-- all, any of whole numbers and truth values -/
def small1 : D → Bool
  | .int _ | .bool _ | .none => true
  | _ => false
def dAll (c : D) : Option D := match seqOf c with | some xs => if xs.all small1 then some (.bool (xs.all PyData.truthy)) else none | none => none
def dAny (c : D) : Option D := match seqOf c with | some xs => if xs.all small1 then some (.bool (xs.any PyData.truthy)) else none | none => none
def dIsInt (d : D) : Option D := some (.bool d.isInt)
def dIsBool (d : D) : Option D := some (.bool d.isBool)
def dIsStr (d : D) : Option D := some (.bool d.isStr)
def dIsTuple (d : D) : Option D := some (.bool d.isTuple)
def dIsList (d : D) : Option D := some (.bool d.isList)
def dIsDict (d : D) : Option D := some (.bool d.isDict)
/-- xs[a:b], each bound left out or an int -/
def cutD (xs : List D) (lo hi : Option Int) : List D := (xs.drop (HT.sIx xs.length 0 lo)).take (HT.sIx xs.length xs.length hi - HT.sIx xs.length 0 lo)
def dCut (a b : Option Int) : D → Option D
  | .list xs => some (.list (cutD xs a b))
  | .tuple xs => some (.tuple (cutD xs a b))
  | _ => none
def dRev : D → Option D
  | .list xs => some (.list xs.reverse)
  | .tuple xs => some (.tuple xs.reverse)
  | _ => none
def dRevL : D → Option D
  | .list xs => some (.list xs.reverse)
  | _ => none
def dRevT : D → Option D
  | .tuple xs => some (.tuple xs.reverse)
  | _ => none
def dPow : D → D → Option D
  | .int i, .int j => if 0 ≤ j ∧ j ≤ 1000000 ∧ i.natAbs < 2 ^ 64 then some (.int (i ^ j.toNat)) else none
  | _, _ => none
mutual
/-- nothing within that could be changed -/
def noref : D → Bool
  | .list _ => false
  | .dict _ => false
  | .tuple xs => norefs xs
  | _ => true
def norefs : List D → Bool
  | [] => true
  | x :: r => noref x && norefs r
end
/-! ### pure expressions -/
def pVar (i : Nat) : P := fun ρ => match ρ[i]? with | some (.val d) => some d | _ => none
/-- an owned name, read in place -/
def pOwn (i : Nat) : P := fun ρ => match ρ[i]? with | some (.val d) => some d | some (.own _ (.lst xs)) => some (.list xs) | some (.own _ (.dic kvs)) => some (.dict kvs) | _ => none
def pC (d : D) : P := fun _ => some d
def p1 (f : D → Option D) (a : P) : P := fun ρ => match a ρ with | some x => f x | none => none
def p2 (f : D → D → Option D) (a b : P) : P := fun ρ => match a ρ with | some x => (match b ρ with | some y => f x y | none => none) | none => none
def evs : List P → Env → Option (List D)
  | [], _ => some []
  | a :: r, ρ => match a ρ with | some x => (match evs r ρ with | some xs => some (x :: xs) | none => none) | none => none
/-- items of a display, starred ones walked -/
def evsS : List (Bool × P) → Env → Option (List D)
  | [], _ => some []
  | (false, a) :: r, ρ => match a ρ with | some x => (match evsS r ρ with | some xs => some (x :: xs) | none => none) | none => none
  | (true, a) :: r, ρ => match a ρ with | some x => (match seqOf x with | some ys => (match evsS r ρ with | some xs => some (ys ++ xs) | none => none) | none => none) | none => none
def pNS (f : List D → Option D) (as : List (Bool × P)) : P := fun ρ => match evsS as ρ with | some xs => f xs | none => none
/-- a op b op' c -/
def pChain (f g : D → D → Option D) (a b c : P) : P := fun ρ => match a ρ with
  | some x => (match b ρ with
    | some y => (match f x y with
      | some (.bool true) => (match c ρ with | some z => g y z | none => none)
      | some (.bool false) => some (.bool false)
      | _ => none)
    | none => none)
  | none => none
def pN (f : List D → Option D) (as : List P) : P := fun ρ => match evs as ρ with | some xs => f xs | none => none
def pO : Option P → Env → Option (Option Int)
  | none, _ => some none
  | some a, ρ => match a ρ with | some (.int i) => some (some i) | _ => none
def pCut (a : P) (lo hi : Option P) : P := fun ρ => match a ρ with
  | some x => (match pO lo ρ with | some l => (match pO hi ρ with | some h => dCut l h x | none => none) | none => none)
  | none => none
def pIf (t : T) (a b : P) : P := fun ρ => match t ρ with | some true => a ρ | some false => b ρ | none => none
/-! ### tests -/
def tV (a : P) : T := fun ρ => match a ρ with | some (.bool b) => some b | _ => none
def tNot (t : T) : T := fun ρ => match t ρ with | some b => some (!b) | none => none
def tAnd (t u : T) : T := fun ρ => match t ρ with | some true => u ρ | some false => some false | none => none
def tOr (t u : T) : T := fun ρ => match t ρ with | some true => some true | some false => u ρ | none => none
def pT (t : T) : P := fun ρ => match t ρ with | some b => some (.bool b) | none => none
/-! ### effects -/
def eP (p : P) : E := fun ρ => match p ρ with | some d => some (ρ, .val d) | none => none
/-- a new list -/
def eF (p : P) : E := fun ρ => match p ρ with | some (.list xs) => some (ρ, .own false (.lst xs)) | some (.dict kvs) => some (ρ, .own false (.dic kvs)) | _ => none
/-- an owned name gives away what it owns -/
def eMv (i : Nat) : E := fun ρ => match ρ[i]? with | some (.own false o) => some (ρ.set i .un, .own false o) | _ => none
/-- a result: what is new may be owned -/
def cellOf (k : Kind) (d : D) : Cell := match k, d with
  | .f, .list xs => .own false (.lst xs)
  | .f, .dict kvs => .own false (.dic kvs)
  | _, d => .val d
def e1 (k : Kind) (f : D → Option D) (a : E) : E := fun ρ => match a ρ with
  | some (ρ1, c) => (match c.toD with | some x => (match f x with | some d => some (ρ1, cellOf k d) | none => none) | none => none)
  | none => none
def e2 (k : Kind) (f : D → D → Option D) (a b : E) : E := fun ρ => match a ρ with
  | some (ρ1, c) => (match c.toD with
    | some x => (match b ρ1 with
      | some (ρ2, c2) => (match c2.toD with | some y => (match f x y with | some d => some (ρ2, cellOf k d) | none => none) | none => none)
      | none => none)
    | none => none)
  | none => none
def eevs : List E → Env → Option (Env × List D)
  | [], ρ => some (ρ, [])
  | a :: r, ρ => match a ρ with
    | some (ρ1, c) => (match c.toD with
      | some x => (match eevs r ρ1 with | some (ρ2, xs) => some (ρ2, x :: xs) | none => none)
      | none => none)
    | none => none
def eN (k : Kind) (f : List D → Option D) (as : List E) : E := fun ρ => match eevs as ρ with
  | some (ρ1, xs) => (match f xs with | some d => some (ρ1, cellOf k d) | none => none)
  | none => none
def isLst : Option Cell → Bool
  | some (.own _ (.lst _)) => true
  | _ => false
/-- xs[i] where xs is owned and read in place, i may change other things -/
def eIxO (i : Nat) (a : E) : E := fun ρ => if isLst ρ[i]? then (match a ρ with
  | some (ρ1, c) => (match c.toD, ρ1[i]? with
    | some y, some (.own _ (.lst xs)) => (match dIx (.list xs) y with | some d => some (ρ1, .val d) | none => none)
    | _, _ => none)
  | none => none) else none
def eIf (t : TE') (a b : E) : E := fun ρ => match t ρ with | some (ρ1, true) => a ρ1 | some (ρ1, false) => b ρ1 | none => none
def tP (t : T) : TE' := fun ρ => match t ρ with | some b => some (ρ, b) | none => none
def tVE (a : E) : TE' := fun ρ => match a ρ with | some (ρ1, .val (.bool b)) => some (ρ1, b) | _ => none
def tNotE (t : TE') : TE' := fun ρ => match t ρ with | some (ρ1, b) => some (ρ1, !b) | none => none
def tAndE (t u : TE') : TE' := fun ρ => match t ρ with | some (ρ1, true) => u ρ1 | r => r
def tOrE (t u : TE') : TE' := fun ρ => match t ρ with | some (ρ1, false) => u ρ1 | r => r
def eT (t : TE') : E := fun ρ => match t ρ with | some (ρ1, b) => some (ρ1, .val (.bool b)) | none => none
/-- xs.pop() -/
def ePop (i : Nat) : E := fun ρ => match ρ[i]? with
  | some (.own fx (.lst xs)) => (match xs.getLast? with | some x => some (ρ.set i (.own fx (.lst xs.dropLast)), .val x) | none => none)
  | _ => none
/-- a call with values alone -/
def pCall (F : Fn) (as : List P) : P := fun ρ => match evs as ρ with
  | some xs => (match F (xs.map .val) with | some (_, c) => c.toD | none => none)
  | none => none
/-- .. whose result holds no list, so that owned names may be handed in -/
def pCallB (F : Fn) (as : List P) : P := fun ρ => match pCall F as ρ with
  | some d => if noref d then some d else none
  | none => none
/-! ### targets -/
def put (i : Nat) (c : Cell) (ρ : Env) : Option Env := match ρ[i]? with | some (.own true _) => none | some _ => some (ρ.set i c) | none => none
inductive Pat where
  | nm (i : Nat)
  | tp (ps : List Pat)
  | tl (ps : List Pat)
mutual
/-- the places that a target stores -/
def Pat.slots : Pat → List Nat
  | .nm i => [i]
  | .tp ps => slotsAll ps
  | .tl ps => slotsAll ps
def slotsAll : List Pat → List Nat
  | [] => []
  | p :: ps => p.slots ++ slotsAll ps
end
mutual
def bind : Pat → D → Env → Option Env
  | .nm i, d, ρ => put i (.val d) ρ
  | .tp ps, .tuple xs, ρ => binds ps xs ρ
  | .tp _, _, _ => none
  | .tl ps, .list xs, ρ => binds ps xs ρ
  | .tl _, _, _ => none
def binds : List Pat → List D → Env → Option Env
  | [], [], ρ => some ρ
  | p :: ps, x :: xs, ρ => (match bind p x ρ with | some ρ1 => binds ps xs ρ1 | none => none)
  | _, _, _ => none
end
/-! ### statements -/
def sNx : Sm := fun ρ => some (ρ, .nx)
def sSeq (a b : Sm) : Sm := fun ρ => match a ρ with | some (ρ1, .nx) => b ρ1 | r => r
/-- name = value -/
def sVal (i : Nat) (a : E) : Sm := fun ρ => match a ρ with
  | some (ρ1, c) => (match c.toD with | some d => (match put i (.val d) ρ1 with | some ρ2 => some (ρ2, .nx) | none => none) | none => none)
  | none => none
/-- name = a new thing, owned -/
def sOwn (i : Nat) (a : E) : Sm := fun ρ => match a ρ with
  | some (ρ1, .own false o) => (match put i (.own false o) ρ1 with | some ρ2 => some (ρ2, .nx) | none => none)
  | _ => none
def sPat (p : Pat) (a : E) : Sm := fun ρ => match a ρ with
  | some (ρ1, c) => (match c.toD with | some d => (match bind p d ρ1 with | some ρ2 => some (ρ2, .nx) | none => none) | none => none)
  | none => none
def sEx (a : E) : Sm := fun ρ => match a ρ with | some (ρ1, _) => some (ρ1, .nx) | none => none
def sRet (a : E) : Sm := fun ρ => match a ρ with | some (ρ1, c) => some (ρ1, .rt c) | none => none
def sIf (t : TE') (a b : Sm) : Sm := fun ρ => match t ρ with | some (ρ1, true) => a ρ1 | some (ρ1, false) => b ρ1 | none => none
def sApp (i : Nat) (a : E) : Sm := fun ρ => if isLst ρ[i]? then (match a ρ with
  | some (ρ1, c) => (match c.toD, ρ1[i]? with
    | some d, some (.own fx (.lst xs)) => if decide (xs.length < 16777216) then some (ρ1.set i (.own fx (.lst (xs ++ [d]))), .nx) else none
    | _, _ => none)
  | none => none) else none
/-- xs.extend(e), e a list -/
def sExt (i : Nat) (a : E) : Sm := fun ρ => if isLst ρ[i]? then (match a ρ with
  | some (ρ1, c) => (match c.toD, ρ1[i]? with
    | some (.list ys), some (.own fx (.lst xs)) => if len24 (xs.length + ys.length) then some (ρ1.set i (.own fx (.lst (xs ++ ys))), .nx) else none
    | _, _ => none)
  | none => none) else none
def forL (p : Pat) (b : Sm) : List D → Sm
  | [], ρ => some (ρ, .nx)
  | x :: r, ρ => match bind p x ρ with
    | some ρ1 => (match b ρ1 with
      | some (ρ2, .nx) => forL p b r ρ2
      | some (ρ2, .ct) => forL p b r ρ2
      | some (ρ2, .bk) => some (ρ2, .nx)
      | some (ρ2, .rt c) => some (ρ2, .rt c)
      | none => none)
    | none => none
/-- what a loop walks: the items, found once -/
abbrev Ie := Env → Option (Env × List D)
def iP (a : P) : Ie := fun ρ => match a ρ with | some d => (match seqOf d with | some xs => some (ρ, xs) | none => none) | none => none
def iE (a : E) : Ie := fun ρ => match a ρ with | some (ρ1, c) => (match c.toD with | some d => (match seqOf d with | some xs => some (ρ1, xs) | none => none) | none => none) | none => none
def rangeD (lo hi : Int) : List D := (List.range (hi - lo).toNat).map fun (k : Nat) => .int (lo + k)
def r62 (i : Int) : Bool := decide (i.natAbs.log2 < 62)
def iR (lo hi : P) : Ie := fun ρ => match lo ρ, hi ρ with
  | some (.int i), some (.int j) => if r62 i && r62 j then some (ρ, rangeD i j) else none
  | _, _ => none
def iRE (as : List E) : Ie := fun ρ => match eevs as ρ with
  | some (ρ1, [.int j]) => if r62 j then some (ρ1, rangeD 0 j) else none
  | some (ρ1, [.int i, .int j]) => if r62 i && r62 j then some (ρ1, rangeD i j) else none
  | _ => none
def sFor (p : Pat) (a : Ie) (b : Sm) : Sm := fun ρ => match a ρ with
  | some (ρ1, xs) => forL p b xs ρ1
  | none => none
def whileF (t : TE') (b : Sm) (ρ : Env) : Option (Env × Out) :=
  match t ρ with
  | some (ρ1, true) => (match b ρ1 with
    | some (ρ2, .nx) => whileF t b ρ2
    | some (ρ2, .ct) => whileF t b ρ2
    | some (ρ2, .bk) => some (ρ2, .nx)
    | some (ρ2, .rt c) => some (ρ2, .rt c)
    | none => none)
  | some (ρ1, false) => some (ρ1, .nx)
  | none => none partial_fixpoint
def sWhile (t : TE') (b : Sm) : Sm := whileF t b
/-! ### comprehensions: vs are the block's own names -/
def wipeE : List Nat → Env → Env
  | [], ρ => ρ
  | v :: vs, ρ => (wipeE vs ρ).set v .un
def isOwn : Cell → Bool
  | .own _ _ => true
  | _ => false
def freeAt (vs : List Nat) (ρ : Env) : Bool := vs.all fun i => match ρ[i]? with | some c => !isOwn c | none => false
def restore : List Nat → Env → Env → Env
  | [], _, ρ' => ρ'
  | v :: vs, ρ, ρ' => (restore vs ρ ρ').set v (ρ.getD v .un)
def compL (vs : List Nat) (p : Pat) (t : TE') (e : E) : List D → Env → Option (Env × List D)
  | [], ρ => some (ρ, [])
  | x :: r, ρ => match bind p x ρ with
    | some ρ1 => (match t ρ1 with
      | some (ρ2, true) => (match e ρ2 with
        | some (ρ3, c) => (match c.toD with
          | some y => (match compL vs p t e r (wipeE vs ρ3) with | some (ρ4, ys) => some (ρ4, y :: ys) | none => none)
          | none => none)
        | none => none)
      | some (ρ2, false) => compL vs p t e r (wipeE vs ρ2)
      | none => none)
    | none => none
/-- [e for p in a if t] -/
def eComp (vs : List Nat) (p : Pat) (a : Ie) (t : TE') (e : E) : E := fun ρ => match a ρ with
  | some (ρ1, xs) => if freeAt vs ρ1 && len24 xs.length then (match compL vs p t e xs (wipeE vs ρ1) with
      | some (ρ', ys) => some (restore vs ρ1 ρ', .own false (.lst ys))
      | none => none) else none
  | none => none
/-- .. where nothing is changed -/
def compP (p : Pat) (t : T) (e : P) (ρ : Env) : List D → Option (List D)
  | [] => some []
  | x :: r => match bind p x ρ with
    | some ρ1 => (match t ρ1 with
      | some true => (match e ρ1 with
        | some y => (match compP p t e ρ r with | some ys => some (y :: ys) | none => none)
        | none => none)
      | some false => compP p t e ρ r
      | none => none)
    | none => none
/-- what a comprehension walks that changes nothing -/
abbrev Ip := Env → Option (List D)
def ipP (a : P) : Ip := fun ρ => match a ρ with | some d => seqOf d | none => none
def ipR (lo hi : P) : Ip := fun ρ => match lo ρ, hi ρ with
  | some (.int i), some (.int j) => if r62 i && r62 j then some (rangeD i j) else none
  | _, _ => none
def pComp (vs : List Nat) (p : Pat) (a : Ip) (t : T) (e : P) : P := fun ρ => match a ρ with
  | some xs => if freeAt vs ρ && len24 xs.length then (match compP p t e (wipeE vs ρ) xs with | some ys => some (.list ys) | none => none) else none
  | none => none
def tYesP : T := fun _ => some true
def tYesE : TE' := fun ρ => some (ρ, true)
/-- by number of arguments -/
def l1 (f : D → Option D) : List D → Option D
  | [x] => f x
  | _ => none
def l2 (f : D → D → Option D) : List D → Option D
  | [x, y] => f x y
  | _ => none
/-! ### a def -/
/-- what goes back to the caller: what came by reference -/
def backs : List Cell → Env → List Cell
  | [], _ => []
  | .own true _ :: r, c :: ρ => c :: backs r ρ
  | _ :: r, ρ => .un :: backs r ρ.tail
def mkFn (np n : Nat) (g : Sm) : Fn := fun cs => if cs.length = np then (match g (cs ++ List.replicate (n - np) .un) with
  | some (ρ, .nx) => some (backs cs ρ, .val .none)
  | some (ρ, .rt c) => some (backs cs ρ, c)
  | _ => none) else none
/-- a call with values, that may change things ahead of it -/
def eCallV (F : Fn) (as : List E) : E := fun ρ => match eevs as ρ with
  | some (ρ1, ds) => (match F (ds.map .val) with | some (_, c) => some (ρ1, c) | none => none)
  | none => none
/-- .. whose first argument is owned and goes by reference -/
def isOwnO : Option Cell → Bool
  | some (.own _ _) => true
  | _ => false
def eCallR (F : Fn) (i : Nat) (as : List E) : E := fun ρ => if isOwnO ρ[i]? then (match eevs as ρ with
  | some (ρ1, ds) => (match ρ1[i]? with
    | some (.own fx o) => (match F (.own true o :: ds.map .val) with
      | some (.own _ o' :: _, c) => some (ρ1.set i (.own fx o'), c)
      | _ => none)
    | _ => none)
  | none => none) else none
/-! ### a drawing's source -/
def Src.get (s : Src) (k : Str) : Option Int := if k = "left" then some s.left else if k = "mixed" then some s.mixed else if k = "turn" then some s.turn else none
def Src.put (s : Src) (k : Str) (n : Int) : Option Src := if k = "left" then some { s with left := n } else if k = "mixed" then some { s with mixed := n } else if k = "turn" then some { s with turn := n } else none
def pSrc (i : Nat) (k : Str) : P := fun ρ => match ρ[i]? with
  | some (.own _ (.src s)) => (match s.get k with | some n => some (.int n) | none => none)
  | _ => none
def pSrcC (i : Nat) : P := fun ρ => match ρ[i]? with
  | some (.own _ (.src s)) => some (.list (s.cells.map .int))
  | _ => none
def sSrcPut (i : Nat) (k : Str) (a : P) : Sm := fun ρ => match a ρ, ρ[i]? with
  | some (.int n), some (.own fx (.src s)) => (match s.put k n with | some s' => some (ρ.set i (.own fx (.src s')), .nx) | none => none)
  | _, _ => none
/-- source[k] = source['cells'].pop() -/
def sSrcPop (i : Nat) (k : Str) : Sm := fun ρ => match ρ[i]? with
  | some (.own fx (.src s)) => (match s.cells.getLast? with
    | some n => (match ({ s with cells := s.cells.dropLast } : Src).put k n with | some s' => some (ρ.set i (.own fx (.src s')), .nx) | none => none)
    | none => none)
  | _ => none
def intsOf : List D → Option (List Int)
  | [] => some []
  | .int n :: r => (match intsOf r with | some ns => some (n :: ns) | none => none)
  | _ => none
/-- {'cells': .., 'left': .., 'mixed': .., 'turn': ..} -/
def eSrc (a b c d : P) : E := fun ρ => match a ρ, b ρ, c ρ, d ρ with
  | some (.list xs), some (.int l), some (.int m), some (.int t) => (match intsOf xs with | some ns => some (ρ, .own false (.src ⟨ns, l, m, t⟩)) | none => none)
  | _, _, _, _ => none
/-- the script -/
def iScr (i : Nat) : Ie := fun ρ => match ρ[i]? with | some (.scr ns) => some (ρ, ns.map .int) | _ => none
def ipScr (i : Nat) : Ip := fun ρ => match ρ[i]? with | some (.scr ns) => some (ns.map .int) | _ => none
/-- _law_source(script) -/
def eCallS (F : Fn) (i : Nat) : E := fun ρ => match ρ[i]? with
  | some (.scr ns) => (match F [.scr ns] with | some (_, c) => some (ρ, c) | none => none)
  | _ => none
/-! ### a, b = x, y -/
def ecells : List E → Env → Option (Env × List Cell)
  | [], ρ => some (ρ, [])
  | a :: r, ρ => match a ρ with
    | some (ρ1, c) => (match ecells r ρ1 with | some (ρ2, cs) => some (ρ2, c :: cs) | none => none)
    | none => none
def puts : List Nat → List Cell → Env → Option Env
  | [], [], ρ => some ρ
  | i :: is, c :: cs, ρ => (match put i c ρ with | some ρ1 => puts is cs ρ1 | none => none)
  | _, _, _ => none
def sPar (is : List Nat) (fs : List E) : Sm := fun ρ => match ecells fs ρ with
  | some (ρ1, cs) => (match puts is cs ρ1 with | some ρ2 => some (ρ2, .nx) | none => none)
  | none => none
/-- frozen names ahead of a statement -/
def sFrzs : List Nat → Sm → Sm
  | [], g => g
  | i :: is, g => fun ρ => match ρ[i]? with
    | some (.own false o) => (match (Cell.own false o).toD with | some d => sFrzs is g (ρ.set i (.val d)) | none => none)
    | some (.val _) => sFrzs is g ρ
    | _ => none
end L3
/-! How trees stand in the heap; environments; the standard readings. -/
namespace L3
open PySem PySem.Spec PyProof.Rows L2
mutual
def keyOf : D → Option NestedKey
  | .none => some .none
  | .int i => some (.num i)
  | .str x => some (.text x)
  | .tuple xs => (keysOf xs).map .tup
  | _ => none
def keysOf : List D → Option (List NestedKey)
  | [] => some []
  | x :: xs => match keyOf x, keysOf xs with | some k, some ks => some (k :: ks) | _, _ => none
end
/-- a dict's object by its entries: hash, key, value -/
def DRaw (a : Addr) (ents : List (Int × V × V)) : Heap → Prop := fun h => ∃ o es ep, h.get? a = some o ∧ o.ExactDict ∧ o.data = .dict es ep ∧
  Paired (fun (p : Int × V × V) (e : DictEntry) => e.hash = p.1 ∧ RelV p.2.1 e.key ∧ RelV p.2.2 e.val) ents es.toList
def DAt (H : Hp) (a : Addr) (ents : List (Int × V × V)) : Prop := (a == sysModules) = false ∧ ents.length ≤ sizeLine ∧ H a = some (.ext (DRaw a ents))
section
variable (w : World) (K : PySem.W.Frag)
mutual
def Rep (M : Addr → Prop) (H : Hp) : D → V → Prop
  | .none, v => v = .non
  | .bool b, v => v = .bl b
  | .int i, v => v = .int i
  | .str s, v => v = .str s
  | .tuple xs, v => ∃ a vs, v = .ref a ∧ SqT K H a vs ∧ Reps M H xs vs
  | .list xs, v => ∃ a vs, v = .ref a ∧ ¬ M a ∧ H a = some (.lst vs) ∧ Reps M H xs vs
  | .dict kvs, v => ∃ a ents, v = .ref a ∧ ¬ M a ∧ DAt H a ents ∧ RepK M H kvs ents ∧ (kvs.map (·.1)).Nodup
def Reps (M : Addr → Prop) (H : Hp) : List D → List V → Prop
  | [], vs => vs = []
  | x :: xs, vs => ∃ v r, vs = v :: r ∧ Rep M H x v ∧ Reps M H xs r
def RepK (M : Addr → Prop) (H : Hp) : List (D × D) → List (Int × V × V) → Prop
  | [], es => es = []
  | (k, x) :: r, es => ∃ n kv v t, es = (n, kv, v) :: t ∧ Rep M H k kv ∧ (∃ nk, keyOf k = some nk ∧ n = nk.hash w) ∧ Rep M H x v ∧ RepK M H r t
end
end
/-- what is kept but for what O says -/
structure Ext (O : Addr → Prop) (H H' : Hp) : Prop where
  keep : ∀ a o, H a = some o → ¬ O a → H' a = some o
  tup : ∀ a vs, H a = some (.tup vs) → H' a = some (.tup vs)
  frz : ∀ a o u, H a = some (.frz o u) → H' a = some (.frz o u)
theorem Ext.refl {O : Addr → Prop} (H : Hp) : Ext O H H := ⟨fun _ _ h _ => h, fun _ _ h => h, fun _ _ _ h => h⟩
theorem Ext.same {O : Addr → Prop} {H H' : Hp} (s : Same H H') : Ext O H H' := ⟨fun a o h _ => s a o h, fun a vs h => s _ _ h, fun a o u h => s _ _ h⟩
section
variable {w : World} {K : PySem.W.Frag} {M M' O : Addr → Prop} {H H' H2 : Hp}
theorem Ext.sqT (e : Ext O H H') {a : Addr} {vs : List V} (h : SqT K H a vs) : SqT K H' a vs := by
  rcases h with (h | ⟨o, h⟩) | h
  · exact .inl (.inl (e.tup _ _ h))
  · exact .inl (.inr ⟨o, e.frz _ _ _ h⟩)
  · exact .inr h
theorem Ext.dat (e : Ext O H H') {a : Addr} {es : List (Int × V × V)} (n : ¬ O a) (h : DAt H a es) : DAt H' a es := ⟨h.1, h.2.1, e.keep _ _ h.2.2 n⟩
mutual
theorem Rep.ext (e : Ext O H H') (hO : ∀ a, O a → M a) (hM : ∀ a, H a ≠ none → M' a → M a) : ∀ (d : D) (v : V), Rep w K M H d v → Rep w K M' H' d v
  | .none, _, h => h
  | .bool _, _, h => h
  | .int _, _, h => h
  | .str _, _, h => h
  | .tuple xs, v, h => by
    obtain ⟨a, vs, e1, h1, h2⟩ := h
    exact ⟨a, vs, e1, e.sqT h1, Reps.ext e hO hM xs vs h2⟩
  | .list xs, v, h => by
    obtain ⟨a, vs, e1, n, h1, h2⟩ := h
    refine ⟨a, vs, e1, fun m => n ?_, e.keep _ _ h1 (fun o => n (hO a o)), Reps.ext e hO hM xs vs h2⟩
    exact hM a (by rw [h1]; simp) m
  | .dict kvs, v, h => by
    obtain ⟨a, es, e1, n, h1, h2, nd⟩ := h
    exact ⟨a, es, e1, fun m => n (hM a (by rw [h1.2.2]; simp) m), e.dat (fun o => n (hO a o)) h1, RepK.ext e hO hM kvs es h2, nd⟩
theorem Reps.ext (e : Ext O H H') (hO : ∀ a, O a → M a) (hM : ∀ a, H a ≠ none → M' a → M a) : ∀ (ds : List D) (vs : List V), Reps w K M H ds vs → Reps w K M' H' ds vs
  | [], _, h => h
  | x :: xs, vs, h => by
    obtain ⟨v, r, e1, h1, h2⟩ := h
    exact ⟨v, r, e1, Rep.ext e hO hM x v h1, Reps.ext e hO hM xs r h2⟩
theorem RepK.ext (e : Ext O H H') (hO : ∀ a, O a → M a) (hM : ∀ a, H a ≠ none → M' a → M a) : ∀ (ds : List (D × D)) (es : List (Int × V × V)), RepK w K M H ds es → RepK w K M' H' ds es
  | [], _, h => h
  | (k, x) :: xs, es, h => by
    obtain ⟨n, kv, v, t, e1, h1, h2, h3, h4⟩ := h
    exact ⟨n, kv, v, t, e1, Rep.ext e hO hM k kv h1, h2, Rep.ext e hO hM x v h3, RepK.ext e hO hM xs t h4⟩
end
theorem Rep.weak (hM : ∀ a, M' a → M a) {d : D} {v : V} (h : Rep w K M H d v) : Rep w K M' H d v :=
  Rep.ext (O := fun _ => False) (Ext.refl H) (fun _ z => z.elim) (fun a _ => hM a) d v h
theorem Reps.weak (hM : ∀ a, M' a → M a) {d : List D} {v : List V} (h : Reps w K M H d v) : Reps w K M' H d v :=
  Reps.ext (O := fun _ => False) (Ext.refl H) (fun _ z => z.elim) (fun a _ => hM a) d v h
theorem RepK.weak (hM : ∀ a, M' a → M a) {d : List (D × D)} {v : List (Int × V × V)} (h : RepK w K M H d v) : RepK w K M' H d v :=
  RepK.ext (O := fun _ => False) (Ext.refl H) (fun _ z => z.elim) (fun a _ => hM a) d v h
theorem Rep.same (s : Same H H') {d : D} {v : V} (h : Rep w K M H d v) : Rep w K M H' d v :=
  Rep.ext (O := fun _ => False) (Ext.same s) (fun _ z => z.elim) (fun a _ m => m) d v h
theorem Reps.same (s : Same H H') {d : List D} {v : List V} (h : Reps w K M H d v) : Reps w K M H' d v :=
  Reps.ext (O := fun _ => False) (Ext.same s) (fun _ z => z.elim) (fun a _ m => m) d v h
theorem RepK.same (s : Same H H') {d : List (D × D)} {v : List (Int × V × V)} (h : RepK w K M H d v) : RepK w K M H' d v :=
  RepK.ext (O := fun _ => False) (Ext.same s) (fun _ z => z.elim) (fun a _ m => m) d v h
theorem Reps.length : ∀ {ds : List D} {vs : List V}, Reps w K M H ds vs → vs.length = ds.length
  | [], vs, h => by rw [show vs = [] from h]; rfl
  | x :: xs, vs, h => by
    obtain ⟨v, r, e1, _, h2⟩ := h
    rw [e1, List.length_cons, List.length_cons, Reps.length h2]
theorem RepK.length : ∀ {ds : List (D × D)} {vs : List (Int × V × V)}, RepK w K M H ds vs → vs.length = ds.length
  | [], vs, h => by rw [show vs = [] from h]; rfl
  | (k, x) :: xs, vs, h => by
    obtain ⟨n, kv, v, t, e1, _, _, _, h4⟩ := h
    rw [e1, List.length_cons, List.length_cons, RepK.length h4]
theorem Reps.append : ∀ {xs ys : List D} {us vs : List V}, Reps w K M H xs us → Reps w K M H ys vs → Reps w K M H (xs ++ ys) (us ++ vs)
  | [], _, us, _, h, h' => by rw [show us = [] from h]; exact h'
  | x :: xs, _, us, _, h, h' => by
    obtain ⟨v, r, e1, h1, h2⟩ := h
    subst e1
    exact ⟨v, _, rfl, h1, Reps.append h2 h'⟩
theorem Reps.take : ∀ {xs : List D} {us : List V} (n : Nat), Reps w K M H xs us → Reps w K M H (xs.take n) (us.take n)
  | _, us, 0, h => by simp [Reps]
  | [], us, n + 1, h => by rw [show us = [] from h]; simp [Reps]
  | x :: xs, us, n + 1, h => by
    obtain ⟨v, r, e1, h1, h2⟩ := h
    subst e1
    exact ⟨v, _, rfl, h1, Reps.take n h2⟩
theorem Reps.drop : ∀ {xs : List D} {us : List V} (n : Nat), Reps w K M H xs us → Reps w K M H (xs.drop n) (us.drop n)
  | _, us, 0, h => by simpa using h
  | [], us, n + 1, h => by rw [show us = [] from h]; simp [Reps]
  | x :: xs, us, n + 1, h => by
    obtain ⟨v, r, e1, h1, h2⟩ := h
    subst e1
    exact Reps.drop n h2
theorem Reps.get : ∀ {xs : List D} {us : List V} {i : Nat} {x : D}, Reps w K M H xs us → xs[i]? = some x → ∃ u, us[i]? = some u ∧ Rep w K M H x u
  | [], us, i, x, h, e => by simp at e
  | y :: xs, us, 0, x, h, e => by
    obtain ⟨v, r, e1, h1, h2⟩ := h
    subst e1
    simp at e; subst e
    exact ⟨v, rfl, h1⟩
  | y :: xs, us, i + 1, x, h, e => by
    obtain ⟨v, r, e1, h1, h2⟩ := h
    subst e1
    exact Reps.get (i := i) h2 (by simpa using e)
theorem Reps.getV {xs : List D} {us : List V} {i : Nat} {u : V} (h : Reps w K M H xs us) (e : us[i]? = some u) : ∃ x, xs[i]? = some x ∧ Rep w K M H x u := by
  have hl := h.length
  have hi : i < us.length := (List.getElem?_eq_some_iff.mp e).1
  have hx : i < xs.length := by omega
  obtain ⟨u', e', r⟩ := h.get (i := i) (x := xs[i]) (by simp [hx])
  rw [e] at e'; cases e'
  exact ⟨xs[i], by simp [hx], r⟩
theorem Reps.reverse : ∀ {xs : List D} {us : List V}, Reps w K M H xs us → Reps w K M H xs.reverse us.reverse
  | [], us, h => by rw [show us = [] from h]; simp [Reps]
  | x :: xs, us, h => by
    obtain ⟨v, r, e1, h1, h2⟩ := h
    subst e1
    simp only [List.reverse_cons]
    exact (Reps.reverse h2).append ⟨v, [], rfl, h1, rfl⟩
theorem Reps.replicate {xs : List D} {us : List V} (h : Reps w K M H xs us) : ∀ n, Reps w K M H (List.replicate n xs).flatten (List.replicate n us).flatten
  | 0 => by simp [Reps]
  | n + 1 => by
    rw [List.replicate_succ, List.replicate_succ, List.flatten_cons, List.flatten_cons]
    exact h.append (Reps.replicate h n)
theorem Reps.one {x : D} {v : V} (h : Rep w K M H x v) : Reps w K M H [x] [v] := ⟨v, [], rfl, h, rfl⟩
end
/-- a list or a dict that is read in place: its own address is not asked -/
def Rd1 (w : World) (K : PySem.W.Frag) (M : Addr → Prop) (H : Hp) : D → V → Prop
  | .list xs, v => ∃ a vs, v = .ref a ∧ H a = some (.lst vs) ∧ Reps w K M H xs vs
  | .dict kvs, v => ∃ a ents, v = .ref a ∧ DAt H a ents ∧ RepK w K M H kvs ents ∧ (kvs.map (·.1)).Nodup
  | d, v => Rep w K M H d v
/-- a new one -/
def New1 (w : World) (K : PySem.W.Frag) (M : Addr → Prop) (H H' : Hp) : D → V → Prop
  | .list xs, v => ∃ a vs, v = .ref a ∧ H a = none ∧ H' a = some (.lst vs) ∧ Reps w K (fun x => M x ∨ x = a) H' xs vs
  | .dict kvs, v => ∃ a ents, v = .ref a ∧ H a = none ∧ DAt H' a ents ∧ RepK w K (fun x => M x ∨ x = a) H' kvs ents ∧ (kvs.map (·.1)).Nodup
  | d, v => Rep w K M H' d v
def Res (w : World) (K : PySem.W.Frag) (k : Kind) (M : Addr → Prop) (H H' : Hp) (d : D) (v : V) : Prop :=
  match k with
  | .r => Rd1 w K M H' d v
  | .c => Rep w K M H' d v
  | .f => New1 w K M H H' d v
section
variable {w : World} {K : PySem.W.Frag} {M M' O : Addr → Prop} {H H' H2 : Hp} {d : D} {v : V}
theorem Rep.rd1 (h : Rep w K M H d v) : Rd1 w K M H d v := by
  cases d with
  | list xs => obtain ⟨a, vs, e, _, h1, h2⟩ := h; exact ⟨a, vs, e, h1, h2⟩
  | dict xs => obtain ⟨a, vs, e, _, h1, h2⟩ := h; exact ⟨a, vs, e, h1, h2⟩
  | none => exact h
  | bool b => exact h
  | int b => exact h
  | str b => exact h
  | tuple b => exact h
theorem New1.rep (h : New1 w K M H H' d v) (al : ∀ a, M a → H a ≠ none) : Rep w K M H' d v := by
  cases d with
  | list xs =>
    obtain ⟨a, vs, e, n, h1, h2⟩ := h
    exact ⟨a, vs, e, fun m => al a m n, h1, h2.weak fun _ m => .inl m⟩
  | dict xs =>
    obtain ⟨a, vs, e, n, h1, h2, nd⟩ := h
    exact ⟨a, vs, e, fun m => al a m n, h1, h2.weak fun _ m => .inl m, nd⟩
  | none => exact h
  | bool b => exact h
  | int b => exact h
  | str b => exact h
  | tuple b => exact h
theorem Rd1.same (s : Same H H') (h : Rd1 w K M H d v) : Rd1 w K M H' d v := by
  cases d with
  | list xs => obtain ⟨a, vs, e, h1, h2⟩ := h; exact ⟨a, vs, e, s _ _ h1, h2.same s⟩
  | dict xs => obtain ⟨a, vs, e, h1, h2, nd⟩ := h; exact ⟨a, vs, e, ⟨h1.1, h1.2.1, s _ _ h1.2.2⟩, h2.same s, nd⟩
  | none => exact h
  | bool b => exact h
  | int b => exact h
  | str b => exact h
  | tuple b => exact Rep.same (d := .tuple b) s h
theorem Rd1.weak (hM : ∀ a, M' a → M a) (h : Rd1 w K M H d v) : Rd1 w K M' H d v := by
  cases d with
  | list xs => obtain ⟨a, vs, e, h1, h2⟩ := h; exact ⟨a, vs, e, h1, h2.weak hM⟩
  | dict xs => obtain ⟨a, vs, e, h1, h2, nd⟩ := h; exact ⟨a, vs, e, h1, h2.weak hM, nd⟩
  | none => exact h
  | bool b => exact h
  | int b => exact h
  | str b => exact h
  | tuple b => exact Rep.weak (d := .tuple b) hM h
theorem Res.rd1 {k : Kind} (h : Res w K k M H H' d v) (al : ∀ a, M a → H a ≠ none) : Rd1 w K M H' d v := by
  cases k with
  | r => exact h
  | c => exact Rep.rd1 (show Rep w K M H' d v from h)
  | f => exact (New1.rep h al).rd1
theorem Res.rep {k : Kind} (h : Res w K k M H H' d v) (al : ∀ a, M a → H a ≠ none) (hk : k ≠ .r) : Rep w K M H' d v := by
  cases k with
  | r => exact absurd rfl hk
  | c => exact h
  | f => exact New1.rep h al
end
/-! ### environments -/
/-- lists at some places -/
def LL (w : World) (K : PySem.W.Frag) (M : Addr → Prop) (H : Hp) : List (List D) → List Addr → Prop
  | [], bs => bs = []
  | xs :: r, bs => ∃ b t vs, bs = b :: t ∧ H b = some (.lst vs) ∧ Reps w K M H xs vs ∧ LL w K M H r t
theorem LL.len {w : World} {K : PySem.W.Frag} {M : Addr → Prop} {H : Hp} : ∀ {xss : List (List D)} {bs : List Addr}, LL w K M H xss bs → bs.length = xss.length
  | [], bs, h => by rw [show bs = [] from h]; rfl
  | xs :: r, bs, h => by
    obtain ⟨b, t, vs, e, _, _, h3⟩ := h
    rw [e, List.length_cons, List.length_cons, LL.len h3]
theorem LL.alive {w : World} {K : PySem.W.Frag} {M : Addr → Prop} {H : Hp} : ∀ {xss : List (List D)} {bs : List Addr}, LL w K M H xss bs → ∀ x ∈ bs, ∃ vs, H x = some (.lst vs)
  | [], bs, h, x, hx => by rw [show bs = [] from h] at hx; cases hx
  | xs :: r, bs, h, x, hx => by
    obtain ⟨b, t, vs, e, h1, _, h3⟩ := h
    rw [e] at hx
    rcases List.mem_cons.mp hx with rfl | hx
    · exact ⟨vs, h1⟩
    · exact LL.alive h3 x hx
theorem LL.ext {w : World} {K : PySem.W.Frag} {O M M' : Addr → Prop} {H H' : Hp} (e : Ext O H H') (hO : ∀ a, O a → M a) (hM : ∀ a, H a ≠ none → M' a → M a) : ∀ {xss : List (List D)} {bs : List Addr}, (∀ x ∈ bs, ¬ O x) → LL w K M H xss bs → LL w K M' H' xss bs
  | [], bs, _, h => h
  | xs :: r, bs, hn, h => by
    obtain ⟨b, t, vs, e1, h1, h2, h3⟩ := h
    subst e1
    exact ⟨b, t, vs, rfl, e.keep _ _ h1 (hn b (List.mem_cons_self ..)), h2.ext e hO hM, LL.ext e hO hM (fun x hx => hn x (List.mem_cons_of_mem _ hx)) h3⟩
theorem LL.rep {w : World} {K : PySem.W.Frag} {M M' : Addr → Prop} {H : Hp} (hM : ∀ a, M' a → M a) : ∀ {xss : List (List D)} {bs : List Addr}, (∀ x ∈ bs, ¬ M' x) → LL w K M H xss bs → Reps w K M' H (xss.map .list) (bs.map .ref)
  | [], bs, _, h => by rw [show bs = [] from h]; rfl
  | xs :: r, bs, hn, h => by
    obtain ⟨b, t, vs, e1, h1, h2, h3⟩ := h
    subst e1
    exact ⟨.ref b, t.map .ref, rfl, ⟨b, vs, rfl, hn b (List.mem_cons_self ..), h1, h2.weak hM⟩, LL.rep hM (fun x hx => hn x (List.mem_cons_of_mem _ hx)) h3⟩
def OwnOk (w : World) (K : PySem.W.Frag) (M : Addr → Prop) (H : Hp) (o : Own) (v : V) (as : List Addr) : Prop :=
  match o with
  | .lst xs => ∃ a vs, v = .ref a ∧ as = [a] ∧ H a = some (.lst vs) ∧ Reps w K M H xs vs
  | .dic kvs => ∃ a ents, v = .ref a ∧ as = [a] ∧ DAt H a ents ∧ RepK w K M H kvs ents ∧ (kvs.map (·.1)).Nodup
  | .lsts xss => ∃ a bs, v = .ref a ∧ as = a :: bs ∧ H a = some (.lst (bs.map .ref)) ∧ (a :: bs).Nodup ∧ LL w K M H xss bs
  | .src s => ∃ a c, v = .ref a ∧ as = [a, c] ∧ H a = some (.dK [(.inr "cells", .ref c), (.inr "left", .int s.left), (.inr "mixed", .int s.mixed), (.inr "turn", .int s.turn)]) ∧ H c = some (.lst (s.cells.map .int))
def CellOk (w : World) (K : PySem.W.Frag) (M : Addr → Prop) (H : Hp) (c : Cell) (ov : Option V) (as : List Addr) : Prop :=
  match c with
  | .un => as = []
  | .scr ns => as = [] ∧ ∃ a, ov = some (.ref a) ∧ ((∃ o, H a = some (.frz o (.lst (ns.map .int)))) ∨ (∀ H', SqL K H' a (ns.map .int)))
  | .val d => as = [] ∧ ∃ v, ov = some v ∧ Rep w K M H d v
  | .own _ o => ∃ v, ov = some v ∧ OwnOk w K M H o v as
/-- what may change, or is the callers' own -/
def mu (B : Addr → Prop) (A : Nat → List Addr) : Addr → Prop := fun x => B x ∨ ∃ i, x ∈ A i
structure Rel (w : World) (K : PySem.W.Frag) (B : Addr → Prop) (ρ : Env) (σ : L2.St) (A : Nat → List Addr) (H : Hp) : Prop where
  len : ρ.length = σ.length
  cell : ∀ i c, ρ[i]? = some c → CellOk w K (mu B A) H c ((σ[i]?).join) (A i)
  out : ∀ i, ρ.length ≤ i → A i = []
  aliveB : ∀ x, B x → H x ≠ none
  apart : ∀ i x, x ∈ A i → ¬ B x
  one : ∀ i j x, x ∈ A i → x ∈ A j → i = j
/-- from one state to another -/
structure Step (w : World) (K : PySem.W.Frag) (B : Addr → Prop) (ρ : Env) (σ : L2.St) (A : Nat → List Addr) (H : Hp) (ρ' : Env) (σ' : L2.St) (A' : Nat → List Addr) (H' : Hp) : Prop where
  rel : Rel w K B ρ' σ' A' H'
  ext : Ext (fun x => ∃ i, x ∈ A i) H H'
  sub : ∀ i x, x ∈ A' i → (∃ j, x ∈ A j) ∨ H x = none
  fix : ∀ (i : Nat) (o : Own), ρ[i]? = some (Cell.own true o) → (∃ o', ρ'[i]? = some (Cell.own true o')) ∧ σ'[i]? = σ[i]?
/-- a result: a value, or something new that stands nowhere else -/
def ResC (w : World) (K : PySem.W.Frag) (B : Addr → Prop) (ρ' : Env) (σ' : L2.St) (A A' : Nat → List Addr) (H H' : Hp) (c : Cell) (v : V) : Prop :=
  match c with
  | .un => False
  | .scr _ => False
  | .val d => Rep w K (mu B A') H' d v
  | .own fx o => fx = false ∧ ∃ as, OwnOk w K (fun x => mu B A' x ∨ x ∈ as) H' o v as ∧ (∀ x ∈ as, ¬ mu B A' x ∧ ((∃ j, x ∈ A j) ∨ H x = none)) ∧ Rel w K (fun x => B x ∨ x ∈ as) ρ' σ' A' H'
section
variable {w : World} {K : PySem.W.Frag} {B : Addr → Prop} {ρ ρ1 ρ2 : Env} {σ σ1 σ2 : L2.St} {A A1 A2 : Nat → List Addr} {H H1 H2 : Hp}
theorem OwnOk.alive {M : Addr → Prop} {o : Own} {v : V} {as : List Addr} (h : OwnOk w K M H o v as) : ∀ x ∈ as, H x ≠ none ∧ (∀ vs, H x ≠ some (.tup vs)) ∧ ∀ ob u, H x ≠ some (.frz ob u) := by
  cases o with
  | lst xs =>
    obtain ⟨a, vs, _, e, h1, _⟩ := h
    subst e
    intro x hx
    rw [List.mem_singleton.mp hx, h1]
    simp
  | dic xs =>
    obtain ⟨a, vs, _, e, h1, _⟩ := h
    subst e
    intro x hx
    rw [List.mem_singleton.mp hx, h1.2.2]
    simp
  | lsts xss =>
    obtain ⟨a, bs, _, e, h1, _, h2⟩ := h
    subst e
    intro x hx
    rcases List.mem_cons.mp hx with rfl | hx
    · rw [h1]; simp
    · obtain ⟨vs, h3⟩ := h2.alive x hx
      rw [h3]; simp
  | src s =>
    obtain ⟨a, c, _, e, h1, h2⟩ := h
    subst e
    intro x hx
    rcases List.mem_cons.mp hx with rfl | hx
    · rw [h1]; simp
    · rw [List.mem_singleton.mp hx, h2]; simp
theorem Rel.own {i : Nat} {x : Addr} (R : Rel w K B ρ σ A H) (h : x ∈ A i) : ∃ fx o v, ρ[i]? = some (Cell.own fx o) ∧ σ[i]? = some (some v) ∧ OwnOk w K (mu B A) H o v (A i) := by
  have hi : i < ρ.length := by
    rcases Nat.lt_or_ge i ρ.length with q | q
    · exact q
    · rw [R.out i q] at h; cases h
  have hc := R.cell i ρ[i] (by simp [hi])
  cases e : ρ[i] with
  | un => rw [e] at hc; rw [show A i = [] from hc] at h; cases h
  | val d => rw [e] at hc; rw [show A i = [] from hc.1] at h; cases h
  | scr d => rw [e] at hc; rw [show A i = [] from hc.1] at h; cases h
  | own fx o =>
    rw [e] at hc
    obtain ⟨v, e1, e2⟩ := hc
    refine ⟨fx, o, v, by simp [hi, e], ?_, e2⟩
    cases q : σ[i]? with
    | none => rw [q] at e1; cases e1
    | some y => rw [q] at e1; exact congrArg some e1
theorem Rel.alive (R : Rel w K B ρ σ A H) : ∀ x, mu B A x → H x ≠ none := by
  rintro x (h | ⟨i, h⟩)
  · exact R.aliveB x h
  · obtain ⟨fx, o, v, _, _, ok⟩ := R.own h
    exact (ok.alive x h).1
theorem Rel.notup (R : Rel w K B ρ σ A H) {i : Nat} {x : Addr} (h : x ∈ A i) : (∀ vs, H x ≠ some (.tup vs)) ∧ ∀ ob u, H x ≠ some (.frz ob u) := by
  obtain ⟨fx, o, v, _, _, ok⟩ := R.own h
  exact (ok.alive x h).2
theorem OwnOk.same {M : Addr → Prop} {o : Own} {v : V} {as : List Addr} (s : Same H H1) (h : OwnOk w K M H o v as) : OwnOk w K M H1 o v as := by
  cases o with
  | lst xs => obtain ⟨a, vs, e1, e, h1, h2⟩ := h; exact ⟨a, vs, e1, e, s _ _ h1, h2.same s⟩
  | dic xs => obtain ⟨a, vs, e1, e, h1, h2, nd⟩ := h; exact ⟨a, vs, e1, e, ⟨h1.1, h1.2.1, s _ _ h1.2.2⟩, h2.same s, nd⟩
  | lsts xss => obtain ⟨a, bs, e1, e, h1, h2, h3⟩ := h; exact ⟨a, bs, e1, e, s _ _ h1, h2, h3.ext (O := fun _ => False) (Ext.same s) (fun _ z => z.elim) (fun _ _ m => m) fun _ _ z => z⟩
  | src t => obtain ⟨a, c, e1, e, h1, h2⟩ := h; exact ⟨a, c, e1, e, s _ _ h1, s _ _ h2⟩
theorem OwnOk.weak {M M' : Addr → Prop} (hM : ∀ a, M' a → M a) {o : Own} {v : V} {as : List Addr} (h : OwnOk w K M H o v as) : OwnOk w K M' H o v as := by
  cases o with
  | lst xs => obtain ⟨a, vs, e1, e, h1, h2⟩ := h; exact ⟨a, vs, e1, e, h1, h2.weak hM⟩
  | dic xs => obtain ⟨a, vs, e1, e, h1, h2, nd⟩ := h; exact ⟨a, vs, e1, e, h1, h2.weak hM, nd⟩
  | lsts xss => obtain ⟨a, bs, e1, e, h1, h2, h3⟩ := h; exact ⟨a, bs, e1, e, h1, h2, h3.ext (O := fun _ => False) (Ext.refl H) (fun _ z => z.elim) (fun a _ m => hM a m) fun _ _ z => z⟩
  | src t => obtain ⟨a, c, e1, e, h1, h2⟩ := h; exact ⟨a, c, e1, e, h1, h2⟩
theorem OwnOk.ext {O M M' : Addr → Prop} (e : Ext O H H1) (hO : ∀ a, O a → M a) (hM : ∀ a, H a ≠ none → M' a → M a) {o : Own} {v : V} {as : List Addr} (hn : ∀ x ∈ as, ¬ O x)
    (h : OwnOk w K M H o v as) : OwnOk w K M' H1 o v as := by
  cases o with
  | lst xs =>
    obtain ⟨a, vs, e1, e2, h1, h2⟩ := h
    exact ⟨a, vs, e1, e2, e.keep _ _ h1 (hn a (by simp [e2])), h2.ext e hO hM⟩
  | dic xs =>
    obtain ⟨a, vs, e1, e2, h1, h2, nd⟩ := h
    exact ⟨a, vs, e1, e2, e.dat (hn a (by simp [e2])) h1, h2.ext e hO hM, nd⟩
  | lsts xss =>
    obtain ⟨a, bs, e1, e2, h1, h2, h3⟩ := h
    exact ⟨a, bs, e1, e2, e.keep _ _ h1 (hn a (by simp [e2])), h2, h3.ext e hO hM fun x hx => hn x (by rw [e2]; exact List.mem_cons_of_mem _ hx)⟩
  | src t =>
    obtain ⟨a, c, e1, e2, h1, h2⟩ := h
    exact ⟨a, c, e1, e2, e.keep _ _ h1 (hn a (by simp [e2])), e.keep _ _ h2 (hn c (by simp [e2]))⟩
theorem CellOk.same {M : Addr → Prop} {c : Cell} {v : Option V} {as : List Addr} (s : Same H H1) (h : CellOk w K M H c v as) : CellOk w K M H1 c v as := by
  cases c with
  | un => exact h
  | scr ns => obtain ⟨e, a, e1, r⟩ := h; exact ⟨e, a, e1, r.imp (fun ⟨o, z⟩ => ⟨o, s _ _ z⟩) id⟩
  | val d => obtain ⟨e, v, e1, r⟩ := h; exact ⟨e, v, e1, r.same s⟩
  | own fx o => obtain ⟨v, e1, r⟩ := h; exact ⟨v, e1, r.same s⟩
theorem Rel.same (s : Same H H1) (R : Rel w K B ρ σ A H) : Rel w K B ρ σ A H1 :=
  ⟨R.len, fun i c e => (R.cell i c e).same s, R.out, fun x b z => by
    cases q : H x with
    | none => exact R.aliveB x b q
    | some o => (rw [s x o q] at z; cases z), R.apart, R.one⟩
theorem Step.refl (R : Rel w K B ρ σ A H) : Step w K B ρ σ A H ρ σ A H := ⟨R, .refl H, fun i x h => .inl ⟨i, h⟩, fun i o h => ⟨⟨o, h⟩, rfl⟩⟩
theorem Step.same (s : Same H H1) (R : Rel w K B ρ σ A H) : Step w K B ρ σ A H ρ σ A H1 := ⟨R.same s, .same s, fun i x h => .inl ⟨i, h⟩, fun i o h => ⟨⟨o, h⟩, rfl⟩⟩
theorem Step.trans (R : Rel w K B ρ σ A H) (a : Step w K B ρ σ A H ρ1 σ1 A1 H1) (b : Step w K B ρ1 σ1 A1 H1 ρ2 σ2 A2 H2) : Step w K B ρ σ A H ρ2 σ2 A2 H2 where
  rel := b.rel
  ext := ⟨fun x o h n => b.ext.keep x o (a.ext.keep x o h n) (fun ⟨i, m⟩ => (a.sub i x m).elim (fun z => n z) fun z => by rw [z] at h; cases h), fun x vs h => b.ext.tup _ _ (a.ext.tup _ _ h), fun x o u h => b.ext.frz _ _ _ (a.ext.frz _ _ _ h)⟩
  sub := fun i x h => by
    rcases b.sub i x h with ⟨j, z⟩ | z
    · exact a.sub j x z
    · by_cases q : ∃ j, x ∈ A j
      · exact .inl q
      · refine .inr ?_
        cases e : H x with
        | none => rfl
        | some o => rw [a.ext.keep x o e q] at z; cases z
  fix := fun i o h => by
    obtain ⟨⟨o', e1⟩, e2⟩ := a.fix i o h
    obtain ⟨e3, e4⟩ := b.fix i o' e1
    exact ⟨e3, e4.trans e2⟩
/-- a value that stood at the start of a step -/
theorem Step.rep (R : Rel w K B ρ σ A H) (s : Step w K B ρ σ A H ρ1 σ1 A1 H1) {d : D} {v : V} (h : Rep w K (mu B A) H d v) : Rep w K (mu B A1) H1 d v :=
  h.ext s.ext (fun a z => .inr z) (fun a n m => by
    rcases m with m | ⟨i, m⟩
    · exact .inl m
    · rcases s.sub i a m with z | z
      · exact .inr z
      · exact absurd z n)
theorem Step.reps (R : Rel w K B ρ σ A H) (s : Step w K B ρ σ A H ρ1 σ1 A1 H1) {d : List D} {v : List V} (h : Reps w K (mu B A) H d v) : Reps w K (mu B A1) H1 d v :=
  h.ext s.ext (fun a z => .inr z) (fun a n m => by
    rcases m with m | ⟨i, m⟩
    · exact .inl m
    · rcases s.sub i a m with z | z
      · exact .inr z
      · exact absurd z n)
theorem mu_or {N : Addr → Prop} {x : Addr} : mu (fun x => B x ∨ N x) A x ↔ mu B A x ∨ N x := by
  unfold mu
  constructor
  · rintro ((h | h) | h)
    · exact .inl (.inl h)
    · exact .inr h
    · exact .inl (.inr h)
  · rintro ((h | h) | h)
    · exact .inl (.inl h)
    · exact .inr h
    · exact .inl (.inr h)
theorem CellOk.ext {O M M' : Addr → Prop} (e : Ext O H H1) (hO : ∀ a, O a → M a) (hM : ∀ a, H a ≠ none → M' a → M a) {c : Cell} {v : Option V} {as : List Addr} (hn : ∀ x ∈ as, ¬ O x) (h : CellOk w K M H c v as) : CellOk w K M' H1 c v as := by
  cases c with
  | un => exact h
  | scr ns => obtain ⟨e1, a, e2, r⟩ := h; exact ⟨e1, a, e2, r.imp (fun ⟨o, z⟩ => ⟨o, e.frz _ _ _ z⟩) id⟩
  | val d => obtain ⟨e1, v, e2, r⟩ := h; exact ⟨e1, v, e2, r.ext e hO hM⟩
  | own fx o => obtain ⟨v, e2, r⟩ := h; exact ⟨v, e2, r.ext e hO hM hn⟩
/-- things that were not there are not within -/
theorem Rel.protect {N : Addr → Prop} (R : Rel w K B ρ σ A H) (s : Same H H1) (hN : ∀ x, N x → H x = none ∧ H1 x ≠ none) : Rel w K (fun x => B x ∨ N x) ρ σ A H1 where
  len := R.len
  cell := fun i c e => (R.cell i c e).ext (O := fun _ => False) (Ext.same s) (fun _ z => z.elim) (fun a n m => by
    rcases mu_or.mp m with m | m
    · exact m
    · exact absurd (hN a m).1 n) (fun _ _ z => z)
  out := R.out
  aliveB := fun x h => by
    rcases h with h | h
    · exact (R.same s).aliveB x h
    · exact (hN x h).2
  apart := fun i x h z => by
    rcases z with z | z
    · exact R.apart i x h z
    · exact R.alive x (.inr ⟨i, h⟩) (hN x z).1
  one := R.one
end
end L3
/-! Operations on values, told by trees. -/
namespace L3
open PySem PySem.Spec PyProof.Rows L2
section
variable {X : Cx} {pins : List (Addr × Obj)} {σ : L2.St} {H H1 H' : Hp} {s : Shared} {M : Addr → Prop} {w : World} {K : PySem.W.Frag}
theorem Vals.nil_inv {us : List Value} (h : Vals [] us) : us = [] := by cases h; rfl
theorem Vals.cons_inv {x : V} {xs : List V} {us : List Value} (h : Vals (x :: xs) us) : ∃ u r, us = u :: r ∧ RelV x u ∧ Vals xs r := by
  cases h with
  | cons a b => exact ⟨_, _, rfl, a, b⟩
theorem paired_map {α β γ δ : Type} {F : α → β → Prop} {G : γ → δ → Prop} (f : α → γ) (g : β → δ) (h : ∀ a b, F a b → G (f a) (g b)) : ∀ {l : List α} {m : List β}, Paired F l m → Paired G (l.map f) (m.map g)
  | _, _, .nil => .nil
  | _, _, .cons r t => .cons (h _ _ r) (paired_map f g h t)
mutual
theorem Rep.reads (I : Inv X pins σ H s) : ∀ (d : D) (v : V) (u : Value), Rep X.w X.K M H d v → RelV v u → ∃ as, Reads s.heap u d as ∧ (noList d = true → sysModules ∉ as)
  | .none, v, u, h, r => by rw [show v = .non from h] at r; cases r; exact ⟨_, .none, fun _ => by simp⟩
  | .bool b, v, u, h, r => by rw [show v = .bl b from h] at r; cases r; exact ⟨_, .bool b, fun _ => by simp⟩
  | .int i, v, u, h, r => by rw [show v = .int i from h] at r; obtain ⟨t, rfl⟩ := r; exact ⟨_, .int i t, fun _ => by simp⟩
  | .str x, v, u, h, r => by rw [show v = .str x from h] at r; obtain ⟨t, rfl⟩ := r; exact ⟨_, .str x t, fun _ => by simp⟩
  | .tuple xs, v, u, h, r => by
    obtain ⟨a, vs, e, h1, h2⟩ := h
    rw [e] at r; cases r
    obtain ⟨its, rv, ⟨o, ho, hc, n, hd⟩, _⟩ := I.tuple h1
    obtain ⟨as, ra, na⟩ := Reps.reads I xs vs its h2 rv
    exact ⟨as, .tuple ho hc hd (by simpa using ra), fun z => na (by simpa [noList] using z)⟩
  | .list xs, v, u, h, r => by
    obtain ⟨a, vs, e, _, h1, h2⟩ := h
    rw [e] at r; cases r
    obtain ⟨its, rv, ⟨o, n, ho, hc, _, hd⟩, _⟩ := I.list (SqL.of h1)
    obtain ⟨as, ra, na⟩ := Reps.reads I xs vs its h2 rv
    exact ⟨_, .list ho hc hd (by simpa using ra), fun z => by simp [noList] at z⟩
  | .dict kvs, v, u, h, r => by
    obtain ⟨a, es, e, _, h1, h2, nd⟩ := h
    rw [e] at r; cases r
    obtain ⟨⟨o, ents, ep, ho, hx, hd, hp⟩, _⟩ := I.hok a _ h1.2.2
    obtain ⟨as, bs, ra, rb, na⟩ := RepK.reads I kvs es ents.toList h2 hp
    refine ⟨_, .dict ho hx.1 hd ra rb, fun z => ?_⟩
    have z' := na (by simpa [noList] using z)
    intro hm
    rcases List.mem_append.mp hm with hm | hm
    · rcases List.mem_cons.mp hm with hm | hm
      · have := h1.1
        rw [← hm] at this
        simp at this
      · exact z'.1 hm
    · exact z'.2 hm
theorem Reps.reads (I : Inv X pins σ H s) : ∀ (ds : List D) (vs : List V) (us : List Value), Reps X.w X.K M H ds vs → Vals vs us → ∃ as, ReadsAll s.heap us ds as ∧ (noLists ds = true → sysModules ∉ as)
  | [], vs, us, h, r => by rw [show vs = [] from h] at r; cases r; exact ⟨_, .nil, fun _ => by simp⟩
  | x :: xs, vs, us, h, r => by
    obtain ⟨v, t, e, h1, h2⟩ := h
    rw [e] at r
    obtain ⟨u, q, rfl, r1, r2⟩ := Vals.cons_inv r
    obtain ⟨as, ra, na⟩ := Rep.reads I x v u h1 r1
    obtain ⟨bs, rb, nb⟩ := Reps.reads I xs t q h2 r2
    refine ⟨_, .cons ra rb, fun z => ?_⟩
    simp only [noLists, Bool.and_eq_true] at z
    intro hm
    rcases List.mem_append.mp hm with hm | hm
    · exact na z.1 hm
    · exact nb z.2 hm
theorem RepK.reads (I : Inv X pins σ H s) : ∀ (kvs : List (D × D)) (es : List (Int × V × V)) (ents : List DictEntry), RepK X.w X.K M H kvs es → Paired (fun (p : Int × V × V) (e : DictEntry) => e.hash = p.1 ∧ RelV p.2.1 e.key ∧ RelV p.2.2 e.val) es ents →
    ∃ as bs, ReadsAll s.heap (ents.map (·.key)) (kvs.map (·.1)) as ∧ ReadsAll s.heap (ents.map (·.val)) (kvs.map (·.2)) bs ∧ (noListk kvs = true → sysModules ∉ as ∧ sysModules ∉ bs)
  | [], es, ents, h, r => by rw [show es = [] from h] at r; cases r; exact ⟨_, _, .nil, .nil, fun _ => by simp⟩
  | (k, x) :: xs, es, ents, h, r => by
    obtain ⟨n, kv, v, t, e, h1, _, h3, h4⟩ := h
    rw [e] at r
    cases r with
    | cons r1 r2 =>
      obtain ⟨as, ra, na⟩ := Rep.reads I k kv _ h1 r1.2.1
      obtain ⟨bs, rb, nb⟩ := Rep.reads I x v _ h3 r1.2.2
      obtain ⟨cs, ds, rc, rd, nc⟩ := RepK.reads I xs t _ h4 r2
      refine ⟨_, _, .cons ra rc, .cons rb rd, fun z => ?_⟩
      simp only [noListk, Bool.and_eq_true] at z
      have z' := nc z.2
      refine ⟨fun hm => ?_, fun hm => ?_⟩
      · rcases List.mem_append.mp hm with hm | hm
        · exact na z.1.1 hm
        · exact z'.1 hm
      · rcases List.mem_append.mp hm with hm | hm
        · exact nb z.1.2 hm
        · exact z'.2 hm
end
theorem Rd1.rep0 {d : D} {v : V} (h : Rd1 w K M H d v) : Rep w K (fun _ => False) H d v := by
  cases d with
  | list xs => obtain ⟨a, vs, e, h1, h2⟩ := h; exact ⟨a, vs, e, fun z => z, h1, h2.weak fun _ z => z.elim⟩
  | dict xs => obtain ⟨a, vs, e, h1, h2⟩ := h; exact ⟨a, vs, e, fun z => z, h1, h2.1.weak fun _ z => z.elim, h2.2⟩
  | none => exact h
  | bool b => exact h
  | int b => exact h
  | str b => exact h
  | tuple b => exact Rep.weak (d := .tuple b) (M := M) (fun _ z => z.elim) h
theorem Rd1.reads {d : D} {v : V} {u : Value} (I : Inv X pins σ H s) (h : Rd1 X.w X.K M H d v) (r : RelV v u) : ∃ as, Reads s.heap u d as ∧ (noList d = true → sysModules ∉ as) := Rep.reads I d v u h.rep0 r
theorem Rd1.seq {d : D} {v : V} {xs : List D} (h : Rd1 w K M H d v) (e : seqOf d = some xs) : ∃ p vs, v = .ref p ∧ (SqL K H p vs ∨ SqT K H p vs) ∧ Reps w K M H xs vs := by
  cases d with
  | list ys => cases e; obtain ⟨a, vs, e, h1, h2⟩ := h; exact ⟨a, vs, e, .inl (SqL.of h1), h2⟩
  | tuple ys => cases e; obtain ⟨a, vs, e, h1, h2⟩ := h; exact ⟨a, vs, e, .inr h1, h2⟩
  | none => cases e
  | bool b => cases e
  | int b => cases e
  | str b => cases e
  | dict b => cases e
end
/-- what an operation asks -/
def rD (w : World) (K : PySem.W.Frag) (k : Kind) (op : D → D → Option D) : R2 := fun x y H Q => ∃ M dx dy d, (∀ a, M a → H a ≠ none) ∧ Rd1 w K M H dx x ∧ Rd1 w K M H dy y ∧ op dx dy = some d ∧
  ∀ v H', Same H H' → Res w K k M H H' d v → Q v H'
def uD (w : World) (K : PySem.W.Frag) (k : Kind) (op : D → Option D) : V → Hp → VK → Prop := fun x H Q => ∃ M dx d, (∀ a, M a → H a ≠ none) ∧ Rd1 w K M H dx x ∧ op dx = some d ∧
  ∀ v H', Same H H' → Res w K k M H H' d v → Q v H'
def cD (w : World) (K : PySem.W.Frag) (k : Kind) (op : List D → Option D) : List V → Hp → VK → Prop := fun xs H Q => ∃ M ds d, (∀ a, M a → H a ≠ none) ∧ Paired (Rd1 w K M H) ds xs ∧ op ds = some d ∧
  ∀ v H', Same H H' → Res w K k M H H' d v → Q v H'
section
variable {X : Cx}
theorem oimp {f : Value → Value → Sem Value} {r r' : R2} (h : OpR X f r) (i : ∀ x y H Q, r' x y H Q → r x y H Q) : OpR X f r' := fun pins s σ H x y v u Q I rx ry q => h pins s σ H x y v u Q I rx ry (i _ _ _ _ q)
theorem uimp {f : Value → Sem Value} {r r' : V → Hp → VK → Prop} (h : UnR X f r) (i : ∀ x H Q, r' x H Q → r x H Q) : UnR X f r' := fun pins s σ H x v Q I rx q => h pins s σ H x v Q I rx (i _ _ _ q)
theorem cimp {f : Value} {r r' : List V → Hp → VK → Prop} (h : CallR X f r) (i : ∀ x H Q, r' x H Q → r x H Q) : CallR X f r' := fun pins s σ H xs us Q I rs q => h pins s σ H xs us Q I rs (i _ _ _ q)
theorem ximp {r r' : R2} (h : IxR X r) (i : ∀ x y H Q, r' x y H Q → r x y H Q) : IxR X r' := fun value slice pins s σ H x y v u Q I rx ry q hs => h value slice pins s σ H x y v u Q I rx ry (i _ _ _ _ q) hs
/-! ### ints -/
theorem oSub : OpR X (binaryOp .Sub) (rD X.w X.K .c dSub) := oimp op_sub fun x y H Q h => by
  obtain ⟨M, dx, dy, d, al, hx, hy, e, q⟩ := h
  cases dx with
  | int i =>
    cases dy with
    | int j => cases e; exact ⟨i, j, hx, hy, q _ _ (Same.refl H) rfl⟩
    | _ => cases e
  | _ => cases e
theorem oMul : OpR X (binaryOp .Mult) (rD X.w X.K .c dMul) := oimp (op_mulW.or op_mul) fun x y H Q h => by
  obtain ⟨M, dx, dy, d, al, hx, hy, e, q⟩ := h
  cases dx with
  | int i =>
    cases dy with
    | int j =>
      simp only [dMul] at e
      split at e
      · rename_i hc
        cases e
        have hc := of_decide_eq_true hc
        rcases hc with hc | hc
        · exact .inl ⟨i, j, hx, hy, hc, q _ _ (Same.refl H) rfl⟩
        · refine .inr ⟨i, j, hx, hy, ?_, q _ _ (Same.refl H) rfl⟩
          unfold CMul
          omega
      · cases e
    | _ => cases e
  | _ => cases e
theorem oFdiv : OpR X (binaryOp .FloorDiv) (rD X.w X.K .c dFdiv) := by
  have h : OpR X (binaryOp .FloorDiv) (rI (fun _ j => j ≠ 0 ∧ j.natAbs.log2 < 9000) fun i j => .int (i.fdiv j)) := opI fun i j _ _ _ _ _ hc q =>
    floordiv_int hc.1 q (.inl (PyProof.noPylong_of_log2 hc.2))
  refine oimp h fun x y H Q h => ?_
  obtain ⟨M, dx, dy, d, al, hx, hy, e, q⟩ := h
  cases dx with
  | int i =>
    cases dy with
    | int j =>
      simp only [dFdiv] at e
      split at e
      · rename_i hc
        cases e
        exact ⟨i, j, hx, hy, of_decide_eq_true hc, q _ _ (Same.refl H) rfl⟩
      · cases e
    | _ => cases e
  | _ => cases e
theorem oMod : OpR X (binaryOp .Mod) (rD X.w X.K .c dMod) := oimp op_modN fun x y H Q h => by
  obtain ⟨M, dx, dy, d, al, hx, hy, e, q⟩ := h
  cases dx with
  | int i =>
    cases dy with
    | int j =>
      simp only [dMod] at e
      split at e
      · cases e
      · rename_i hc
        cases e
        exact ⟨i, j, hx, hy, hc, q _ _ (Same.refl H) rfl⟩
    | _ => cases e
  | _ => cases e
theorem oPow : OpR X (binaryOp .Pow) (rD X.w X.K .c dPow) := oimp op_pow fun x y H Q h => by
  obtain ⟨M, dx, dy, d, al, hx, hy, e, q⟩ := h
  cases dx with
  | int i =>
    cases dy with
    | int j =>
      simp only [dPow] at e
      split at e
      · rename_i hc
        cases e
        exact ⟨i, j, hx, hy, hc, q _ _ (Same.refl H) rfl⟩
      · cases e
    | _ => cases e
  | _ => cases e
theorem oLt : OpR X (compareOp .Lt) (rD X.w X.K .c dLt) := oimp op_lt fun x y H Q h => by
  obtain ⟨M, dx, dy, d, al, hx, hy, e, q⟩ := h
  cases dx with
  | int i => cases dy with
    | int j => cases e; exact ⟨i, j, hx, hy, q _ _ (Same.refl H) rfl⟩
    | _ => cases e
  | _ => cases e
theorem oLe : OpR X (compareOp .LtE) (rD X.w X.K .c dLe) := oimp op_le fun x y H Q h => by
  obtain ⟨M, dx, dy, d, al, hx, hy, e, q⟩ := h
  cases dx with
  | int i => cases dy with
    | int j => cases e; exact ⟨i, j, hx, hy, q _ _ (Same.refl H) rfl⟩
    | _ => cases e
  | _ => cases e
theorem oGt : OpR X (compareOp .Gt) (rD X.w X.K .c dGt) := oimp op_gt fun x y H Q h => by
  obtain ⟨M, dx, dy, d, al, hx, hy, e, q⟩ := h
  cases dx with
  | int i => cases dy with
    | int j => cases e; exact ⟨i, j, hx, hy, q _ _ (Same.refl H) rfl⟩
    | _ => cases e
  | _ => cases e
theorem oGe : OpR X (compareOp .GtE) (rD X.w X.K .c dGe) := oimp op_ge fun x y H Q h => by
  obtain ⟨M, dx, dy, d, al, hx, hy, e, q⟩ := h
  cases dx with
  | int i => cases dy with
    | int j => cases e; exact ⟨i, j, hx, hy, q _ _ (Same.refl H) rfl⟩
    | _ => cases e
  | _ => cases e
theorem oNeg : UnR X (unaryOp .USub) (uD X.w X.K .c dNeg) := uimp un_neg fun x H Q h => by
  obtain ⟨M, dx, d, al, hx, e, q⟩ := h
  cases dx with
  | int i => cases e; exact ⟨i, hx, q _ _ (Same.refl H) rfl⟩
  | _ => cases e
/-! ### + and * -/
theorem len24_ok {n : Nat} (h : len24 n = true) : n ≤ sizeLine := by rw [sizeLine_eq]; exact of_decide_eq_true h
theorem same_new {H : Hp} {p : Addr} {o : HO} (h : H p = none) : Same H (upd H p o) := fun b x e => by
  rw [upd_ne (ne_of_none e h)]
  exact e
theorem rd_lst {pins : List (Addr × Obj)} {σ : L2.St} {H : Hp} {s : Shared} {a : Addr} {xs : List V} (I : Inv X pins σ H s) (h : Rd H a (.lst xs)) : ∃ (its : List Value) (n : Nat), Vals xs its ∧ s.heap.get? a = some { cls := .type "list", data := .seq its.toArray n } ∧ xs.length ≤ sizeLine := by
  obtain ⟨z, its, n, r, e⟩ := h.ok I.hok
  exact ⟨its, n, r, e, z⟩
theorem addL : OpR X (binaryOp .Add) (fun x y H Q => ∃ l b xs zs, x = .ref l ∧ y = .ref b ∧ Rd H l (.lst xs) ∧ Rd H b (.lst zs) ∧ xs.length + zs.length ≤ sizeLine ∧ ∀ p, H p = none → Q (.ref p) (upd H p (.lst (xs ++ zs)))) := by
  intro pins s σ H x y v u Q I rx ry h
  obtain ⟨l, b, xs, zs, rfl, rfl, hH, hB, hz, q⟩ := h
  cases rx
  cases ry
  obtain ⟨its, n, r, e, z⟩ := rd_lst I hH
  obtain ⟨its2, n2, r2, e2, z2⟩ := rd_lst I hB
  have hl := r.length
  have hl2 := r2.length
  refine PySem.P.add_list e e2 ?_ (by rw [List.size_toArray, List.size_toArray]; omega)
  have ea : its.toArray ++ its2.toArray = (its ++ its2).toArray := by simp
  rw [ea]
  exact ⟨.ref _, _, I.lnew (t' := s.toks) (r.append r2) (by rw [List.length_append]; omega), rfl, q _ I.fresh⟩
theorem oAdd : OpR X (binaryOp .Add) (rD X.w X.K .f dAdd) := oimp (op_add.or (op_add_str.or (op_catA.or addL))) fun x y H Q h => by
  obtain ⟨M, dx, dy, d, al, hx, hy, e, q⟩ := h
  cases dx with
  | int i => cases dy with
    | int j => cases e; exact .inl ⟨i, j, hx, hy, q _ _ (Same.refl H) rfl⟩
    | _ => cases e
  | str i => cases dy with
    | str j =>
      simp only [dAdd] at e
      split at e
      · rename_i hc
        cases e
        exact .inr (.inl ⟨i, j, hx, hy, len24_ok hc, q _ _ (Same.refl H) rfl⟩)
      · cases e
    | _ => cases e
  | tuple i => cases dy with
    | tuple j =>
      simp only [dAdd] at e
      split at e
      · rename_i hc
        cases e
        obtain ⟨a, vs, e1, h1, h2⟩ := hx
        obtain ⟨b, us, e2, k1, k2⟩ := hy
        have g1 := h2.length
        have g2 := k2.length
        refine .inr (.inr (.inl ⟨a, b, vs, us, e1, e2, h1, k1, by have := len24_ok hc; omega, fun z => ?_, fun _ z => ?_, fun _ _ p hp => ?_⟩))
        · subst z
          have : i = [] := List.eq_nil_of_length_eq_zero g1.symm
          subst this
          exact q _ _ (Same.refl H) ⟨b, us, rfl, k1, k2⟩
        · subst z
          have : j = [] := List.eq_nil_of_length_eq_zero g2.symm
          subst this
          exact q _ _ (Same.refl H) ⟨a, vs, rfl, h1, by rw [List.append_nil]; exact h2⟩
        · have sm := same_new (o := .tup (vs ++ us)) hp
          exact q _ _ sm ⟨p, vs ++ us, rfl, SqT.of upd_same, (h2.append k2).same sm⟩
      · cases e
    | _ => cases e
  | list i => cases dy with
    | list j =>
      simp only [dAdd] at e
      split at e
      · rename_i hc
        cases e
        obtain ⟨a, vs, e1, h1, h2⟩ := hx
        obtain ⟨b, us, e2, k1, k2⟩ := hy
        have g1 := h2.length
        have g2 := k2.length
        refine .inr (.inr (.inr ⟨a, b, vs, us, e1, e2, .inl h1, .inl k1, by have := len24_ok hc; omega, fun p hp => ?_⟩))
        have sm := same_new (o := .lst (vs ++ us)) hp
        refine q _ _ sm ⟨p, vs ++ us, rfl, hp, upd_same, ?_⟩
        refine ((h2.append k2).ext (O := fun _ => False) (M' := fun x => M x ∨ x = p) (Ext.same sm) (fun _ z => z.elim) (fun a n m => ?_))
        rcases m with m | m
        · exact m
        · subst m; exact absurd hp n
      · cases e
    | _ => cases e
  | _ => cases e
end
end L3
/-! More operations on values. -/
namespace L3
open PySem PySem.Spec PyProof.Rows L2
section
variable {X : Cx}
theorem okD_of {a : D} (h : okD a = true) : a.plain = true ∧ a.depth ≤ 50 := by
  simp only [okD, Bool.and_eq_true, decide_eq_true_eq] at h
  exact h
theorem rlen {h : Heap} : ∀ {vs : List Value} {ds : List D} {as : List Addr}, ReadsAll h vs ds as → vs.length = ds.length
  | _, _, _, .nil => rfl
  | _, _, _, .cons _ t => by rw [List.length_cons, List.length_cons, rlen t]
theorem emp_inv {a b : D} (h : emp a b = true) : ∃ xs, a = .list xs ∧ b = .list [] := by
  cases a with
  | list xs =>
    cases b with
    | list ys =>
      cases ys with
      | nil => exact ⟨xs, rfl, rfl⟩
      | cons y r => cases h
    | _ => cases h
  | _ => cases h
theorem oEq (hu : X.A.units + 64 < cLine) : OpR X (compareOp .Eq) (rD X.w X.K .c dEq) := by
  intro pins s σ H x y v u Q I rx ry h
  obtain ⟨M, dx, dy, d, al, hx, hy, e, q⟩ := h
  simp only [dEq] at e
  split at e
  · rename_i hc
    cases e
    obtain ⟨as, r1, _⟩ := Rd1.reads I hx rx
    obtain ⟨bs, r2, _⟩ := Rd1.reads I hy ry
    have go : ∀ (a1 : okD dx = true) (a2 : okD dy = true), wpAny (model X.prog X.w) X.A (_ : Sem Value) (EP X pins σ Q) X.xe s := fun a1 a2 =>
      SeqAt.eq_plain r1 r2 (okD_of a1).1 (okD_of a2).1 (by have := (okD_of a1).2; omega) ⟨.bl _, H, I, rfl, q _ _ (Same.refl H) rfl⟩
    rw [Bool.or_eq_true, Bool.and_eq_true] at hc
    rcases hc with hc | hc
    · exact go hc.1 hc.2
    · obtain ⟨xs, rfl, rfl⟩ := emp_inv hc
      cases xs with
      | nil => exact go rfl rfl
      | cons x0 xr =>
        cases r1 with
        | list k1 k2 k3 k4 =>
          cases r2 with
          | list m1 m2 m3 m4 =>
            refine SeqAt.RcAt.lists_lengths ⟨_, k1, k2, _, k3⟩ ⟨_, m1, m2, _, m3⟩ ?_ (by omega) X.prog X.w _ _ ⟨.bl false, H, I, rfl, q _ _ (Same.refl H) rfl⟩
            have e1 := rlen k4
            have e2 := rlen m4
            simp at e1 e2
            simp [e1, e2]
  · cases e
theorem oNe (hu : X.A.units + 64 < cLine) : OpR X (compareOp .NotEq) (rD X.w X.K .c dNe) := by
  intro pins s σ H x y v u Q I rx ry h
  obtain ⟨M, dx, dy, d, al, hx, hy, e, q⟩ := h
  simp only [dNe] at e
  split at e
  · rename_i hc
    cases e
    obtain ⟨as, r1, _⟩ := Rd1.reads I hx rx
    obtain ⟨bs, r2, _⟩ := Rd1.reads I hy ry
    have go : ∀ (a1 : okD dx = true) (a2 : okD dy = true), wpAny (model X.prog X.w) X.A (_ : Sem Value) (EP X pins σ Q) X.xe s := fun a1 a2 =>
      SeqAt.ne_plain r1 r2 (okD_of a1).1 (okD_of a2).1 (by have := (okD_of a1).2; omega) ⟨.bl _, H, I, rfl, q _ _ (Same.refl H) rfl⟩
    rw [Bool.or_eq_true, Bool.and_eq_true] at hc
    rcases hc with hc | hc
    · exact go hc.1 hc.2
    · obtain ⟨xs, rfl, rfl⟩ := emp_inv hc
      cases xs with
      | nil => exact go rfl rfl
      | cons x0 xr =>
        cases r1 with
        | list k1 k2 k3 k4 =>
          cases r2 with
          | list m1 m2 m3 m4 =>
            refine SeqAt.RcNeAt.lists_lengths ⟨_, k1, k2, _, k3⟩ ⟨_, m1, m2, _, m3⟩ ?_ (by omega) X.prog X.w _ _ ⟨.bl true, H, I, rfl, q _ _ (Same.refl H) rfl⟩
            have e1 := rlen k4
            have e2 := rlen m4
            simp at e1 e2
            simp [e1, e2]
  · cases e
theorem oIn (hu : X.A.units + 64 < cLine) : OpR X (compareOp .In) (rD X.w X.K .c dIn) := by
  intro pins s σ H x y v u Q I rx ry h
  obtain ⟨M, dx, dy, d, al, hx, hy, e, q⟩ := h
  simp only [dIn] at e
  obtain ⟨as, r1, _⟩ := Rd1.reads I hx rx
  obtain ⟨bs, r2, _⟩ := Rd1.reads I hy ry
  cases dy with
  | list xs =>
    simp only [seqOf] at e
    split at e
    · rename_i hc
      cases e
      rw [Bool.and_eq_true, Bool.and_eq_true, decide_eq_true_eq] at hc
      obtain ⟨p1, z1⟩ := okD_of hc.1.1
      exact SeqAt.in_list_data r2 r1 hc.1.2 p1 (by have := hc.2; omega) ⟨.bl _, H, I, rfl, q _ _ (Same.refl H) rfl⟩
    · cases e
  | tuple xs =>
    simp only [seqOf] at e
    split at e
    · rename_i hc
      cases e
      rw [Bool.and_eq_true, Bool.and_eq_true, decide_eq_true_eq] at hc
      obtain ⟨p1, z1⟩ := okD_of hc.1.1
      exact SeqAt.in_tuple_data r2 r1 hc.1.2 p1 (by have := hc.2; omega) ⟨.bl _, H, I, rfl, q _ _ (Same.refl H) rfl⟩
    · cases e
  | _ => cases e
theorem oNotIn (hu : X.A.units + 64 < cLine) : OpR X (compareOp .NotIn) (rD X.w X.K .c dNotIn) := by
  intro pins s σ H x y v u Q I rx ry h
  obtain ⟨M, dx, dy, d, al, hx, hy, e, q⟩ := h
  simp only [dNotIn] at e
  obtain ⟨as, r1, _⟩ := Rd1.reads I hx rx
  obtain ⟨bs, r2, _⟩ := Rd1.reads I hy ry
  cases dy with
  | list xs =>
    simp only [seqOf] at e
    split at e
    · rename_i hc
      cases e
      rw [Bool.and_eq_true, Bool.and_eq_true, decide_eq_true_eq] at hc
      obtain ⟨p1, z1⟩ := okD_of hc.1.1
      exact SeqAt.notIn_list_data r2 r1 hc.1.2 p1 (by have := hc.2; omega) ⟨.bl _, H, I, rfl, q _ _ (Same.refl H) rfl⟩
    · cases e
  | tuple xs =>
    simp only [seqOf] at e
    split at e
    · rename_i hc
      cases e
      rw [Bool.and_eq_true, Bool.and_eq_true, decide_eq_true_eq] at hc
      obtain ⟨p1, z1⟩ := okD_of hc.1.1
      exact SeqAt.notIn_tuple_data r2 r1 hc.1.2 p1 (by have := hc.2; omega) ⟨.bl _, H, I, rfl, q _ _ (Same.refl H) rfl⟩
    · cases e
  | _ => cases e
theorem rd1_non {w : World} {K : PySem.W.Frag} {M : Addr → Prop} {H : Hp} {d : D} {v : V} (h : Rd1 w K M H d v) : decide (v = .non) = decide (d = .none) := by
  cases d with
  | none => rw [show v = .non from h]; simp
  | bool b => rw [show v = .bl b from h]; simp
  | int b => rw [show v = .int b from h]; simp
  | str b => rw [show v = .str b from h]; simp
  | tuple b => obtain ⟨a, _, e, _⟩ := h; rw [e]; simp
  | list b => obtain ⟨a, _, e, _⟩ := h; rw [e]; simp
  | dict b => obtain ⟨a, _, e, _⟩ := h; rw [e]; simp
/-- x is None -/
theorem oIsN : OpR X (compareOp .Is) (rD X.w X.K .c dIsN) := oimp op_isN fun x y H Q h => by
  obtain ⟨M, dx, dy, d, al, hx, hy, e, q⟩ := h
  cases dy with
  | none =>
    cases e
    exact ⟨hy, by rw [rd1_non hx]; exact q _ _ (Same.refl H) rfl⟩
  | _ => cases e
theorem oNotN : OpR X (compareOp .IsNot) (rD X.w X.K .c dNotN) := oimp op_notN fun x y H Q h => by
  obtain ⟨M, dx, dy, d, al, hx, hy, e, q⟩ := h
  cases dy with
  | none =>
    cases e
    exact ⟨hy, by rw [rd1_non hx]; exact q _ _ (Same.refl H) rfl⟩
  | _ => cases e
/-! ### items -/
theorem reps_atI {w : World} {K : PySem.W.Frag} {M : Addr → Prop} {H : Hp} {xs : List D} {vs : List V} {i : Int} {x : D} (h : Reps w K M H xs vs) (e : atI xs i = some x) : ∃ v, atI vs i = some v ∧ Rep w K M H x v := by
  unfold atI at e ⊢
  rw [h.length]
  cases q : ixN xs.length i with
  | none => rw [q] at e; cases e
  | some j =>
    rw [q] at e
    obtain ⟨u, e2, r⟩ := h.get (i := j) e
    exact ⟨u, e2, r⟩
theorem oIx : IxR X (rD X.w X.K .c dIx) := ximp ix_seq fun x y H Q h => by
  obtain ⟨M, dx, dy, d, al, hx, hy, e, q⟩ := h
  cases dy with
  | int i =>
    cases dx with
    | list xs =>
      obtain ⟨a, vs, e1, h1, h2⟩ := hx
      obtain ⟨v, e2, r⟩ := reps_atI h2 (show atI xs i = some d from e)
      exact .inl ⟨a, vs, i, v, e1, hy, SqL.of h1, e2, q _ _ (Same.refl H) r⟩
    | tuple xs =>
      obtain ⟨a, vs, e1, h1, h2⟩ := hx
      obtain ⟨v, e2, r⟩ := reps_atI h2 (show atI xs i = some d from e)
      exact .inr (.inl ⟨a, vs, i, v, e1, hy, h1, e2, q _ _ (Same.refl H) r⟩)
    | str z =>
      simp only [dIx] at e
      split at e
      · rename_i hc
        cases q' : atI z.cps.toList i with
        | none => rw [q'] at e; cases e
        | some c =>
          rw [q'] at e
          cases e
          exact .inr (.inr ⟨z, i, c, hx, hy, len24_ok hc, q', q _ _ (Same.refl H) rfl⟩)
      · cases e
    | _ => cases e
  | _ => cases dx <;> cases e
/-! ### built-ins -/
theorem cLen : CallR X (.builtin "len") (cD X.w X.K .c (l1 dLen)) := cimp call_len fun xs H Q h => by
  obtain ⟨M, ds, d, al, hx, e, q⟩ := h
  cases hx with
  | cons h1 h2 =>
    cases h2 with
    | cons _ _ => cases e
    | nil =>
      rename_i dx v
      cases dx with
      | str z =>
        simp only [l1, dLen] at e
        split at e
        · rename_i hc
          cases e
          exact ⟨v, z.length, rfl, by rw [show v = .str z from h1]; exact ⟨len24_ok hc, rfl⟩, q _ _ (Same.refl H) rfl⟩
        · cases e
      | list xs =>
        cases e
        obtain ⟨a, vs, e1, k1, k2⟩ := h1
        exact ⟨v, xs.length, rfl, by rw [e1]; exact .inl ⟨vs, SqL.of k1, k2.length.symm⟩, q _ _ (Same.refl H) rfl⟩
      | tuple xs =>
        cases e
        obtain ⟨a, vs, e1, k1, k2⟩ := h1
        exact ⟨v, xs.length, rfl, by rw [e1]; exact .inr ⟨vs, k1, k2.length.symm⟩, q _ _ (Same.refl H) rfl⟩
      | _ => cases e
  | nil => cases e
theorem cD1 {w : World} {K : PySem.W.Frag} {k : Kind} {f : D → Option D} {xs : List V} {H : Hp} {Q : VK} (h : cD w K k (l1 f) xs H Q) : ∃ M dx v d, xs = [v] ∧ (∀ a, M a → H a ≠ none) ∧ Rd1 w K M H dx v ∧ f dx = some d ∧ ∀ v H', Same H H' → Res w K k M H H' d v → Q v H' := by
  obtain ⟨M, ds, d, al, hx, e, q⟩ := h
  cases hx with
  | cons h1 h2 =>
    cases h2 with
    | cons _ _ => cases e
    | nil => exact ⟨M, _, _, d, rfl, al, h1, e, q⟩
  | nil => cases e
theorem cD2 {w : World} {K : PySem.W.Frag} {k : Kind} {f : D → D → Option D} {xs : List V} {H : Hp} {Q : VK} (h : cD w K k (l2 f) xs H Q) : ∃ M dx dy v u d, xs = [v, u] ∧ (∀ a, M a → H a ≠ none) ∧ Rd1 w K M H dx v ∧ Rd1 w K M H dy u ∧ f dx dy = some d ∧ ∀ v H', Same H H' → Res w K k M H H' d v → Q v H' := by
  obtain ⟨M, ds, d, al, hx, e, q⟩ := h
  cases hx with
  | cons h1 h2 =>
    cases h2 with
    | cons h3 h4 =>
      cases h4 with
      | cons _ _ => cases e
      | nil => exact ⟨M, _, _, _, _, d, rfl, al, h1, h3, e, q⟩
    | nil => cases e
  | nil => cases e
theorem cAbs : CallR X (.builtin "abs") (cD X.w X.K .c (l1 dAbs)) := cimp call_abs fun xs H Q h => by
  obtain ⟨M, dx, v, d, rfl, al, hx, e, q⟩ := cD1 h
  cases dx with
  | int i => cases e; exact ⟨i, by rw [show v = .int i from hx], q _ _ (Same.refl H) rfl⟩
  | _ => cases e
theorem cInt : CallR X (.type "int") (cD X.w X.K .c (l1 dInt)) := cimp call_int1 fun xs H Q h => by
  obtain ⟨M, dx, v, d, rfl, al, hx, e, q⟩ := cD1 h
  cases dx with
  | int i => cases e; exact .inl ⟨i, by rw [show v = .int i from hx], q _ _ (Same.refl H) rfl⟩
  | bool b => cases e; exact .inr ⟨b, by rw [show v = .bl b from hx], q _ _ (Same.refl H) rfl⟩
  | _ => cases e
theorem cMax2 (hc : X.calm = true) : CallR X (.builtin "max") (cD X.w X.K .c (l2 dMax2)) := cimp (call_max2 hc) fun xs H Q h => by
  obtain ⟨M, dx, dy, v, u, d, rfl, al, hx, hy, e, q⟩ := cD2 h
  cases dx with
  | int i => cases dy with
    | int j => cases e; exact ⟨i, j, by rw [show v = .int i from hx, show u = .int j from hy], q _ _ (Same.refl H) rfl⟩
    | _ => cases e
  | _ => cases e
theorem cMin2 (hc : X.calm = true) : CallR X (.builtin "min") (cD X.w X.K .c (l2 dMin2)) := cimp (call_min2 hc) fun xs H Q h => by
  obtain ⟨M, dx, dy, v, u, d, rfl, al, hx, hy, e, q⟩ := cD2 h
  cases dx with
  | int i => cases dy with
    | int j => cases e; exact ⟨i, j, by rw [show v = .int i from hx, show u = .int j from hy], q _ _ (Same.refl H) rfl⟩
    | _ => cases e
  | _ => cases e
theorem fresh_weak {w : World} {K : PySem.W.Frag} {M : Addr → Prop} {H : Hp} {p : Addr} {o : HO} {xs : List D} {vs : List V} (hp : H p = none) (h : Reps w K M H xs vs) : Reps w K (fun x => M x ∨ x = p) (upd H p o) xs vs :=
  h.ext (O := fun _ => False) (Ext.same (same_new hp)) (fun _ z => z.elim) fun a n m => by
    rcases m with m | m
    · exact m
    · subst m; exact absurd hp n
theorem cTuple : CallR X (.type "tuple") (cD X.w X.K .c (l1 dTuple)) := cimp call_tuple_of fun xs H Q h => by
  obtain ⟨M, dx, v, d, rfl, al, hx, e, q⟩ := cD1 h
  cases dx with
  | list ys =>
    cases e
    obtain ⟨a, vs, e1, k1, k2⟩ := hx
    subst e1
    exact ⟨a, vs, rfl, .inl ⟨SqL.of k1, fun l hl => q _ _ (same_new hl) ⟨l, vs, rfl, SqT.of upd_same, k2.same (same_new hl)⟩⟩⟩
  | tuple ys =>
    cases e
    obtain ⟨a, vs, e1, k1, k2⟩ := hx
    subst e1
    exact ⟨a, vs, rfl, .inr ⟨k1, q _ _ (Same.refl H) ⟨a, vs, rfl, k1, k2⟩⟩⟩
  | _ => cases e
theorem cList : CallR X (.type "list") (cD X.w X.K .f (l1 dList)) := cimp call_list_of fun xs H Q h => by
  obtain ⟨M, dx, v, d, rfl, al, hx, e, q⟩ := cD1 h
  cases dx with
  | list ys =>
    cases e
    obtain ⟨a, vs, e1, k1, k2⟩ := hx
    subst e1
    exact ⟨a, vs, rfl, .inl (SqL.of k1), fun l hl => q _ _ (same_new hl) ⟨l, vs, rfl, hl, upd_same, fresh_weak hl k2⟩⟩
  | tuple ys =>
    cases e
    obtain ⟨a, vs, e1, k1, k2⟩ := hx
    subst e1
    exact ⟨a, vs, rfl, .inr k1, fun l hl => q _ _ (same_new hl) ⟨l, vs, rfl, hl, upd_same, fresh_weak hl k2⟩⟩
  | _ => cases e
theorem inv_kept {pins : List (Addr × Obj)} {σ : L2.St} {H : Hp} {s : Shared} (I : Inv X pins σ H s) {h' : Heap} {tk : Nat} (k : ∀ b o, s.heap.get? b = some o → h'.get? b = some o) : Inv X pins σ H { s with heap := h', toks := tk } := I.kept k
/-- repr -/
theorem cRepr (hu : X.A.units + 64 < cLine) (hg : X.A.guards = some []) : CallR X (.builtin "repr") (cD X.w X.K .c (l1 dRepr)) := by
  intro pins s σ H xs us Q I rs h
  obtain ⟨M, dx, v, d, rfl, al, hx, e, q⟩ := cD1 h
  obtain ⟨u, rfl, ru⟩ := vals1 rs
  obtain ⟨as, r, na⟩ := Rd1.reads I hx ru
  simp only [dRepr] at e
  split at e
  · rename_i hc
    cases e
    simp only [Bool.and_eq_true, decide_eq_true_eq, Bool.or_eq_true, Bool.not_eq_true'] at hc
    obtain ⟨⟨⟨h1, h2⟩, h3⟩, h4⟩ := hc
    have h4 := len24_ok h4
    have fin : ∀ (h' : Heap) (t : Tok) (tk : Nat), (∀ b o, s.heap.get? b = some o → h'.get? b = some o) → EP X pins σ Q (.str dx.shown t) { s with heap := h', toks := tk } :=
      fun h' t tk k => ⟨.str dx.shown, H, inv_kept I k, ⟨_, rfl⟩, q _ _ (Same.refl H) rfl⟩
    have ref : ∀ a, u = .ref a → wpAny (model X.prog X.w) X.A (call (.builtin "repr") [u]) (EP X pins σ Q) X.xe s := fun a e => by
      subst e
      refine repr_of_reads' r h1 (fun hd => na ?_) hg (by omega) (fun _ _ z => z) (fun h' t tk k => fin h' t tk k) h4
      rcases h3 with z | z
      · rw [z] at hd; cases hd
      · exact z
    cases dx with
    | tuple ys => obtain ⟨a, vs, e1, _⟩ := hx; subst e1; cases ru; exact ref _ rfl
    | list ys => obtain ⟨a, vs, e1, _⟩ := hx; subst e1; cases ru; exact ref _ rfl
    | dict ys => obtain ⟨a, vs, e1, _⟩ := hx; subst e1; cases ru; exact ref _ rfl
    | none =>
      rw [show v = .non from hx] at ru; cases ru
      exact call_repr_gives rfl F.slot_NoneType_repr F.entry_NoneType_repr (F.args_NoneType_repr_1 _) gives_none_repr (fin s.heap _ _ fun _ _ z => z) rfl h4
    | bool b =>
      rw [show v = .bl b from hx] at ru; cases ru
      exact call_repr_gives rfl F.slot_bool_repr F.entry_bool_repr (F.args_bool_repr_1 _) (gives_bool_repr b) (fin s.heap _ _ fun _ _ z => z) rfl h4
    | int i =>
      rw [show v = .int i from hx] at ru; obtain ⟨t, rfl⟩ := ru
      exact PySem.P.repr_of_int (of_decide_eq_true h1) (fin s.heap _ _ fun _ _ z => z)
    | str z =>
      rw [show v = .str z from hx] at ru; obtain ⟨t, rfl⟩ := ru
      exact call_repr_gives (typeIs_str s z t) F.slot_str_repr F.entry_str_repr (F.args_str_repr_1 _) (gives_str_repr z t) (fin s.heap _ _ fun _ _ z => z) rfl h4
  · cases e
/-! ### all, any -/
theorem small1_ok : ∀ {xs : List D}, xs.all small1 = true → PyData.plainAll xs = true ∧ ∀ x ∈ xs, x.fits63
  | [], _ => ⟨rfl, fun _ h => nomatch h⟩
  | x :: xs, h => by
    rw [List.all_cons, Bool.and_eq_true] at h
    obtain ⟨h1, h2⟩ := small1_ok h.2
    refine ⟨?_, fun y hy => ?_⟩
    · rw [PyData.plainAll, h1, Bool.and_true]
      cases x <;> first | rfl | exact absurd h.1 (by simp [small1])
    · rcases List.mem_cons.mp hy with e | hy
      · subst e
        cases y <;> first | trivial | exact absurd h.1 (by simp [small1])
      · exact h2 y hy
theorem cAll (hc : X.calm = true) : CallR X (.builtin "all") (cD X.w X.K .c (l1 dAll)) := by
  intro pins s σ H xs us Q I rs h
  obtain ⟨M, dx, v, d, rfl, al, hx, e, q⟩ := cD1 h
  obtain ⟨u, rfl, ru⟩ := vals1 rs
  obtain ⟨as, r, na⟩ := Rd1.reads I hx ru
  have hh := I.ok.hd hc
  cases dx with
  | list ys =>
    simp only [dAll, seqOf] at e
    split at e
    · rename_i hs
      cases e
      obtain ⟨p1, p2⟩ := small1_ok hs
      cases r with
      | list h1 h2 h3 h4 =>
        refine W.all_list_data hh ⟨_, h1, h2, _, h3⟩ h4 p1 p2 fun h' tk k => ?_
        exact ⟨.bl _, H, inv_kept I k, rfl, q _ _ (Same.refl H) rfl⟩
    · cases e
  | tuple ys =>
    simp only [dAll, seqOf] at e
    split at e
    · rename_i hs
      cases e
      obtain ⟨p1, p2⟩ := small1_ok hs
      cases r with
      | tuple h1 h2 h3 h4 =>
        refine W.all_tuple_data hh ⟨_, h1, h2, _, h3⟩ h4 p1 p2 fun h' tk k => ?_
        exact ⟨.bl _, H, inv_kept I k, rfl, q _ _ (Same.refl H) rfl⟩
    · cases e
  | _ => cases e
theorem cAny (hc : X.calm = true) : CallR X (.builtin "any") (cD X.w X.K .c (l1 dAny)) := by
  intro pins s σ H xs us Q I rs h
  obtain ⟨M, dx, v, d, rfl, al, hx, e, q⟩ := cD1 h
  obtain ⟨u, rfl, ru⟩ := vals1 rs
  obtain ⟨as, r, na⟩ := Rd1.reads I hx ru
  have hh := I.ok.hd hc
  cases dx with
  | list ys =>
    simp only [dAny, seqOf] at e
    split at e
    · rename_i hs
      cases e
      obtain ⟨p1, p2⟩ := small1_ok hs
      cases r with
      | list h1 h2 h3 h4 =>
        refine W.any_list_data hh ⟨_, h1, h2, _, h3⟩ h4 p1 p2 fun h' tk k => ?_
        exact ⟨.bl _, H, inv_kept I k, rfl, q _ _ (Same.refl H) rfl⟩
    · cases e
  | tuple ys =>
    simp only [dAny, seqOf] at e
    split at e
    · rename_i hs
      cases e
      obtain ⟨p1, p2⟩ := small1_ok hs
      cases r with
      | tuple h1 h2 h3 h4 =>
        refine W.any_tuple_data hh ⟨_, h1, h2, _, h3⟩ h4 p1 p2 fun h' tk k => ?_
        exact ⟨.bl _, H, inv_kept I k, rfl, q _ _ (Same.refl H) rfl⟩
    · cases e
  | _ => cases e
/-! ### isinstance of a built-in class -/
def rIs (w : World) (K : PySem.W.Frag) (T : String) (f : D → Bool) : List V → Hp → VK → Prop := fun xs H Q => ∃ M dx v, xs = [v, .ty T] ∧ Rd1 w K M H dx v ∧ Q (.bl (f dx)) H
theorem isCall {T : String} {f : D → Bool} (h : ∀ {prog : Program} {w : World} {A : Around} {E : Value → Shared → Prop} {s : Shared} {v : Value} {d : D} {as : List Addr} {Q : Value → Shared → Prop}, Reads s.heap v d as →
      (∀ tk, s.toks ≤ tk → Q (.bool (f d)) { s with toks := tk }) → wpAny (model prog w) A (call (.builtin "isinstance") [v, .type T]) Q E s) :
    CallR X (.builtin "isinstance") (rIs X.w X.K T f) := by
  intro pins s σ H xs us Q I rs ⟨M, dx, v, e, hx, q⟩
  subst e
  obtain ⟨u, t, rfl, ru, rt⟩ := vals2 rs
  cases rt
  obtain ⟨as, r, na⟩ := Rd1.reads I hx ru
  exact h r fun tk _ => ⟨.bl _, H, inv_kept (h' := s.heap) I (fun _ _ z => z), rfl, q⟩
theorem cIsInt : CallR X (.builtin "isinstance") (rIs X.w X.K "int" PyData.isInt) := isCall fun r h => W.isinstance_int_data r h
theorem cIsBool : CallR X (.builtin "isinstance") (rIs X.w X.K "bool" PyData.isBool) := isCall fun r h => W.isinstance_bool_data r h
theorem cIsStr : CallR X (.builtin "isinstance") (rIs X.w X.K "str" PyData.isStr) := isCall fun r h => W.isinstance_str_data r h
theorem cIsTuple : CallR X (.builtin "isinstance") (rIs X.w X.K "tuple" PyData.isTuple) := isCall fun r h => W.isinstance_tuple_data r h
theorem cIsList : CallR X (.builtin "isinstance") (rIs X.w X.K "list" PyData.isList) := isCall fun r h => W.isinstance_list_data r h
theorem cIsDict : CallR X (.builtin "isinstance") (rIs X.w X.K "dict" PyData.isDict) := isCall fun r h => W.isinstance_dict_data r h
end
end L3
/-! Expressions and tests that change nothing. -/
namespace L3
open PySem PySem.Spec PyProof.Rows L2
def Kind.le : Kind → Kind → Bool
  | .r, _ => true
  | .c, .r => false
  | .c, _ => true
  | .f, .f => true
  | .f, _ => false
section
variable {w : World} {K : PySem.W.Frag} {M : Addr → Prop} {H H' H1 : Hp} {d : D} {v : V}
theorem Res.down {k k0 : Kind} (h : Res w K k0 M H H' d v) (al : ∀ a, M a → H a ≠ none) (hk : Kind.le k k0 = true) : Res w K k M H H' d v := by
  cases k with
  | r => exact Res.rd1 h al
  | c =>
    cases k0 with
    | r => cases hk
    | c => exact h
    | f => exact New1.rep h al
  | f =>
    cases k0 with
    | f => exact h
    | _ => cases hk
theorem Res.back {k : Kind} (s : Same H H1) (h : Res w K k M H1 H' d v) : Res w K k M H H' d v := by
  cases k with
  | r => exact h
  | c => exact h
  | f =>
    cases d with
    | list xs => obtain ⟨a, vs, e, n, h1, h2⟩ := h; exact ⟨a, vs, e, s.free n, h1, h2⟩
    | dict xs => obtain ⟨a, vs, e, n, h1, h2⟩ := h; exact ⟨a, vs, e, s.free n, h1, h2⟩
    | none => exact h
    | bool b => exact h
    | int b => exact h
    | str b => exact h
    | tuple b => exact h
/-- a value without a heap -/
theorem Res.flat {k : Kind} (h : match d with | .none | .bool _ | .int _ | .str _ => Rep w K M H' d v | _ => False) : Res w K k M H H' d v := by
  cases d <;> first | (exact h.elim) | (cases k <;> exact h)
theorem Rel.al {B : Addr → Prop} {ρ : Env} {σ : L2.St} {A : Nat → List Addr} (R : Rel w K B ρ σ A H) : ∀ a, mu B A a → H a ≠ none := R.alive
end
/-- the reading of an expression that changes nothing -/
def RE (w : World) (K : PySem.W.Frag) (k : Kind) (p : P) : L2.TE := fun σ H Q => ∃ B ρ A d, Rel w K B ρ σ A H ∧ p ρ = some d ∧ ∀ v H', Same H H' → Res w K k (mu B A) H H' d v → Q v H'
abbrev JP (X : Cx) (k : Kind) (e : Expr) (p : P) : Prop := PE X e (RE X.w X.K k p)
def RT (w : World) (K : PySem.W.Frag) (t : T) : TT := fun σ H Q => ∃ B ρ A b, Rel w K B ρ σ A H ∧ t ρ = some b ∧ ∀ H', Same H H' → Q b H'
abbrev JT (X : Cx) (e : Expr) (t : T) : Prop := PT X e (RT X.w X.K t)
/-- .. as an item: a list in place, or one of its own standing -/
def Itm (w : World) (K : PySem.W.Frag) (k : Kind) (M : Addr → Prop) (H : Hp) (d : D) (v : V) : Prop :=
  match k with
  | .r => Rd1 w K M H d v
  | _ => Rep w K M H d v
def RA (w : World) (K : PySem.W.Frag) (k : Kind) (ps : List P) : L2.TA := fun σ H Q => ∃ B ρ A ds, Rel w K B ρ σ A H ∧ evs ps ρ = some ds ∧ ∀ vs H', Same H H' → Paired (Itm w K k (mu B A) H') ds vs → Q vs H'
abbrev JA (X : Cx) (k : Kind) (es : List Expr) (ps : List P) : Prop := PA X es (RA X.w X.K k ps)
section
variable {X : Cx}
theorem peimp {e : Expr} {t t' : L2.TE} (h : PE X e t) (i : ∀ σ H Q, t' σ H Q → t σ H Q) : PE X e t' := ⟨fun pins s σ H Q I q => h.run pins s σ H Q I (i _ _ _ q)⟩
theorem ptimp {e : Expr} {t t' : TT} (h : PT X e t) (i : ∀ σ H Q, t' σ H Q → t σ H Q) : PT X e t' := ⟨fun pins s σ H Q I q => h.run pins s σ H Q I (i _ _ _ q)⟩
theorem pwimp {e : Expr} {t t' : TT} (h : PW X e t) (i : ∀ σ H Q, t' σ H Q → t σ H Q) : PW X e t' := ⟨fun wh pins s σ H Q I q => h.run wh pins s σ H Q I (i _ _ _ q)⟩
theorem paimp {e : List Expr} {t t' : L2.TA} (h : PA X e t) (i : ∀ σ H Q, t' σ H Q → t σ H Q) : PA X e t' := ⟨fun pos pins s σ H Q I q => h.run pos pins s σ H Q I (i _ _ _ q)⟩
theorem psimp {e : Stmt} {t t' : TS} (h : PS X e t) (i : ∀ D σ H, t' D σ H → t D σ H) : PS X e t' := ⟨fun pins s σ H D I q => h.run pins s σ H D I (i _ _ _ q)⟩
theorem pssimp {e : List Stmt} {t t' : TS} (h : PSs X e t) (i : ∀ D σ H, t' D σ H → t D σ H) : PSs X e t' := ⟨fun pins s σ H D I q => h.run pins s σ H D I (i _ _ _ q)⟩
/-! ### names and constants -/
theorem jVar {k : Kind} (i : Nat) {x : Str} {pos : Pos} (hN : X.N[i]? = some x := by rfl) (hv : Vis X.env.scope x := by first | exact Or.inl rfl | exact Or.inr (Or.inl rfl) | exact Or.inr (Or.inr rfl)) (hd : (x == ("__debug__" : Str)) = false := by decide)
    (hcd : (x == ("__classdict__" : Str)) = false := by decide) (hk : Kind.le k .c = true := by rfl) : JP X k (.Name x pos) (pVar i) := peimp (pv i hN hv hd hcd) fun σ H Q h => by
  obtain ⟨B, ρ, A, d, R, e, q⟩ := h
  unfold pVar at e
  cases c : ρ[i]? with
  | none => rw [c] at e; cases e
  | some c' =>
    rw [c] at e
    cases c' with
    | val d' =>
      cases e
      obtain ⟨_, v, ev, r⟩ := R.cell i _ c
      refine ⟨v, ?_, q _ _ (Same.refl H) (Res.down (k0 := .c) r R.al hk)⟩
      cases z : σ[i]? with
      | none => rw [z] at ev; cases ev
      | some y => rw [z] at ev; exact congrArg some ev
    | _ => cases e
theorem jOwn (i : Nat) {x : Str} {pos : Pos} (hN : X.N[i]? = some x := by rfl) (hv : Vis X.env.scope x := by first | exact Or.inl rfl | exact Or.inr (Or.inl rfl) | exact Or.inr (Or.inr rfl)) (hd : (x == ("__debug__" : Str)) = false := by decide)
    (hcd : (x == ("__classdict__" : Str)) = false := by decide) : JP X .r (.Name x pos) (pOwn i) := peimp (pv i hN hv hd hcd) fun σ H Q h => by
  obtain ⟨B, ρ, A, d, R, e, q⟩ := h
  unfold pOwn at e
  cases c : ρ[i]? with
  | none => rw [c] at e; cases e
  | some c' =>
    rw [c] at e
    cases c' with
    | own fx o =>
      obtain ⟨v, ev, r⟩ := R.cell i _ c
      have hs : σ[i]? = some (some v) := by
        cases z : σ[i]? with
        | none => rw [z] at ev; cases ev
        | some y => rw [z] at ev; exact congrArg some ev
      cases o with
      | lst xs =>
        cases e
        obtain ⟨a, vs, e1, _, h1, h2⟩ := r
        exact ⟨v, hs, q _ _ (Same.refl H) ⟨a, vs, e1, h1, h2⟩⟩
      | dic xs =>
        cases e
        obtain ⟨a, vs, e1, _, h1, h2, h3⟩ := r
        exact ⟨v, hs, q _ _ (Same.refl H) ⟨a, vs, e1, h1, h2, h3⟩⟩
      | src s => cases e
      | lsts s => cases e
    | val d' =>
      cases e
      obtain ⟨_, v, ev, r⟩ := R.cell i _ c
      refine ⟨v, ?_, q _ _ (Same.refl H) (Rep.rd1 r)⟩
      cases z : σ[i]? with
      | none => rw [z] at ev; cases ev
      | some y => rw [z] at ev; exact congrArg some ev
    | _ => cases e
theorem jC {k : Kind} {e : Expr} {d : D} {v : V} (h : PE X e (tC v)) (hr : match d with | .none => v = .non | .bool b => v = .bl b | .int i => v = .int i | .str s => v = .str s | _ => False) : JP X k e (pC d) := peimp h fun σ H Q h => by
  obtain ⟨B, ρ, A, d', R, e, q⟩ := h
  cases e
  exact q _ _ (Same.refl H) (Res.flat (by cases d <;> first | exact hr | exact hr.elim))
theorem jInt {k : Kind} {i j pos} : JP X k (.Constant (.int i) j pos) (pC (.int i)) := jC pe_int rfl
theorem jBl {k : Kind} {b j pos} : JP X k (.Constant (.bool b) j pos) (pC (.bool b)) := jC pe_bl rfl
theorem jNon {k : Kind} {j pos} : JP X k (.Constant .none j pos) (pC .none) := jC pe_non rfl
theorem jStr {k : Kind} {x j pos} : JP X k (.Constant (.str x) j pos) (pC (.str x)) := jC pe_str rfl
/-! ### operations -/
theorem p2_inv {f : D → D → Option D} {a b : P} {ρ : Env} {d : D} (h : p2 f a b ρ = some d) : ∃ x y, a ρ = some x ∧ b ρ = some y ∧ f x y = some d := by
  unfold p2 at h
  cases e : a ρ with
  | none => rw [e] at h; cases h
  | some x =>
    cases e2 : b ρ with
    | none => rw [e, e2] at h; cases h
    | some y => rw [e, e2] at h; exact ⟨x, y, rfl, rfl, h⟩
theorem p1_inv {f : D → Option D} {a : P} {ρ : Env} {d : D} (h : p1 f a ρ = some d) : ∃ x, a ρ = some x ∧ f x = some d := by
  unfold p1 at h
  cases e : a ρ with
  | none => rw [e] at h; cases h
  | some x => rw [e] at h; exact ⟨x, rfl, h⟩
theorem rOp {k k0 : Kind} {op : D → D → Option D} {pa pb : P} {σ : L2.St} {H : Hp} {Q : VK} {w : World} {K : PySem.W.Frag} (hk : Kind.le k k0 = true) (h : RE w K k (p2 op pa pb) σ H Q) : tOp (rD w K k0 op) (RE w K .r pa) (RE w K .r pb) σ H Q := by
  obtain ⟨B, ρ, A, d, R, e, q⟩ := h
  obtain ⟨x, y, ea, eb, ef⟩ := p2_inv e
  refine ⟨B, ρ, A, x, R, ea, fun v H1 s1 r1 => ⟨B, ρ, A, y, R.same s1, eb, fun u H2 s2 r2 => ?_⟩⟩
  have R2 := (R.same s1).same s2
  exact ⟨mu B A, x, y, d, R2.al, Rd1.same s2 r1, r2, ef, fun z H' s' rz => q z H' ((s1.trans s2).trans s') (Res.back (s1.trans s2) (Res.down rz R2.al hk))⟩
theorem j2 {k k0 : Kind} {op : Operator} {f : D → D → Option D} {a b : Expr} {pa pb : P} {pos : Pos} (ho : OpR X (binaryOp op) (rD X.w X.K k0 f)) (ha : JP X .r a pa) (hb : JP X .r b pb) (hk : Kind.le k k0 = true := by rfl) :
    JP X k (.BinOp a op b pos) (p2 f pa pb) := peimp (pe_op ho ha hb) fun σ H Q h => rOp hk h
theorem jCmp {k k0 : Kind} {op : CmpOp} {f : D → D → Option D} {a b : Expr} {pa pb : P} {pos : Pos} (ho : OpR X (compareOp op) (rD X.w X.K k0 f)) (ha : JP X .r a pa) (hb : JP X .r b pb) (hm : behindInMarks op b = false := by first | exact nomark _ | rfl) (hk : Kind.le k k0 = true := by rfl) :
    JP X k (.Compare a [op] [b] pos) (p2 f pa pb) := peimp (pe_cmpR ho ha hb hm) fun σ H Q h => rOp hk h
theorem jNeg {k k0 : Kind} {op : UnaryOp} {f : D → Option D} {a : Expr} {pa : P} {pos : Pos} (ho : UnR X (unaryOp op) (uD X.w X.K k0 f)) (ha : JP X .r a pa) (hk : Kind.le k k0 = true := by rfl) :
    JP X k (.UnaryOp op a pos) (p1 f pa) := peimp (pe_un ho ha) fun σ H Q h => by
  obtain ⟨B, ρ, A, d, R, e, q⟩ := h
  obtain ⟨x, ea, ef⟩ := p1_inv e
  refine ⟨B, ρ, A, x, R, ea, fun v H1 s1 r1 => ?_⟩
  exact ⟨mu B A, x, d, (R.same s1).al, r1, ef, fun z H' s' rz => q z H' (s1.trans s') (Res.back s1 (Res.down rz (R.same s1).al hk))⟩
theorem jIx {k : Kind} {a b : Expr} {pa pb : P} {pos : Pos} (ha : JP X .r a pa) (hb : JP X .r b pb) (hs : PlainIx b := by exact fun _ _ => rfl) (hk : Kind.le k .c = true := by rfl) : JP X k (.Subscript a b pos) (p2 dIx pa pb) :=
  peimp (pe_ix oIx ha hb hs) fun σ H Q h => rOp hk h
/-! ### arguments, displays -/
theorem evs_cons {a : P} {r : List P} {ρ : Env} {ds : List D} (h : evs (a :: r) ρ = some ds) : ∃ x xs, ds = x :: xs ∧ a ρ = some x ∧ evs r ρ = some xs := by
  rw [evs] at h
  cases e : a ρ with
  | none => rw [e] at h; cases h
  | some x =>
    cases e2 : evs r ρ with
    | none => rw [e, e2] at h; cases h
    | some xs => rw [e, e2] at h; cases h; exact ⟨x, xs, rfl, rfl, rfl⟩
theorem Itm.same {w : World} {K : PySem.W.Frag} {k : Kind} {M : Addr → Prop} {H H' : Hp} {d : D} {v : V} (s : Same H H') (h : Itm w K k M H d v) : Itm w K k M H' d v := by
  cases k with
  | r => exact Rd1.same s h
  | c => exact Rep.same s h
  | f => exact Rep.same s h
theorem Itm.of {w : World} {K : PySem.W.Frag} {k : Kind} {M : Addr → Prop} {H H' : Hp} {d : D} {v : V} (al : ∀ a, M a → H a ≠ none) (h : Res w K k M H H' d v) : Itm w K k M H' d v := by
  cases k with
  | r => exact h
  | c => exact h
  | f => exact New1.rep h al
theorem jaNil {k : Kind} : JA X k [] [] := paimp pa_nil fun σ H Q h => by
  obtain ⟨B, ρ, A, ds, R, e, q⟩ := h
  cases e
  exact q _ _ (Same.refl H) .nil
theorem jaCons {k : Kind} {e : Expr} {es : List Expr} {p : P} {ps : List P} (ha : JP X k e p) (hr : JA X k es ps) (hs : starEach (e :: es) X.env = (false, eval e X.env) :: starEach es X.env := by rfl) : JA X k (e :: es) (p :: ps) := paimp (pa_cons ha hr hs) fun σ H Q h => by
  obtain ⟨B, ρ, A, ds, R, e, q⟩ := h
  obtain ⟨x, xs, rfl, e1, e2⟩ := evs_cons e
  refine ⟨B, ρ, A, x, R, e1, fun v H1 s1 r1 => ⟨B, ρ, A, xs, R.same s1, e2, fun vs H2 s2 r2 => ?_⟩⟩
  exact q _ _ (s1.trans s2) (.cons ((Itm.of R.al r1).same s2) r2)
theorem pN_inv {f : List D → Option D} {as : List P} {ρ : Env} {d : D} (h : pN f as ρ = some d) : ∃ xs, evs as ρ = some xs ∧ f xs = some d := by
  unfold pN at h
  cases e : evs as ρ with
  | none => rw [e] at h; cases h
  | some xs => rw [e] at h; exact ⟨xs, rfl, h⟩
theorem reps_of {w : World} {K : PySem.W.Frag} {M : Addr → Prop} {H : Hp} : ∀ {ds : List D} {vs : List V}, Paired (Rep w K M H) ds vs → Reps w K M H ds vs
  | _, _, .nil => rfl
  | _, _, .cons r t => ⟨_, _, rfl, r, reps_of t⟩
theorem paired_len {α β : Type} {F : α → β → Prop} : ∀ {l : List α} {m : List β}, Paired F l m → l.length = m.length
  | _, _, .nil => rfl
  | _, _, .cons _ t => by rw [List.length_cons, List.length_cons, paired_len t]
theorem jTup {k : Kind} {es : List Expr} {ps : List P} {x1 pos} (h : JA X .c es ps) (hk : Kind.le k .c = true := by rfl) : JP X k (.Tuple es x1 pos) (pN dTup ps) := peimp (pe_tup h) fun σ H Q h => by
  obtain ⟨B, ρ, A, d, R, e, q⟩ := h
  obtain ⟨xs, e1, e2⟩ := pN_inv e
  unfold dTup at e2
  split at e2
  · rename_i hl
    cases e2
    refine ⟨B, ρ, A, xs, R, e1, fun vs H1 s1 r1 => ⟨?_, fun p hp => ?_⟩⟩
    · rw [← paired_len r1]; exact len24_ok hl
    · have r2 := reps_of (M := mu B A) r1
      exact q _ _ (s1.trans (same_new hp)) (Res.down (k0 := .c) ⟨p, vs, rfl, SqT.of upd_same, r2.same (same_new hp)⟩ R.al hk)
  · cases e2
theorem jLst {k : Kind} {es : List Expr} {ps : List P} {pos} (h : JA X .c es ps) : JP X k (.List es pos) (pN dLst ps) := peimp (pe_lst h) fun σ H Q h => by
  obtain ⟨B, ρ, A, d, R, e, q⟩ := h
  obtain ⟨xs, e1, e2⟩ := pN_inv e
  unfold dLst at e2
  split at e2
  · rename_i hl
    cases e2
    refine ⟨B, ρ, A, xs, R, e1, fun vs H1 s1 r1 => ⟨?_, fun p hp => ?_⟩⟩
    · rw [← paired_len r1]; exact len24_ok hl
    · have r2 := reps_of (M := mu B A) r1
      exact q _ _ (s1.trans (same_new hp)) (Res.down (k0 := .f) ⟨p, vs, rfl, s1.free hp, upd_same, fresh_weak hp r2⟩ R.al (by cases k <;> rfl))
  · cases e2
/-! ### built-ins -/
theorem rCB {k k0 : Kind} {f : List D → Option D} {ps : List P} {σ : L2.St} {H : Hp} {Q : VK} {w : World} {K : PySem.W.Frag} (hk : Kind.le k k0 = true) (h : RE w K k (pN f ps) σ H Q) : tCB (cD w K k0 f) (RA w K .r ps) σ H Q := by
  obtain ⟨B, ρ, A, d, R, e, q⟩ := h
  obtain ⟨xs, e1, e2⟩ := pN_inv e
  refine ⟨B, ρ, A, xs, R, e1, fun vs H1 s1 r1 => ?_⟩
  have R1 := R.same s1
  exact ⟨mu B A, xs, d, R1.al, r1, e2, fun z H' s' rz => q z H' (s1.trans s') (Res.back s1 (Res.down rz R1.al hk))⟩
theorem jB {k k0 : Kind} {id : String} {x : Str} {f : List D → Option D} {p pos : Pos} {e : Expr} {es : List Expr} {ps : List P} (hc : CallR X (.builtin id) (cD X.w X.K k0 f)) (hm : X.mg x = none) (ha : JA X .r (e :: es) ps) (hg : Gl X x := by rfl) (hv : bootBuiltins x = some (.builtin id) := by decide +kernel)
    (hn : x ≠ "__name__" := by decide) (hdb : (x == ("__debug__" : Str)) = false := by decide)
    (he : starEach (e :: es) X.env = (false, eval e X.env) :: starEach es X.env := by rfl) (hpl : (backTo pos (starEach es X.env)).any (·.1) = false := by rfl) (hk : Kind.le k k0 = true := by rfl) : JP X k (.Call (.Name x p) (e :: es) [] pos) (pN f ps) :=
  peimp (pe_callB hc hg hm hv ha hn hdb he hpl) fun σ H Q h => rCB hk h
theorem jTy {k k0 : Kind} {id : String} {x : Str} {f : List D → Option D} {p pos : Pos} {e : Expr} {es : List Expr} {ps : List P} (hc : CallR X (.type id) (cD X.w X.K k0 f)) (hm : X.mg x = none) (ha : JA X .r (e :: es) ps) (hg : Gl X x := by rfl) (hv : bootBuiltins x = some (.type id) := by decide +kernel)
    (hn : x ≠ "__name__" := by decide) (hdb : (x == ("__debug__" : Str)) = false := by decide)
    (he : starEach (e :: es) X.env = (false, eval e X.env) :: starEach es X.env := by rfl) (hpl : (backTo pos (starEach es X.env)).any (·.1) = false := by rfl) (hk : Kind.le k k0 = true := by rfl) : JP X k (.Call (.Name x p) (e :: es) [] pos) (pN f ps) :=
  peimp (pe_callTy hc hg hm hv ha hn hdb he hpl) fun σ H Q h => rCB hk h
/-- isinstance(e, T) -/
theorem jIs {k : Kind} {T : String} {y : Str} {f : D → Bool} {p p2 pos : Pos} {e : Expr} {pe : P} (hc : CallR X (.builtin "isinstance") (rIs X.w X.K T f)) (hm : X.mg "isinstance" = none) (hmT : X.mg y = none) (he : JP X .r e pe)
    (hg : Gl X "isinstance" := by rfl) (hgT : Gl X y := by rfl) (hvT : bootBuiltins y = some (.type T) := by decide +kernel) (hnT : y ≠ "__name__" := by decide) (hdT : (y == ("__debug__" : Str)) = false := by decide)
    (hs : starEach [e, .Name y p2] X.env = (false, eval e X.env) :: starEach [.Name y p2] X.env := by rfl) (hs2 : starEach [.Name y p2] X.env = (false, eval (.Name y p2) X.env) :: starEach [] X.env := by rfl) (hpl : (backTo pos (starEach [.Name y p2] X.env)).any (·.1) = false := by rfl) :
    JP X k (.Call (.Name "isinstance" p) [e, .Name y p2] [] pos) (p1 (fun d => some (.bool (f d))) pe) :=
  peimp (pe_callB hc hg hm (by decide +kernel) (pa_cons he (pa_cons (pe_bltn (v := .ty T) hgT hmT hvT rfl hnT hdT) pa_nil hs2) hs) (by decide) (by decide) hs hpl) fun σ H Q h => by
    obtain ⟨B, ρ, A, d, R, e, q⟩ := h
    obtain ⟨x, ea, ef⟩ := p1_inv e
    cases ef
    refine ⟨B, ρ, A, x, R, ea, fun v H1 s1 r1 => ?_⟩
    exact ⟨mu B A, x, v, rfl, r1, q _ _ s1 (Res.flat (show Rep X.w X.K (mu B A) H1 (.bool (f x)) (.bl (f x)) from rfl))⟩
/-! ### tests -/
theorem tV_inv {a : P} {ρ : Env} {b : Bool} (h : tV a ρ = some b) : a ρ = some (.bool b) := by
  unfold tV at h
  cases e : a ρ with
  | none => rw [e] at h; cases h
  | some x =>
    rw [e] at h
    cases x with
    | bool c => cases h; rfl
    | _ => cases h
theorem jtVal {e : Expr} {p : P} (h : JP X .r e p) (he : ∀ whole, isTrue e X.env whole = (do let v ← whole; standAt e.pos; holding [v] (truthy v)) := by intro _; rfl) : JT X e (tV p) := ptimp (pt_val h he) fun σ H Q h => by
  obtain ⟨B, ρ, A, b, R, e, q⟩ := h
  exact ⟨B, ρ, A, _, R, tV_inv e, fun v H' s r => ⟨b, r, q H' s⟩⟩
theorem jtCmp {k0 : Kind} {op : CmpOp} {f : D → D → Option D} {a b : Expr} {pa pb : P} {pos : Pos} (ho : OpR X (compareOp op) (rD X.w X.K k0 f)) (ha : JP X .r a pa) (hb : JP X .r b pb) (hm : behindInMarks op b = false := by first | exact nomark _ | rfl) :
    JT X (.Compare a [op] [b] pos) (tV (p2 f pa pb)) := ptimp (pt_cmpR ho ha hb hm) fun σ H Q h => by
  obtain ⟨B, ρ, A, b, R, e, q⟩ := h
  exact rOp (k := .r) (k0 := k0) (by cases k0 <;> rfl) ⟨B, ρ, A, _, R, tV_inv e, fun v H' s r => ⟨b, r, q H' s⟩⟩
theorem jtNot {a : Expr} {t : T} {pos : Pos} (ha : JT X a t) : JT X (.UnaryOp .Not a pos) (tNot t) := ptimp (pt_not ha) fun σ H Q h => by
  obtain ⟨B, ρ, A, b, R, e, q⟩ := h
  unfold tNot at e
  cases z : t ρ with
  | none => rw [z] at e; cases e
  | some c => rw [z] at e; cases e; exact ⟨B, ρ, A, c, R, z, fun H' s => q H' s⟩
abbrev JW (X : Cx) (e : Expr) (t : T) : Prop := PW X e (RT X.w X.K t)
theorem jwAnd1 {a : Expr} {t : T} {pos : Pos} (ha : JT X a t) : JW X (.BoolOp .And [a] pos) t := pw_and1 ha
theorem jwOr1 {a : Expr} {t : T} {pos : Pos} (ha : JT X a t) : JW X (.BoolOp .Or [a] pos) t := pw_or1 ha
theorem jwAnd {a b : Expr} {rest : List Expr} {t u : T} {pos : Pos} (ha : JT X a t) (hb : JW X (.BoolOp .And (b :: rest) pos) u) : JW X (.BoolOp .And (a :: b :: rest) pos) (tAnd t u) := pwimp (pw_and ha hb) fun σ H Q h => by
  obtain ⟨B, ρ, A, b, R, e, q⟩ := h
  unfold L3.tAnd at e
  cases z : t ρ with
  | none => rw [z] at e; cases e
  | some c =>
    rw [z] at e
    refine ⟨B, ρ, A, c, R, z, fun H' s => ?_⟩
    cases c with
    | true => rw [if_pos rfl]; exact ⟨B, ρ, A, b, R.same s, e, fun H2 s2 => q H2 (s.trans s2)⟩
    | false => rw [if_neg (by decide)]; cases e; exact q H' s
theorem jwOr {a b : Expr} {rest : List Expr} {t u : T} {pos : Pos} (ha : JT X a t) (hb : JW X (.BoolOp .Or (b :: rest) pos) u) : JW X (.BoolOp .Or (a :: b :: rest) pos) (L3.tOr t u) := pwimp (pw_or ha hb) fun σ H Q h => by
  obtain ⟨B, ρ, A, b, R, e, q⟩ := h
  unfold L3.tOr at e
  cases z : t ρ with
  | none => rw [z] at e; cases e
  | some c =>
    rw [z] at e
    refine ⟨B, ρ, A, c, R, z, fun H' s => ?_⟩
    cases c with
    | false => rw [if_neg (by decide)]; exact ⟨B, ρ, A, b, R.same s, e, fun H2 s2 => q H2 (s.trans s2)⟩
    | true => rw [if_pos rfl]; cases e; exact q H' s
theorem jtW {e : Expr} {t : T} (h : JW X e t) : JT X e t := PW.pt h
/-! ### and, or, not as values -/
theorem pT_inv {t : T} {ρ : Env} {d : D} (h : pT t ρ = some d) : ∃ b, t ρ = some b ∧ d = .bool b := by
  unfold pT at h
  cases e : t ρ with
  | none => rw [e] at h; cases h
  | some b => rw [e] at h; cases h; exact ⟨b, rfl, rfl⟩
/-- a truth value -/
abbrev JB (X : Cx) (e : Expr) (t : T) : Prop := JP X .r e (pT t)
theorem jbOf {e : Expr} {p : P} (h : JP X .r e p) : JB X e (tV p) := peimp h fun σ H Q h => by
  obtain ⟨B, ρ, A, d, R, e, q⟩ := h
  obtain ⟨b, eb, rfl⟩ := pT_inv e
  exact ⟨B, ρ, A, _, R, tV_inv eb, q⟩
theorem jbNot {a : Expr} {t : T} {pos : Pos} (ha : JB X a t) : JB X (.UnaryOp .Not a pos) (tNot t) := peimp (pe_not ha) fun σ H Q h => by
  obtain ⟨B, ρ, A, d, R, e, q⟩ := h
  obtain ⟨b, eb, rfl⟩ := pT_inv e
  unfold tNot at eb
  cases z : t ρ with
  | none => rw [z] at eb; cases eb
  | some c =>
    rw [z] at eb; cases eb
    exact ⟨B, ρ, A, .bool c, R, by unfold pT; rw [z], fun v H' s r => ⟨c, r, q _ _ s rfl⟩⟩
theorem jbOne {a : Expr} {op} {t : T} {pos : Pos} (ha : JB X a t) : JB X (.BoolOp op [a] pos) t := pe_one ha
theorem jbAnd {a b : Expr} {rest : List Expr} {t u : T} {pos : Pos} (ha : JB X a t) (hb : JB X (.BoolOp .And (b :: rest) pos) u) : JB X (.BoolOp .And (a :: b :: rest) pos) (L3.tAnd t u) := peimp (pe_and ha hb) fun σ H Q h => by
  obtain ⟨B, ρ, A, d, R, e, q⟩ := h
  obtain ⟨b, eb, rfl⟩ := pT_inv e
  unfold L3.tAnd at eb
  cases z : t ρ with
  | none => rw [z] at eb; cases eb
  | some c =>
    rw [z] at eb
    refine ⟨B, ρ, A, .bool c, R, by unfold pT; rw [z], fun v H' s r => ⟨c, r, ?_⟩⟩
    cases c with
    | true => rw [if_pos rfl]; exact ⟨B, ρ, A, .bool b, R.same s, by unfold pT; rw [show u ρ = some b from eb], fun v2 H2 s2 r2 => q v2 H2 (s.trans s2) r2⟩
    | false => rw [if_neg (by decide)]; cases eb; exact q _ H' s rfl
theorem jbOr {a b : Expr} {rest : List Expr} {t u : T} {pos : Pos} (ha : JB X a t) (hb : JB X (.BoolOp .Or (b :: rest) pos) u) : JB X (.BoolOp .Or (a :: b :: rest) pos) (L3.tOr t u) := peimp (pe_or ha hb) fun σ H Q h => by
  obtain ⟨B, ρ, A, d, R, e, q⟩ := h
  obtain ⟨b, eb, rfl⟩ := pT_inv e
  unfold L3.tOr at eb
  cases z : t ρ with
  | none => rw [z] at eb; cases eb
  | some c =>
    rw [z] at eb
    refine ⟨B, ρ, A, .bool c, R, by unfold pT; rw [z], fun v H' s r => ⟨c, r, ?_⟩⟩
    cases c with
    | false => rw [if_neg (by decide)]; exact ⟨B, ρ, A, .bool b, R.same s, by unfold pT; rw [show u ρ = some b from eb], fun v2 H2 s2 r2 => q v2 H2 (s.trans s2) r2⟩
    | true => rw [if_pos rfl]; cases eb; exact q _ H' s rfl
theorem jbV {k : Kind} {e : Expr} {t : T} (h : JB X e t) : JP X k e (pT t) := peimp h fun σ H Q h => by
  obtain ⟨B, ρ, A, d, R, e, q⟩ := h
  obtain ⟨b, eb, rfl⟩ := pT_inv e
  exact ⟨B, ρ, A, _, R, e, fun v H' s r => q v H' s (Res.flat (show Rep X.w X.K (mu B A) H' (.bool b) v from r))⟩
theorem jIf {k : Kind} {c a b : Expr} {t : T} {pa pb : P} {pos : Pos} (hc : JT X c t) (ha : JP X k a pa) (hb : JP X k b pb) : JP X k (.IfExp c a b pos) (pIf t pa pb) := peimp (pe_ifExp hc ha hb) fun σ H Q h => by
  obtain ⟨B, ρ, A, d, R, e, q⟩ := h
  unfold pIf at e
  cases z : t ρ with
  | none => rw [z] at e; cases e
  | some c =>
    rw [z] at e
    refine ⟨B, ρ, A, c, R, z, fun H' s => ?_⟩
    cases c with
    | true => rw [if_pos rfl]; exact ⟨B, ρ, A, d, R.same s, e, fun v H2 s2 r => q v H2 (s.trans s2) (Res.back s r)⟩
    | false => rw [if_neg (by decide)]; exact ⟨B, ρ, A, d, R.same s, e, fun v H2 s2 r => q v H2 (s.trans s2) (Res.back s r)⟩
end
end L3
/-! More expressions: chains, slices, starred displays, calls of defs with values. -/
namespace L3
open PySem PySem.Spec PyProof.Rows L2
section
variable {X : Cx}
theorem pChain_inv {f g : D → D → Option D} {a b c : P} {ρ : Env} {d : D} (h : pChain f g a b c ρ = some d) : ∃ x y k, a ρ = some x ∧ b ρ = some y ∧ f x y = some (.bool k) ∧ (if k = true then ∃ z, c ρ = some z ∧ g y z = some d else d = .bool false) := by
  unfold pChain at h
  cases e : a ρ with
  | none => rw [e] at h; cases h
  | some x =>
    cases e2 : b ρ with
    | none => rw [e, e2] at h; cases h
    | some y =>
      rw [e, e2] at h
      dsimp only at h
      cases e3 : f x y with
      | none => rw [e3] at h; cases h
      | some r =>
        rw [e3] at h
        cases r with
        | bool k =>
          cases k with
          | true =>
            refine ⟨x, y, true, rfl, rfl, e3, ?_⟩
            rw [if_pos rfl]
            cases e4 : c ρ with
            | none => rw [e4] at h; cases h
            | some z => rw [e4] at h; exact ⟨z, rfl, h⟩
          | false => cases h; exact ⟨x, y, false, rfl, rfl, e3, by rw [if_neg (by decide)]⟩
        | _ => cases h
theorem rChain {f g : D → D → Option D} {k0 k1 : Kind} {pa pb pc : P} {σ : L2.St} {H : Hp} {Q : VK} {w : World} {K : PySem.W.Frag} (h : RE w K .r (pChain f g pa pb pc) σ H Q) : tChain (rD w K k0 f) (rD w K k1 g) (RE w K .r pa) (RE w K .r pb) (RE w K .r pc) σ H Q := by
  obtain ⟨B, ρ, A, d, R, e, q⟩ := h
  obtain ⟨x, y, k, ea, eb, ef, ek⟩ := pChain_inv e
  refine ⟨B, ρ, A, x, R, ea, fun v H1 s1 r1 => ⟨B, ρ, A, y, R.same s1, eb, fun u H2 s2 r2 => ?_⟩⟩
  have R2 := (R.same s1).same s2
  refine ⟨mu B A, x, y, _, R2.al, Rd1.same s2 r1, r2, ef, fun z H3 s3 rz => ⟨k, ?_, ?_⟩⟩
  · cases k0 <;> exact rz
  · cases k with
    | true =>
      rw [if_pos rfl] at ek ⊢
      obtain ⟨z', ec, eg⟩ := ek
      refine ⟨B, ρ, A, z', R2.same s3, ec, fun t H4 s4 r4 => ?_⟩
      have R4 := (R2.same s3).same s4
      exact ⟨mu B A, y, z', d, R4.al, Rd1.same s4 (Rd1.same s3 r2), r4, eg, fun t2 H5 s5 r5 => q t2 H5 (((s1.trans s2).trans s3).trans (s4.trans s5)) (Res.rd1 r5 R4.al)⟩
    | false =>
      rw [if_neg (by decide)] at ek ⊢
      subst ek
      exact q _ _ ((s1.trans s2).trans s3) rfl
theorem jChain {k : Kind} {k0 k1 : Kind} {op op' : CmpOp} {f g : D → D → Option D} {a b c : Expr} {pa pb pc : P} {pos : Pos} (ho : OpR X (compareOp op) (rD X.w X.K k0 f)) (ho' : OpR X (compareOp op') (rD X.w X.K k1 g)) (ha : JP X .r a pa) (hb : JP X .r b pb) (hc : JP X .r c pc)
    (hm : lastMarks [op, op'] [b, c] = false := by with_unfolding_all rfl) : JP X .r (.Compare a [op, op'] [b, c] pos) (pChain f g pa pb pc) := peimp (pe_chain ho ho' ha hb hc hm) fun σ H Q h => rChain h
theorem jtChain {k0 k1 : Kind} {op op' : CmpOp} {f g : D → D → Option D} {a b c : Expr} {pa pb pc : P} {pos : Pos} (ho : OpR X (compareOp op) (rD X.w X.K k0 f)) (ho' : OpR X (compareOp op') (rD X.w X.K k1 g)) (ha : JP X .r a pa) (hb : JP X .r b pb) (hc : JP X .r c pc)
    (hm : lastMarks [op, op'] [b, c] = false := by with_unfolding_all rfl) : JT X (.Compare a [op, op'] [b, c] pos) (tV (pChain f g pa pb pc)) := ptimp (pt_chain ho ho' ha hb hc hm) fun σ H Q h => by
  obtain ⟨B, ρ, A, b, R, e, q⟩ := h
  exact rChain ⟨B, ρ, A, _, R, tV_inv e, fun v H' s r => ⟨b, r, q H' s⟩⟩
/-! ### slices -/
def RO (w : World) (K : PySem.W.Frag) (o : Option P) : TO := fun σ H Q => ∃ B ρ A i, Rel w K B ρ σ A H ∧ pO o ρ = some i ∧ ∀ H', Same H H' → Q i H'
theorem poNone : PO X none (RO X.w X.K none) := ⟨fun pins s σ H Q I h => by
  obtain ⟨B, ρ, A, i, R, e, q⟩ := h
  cases e
  exact po_none.run pins s σ H Q I (q H (Same.refl H))⟩
theorem poSome {e : Expr} {p : P} (h : JP X .r e p) : PO X (some e) (RO X.w X.K (some p)) := ⟨fun pins s σ H Q I hq => by
  obtain ⟨B, ρ, A, i, R, e, q⟩ := hq
  cases z : p ρ with
  | none => simp only [pO, z] at e; cases e
  | some d =>
    simp only [pO, z] at e
    cases d with
    | int n => cases e; exact (po_some h).run pins s σ H Q I ⟨B, ρ, A, _, R, z, fun v H' s' r => ⟨n, r, q H' s'⟩⟩
    | _ => cases e⟩
theorem reps_cut {w : World} {K : PySem.W.Frag} {M : Addr → Prop} {H : Hp} {xs : List D} {vs : List V} (h : Reps w K M H xs vs) (lo hi : Option Int) : Reps w K M H (cutD xs lo hi) (cutV vs lo hi) := by
  unfold cutD cutV
  rw [h.length]
  exact (h.drop _).take _
theorem jCut {k : Kind} {e : Expr} {lo hi : Option Expr} {p : P} {l h : Option P} {pos p2 : Pos} (he : JP X .r e p) (hl : PO X lo (RO X.w X.K l)) (hh : PO X hi (RO X.w X.K h)) : JP X k (.Subscript e (.Slice lo hi none p2) pos) (pCut p l h) :=
  peimp (pe_slice (sl_list.or sl_tupA) he hl hh) fun σ H Q q' => by
    obtain ⟨B, ρ, A, d, R, e, q⟩ := q'
    unfold pCut at e
    cases e1 : p ρ with
    | none => rw [e1] at e; cases e
    | some x =>
      cases e2 : pO l ρ with
      | none => rw [e1, e2] at e; cases e
      | some i =>
        cases e3 : pO h ρ with
        | none => rw [e1, e2, e3] at e; cases e
        | some j =>
          rw [e1, e2, e3] at e
          refine ⟨B, ρ, A, x, R, e1, fun v H1 s1 r1 => ⟨B, ρ, A, i, R.same s1, e2, fun H2 s2 => ⟨B, ρ, A, j, (R.same s1).same s2, e3, fun H3 s3 => ?_⟩⟩⟩
          have r3 := Rd1.same s3 (Rd1.same s2 r1)
          have R3 := ((R.same s1).same s2).same s3
          have s03 := (s1.trans s2).trans s3
          cases x with
          | list xs =>
            cases e
            obtain ⟨a, vs, e4, k1, k2⟩ := r3
            exact .inl ⟨a, vs, e4, SqL.of k1, fun p hp => q _ _ (s03.trans (same_new hp)) (Res.back s03 (Res.down (k0 := .f) ⟨p, _, rfl, hp, upd_same, fresh_weak hp (reps_cut k2 i j)⟩ R3.al (by cases k <;> rfl)))⟩
          | tuple xs =>
            cases e
            obtain ⟨a, vs, e4, k1, k2⟩ := r3
            have hlen := k2.length
            refine .inr ⟨a, vs, e4, k1, fun hz => ?_, fun hz p hp => ?_⟩
            · refine q _ _ s03 (Res.back s03 (Res.down (k0 := .f) (show New1 X.w X.K (mu B A) H3 H3 (.tuple (cutD xs i j)) (.ref a) from ⟨a, vs, rfl, k1, ?_⟩) R3.al (by cases k <;> rfl)))
              have : cutD xs i j = xs := by
                unfold cutD
                rw [hlen] at hz
                rw [hz.1, hz.2, List.drop_zero, Nat.sub_zero, List.take_length]
              rw [this]
              exact k2
            · exact q _ _ (s03.trans (same_new hp)) (Res.back s03 (Res.down (k0 := .f) (show New1 X.w X.K (mu B A) H3 _ (.tuple (cutD xs i j)) (.ref p) from ⟨p, _, rfl, SqT.of upd_same, (reps_cut k2 i j).same (same_new hp)⟩) R3.al (by cases k <;> rfl)))
          | _ => cases e
/-! ### starred displays -/
def RS (w : World) (K : PySem.W.Frag) (ps : List (Bool × P)) : L2.TA := fun σ H Q => ∃ B ρ A ds, Rel w K B ρ σ A H ∧ evsS ps ρ = some ds ∧ ∀ vs H', Same H H' → Reps w K (mu B A) H' ds vs → Q vs H'
abbrev JS (X : Cx) (es : List Expr) (ps : List (Bool × P)) : Prop := PA X es (RS X.w X.K ps)
theorem jsNil : JS X [] [] := paimp pa_nil fun σ H Q h => by
  obtain ⟨B, ρ, A, ds, R, e, q⟩ := h
  cases e
  exact q _ _ (Same.refl H) rfl
theorem jsCons {e : Expr} {es : List Expr} {p : P} {ps : List (Bool × P)} (ha : JP X .c e p) (hr : JS X es ps) (hs : starEach (e :: es) X.env = (false, eval e X.env) :: starEach es X.env := by rfl) : JS X (e :: es) ((false, p) :: ps) := paimp (pa_cons ha hr hs) fun σ H Q h => by
  obtain ⟨B, ρ, A, ds, R, e, q⟩ := h
  rw [evsS] at e
  cases e1 : p ρ with
  | none => rw [e1] at e; cases e
  | some x =>
    cases e2 : evsS ps ρ with
    | none => rw [e1, e2] at e; cases e
    | some xs =>
      rw [e1, e2] at e; cases e
      exact ⟨B, ρ, A, x, R, e1, fun v H1 s1 r1 => ⟨B, ρ, A, xs, R.same s1, e2, fun vs H2 s2 r2 => q _ _ (s1.trans s2) ⟨v, vs, rfl, Rep.same s2 r1, r2⟩⟩⟩
theorem jsStar {e : Expr} {es : List Expr} {p : P} {ps : List (Bool × P)} {pos' : Pos} (ha : JP X .r e p) (hr : JS X es ps) (hs : starEach (.Starred e pos' :: es) X.env = (true, eval e X.env) :: starEach es X.env := by rfl) : JS X (.Starred e pos' :: es) ((true, p) :: ps) := by
  refine ⟨fun pos pins s σ H Q I h => ?_⟩
  obtain ⟨B, ρ, A, ds, R, e, q⟩ := h
  rw [evsS] at e
  cases e1 : p ρ with
  | none => rw [e1] at e; cases e
  | some x =>
    cases e0 : seqOf x with
    | none => rw [e1] at e; simp only [e0] at e; cases e
    | some ys =>
      cases e2 : evsS ps ρ with
      | none => rw [e1] at e; simp only [e0, e2] at e; cases e
      | some xs =>
        rw [e1] at e; simp only [e0, e2] at e; cases e
        rw [hs]
        show wpAny _ _ (spliced ((true, (do let v ← eval _ X.env; standAt pos; pure v)) :: backTo pos (starEach es X.env))) _ _ s
        refine PySem.W.ks_spliced (thn (ha.run pins s σ H (fun v H1 => Same H H1 ∧ Rd1 X.w X.K (mu B A) H1 x v) I ⟨B, ρ, A, x, R, e1, fun v H1 s1 r1 => ⟨s1, r1⟩⟩) fun u s1 ⟨v, H1, I1, rv, s1', r1⟩ => ?_)
        obtain ⟨a, vs, ev, hq, rp⟩ := Rd1.seq r1 e0
        subst ev
        cases rv
        refine StX.star_any I1 (hq.symm) fun us s2 I2 rus => ?_
        refine thn (hr.run pos pins s2 σ H1 (fun ws H2 => Same H1 H2 ∧ Reps X.w X.K (mu B A) H2 xs ws) I2 ⟨B, ρ, A, xs, R.same s1', e2, fun ws H2 s2 r2 => ⟨s2, r2⟩⟩) fun zs s3 ⟨ws, H2, I3, rz, s2', r2⟩ => ?_
        exact ⟨vs ++ ws, H2, I3, rus.append rz, q _ _ (s1'.trans s2') ((rp.same s2').append r2)⟩
theorem pNS_inv {f : List D → Option D} {as : List (Bool × P)} {ρ : Env} {d : D} (h : pNS f as ρ = some d) : ∃ xs, evsS as ρ = some xs ∧ f xs = some d := by
  unfold pNS at h
  cases e : evsS as ρ with
  | none => rw [e] at h; cases h
  | some xs => rw [e] at h; exact ⟨xs, rfl, h⟩
theorem jTupS {k : Kind} {es : List Expr} {ps : List (Bool × P)} {x1 pos} (h : JS X es ps) (hk : Kind.le k .c = true := by rfl) : JP X k (.Tuple es x1 pos) (pNS dTup ps) := peimp (pe_tup h) fun σ H Q h => by
  obtain ⟨B, ρ, A, d, R, e, q⟩ := h
  obtain ⟨xs, e1, e2⟩ := pNS_inv e
  unfold dTup at e2
  split at e2
  · rename_i hl
    cases e2
    refine ⟨B, ρ, A, xs, R, e1, fun vs H1 s1 r1 => ⟨?_, fun p hp => ?_⟩⟩
    · rw [r1.length]; exact len24_ok hl
    · exact q _ _ (s1.trans (same_new hp)) (Res.down (k0 := .c) ⟨p, vs, rfl, SqT.of upd_same, r1.same (same_new hp)⟩ R.al hk)
  · cases e2
theorem jLstS {k : Kind} {es : List Expr} {ps : List (Bool × P)} {pos} (h : JS X es ps) : JP X k (.List es pos) (pNS dLst ps) := peimp (pe_lst h) fun σ H Q h => by
  obtain ⟨B, ρ, A, d, R, e, q⟩ := h
  obtain ⟨xs, e1, e2⟩ := pNS_inv e
  unfold dLst at e2
  split at e2
  · rename_i hl
    cases e2
    refine ⟨B, ρ, A, xs, R, e1, fun vs H1 s1 r1 => ⟨?_, fun p hp => ?_⟩⟩
    · rw [r1.length]; exact len24_ok hl
    · exact q _ _ (s1.trans (same_new hp)) (Res.down (k0 := .f) ⟨p, vs, rfl, s1.free hp, upd_same, fresh_weak hp r1⟩ R.al (by cases k <;> rfl))
  · cases e2
/-! ### list * int -/
theorem oRep : OpR X (binaryOp .Mult) (rD X.w X.K .f dRep) := by
  have h0 : OpR X (binaryOp .Mult) (fun x y H Q => ∃ l k xs, x = .ref l ∧ y = .int k ∧ Rd H l (.lst xs) ∧ -(2 ^ 63) ≤ k ∧ k < 2 ^ 63 ∧ xs.length * k.toNat ≤ sizeLine ∧ ∀ p, H p = none → Q (.ref p) (upd H p (.lst (List.replicate k.toNat xs).flatten))) := by
    intro pins s σ H x y v u Q I rx ry h
    obtain ⟨l, k, xs, rfl, rfl, hH, h1, h2, hz, q⟩ := h
    cases rx
    obtain ⟨t, rfl⟩ := ry
    obtain ⟨its, n, r, e, z⟩ := rd_lst I hH
    have hl := r.length
    have a1 : its.toArray.size * k.toNat ≤ sizeLine := by rw [List.size_toArray, ← hl]; exact hz
    have a2 : ¬ its.toArray.size * k.toNat > (2 ^ 63 - 1) / 8 := by
      have : (sizeLine : Nat) ≤ (2 ^ 63 - 1) / 8 := by decide
      omega
    have a3 : ¬ (!Builtin.List.listFitsIndex k) = true := by
      rw [fitsIndex_both h1 h2]
      decide
    have a4 : ¬ Builtin.List.listTooLong (its.toArray.size * k.toNat) = true := by
      rw [notLongL a1]
      decide
    have a5 : List.foldl (fun x1 x2 => x1 ++ x2) #[] (List.replicate (if its.toArray.isEmpty = true then 0 else k.toNat) its.toArray) = (List.replicate k.toNat its).flatten.toArray := by
      rw [size_rep]
      cases its with
      | nil => simp
      | cons a r' => rw [if_neg (by simp)]
    refine wpAny_binaryOp_repeat_ref (T := "list") (U := "int") (by decide) ⟨_, e, rfl⟩ (fun s' => typeIs_int s' k t) noFill_list_mul F.fills_int_mul F.slot_int_rmul repeat_list F.slot_int_index.lookup
      (call_meets F.slot_int_rmul (typeIs_int s k t) F.entry_int_rmul (F.args_int_rmul_2 _ _) (int___rmul___int_list k t l its.toArray n)
        ⟨e, rfl, ⟨_, e, rfl⟩, call_meets F.slot_list_mul ⟨_, e, rfl⟩ F.entry_list_mul (F.args_list_mul_2 _ _) (AutoListH.list___mul___list_int_3 l its.toArray n k t a3 a2 a4) ⟨e, ?_⟩⟩)
    rw [a5]
    exact ⟨.ref _, _, I.lnew (t' := s.toks) (r.rep k.toNat) (by rw [PyProof.Rows.lm_len_rep_flat, Nat.mul_comm]; exact hz), rfl, q _ I.fresh⟩
  refine oimp h0 fun x y H Q h => ?_
  obtain ⟨M, dx, dy, d, al, hx, hy, e, q⟩ := h
  cases dx with
  | list xs =>
    cases dy with
    | int k =>
      simp only [dRep] at e
      split at e
      · rename_i hc
        cases e
        rw [Bool.and_eq_true, decide_eq_true_eq] at hc
        obtain ⟨a, vs, e1, h1, h2⟩ := hx
        refine ⟨a, k, vs, e1, hy, .inl h1, by omega, by omega, by rw [h2.length]; exact len24_ok hc.2, fun p hp => ?_⟩
        exact q _ _ (same_new hp) ⟨p, _, rfl, hp, upd_same, fresh_weak hp (h2.replicate k.toNat)⟩
      · cases e
    | _ => cases e
  | _ => cases e
/-- xs[::-1] of a list -/
theorem jRevL {k : Kind} {e : Expr} {p : P} {kk : Nat} {q1 q2 q3 pos : Pos} (he : JP X .r e p) : JP X k (.Subscript e (.Slice none none (some (.UnaryOp .USub (.Constant (.int 1) kk q1) q2)) q3) pos) (p1 dRevL p) :=
  peimp (pe_revL he) fun σ H Q h => by
    obtain ⟨B, ρ, A, d, R, e, q⟩ := h
    obtain ⟨x, ea, ef⟩ := p1_inv e
    refine ⟨B, ρ, A, x, R, ea, fun v H1 s1 r1 => ?_⟩
    cases x with
    | list xs =>
      cases ef
      obtain ⟨a, vs, e1, h1, h2⟩ := r1
      refine ⟨a, vs, e1, SqL.of h1, fun p hp => q _ _ (s1.trans (same_new hp)) (Res.back s1 (Res.down (k0 := .f) ⟨p, _, rfl, hp, upd_same, fresh_weak hp h2.reverse⟩ (R.same s1).al (by cases k <;> rfl)))⟩
    | _ => cases ef
/-! ### t[::-1] of a tuple -/
theorem rev_places (n : Nat) : Builtin.Slice.sliceAdjust none none (-1) (n : Int) = ((n : Int) - 1, -1) ∧ Builtin.Slice.slicePlaces ((n : Int) - 1) (-1) (-1) = n := by
  refine ⟨rfl, ?_⟩
  unfold Builtin.Slice.slicePlaces
  rw [if_neg (by decide)]
  by_cases h : (n : Int) - 1 > -1
  · rw [if_pos h, show (- -1 : Int) = 1 by decide, Int.ediv_one]
    omega
  · rw [if_neg h]
    omega
theorem revT_pick (items : Array Value) : ((List.range items.size).filterMap fun (m : Nat) => items[((items.size : Int) - 1 + (m : Int) * (-1)).toNat]?).toArray = items.toList.reverse.toArray := by
  have := PySem.W.krv_pick items
  rw [← this]
  unfold slicePick
  rw [PySem.W.krv_bounds]
  congr 1
  show _ = (sliceRange ((items.size : Int) - 1) (-1) (-1)).filterMap (items[·]?)
  rw [PySem.W.krv_sliceRange, List.filterMap_map]
  have go : ∀ l : List Nat, l.filterMap (fun (m : Nat) => items[((items.size : Int) - 1 + (m : Int) * (-1)).toNat]?) = l.filterMap ((fun x => items[x]?) ∘ fun k => items.size - 1 - k) := fun l => by
    induction l with
    | nil => rfl
    | cons a l ih =>
      simp only [List.filterMap_cons, Function.comp]
      rw [show ((items.size : Int) - 1 + (a : Int) * (-1)).toNat = items.size - 1 - a by omega]
      rw [ih]
  exact go _
theorem revT_item {prog : Program} {w : World} {A : Around} {E : Value → Shared → Prop} {s : Shared} {t sl : Addr} {items : Array Value} {vk : Value} {Q : Value → Shared → Prop} (ht : IsTup s.heap t items) (hs : s.heap.IsSliceOf sl .none .none vk) (ps : IsPart vk (some (-1)))
    (h : Q (.ref s.heap.objs.size) { s with heap := s.heap.push { cls := .type "tuple", data := .seq items.toList.reverse.toArray } }) (hsz : items.size ≤ sizeLine) : wpAny (model prog w) A (getItem (.ref t) (.ref sl)) Q E s := by
  have hok : sizeOk (.seq items.toList.reverse.toArray) := by
    show items.toList.reverse.toArray.size ≤ sizeLine
    simpa using hsz
  obtain ⟨os, hos, hcs, hds⟩ := id hs
  have hTs : s.TypeIs (.ref sl) "slice" := ⟨os, hos, hcs⟩
  unfold getItem
  try with_reducible refine wpAny_holding ?_
  first | refine wpAny_bind (wpAny_pure ?_) | skip
  refine wpAny_bind (wpAny_sequenceKey ht.typeIs (by decide) ?_)
  refine wpAny_bind (wpAny_callSpecial?_slot (name := Str.ofString "__getitem__") ht.typeIs PyProof.Rows.slot_tuple_getitem
    (wpAny_call_entry PyProof.Rows.slot_tuple_getitem ht.typeIs PyProof.Rows.entry_tuple_getitem ?_ (PyProof.Rows.args_tuple_getitem _ _)))
  show wpAny _ _ (Builtin.Tuple.tupleItemsOf (.ref t) >>= _) _ _ s
  refine wpAny_bind (tupleItemsOf_ ht ?_)
  refine wpAny_bind (wpAny_typeOf hTs ?_)
  rw [if_pos (by decide)]
  have sa : ∀ {Q' : Int × Int × Nat → Shared → Prop}, Q' ((items.size : Int) - 1, -1, items.size) s → wpAny (model prog w) A.in1 (Builtin.Slice.sliceApplied (.ref sl) (pure (items.size : Int))) Q' E s := fun {Q'} hq => by
    unfold Builtin.Slice.sliceApplied Builtin.Slice.sliceFields
    refine wpAny_bind (wpAny_bind (wpAny_field hos hds (x := .none) rfl (wpAny_bind (wpAny_field hos hds (x := .none) rfl (wpAny_bind (wpAny_field hos hds (x := vk) rfl (wpAny_pure ?_)))))))
    refine wpAny_bind (HT.slicePart_ ps ?_)
    show wpAny _ _ (if ((-1 : Int) == 0) = true then _ else _) _ _ s
    rw [if_neg (by decide)]
    refine wpAny_bind (slicePart_none (wpAny_bind (slicePart_none (wpAny_bind (wpAny_pure ?_)))))
    show wpAny _ _ (match Builtin.Slice.sliceAdjust none none (-1) (items.size : Int) with | (lo, hi) => pure (lo, (-1 : Int), Builtin.Slice.slicePlaces lo hi (-1))) _ _ s
    rw [(rev_places items.size).1]
    show wpAny _ _ (pure ((items.size : Int) - 1, (-1 : Int), Builtin.Slice.slicePlaces ((items.size : Int) - 1) (-1) (-1))) _ _ s
    rw [(rev_places items.size).2]
    exact wpAny_pure hq
  refine wpAny_bind (sa ?_)
  show wpAny _ _ (if (((items.size : Int) - 1) == 0 && (-1 : Int) == 1 && items.size == items.size) = true then _ else _) _ _ s
  rw [if_neg (by rw [show ((-1 : Int) == 1) = false from rfl, Bool.and_false, Bool.false_and]; decide), revT_pick]
  first
    | exact wpAny_bind (m := Builtin.Tuple.tupleExact _) (wpAny_newObj_type (wpAny_pure ⟨_, rfl, wpAny_pure h⟩) hok)
    | exact wpAny_bind (m := Builtin.Tuple.tupleExact _) (wpAny_newObj_type (wpAny_bind (wpAny_pure (wpAny_pure ⟨_, rfl, wpAny_pure h⟩))) hok)
    | exact wpAny_bind (wpAny_bind (m := Builtin.Tuple.tupleExact _) (wpAny_newObj_type (wpAny_pure (wpAny_pure ⟨_, rfl, wpAny_pure h⟩)) hok))
    | exact wpAny_bind (wpAny_bind (m := Builtin.Tuple.tupleExact _) (wpAny_newObj_type (wpAny_pure ⟨_, rfl, wpAny_pure h⟩) hok))
theorem pe_revT {e : Expr} {te : L2.TE} {k : Nat} {p1 p2 p3 pos : Pos} (he : PE X e te) : PE X (.Subscript e (.Slice none none (some (.UnaryOp .USub (.Constant (.int 1) k p1) p2)) p3) pos)
    (fun σ H Q => te σ H fun x H1 => ∃ a xs, x = .ref a ∧ SqT X.K H1 a xs ∧ ∀ p, H1 p = none → Q (.ref p) (upd H1 p (.tup xs.reverse))) := by
  refine ⟨fun pins s σ H Q I h => ?_⟩
  refine Subscript_ (thn (he.run pins s σ H _ I h) fun v s1 ⟨x, H1, I1, r1, a, xs, ex, hx, q⟩ => ?_)
  subst ex
  cases r1
  have hst : PO X (some (.UnaryOp .USub (.Constant (.int 1) k p1) p2)) (tPart (tUn (rU fun i => .int (-i)) (tC (.int 1)))) := po_some (pe_un un_neg pe_int)
  refine wpAny_Slice (thn (po_none.run pins s1 σ H1 (fun o H2 => o = none ∧ H2 = H1) I1 ⟨rfl, rfl⟩) fun vl s2 ⟨l, H2, I2, pl, el, e2⟩ => ?_)
  subst el e2
  refine thn (po_none.run pins s2 σ H2 (fun o H3 => o = none ∧ H3 = H2) I2 ⟨rfl, rfl⟩) fun vu s3 ⟨u, H3, I3, pu, eu, e3⟩ => ?_
  subst eu e3
  refine thn (hst.run pins s3 σ H3 (fun o H4 => o = some (-1) ∧ H4 = H3) I3 ⟨1, rfl, -1, rfl, rfl, rfl⟩) fun vs s4 ⟨o, H4, I4, ps, eo, e4⟩ => ?_
  subst eo e4
  cases pl
  cases pu
  have I5 : Inv X pins σ H4 { s4 with heap := s4.heap.push { cls := .type "slice", data := .fields #[.none, .none, vs] } } := I4.kept (t' := s4.toks) fun b ob q => Heap.get?_push_of_some _ q
  obtain ⟨its, r, ht, hz⟩ := I5.tuple hx
  have hlen := r.length
  refine tail_any (ops := [.ref a, .ref s4.heap.objs.size]) ht.typeIs PyProof.Rows.slot_tuple_getitem.lookup ?_ (by with_unfolding_all rfl)
  refine revT_item ht (Heap.IsSliceOf.new _ .none .none vs) ps ?_ (by rw [List.size_toArray]; omega)
  refine ⟨.ref _, _, I5.laid (t' := s4.toks) (o := .tup xs.reverse) (fun b ob q => Heap.get?_push_of_some _ q) (Nat.le_refl _) ?_, rfl, q _ (I5.hok.fresh (Nat.le_refl _))⟩
  exact ⟨by rw [List.length_reverse]; exact hz, its.reverse, r.reverse, IsTup.new _ _⟩
theorem jRevT {k : Kind} {e : Expr} {p : P} {kk : Nat} {q1 q2 q3 pos : Pos} (he : JP X .r e p) (hk : Kind.le k .c = true := by rfl) : JP X k (.Subscript e (.Slice none none (some (.UnaryOp .USub (.Constant (.int 1) kk q1) q2)) q3) pos) (p1 dRevT p) :=
  peimp (pe_revT he) fun σ H Q h => by
    obtain ⟨B, ρ, A, d, R, e, q⟩ := h
    obtain ⟨x, ea, ef⟩ := p1_inv e
    refine ⟨B, ρ, A, x, R, ea, fun v H1 s1 r1 => ?_⟩
    cases x with
    | tuple xs =>
      cases ef
      obtain ⟨a, vs, e1, h1, h2⟩ := r1
      exact ⟨a, vs, e1, h1, fun p hp => q _ _ (s1.trans (same_new hp)) (Res.down (k0 := .c) ⟨p, _, rfl, SqT.of upd_same, h2.reverse.same (same_new hp)⟩ R.al hk)⟩
    | _ => cases ef
end
end L3
/-! Effects: what changes owned things; defs and their calls. -/
namespace L3
open PySem PySem.Spec PyProof.Rows L2
section
variable {w : World} {K : PySem.W.Frag} {B : Addr → Prop} {ρ ρ1 ρ2 : Env} {σ σ1 σ2 : L2.St} {A A' A1 A2 : Nat → List Addr} {H H' H1 H2 : Hp} {c : Cell} {d : D} {v : V}
theorem ResC.item (h : ResC w K B ρ1 σ1 A A' H H' c v) (e : c.toD = some d) : Rep w K (mu B A') H' d v := by
  cases c with
  | un => cases e
  | scr ns => cases e
  | val x => cases e; exact h
  | own fx o =>
    obtain ⟨_, as, ok, hn, _⟩ := h
    cases o with
    | lst xs =>
      cases e
      obtain ⟨a, vs, e1, e2, h1, h2⟩ := ok
      exact ⟨a, vs, e1, (hn a (by simp [e2])).1, h1, h2.weak fun _ m => .inl m⟩
    | dic xs =>
      cases e
      obtain ⟨a, vs, e1, e2, h1, h2, nd⟩ := ok
      exact ⟨a, vs, e1, (hn a (by simp [e2])).1, h1, h2.weak fun _ m => .inl m, nd⟩
    | src s => cases e
    | lsts xss =>
      cases e
      obtain ⟨a, bs, e1, e2, h1, h2, h3⟩ := ok
      exact ⟨a, bs.map .ref, e1, (hn a (by simp [e2])).1, h1, h3.rep (fun _ m => .inl m) fun x hx => (hn x (by rw [e2]; exact List.mem_cons_of_mem _ hx)).1⟩
theorem ResC.of {k : Kind} (R : Rel w K B ρ σ A H) (S : Step w K B ρ σ A H ρ1 σ1 A1 H1) (s : Same H1 H2) (h : Res w K k (mu B A1) H1 H2 d v) (hk : k ≠ .r) : ResC w K B ρ1 σ1 A A1 H H2 (cellOf k d) v := by
  have fr : ∀ a, H1 a = none → (∃ j, a ∈ A j) ∨ H a = none := fun a n => by
    by_cases q : ∃ j, a ∈ A j
    · exact .inl q
    · refine .inr ?_
      cases e : H a with
      | none => rfl
      | some o => rw [S.ext.keep a o e q] at n; cases n
  cases k with
  | r => exact absurd rfl hk
  | c => exact h
  | f =>
    have hr := New1.rep h S.rel.al
    cases d with
    | list xs =>
      obtain ⟨a, vs, e, n, h1, h2⟩ := h
      refine ⟨rfl, [a], ⟨a, vs, e, rfl, h1, h2.weak fun x m => m.imp id fun z => List.mem_singleton.mp z⟩, fun x hx => ?_, S.rel.protect s fun x hx => ?_⟩
      · obtain rfl := List.mem_singleton.mp hx
        exact ⟨fun m => S.rel.al x m n, fr x n⟩
      · obtain rfl := List.mem_singleton.mp hx
        exact ⟨n, by rw [h1]; simp⟩
    | dict xs =>
      obtain ⟨a, vs, e, n, h1, h2, nd⟩ := h
      refine ⟨rfl, [a], ⟨a, vs, e, rfl, h1, h2.weak fun x m => m.imp id fun z => List.mem_singleton.mp z, nd⟩, fun x hx => ?_, S.rel.protect s fun x hx => ?_⟩
      · obtain rfl := List.mem_singleton.mp hx
        exact ⟨fun m => S.rel.al x m n, fr x n⟩
      · obtain rfl := List.mem_singleton.mp hx
        exact ⟨n, by rw [h1.2.2]; simp⟩
    | none => exact hr
    | bool b => exact hr
    | int b => exact hr
    | str b => exact hr
    | tuple b => exact hr
theorem Step.more (R : Rel w K B ρ σ A H) (S : Step w K B ρ σ A H ρ1 σ1 A1 H1) (s : Same H1 H2) : Step w K B ρ σ A H ρ1 σ1 A1 H2 := S.trans R (Step.same s S.rel)
/-- a result over more steps ahead of it -/
theorem ResC.ahead (R : Rel w K B ρ σ A H) (S : Step w K B ρ σ A H ρ1 σ1 A1 H1) (h : ResC w K B ρ2 σ2 A1 A2 H1 H2 c v) : ResC w K B ρ2 σ2 A A2 H H2 c v := by
  cases c with
  | un => exact h
  | scr ns => exact h
  | val x => exact h
  | own fx o =>
    obtain ⟨e, as, ok, hn, rr⟩ := h
    refine ⟨e, as, ok, fun x hx => ⟨(hn x hx).1, ?_⟩, rr⟩
    rcases (hn x hx).2 with ⟨j, z⟩ | z
    · exact S.sub j x z
    · by_cases q : ∃ j, x ∈ A j
      · exact .inl q
      · refine .inr ?_
        cases e : H x with
        | none => rfl
        | some o => rw [S.ext.keep x o e q] at z; cases z
end
def REf (w : World) (K : PySem.W.Frag) (f : E) : L2.TE := fun σ H Q => ∃ B ρ A ρ' c, Rel w K B ρ σ A H ∧ f ρ = some (ρ', c) ∧ ∀ v A' H', Step w K B ρ σ A H ρ' σ A' H' → ResC w K B ρ' σ A A' H H' c v → Q v H'
abbrev J (X : Cx) (e : Expr) (f : E) : Prop := PE X e (REf X.w X.K f)
def RTe (w : World) (K : PySem.W.Frag) (t : TE') : TT := fun σ H Q => ∃ B ρ A ρ' b, Rel w K B ρ σ A H ∧ t ρ = some (ρ', b) ∧ ∀ A' H', Step w K B ρ σ A H ρ' σ A' H' → Q b H'
abbrev JTe (X : Cx) (e : Expr) (t : TE') : Prop := PT X e (RTe X.w X.K t)
section
variable {X : Cx}
theorem jP {e : Expr} {p : P} (h : JP X .c e p) : J X e (eP p) := peimp h fun σ H Q h => by
  obtain ⟨B, ρ, A, ρ', c, R, e, q⟩ := h
  unfold eP at e
  cases z : p ρ with
  | none => rw [z] at e; cases e
  | some d =>
    rw [z] at e; cases e
    exact ⟨B, ρ, A, d, R, z, fun v H' s r => q v A H' (Step.same s R) r⟩
theorem jF {e : Expr} {p : P} (h : JP X .f e p) : J X e (eF p) := peimp h fun σ H Q h => by
  obtain ⟨B, ρ, A, ρ', c, R, e, q⟩ := h
  unfold eF at e
  cases z : p ρ with
  | none => rw [z] at e; cases e
  | some d =>
    rw [z] at e
    refine ⟨B, ρ, A, d, R, z, fun v H' s r => ?_⟩
    have rc := ResC.of R (Step.refl R) s r (by decide)
    cases d with
    | list xs => cases e; exact q v A H' (Step.same s R) rc
    | dict xs => cases e; exact q v A H' (Step.same s R) rc
    | _ => cases e
theorem jtP {e : Expr} {t : T} (h : JT X e t) : JTe X e (tP t) := ptimp h fun σ H Q h => by
  obtain ⟨B, ρ, A, ρ', c, R, e, q⟩ := h
  unfold tP at e
  cases z : t ρ with
  | none => rw [z] at e; cases e
  | some d =>
    rw [z] at e; cases e
    exact ⟨B, ρ, A, _, R, z, fun H' s => q A H' (Step.same s R)⟩
/-! ### operations with effects in their parts -/
theorem e2_inv {k : Kind} {f : D → D → Option D} {a b : E} {ρ ρ' : Env} {c : Cell} (h : e2 k f a b ρ = some (ρ', c)) : ∃ ρ1 c1 x c2 y d, a ρ = some (ρ1, c1) ∧ c1.toD = some x ∧ b ρ1 = some (ρ', c2) ∧ c2.toD = some y ∧ f x y = some d ∧ c = cellOf k d := by
  unfold e2 at h
  cases e1 : a ρ with
  | none => rw [e1] at h; cases h
  | some r1 =>
    obtain ⟨ρ1, c1⟩ := r1
    rw [e1] at h
    dsimp only at h
    cases e2 : c1.toD with
    | none => rw [e2] at h; cases h
    | some x =>
      rw [e2] at h
      dsimp only at h
      cases e3 : b ρ1 with
      | none => rw [e3] at h; cases h
      | some r2 =>
        obtain ⟨ρ2, c2⟩ := r2
        rw [e3] at h
        dsimp only at h
        cases e4 : c2.toD with
        | none => rw [e4] at h; cases h
        | some y =>
          rw [e4] at h
          dsimp only at h
          cases e5 : f x y with
          | none => rw [e5] at h; cases h
          | some d => rw [e5] at h; cases h; exact ⟨ρ1, c1, x, c2, y, d, rfl, e2, e3, e4, e5, rfl⟩
theorem rOpE {k : Kind} {op : D → D → Option D} {fa fb : E} {σ : L2.St} {H : Hp} {Q : VK} {w : World} {K : PySem.W.Frag} (hk : k ≠ .r) (h : REf w K (e2 k op fa fb) σ H Q) : tOp (rD w K k op) (REf w K fa) (REf w K fb) σ H Q := by
  obtain ⟨B, ρ, A, ρ', c, R, e, q⟩ := h
  obtain ⟨ρ1, c1, x, c2, y, d, ea, ex, eb, ey, ef, rfl⟩ := e2_inv e
  refine ⟨B, ρ, A, ρ1, c1, R, ea, fun v A1 H1 S1 r1 => ⟨B, ρ1, A1, ρ', c2, S1.rel, eb, fun u A2 H2 S2 r2 => ?_⟩⟩
  have S := S1.trans R S2
  exact ⟨mu B A2, x, y, d, S2.rel.al, (S2.rep S1.rel (r1.item ex)).rd1, (r2.item ey).rd1, ef, fun z H3 s3 rz => q z A2 H3 (S.more R s3) (ResC.of R S s3 rz hk)⟩
theorem jE2 {k : Kind} {op : Operator} {f : D → D → Option D} {a b : Expr} {fa fb : E} {pos : Pos} (ho : OpR X (binaryOp op) (rD X.w X.K k f)) (ha : J X a fa) (hb : J X b fb) (hk : k ≠ .r := by decide) :
    J X (.BinOp a op b pos) (e2 k f fa fb) := peimp (pe_op ho ha hb) fun σ H Q h => rOpE hk h
theorem jECmp {k : Kind} {op : CmpOp} {f : D → D → Option D} {a b : Expr} {fa fb : E} {pos : Pos} (ho : OpR X (compareOp op) (rD X.w X.K k f)) (ha : J X a fa) (hb : J X b fb) (hm : behindInMarks op b = false := by first | exact nomark _ | rfl) (hk : k ≠ .r := by decide) :
    J X (.Compare a [op] [b] pos) (e2 k f fa fb) := peimp (pe_cmpR ho ha hb hm) fun σ H Q h => rOpE hk h
theorem jEIx {a b : Expr} {fa fb : E} {pos : Pos} (ha : J X a fa) (hb : J X b fb) (hs : PlainIx b := by exact fun _ _ => rfl) : J X (.Subscript a b pos) (e2 .c dIx fa fb) := peimp (pe_ix oIx ha hb hs) fun σ H Q h => rOpE (by decide) h
theorem jENeg {k : Kind} {op : UnaryOp} {f : D → Option D} {a : Expr} {fa : E} {pos : Pos} (ho : UnR X (unaryOp op) (uD X.w X.K k f)) (ha : J X a fa) (hk : k ≠ .r := by decide) :
    J X (.UnaryOp op a pos) (e1 k f fa) := peimp (pe_un ho ha) fun σ H Q h => by
  obtain ⟨B, ρ, A, ρ', c, R, e, q⟩ := h
  unfold e1 at e
  cases z : fa ρ with
  | none => rw [z] at e; cases e
  | some r =>
    obtain ⟨ρ1, c1⟩ := r
    rw [z] at e
    dsimp only at e
    cases z2 : c1.toD with
    | none => rw [z2] at e; cases e
    | some x =>
      rw [z2] at e
      dsimp only at e
      cases z3 : f x with
      | none => rw [z3] at e; cases e
      | some d =>
        rw [z3] at e; cases e
        refine ⟨B, ρ, A, _, c1, R, z, fun v A1 H1 S1 r1 => ?_⟩
        exact ⟨mu B A1, x, d, S1.rel.al, (r1.item z2).rd1, z3, fun u H3 s3 rz => q u A1 H3 (S1.more R s3) (ResC.of R S1 s3 rz hk)⟩
/-- arguments -/
def RAe (w : World) (K : PySem.W.Frag) (fs : List E) : L2.TA := fun σ H Q => ∃ B ρ A ρ' ds, Rel w K B ρ σ A H ∧ eevs fs ρ = some (ρ', ds) ∧ ∀ vs A' H', Step w K B ρ σ A H ρ' σ A' H' → Reps w K (mu B A') H' ds vs → Q vs H'
abbrev JAe (X : Cx) (es : List Expr) (fs : List E) : Prop := PA X es (RAe X.w X.K fs)
theorem jaeNil : JAe X [] [] := paimp pa_nil fun σ H Q h => by
  obtain ⟨B, ρ, A, ρ', ds, R, e, q⟩ := h
  cases e
  exact q _ _ _ (Step.refl R) rfl
theorem jaeCons {e : Expr} {es : List Expr} {f : E} {fs : List E} (ha : J X e f) (hr : JAe X es fs) (hs : starEach (e :: es) X.env = (false, eval e X.env) :: starEach es X.env := by rfl) : JAe X (e :: es) (f :: fs) := paimp (pa_cons ha hr hs) fun σ H Q h => by
  obtain ⟨B, ρ, A, ρ', ds, R, e, q⟩ := h
  rw [eevs] at e
  cases e1 : f ρ with
  | none => rw [e1] at e; cases e
  | some r1 =>
    obtain ⟨ρ1, c1⟩ := r1
    rw [e1] at e
    dsimp only at e
    cases e2 : c1.toD with
    | none => rw [e2] at e; cases e
    | some x =>
      rw [e2] at e
      dsimp only at e
      cases e3 : eevs fs ρ1 with
      | none => rw [e3] at e; cases e
      | some r2 =>
        obtain ⟨ρ2, xs⟩ := r2
        rw [e3] at e; cases e
        refine ⟨B, ρ, A, ρ1, c1, R, e1, fun v A1 H1 S1 r1 => ⟨B, ρ1, A1, _, xs, S1.rel, e3, fun vs A2 H2 S2 r2 => ?_⟩⟩
        exact q _ A2 _ (S1.trans R S2) ⟨v, vs, rfl, S2.rep S1.rel (r1.item e2), r2⟩
theorem eN_inv {k : Kind} {f : List D → Option D} {as : List E} {ρ ρ' : Env} {c : Cell} (h : eN k f as ρ = some (ρ', c)) : ∃ xs d, eevs as ρ = some (ρ', xs) ∧ f xs = some d ∧ c = cellOf k d := by
  unfold eN at h
  cases e : eevs as ρ with
  | none => rw [e] at h; cases h
  | some r =>
    obtain ⟨ρ1, xs⟩ := r
    rw [e] at h
    dsimp only at h
    cases e2 : f xs with
    | none => rw [e2] at h; cases h
    | some d => rw [e2] at h; cases h; exact ⟨xs, d, rfl, e2, rfl⟩
theorem jETup {es : List Expr} {fs : List E} {x1 pos} (h : JAe X es fs) : J X (.Tuple es x1 pos) (eN .c dTup fs) := peimp (pe_tup h) fun σ H Q h => by
  obtain ⟨B, ρ, A, ρ', c, R, e, q⟩ := h
  obtain ⟨xs, d, e1, e2, rfl⟩ := eN_inv e
  unfold dTup at e2
  split at e2
  · rename_i hl
    cases e2
    refine ⟨B, ρ, A, ρ', xs, R, e1, fun vs A1 H1 S1 r1 => ⟨by rw [r1.length]; exact len24_ok hl, fun p hp => ?_⟩⟩
    exact q _ A1 _ (S1.more R (same_new hp)) ⟨p, vs, rfl, SqT.of upd_same, r1.same (same_new hp)⟩
  · cases e2
theorem jELst {es : List Expr} {fs : List E} {pos} (h : JAe X es fs) : J X (.List es pos) (eN .f dLst fs) := peimp (pe_lst h) fun σ H Q h => by
  obtain ⟨B, ρ, A, ρ', c, R, e, q⟩ := h
  obtain ⟨xs, d, e1, e2, rfl⟩ := eN_inv e
  unfold dLst at e2
  split at e2
  · rename_i hl
    cases e2
    refine ⟨B, ρ, A, ρ', xs, R, e1, fun vs A1 H1 S1 r1 => ⟨by rw [r1.length]; exact len24_ok hl, fun p hp => ?_⟩⟩
    exact q _ A1 _ (S1.more R (same_new hp)) (ResC.of (k := .f) R S1 (same_new hp) ⟨p, vs, rfl, hp, upd_same, fresh_weak hp r1⟩ (by decide))
  · cases e2
theorem items_paired {w : World} {K : PySem.W.Frag} {M : Addr → Prop} {H : Hp} : ∀ {ds : List D} {vs : List V}, Reps w K M H ds vs → Paired (Rd1 w K M H) ds vs
  | [], vs, h => by rw [show vs = [] from h]; exact .nil
  | d :: ds, vs, h => by
    obtain ⟨v, r, e, h1, h2⟩ := h
    subst e
    exact .cons h1.rd1 (items_paired h2)
theorem rCBe {k : Kind} {f : List D → Option D} {fs : List E} {σ : L2.St} {H : Hp} {Q : VK} {w : World} {K : PySem.W.Frag} (hk : k ≠ .r) (h : REf w K (eN k f fs) σ H Q) : tCB (cD w K k f) (RAe w K fs) σ H Q := by
  obtain ⟨B, ρ, A, ρ', c, R, e, q⟩ := h
  obtain ⟨xs, d, e1, e2, rfl⟩ := eN_inv e
  refine ⟨B, ρ, A, ρ', xs, R, e1, fun vs A1 H1 S1 r1 => ?_⟩
  exact ⟨mu B A1, xs, d, S1.rel.al, items_paired r1, e2, fun z H' s' rz => q z A1 H' (S1.more R s') (ResC.of R S1 s' rz hk)⟩
theorem jEB {k : Kind} {id : String} {x : Str} {f : List D → Option D} {p pos : Pos} {e : Expr} {es : List Expr} {fs : List E} (hc : CallR X (.builtin id) (cD X.w X.K k f)) (hm : X.mg x = none) (ha : JAe X (e :: es) fs) (hg : Gl X x := by rfl) (hv : bootBuiltins x = some (.builtin id) := by decide +kernel)
    (hn : x ≠ "__name__" := by decide) (hdb : (x == ("__debug__" : Str)) = false := by decide)
    (he : starEach (e :: es) X.env = (false, eval e X.env) :: starEach es X.env := by rfl) (hpl : (backTo pos (starEach es X.env)).any (·.1) = false := by rfl) (hk : k ≠ .r := by decide) : J X (.Call (.Name x p) (e :: es) [] pos) (eN k f fs) :=
  peimp (pe_callB hc hg hm hv ha hn hdb he hpl) fun σ H Q h => rCBe hk h
theorem jETy {k : Kind} {id : String} {x : Str} {f : List D → Option D} {p pos : Pos} {e : Expr} {es : List Expr} {fs : List E} (hc : CallR X (.type id) (cD X.w X.K k f)) (hm : X.mg x = none) (ha : JAe X (e :: es) fs) (hg : Gl X x := by rfl) (hv : bootBuiltins x = some (.type id) := by decide +kernel)
    (hn : x ≠ "__name__" := by decide) (hdb : (x == ("__debug__" : Str)) = false := by decide)
    (he : starEach (e :: es) X.env = (false, eval e X.env) :: starEach es X.env := by rfl) (hpl : (backTo pos (starEach es X.env)).any (·.1) = false := by rfl) (hk : k ≠ .r := by decide) : J X (.Call (.Name x p) (e :: es) [] pos) (eN k f fs) :=
  peimp (pe_callTy hc hg hm hv ha hn hdb he hpl) fun σ H Q h => rCBe hk h
/-! ### tests with effects -/
theorem jtVE {e : Expr} {f : E} (h : J X e f) (he : ∀ whole, isTrue e X.env whole = (do let v ← whole; standAt e.pos; holding [v] (truthy v)) := by intro _; rfl) : JTe X e (tVE f) := ptimp (pt_val h he) fun σ H Q h => by
  obtain ⟨B, ρ, A, ρ', b, R, e, q⟩ := h
  unfold tVE at e
  cases z : f ρ with
  | none => rw [z] at e; cases e
  | some r =>
    obtain ⟨ρ1, c⟩ := r
    rw [z] at e
    cases c with
    | val d =>
      cases d with
      | bool b' => cases e; exact ⟨B, ρ, A, _, _, R, z, fun v A' H' S r => ⟨b, r, q A' H' S⟩⟩
      | _ => cases e
    | _ => cases e
theorem jtVEc {k : Kind} {op : CmpOp} {f : D → D → Option D} {a b : Expr} {fa fb : E} {pos : Pos} (ho : OpR X (compareOp op) (rD X.w X.K k f)) (ha : J X a fa) (hb : J X b fb) (hm : behindInMarks op b = false := by first | exact nomark _ | rfl) (hk : k ≠ .r := by decide) :
    JTe X (.Compare a [op] [b] pos) (tVE (e2 k f fa fb)) := ptimp (pt_cmpR ho ha hb hm) fun σ H Q h => by
  obtain ⟨B, ρ, A, ρ', b, R, e, q⟩ := h
  unfold tVE at e
  cases z : e2 k f fa fb ρ with
  | none => rw [z] at e; cases e
  | some r =>
    obtain ⟨ρ1, c⟩ := r
    rw [z] at e
    cases c with
    | val d =>
      cases d with
      | bool b' => cases e; exact rOpE hk ⟨B, ρ, A, _, _, R, z, fun v A' H' S r => ⟨b, r, q A' H' S⟩⟩
      | _ => cases e
    | _ => cases e
theorem jtNotE {a : Expr} {t : TE'} {pos : Pos} (ha : JTe X a t) : JTe X (.UnaryOp .Not a pos) (tNotE t) := ptimp (pt_not ha) fun σ H Q h => by
  obtain ⟨B, ρ, A, ρ', b, R, e, q⟩ := h
  unfold tNotE at e
  cases z : t ρ with
  | none => rw [z] at e; cases e
  | some r => obtain ⟨ρ1, b'⟩ := r; rw [z] at e; cases e; exact ⟨B, ρ, A, _, _, R, z, fun A' H' S => q A' H' S⟩
abbrev JWe (X : Cx) (e : Expr) (t : TE') : Prop := PW X e (RTe X.w X.K t)
theorem jweAnd1 {a : Expr} {t : TE'} {pos : Pos} (ha : JTe X a t) : JWe X (.BoolOp .And [a] pos) t := pw_and1 ha
theorem jweOr1 {a : Expr} {t : TE'} {pos : Pos} (ha : JTe X a t) : JWe X (.BoolOp .Or [a] pos) t := pw_or1 ha
theorem jweAnd {a b : Expr} {rest : List Expr} {t u : TE'} {pos : Pos} (ha : JTe X a t) (hb : JWe X (.BoolOp .And (b :: rest) pos) u) : JWe X (.BoolOp .And (a :: b :: rest) pos) (tAndE t u) := pwimp (pw_and ha hb) fun σ H Q h => by
  obtain ⟨B, ρ, A, ρ', b, R, e, q⟩ := h
  unfold tAndE at e
  cases z : t ρ with
  | none => rw [z] at e; cases e
  | some r =>
    obtain ⟨ρ1, b'⟩ := r
    rw [z] at e
    refine ⟨B, ρ, A, ρ1, b', R, z, fun A1 H1 S1 => ?_⟩
    cases b' with
    | true => rw [if_pos rfl]; exact ⟨B, ρ1, A1, ρ', b, S1.rel, e, fun A2 H2 S2 => q A2 H2 (S1.trans R S2)⟩
    | false => rw [if_neg (by decide)]; cases e; exact q A1 H1 S1
theorem jweOr {a b : Expr} {rest : List Expr} {t u : TE'} {pos : Pos} (ha : JTe X a t) (hb : JWe X (.BoolOp .Or (b :: rest) pos) u) : JWe X (.BoolOp .Or (a :: b :: rest) pos) (tOrE t u) := pwimp (pw_or ha hb) fun σ H Q h => by
  obtain ⟨B, ρ, A, ρ', b, R, e, q⟩ := h
  unfold tOrE at e
  cases z : t ρ with
  | none => rw [z] at e; cases e
  | some r =>
    obtain ⟨ρ1, b'⟩ := r
    rw [z] at e
    refine ⟨B, ρ, A, ρ1, b', R, z, fun A1 H1 S1 => ?_⟩
    cases b' with
    | false => rw [if_neg (by decide)]; exact ⟨B, ρ1, A1, ρ', b, S1.rel, e, fun A2 H2 S2 => q A2 H2 (S1.trans R S2)⟩
    | true => rw [if_pos rfl]; cases e; exact q A1 H1 S1
theorem jtWe {e : Expr} {t : TE'} (h : JWe X e t) : JTe X e t := PW.pt h
theorem jEIf {c a b : Expr} {t : TE'} {fa fb : E} {pos : Pos} (hc : JTe X c t) (ha : J X a fa) (hb : J X b fb) : J X (.IfExp c a b pos) (eIf t fa fb) := peimp (pe_ifExp hc ha hb) fun σ H Q h => by
  obtain ⟨B, ρ, A, ρ', c, R, e, q⟩ := h
  unfold eIf at e
  cases z : t ρ with
  | none => rw [z] at e; cases e
  | some r =>
    obtain ⟨ρ1, b'⟩ := r
    rw [z] at e
    refine ⟨B, ρ, A, ρ1, b', R, z, fun A1 H1 S1 => ?_⟩
    cases b' with
    | true => rw [if_pos rfl]; exact ⟨B, ρ1, A1, ρ', c, S1.rel, e, fun v A2 H2 S2 r => q v A2 H2 (S1.trans R S2) (ResC.ahead R S1 r)⟩
    | false => rw [if_neg (by decide)]; exact ⟨B, ρ1, A1, ρ', c, S1.rel, e, fun v A2 H2 S2 r => q v A2 H2 (S1.trans R S2) (ResC.ahead R S1 r)⟩
end
end L3
/-! Statements. -/
namespace L3
open PySem PySem.Spec PyProof.Rows L2
/-- what is wanted behind a statement's outcome -/
def After (w : World) (K : PySem.W.Frag) (B : Addr → Prop) (ρ : Env) (σ : L2.St) (A : Nat → List Addr) (H : Hp) (D : Ends) (ρ' : Env) : Out → Prop
  | .nx => ∀ σ' A' H', Step w K B ρ σ A H ρ' σ' A' H' → D.nx σ' H'
  | .bk => ∀ σ' A' H', Step w K B ρ σ A H ρ' σ' A' H' → D.bk σ' H'
  | .ct => ∀ σ' A' H', Step w K B ρ σ A H ρ' σ' A' H' → D.ct σ' H'
  | .rt c => ∀ v σ' A' H', Step w K B ρ σ A H ρ' σ' A' H' → ResC w K B ρ' σ' A A' H H' c v → D.rt v H'
def RSm (w : World) (K : PySem.W.Frag) (g : Sm) : TS := fun D σ H => ∃ B ρ A ρ' o, Rel w K B ρ σ A H ∧ g ρ = some (ρ', o) ∧ After w K B ρ σ A H D ρ' o
abbrev S1 (X : Cx) (st : Stmt) (g : Sm) : Prop := PS X st (RSm X.w X.K g)
abbrev Ss (X : Cx) (sts : List Stmt) (g : Sm) : Prop := PSs X sts (RSm X.w X.K g)
section
variable {w : World} {K : PySem.W.Frag} {B : Addr → Prop} {ρ ρ' ρ1 ρ2 : Env} {σ σ' σ1 σ2 : L2.St} {A A' A1 A2 : Nat → List Addr} {H H' H1 H2 : Hp} {c : Cell} {d : D} {v : V}
theorem After.ahead (R : Rel w K B ρ σ A H) (S : Step w K B ρ σ A H ρ1 σ1 A1 H1) {Dn D' : Ends} {o : Out} (h : After w K B ρ σ A H Dn ρ' o) (hd : (o = .nx → D'.nx = Dn.nx) ∧ D'.rt = Dn.rt ∧ D'.bk = Dn.bk ∧ D'.ct = Dn.ct) : After w K B ρ1 σ1 A1 H1 D' ρ' o := by
  cases o with
  | nx => rw [After, hd.1 rfl]; exact fun σ' A' H' S' => h σ' A' H' (S.trans R S')
  | bk => rw [After, hd.2.2.1]; exact fun σ' A' H' S' => h σ' A' H' (S.trans R S')
  | ct => rw [After, hd.2.2.2]; exact fun σ' A' H' S' => h σ' A' H' (S.trans R S')
  | rt c => rw [After, hd.2.1]; exact fun v σ' A' H' S' r => h v σ' A' H' (S.trans R S') (ResC.ahead R S r)
/-- a slot is stored -/
def putA (A : Nat → List Addr) (i : Nat) (as : List Addr) : Nat → List Addr := fun j => if j = i then as else A j
theorem putA_self {i : Nat} {as : List Addr} : putA A i as i = as := by simp [putA]
theorem putA_ne {i j : Nat} {as : List Addr} (h : j ≠ i) : putA A i as j = A j := by simp [putA, h]
theorem get_join {ov : Option (Option V)} {v : V} (h : ov.join = some v) : ov = some (some v) := by
  cases ov with
  | none => cases h
  | some y => exact congrArg some h
theorem put_inv {i : Nat} {c : Cell} (h : put i c ρ = some ρ') : i < ρ.length ∧ ρ' = ρ.set i c ∧ ∀ o, ρ[i]? ≠ some (Cell.own true o) := by
  unfold put at h
  cases e : ρ[i]? with
  | none => rw [e] at h; cases h
  | some c0 =>
    have hi : i < ρ.length := (List.getElem?_eq_some_iff.mp e).1
    rw [e] at h
    cases c0 with
    | own fx o =>
      cases fx with
      | true => cases h
      | false => cases h; exact ⟨hi, rfl, fun o z => by cases z⟩
    | un => cases h; exact ⟨hi, rfl, fun o z => by cases z⟩
    | scr ns => cases h; exact ⟨hi, rfl, fun o z => by cases z⟩
    | val x => cases h; exact ⟨hi, rfl, fun o z => by cases z⟩
theorem OwnOk.refs {M : Addr → Prop} {o : Own} {as : List Addr} (h : OwnOk w K M H o v as) : ∃ a r, v = .ref a ∧ as = a :: r := by
  cases o with
  | lst xs => obtain ⟨a, vs, e1, e2, _⟩ := h; exact ⟨a, _, e1, e2⟩
  | dic xs => obtain ⟨a, vs, e1, e2, _⟩ := h; exact ⟨a, _, e1, e2⟩
  | lsts s => obtain ⟨a, c, e1, e2, _⟩ := h; exact ⟨a, _, e1, e2⟩
  | src s => obtain ⟨a, c, e1, e2, _⟩ := h; exact ⟨a, _, e1, e2⟩
/-- any cell into a slot: what it owns (as) is apart from all else -/
theorem Rel.put {i : Nat} {as : List Addr} (R : Rel w K (fun x => B x ∨ x ∈ as) ρ σ A H) (hi : i < ρ.length) (hc : CellOk w K (fun x => mu B A x ∨ x ∈ as) H c (some v) as) (hn : ∀ x ∈ as, ¬ mu B A x) (hB : ∀ x, B x → H x ≠ none) :
    Rel w K B (ρ.set i c) (σ.set i (some v)) (putA A i as) H where
  len := by rw [List.length_set, List.length_set]; exact R.len
  cell := fun j c' e => by
    have hM : ∀ x, mu B (putA A i as) x → mu B A x ∨ x ∈ as := fun x m => by
      rcases m with m | ⟨k, m⟩
      · exact .inl (.inl m)
      · by_cases hk : k = i
        · subst hk; rw [putA_self] at m; exact .inr m
        · rw [putA_ne hk] at m; exact .inl (.inr ⟨k, m⟩)
    by_cases hj : j = i
    · subst hj
      rw [List.getElem?_set_self hi] at e
      cases e
      rw [putA_self, List.getElem?_set_self (by rw [← R.len]; exact hi)]
      exact hc.ext (O := fun _ => False) (Ext.refl H) (fun _ z => z.elim) (fun a _ m => hM a m) (fun _ _ z => z)
    · rw [List.getElem?_set_ne (Ne.symm hj)] at e
      rw [putA_ne hj, List.getElem?_set_ne (Ne.symm hj)]
      exact (R.cell j c' e).ext (O := fun _ => False) (Ext.refl H) (fun _ z => z.elim) (fun a _ m => mu_or.mpr (hM a m)) (fun _ _ z => z)
  out := fun j hj => by
    rw [List.length_set] at hj
    rw [putA_ne (by omega)]
    exact R.out j hj
  aliveB := hB
  apart := fun j x h z => by
    by_cases hj : j = i
    · subst hj; rw [putA_self] at h; exact hn x h (.inl z)
    · rw [putA_ne hj] at h; exact R.apart j x h (.inl z)
  one := fun j k x h1 h2 => by
    by_cases hj : j = i
    · by_cases hk : k = i
      · rw [hj, hk]
      · subst hj
        rw [putA_self] at h1
        rw [putA_ne hk] at h2
        exact absurd (.inr ⟨k, h2⟩) (hn x h1)
    · by_cases hk : k = i
      · subst hk
        rw [putA_self] at h2
        rw [putA_ne hj] at h1
        exact absurd (.inr ⟨j, h1⟩) (hn x h2)
      · rw [putA_ne hj] at h1
        rw [putA_ne hk] at h2
        exact R.one j k x h1 h2
theorem Rel.noB (R : Rel w K B ρ σ A H) : Rel w K (fun x => B x ∨ x ∈ ([] : List Addr)) ρ σ A H :=
  R.protect (Same.refl H) fun x z => nomatch z
theorem Step.put {i : Nat} {as : List Addr} (R : Rel w K B ρ σ A H) (S : Step w K B ρ σ A H ρ1 σ1 A1 H1) (hp : L3.put i c ρ1 = some ρ2) (R1 : Rel w K (fun x => B x ∨ x ∈ as) ρ1 σ1 A1 H1)
    (hc : CellOk w K (fun x => mu B A1 x ∨ x ∈ as) H1 c (some v) as) (hn : ∀ x ∈ as, ¬ mu B A1 x ∧ ((∃ j, x ∈ A j) ∨ H x = none)) : Step w K B ρ σ A H ρ2 (σ1.set i (some v)) (putA A1 i as) H1 := by
  obtain ⟨hi, rfl, hf⟩ := put_inv hp
  refine ⟨Rel.put R1 hi hc (fun x h => (hn x h).1) S.rel.aliveB, S.ext, fun j x h => ?_, fun j o h => ?_⟩
  · by_cases hj : j = i
    · subst hj; rw [putA_self] at h; exact (hn x h).2
    · rw [putA_ne hj] at h; exact S.sub j x h
  · obtain ⟨⟨o', e1⟩, e2⟩ := S.fix j o h
    have hj : j ≠ i := fun z => by subst z; exact hf o' e1
    exact ⟨⟨o', by rw [List.getElem?_set_ne (Ne.symm hj)]; exact e1⟩, by rw [List.getElem?_set_ne (Ne.symm hj)]; exact e2⟩
end
section
variable {X : Cx}
theorem ssNil : Ss X [] sNx := pssimp pss_nil fun D σ H h => by
  obtain ⟨B, ρ, A, ρ', o, R, e, q⟩ := h
  cases e
  exact q σ A H (Step.refl R)
theorem ssCons {st : Stmt} {rest : List Stmt} {a b : Sm} (h1 : S1 X st a) (h2 : Ss X rest b) : Ss X (st :: rest) (sSeq a b) := pssimp (pss_cons h1 h2) fun D σ H h => by
  obtain ⟨B, ρ, A, ρ', o, R, e, q⟩ := h
  unfold sSeq at e
  cases z : a ρ with
  | none => rw [z] at e; cases e
  | some r =>
    obtain ⟨ρ1, o1⟩ := r
    rw [z] at e
    cases o1 with
    | nx => exact ⟨B, ρ, A, ρ1, .nx, R, z, fun σ1 A1 H1 S => ⟨B, ρ1, A1, ρ', o, S.rel, e, q.ahead R S ⟨fun _ => rfl, rfl, rfl, rfl⟩⟩⟩
    | bk => cases e; exact ⟨B, ρ, A, _, .bk, R, z, q⟩
    | ct => cases e; exact ⟨B, ρ, A, _, .ct, R, z, q⟩
    | rt c => cases e; exact ⟨B, ρ, A, _, .rt c, R, z, q⟩
theorem ssOne {st : Stmt} {a : Sm} (h1 : S1 X st a) : Ss X [st] a := pss_one h1
theorem sPass {pos : Pos} : S1 X (.Pass pos) sNx := psimp ps_pass fun D σ H h => by
  obtain ⟨B, ρ, A, ρ', o, R, e, q⟩ := h
  cases e
  exact q σ A H (Step.refl R)
def sBk : Sm := fun ρ => some (ρ, .bk)
theorem sBreak {pos : Pos} : S1 X (.Break pos) sBk := psimp ps_break fun D σ H h => by
  obtain ⟨B, ρ, A, ρ', o, R, e, q⟩ := h
  cases e
  exact q σ A H (Step.refl R)
/-- name = e -/
theorem sSetV {i : Nat} {x : Str} {e : Expr} {f : E} {pos pos' : Pos} (nd : X.N.Nodup) (he : J X e f) (hi : X.N[i]? = some x := by rfl) (hx : Loc X.env.scope x := by first | exact Or.inl rfl | exact Or.inr rfl) (hs : swapsWith e (some (.Name x pos')) pos.line X.env = pure false := by rfl)
    (hf : X.fn x = true ∨ X.env.scope.names.lookup x = some .local := by first | exact .inl rfl | exact .inr rfl) : S1 X (.Assign [.Name x pos'] e pos) (sVal i f) := psimp (ps_set nd hi hx he hs hf) fun D σ H h => by
  obtain ⟨B, ρ, A, ρ', o, R, e, q⟩ := h
  unfold sVal at e
  cases z : f ρ with
  | none => rw [z] at e; cases e
  | some r =>
    obtain ⟨ρ1, c⟩ := r
    rw [z] at e
    dsimp only at e
    cases z2 : c.toD with
    | none => rw [z2] at e; cases e
    | some d =>
      rw [z2] at e
      dsimp only at e
      cases z3 : put i (.val d) ρ1 with
      | none => rw [z3] at e; cases e
      | some ρ2 =>
        rw [z3] at e; cases e
        refine ⟨B, ρ, A, ρ1, c, R, z, fun v A1 H1 S r => q _ _ _ (Step.put (as := []) R S z3 S.rel.noB ⟨rfl, v, rfl, ?_⟩ fun x z => nomatch z)⟩
        exact (r.item z2).weak fun a m => m.elim id fun z => nomatch z
theorem sSetO {i : Nat} {x : Str} {e : Expr} {f : E} {pos pos' : Pos} (nd : X.N.Nodup) (he : J X e f) (hi : X.N[i]? = some x := by rfl) (hx : Loc X.env.scope x := by first | exact Or.inl rfl | exact Or.inr rfl) (hs : swapsWith e (some (.Name x pos')) pos.line X.env = pure false := by rfl)
    (hf : X.fn x = true ∨ X.env.scope.names.lookup x = some .local := by first | exact .inl rfl | exact .inr rfl) : S1 X (.Assign [.Name x pos'] e pos) (sOwn i f) := psimp (ps_set nd hi hx he hs hf) fun D σ H h => by
  obtain ⟨B, ρ, A, ρ', o, R, e, q⟩ := h
  unfold sOwn at e
  cases z : f ρ with
  | none => rw [z] at e; cases e
  | some r =>
    obtain ⟨ρ1, c⟩ := r
    rw [z] at e
    cases c with
    | own fx ow =>
      cases fx with
      | true => cases e
      | false =>
        dsimp only at e
        cases z3 : put i (.own false ow) ρ1 with
        | none => rw [z3] at e; cases e
        | some ρ2 =>
          rw [z3] at e; cases e
          refine ⟨B, ρ, A, ρ1, _, R, z, fun v A1 H1 S r => ?_⟩
          obtain ⟨_, as, ok, hn, R1⟩ := r
          exact q _ _ _ (Step.put (as := as) R S z3 R1 ⟨v, rfl, ok⟩ hn)
    | _ => cases e
theorem sExpr {e : Expr} {f : E} {pos : Pos} (he : J X e f) (hs : swapsWith e none pos.line X.env = pure false := by rfl) : S1 X (.Expr e pos) (sEx f) := psimp (ps_expr he hs) fun D σ H h => by
  obtain ⟨B, ρ, A, ρ', o, R, e, q⟩ := h
  unfold sEx at e
  cases z : f ρ with
  | none => rw [z] at e; cases e
  | some r =>
    obtain ⟨ρ1, c⟩ := r
    rw [z] at e; cases e
    exact ⟨B, ρ, A, _, c, R, z, fun v A1 H1 S r => q _ _ _ S⟩
theorem sReturn {e : Expr} {f : E} {pos : Pos} (he : J X e f) : S1 X (.Return (some e) pos) (sRet f) := psimp (ps_ret he) fun D σ H h => by
  obtain ⟨B, ρ, A, ρ', o, R, e, q⟩ := h
  unfold sRet at e
  cases z : f ρ with
  | none => rw [z] at e; cases e
  | some r =>
    obtain ⟨ρ1, c⟩ := r
    rw [z] at e; cases e
    exact ⟨B, ρ, A, _, c, R, z, fun v A1 H1 S r => q v _ _ _ S r⟩
theorem sIfS {c : Expr} {a b : List Stmt} {t : TE'} {ga gb : Sm} {pos : Pos} (hc : JTe X c t) (ha : Ss X a ga) (hb : Ss X b gb) : S1 X (.If c a b pos) (sIf t ga gb) := psimp (ps_if hc ha hb) fun D σ H h => by
  obtain ⟨B, ρ, A, ρ', o, R, e, q⟩ := h
  unfold sIf at e
  cases z : t ρ with
  | none => rw [z] at e; cases e
  | some r =>
    obtain ⟨ρ1, k⟩ := r
    rw [z] at e
    refine ⟨B, ρ, A, ρ1, k, R, z, fun A1 H1 S => ?_⟩
    cases k with
    | true => rw [if_pos rfl]; exact ⟨B, ρ1, A1, ρ', o, S.rel, e, q.ahead R S ⟨fun _ => rfl, rfl, rfl, rfl⟩⟩
    | false => rw [if_neg (by decide)]; exact ⟨B, ρ1, A1, ρ', o, S.rel, e, q.ahead R S ⟨fun _ => rfl, rfl, rfl, rfl⟩⟩
/-! ### while -/
/-- so many turns at most -/
def whileN (t : TE') (b : Sm) : Nat → Sm
  | 0, _ => none
  | n + 1, ρ => match t ρ with
    | some (ρ1, true) => (match b ρ1 with
      | some (ρ2, .nx) => whileN t b n ρ2
      | some (ρ2, .ct) => whileN t b n ρ2
      | some (ρ2, .bk) => some (ρ2, .nx)
      | some (ρ2, .rt c) => some (ρ2, .rt c)
      | none => none)
    | some (ρ1, false) => some (ρ1, .nx)
    | none => none
theorem while_of {t : TE'} {b : Sm} {ρ : Env} {r : Env × Out} (h : whileF t b ρ = some r) : ∃ n, whileN t b n ρ = some r := by
  refine whileF.partial_correctness t b (fun ρ r => ∃ n, whileN t b n ρ = some r) (fun f ih ρ r hr => ?_) ρ r h
  cases e : t ρ with
  | none => rw [e] at hr; cases hr
  | some r1 =>
    obtain ⟨ρ1, k⟩ := r1
    rw [e] at hr
    cases k with
    | false => cases hr; exact ⟨1, by rw [whileN, e]⟩
    | true =>
      dsimp only at hr
      cases e2 : b ρ1 with
      | none => rw [e2] at hr; cases hr
      | some r2 =>
        obtain ⟨ρ2, o⟩ := r2
        rw [e2] at hr
        cases o with
        | nx =>
          obtain ⟨n, hn⟩ := ih ρ2 r hr
          exact ⟨n + 1, by rw [whileN, e]; dsimp only; rw [e2]; exact hn⟩
        | ct =>
          obtain ⟨n, hn⟩ := ih ρ2 r hr
          exact ⟨n + 1, by rw [whileN, e]; dsimp only; rw [e2]; exact hn⟩
        | bk => cases hr; exact ⟨1, by rw [whileN, e]; dsimp only; rw [e2]⟩
        | rt c => cases hr; exact ⟨1, by rw [whileN, e]; dsimp only; rw [e2]⟩
theorem sWhileS {c : Expr} {body : List Stmt} {t : TE'} {g : Sm} {pos : Pos} (hp : PassesOwn (model X.prog X.w) X.A X.env X.xe) (hc : JTe X c t) (hb : Ss X body g) : S1 X (.While c body [] pos) (sWhile t g) := psimp (ps_while hp hc hb) fun D σ H h => by
  obtain ⟨B, ρ, A, ρ', o, R, e, q⟩ := h
  obtain ⟨n, hn⟩ := while_of e
  refine ⟨fun m σ1 H1 => ∃ ρ1 A1, Rel X.w X.K B ρ1 σ1 A1 H1 ∧ whileN t g m ρ1 = some (ρ', o) ∧ After X.w X.K B ρ1 σ1 A1 H1 D ρ' o, ⟨n, ρ, A, R, hn, q⟩, ?_⟩
  rintro m σ1 H1 ⟨ρ1, A1, R1, e1, q1⟩
  cases m with
  | zero => cases e1
  | succ m =>
    rw [whileN] at e1
    cases z : t ρ1 with
    | none => rw [z] at e1; cases e1
    | some r =>
      obtain ⟨ρ2, k⟩ := r
      rw [z] at e1
      refine ⟨B, ρ1, A1, ρ2, k, R1, z, fun A2 H2 S2 => ?_⟩
      cases k with
      | false =>
        rw [if_neg (by decide)]
        cases e1
        exact q1 _ _ _ S2
      | true =>
        rw [if_pos rfl]
        dsimp only at e1
        refine ⟨fun σ3 H3 => ∃ ρ3 A3, Rel X.w X.K B ρ3 σ3 A3 H3 ∧ whileN t g m ρ3 = some (ρ', o) ∧ After X.w X.K B ρ3 σ3 A3 H3 D ρ' o, fun σ3 H3 h3 => ⟨m, Nat.lt_succ_self m, h3⟩, ?_⟩
        cases z2 : g ρ2 with
        | none => rw [z2] at e1; cases e1
        | some r2 =>
          obtain ⟨ρ3, o3⟩ := r2
          rw [z2] at e1
          have q2 := q1.ahead (D' := D) R1 S2 ⟨fun _ => rfl, rfl, rfl, rfl⟩
          cases o3 with
          | nx => exact ⟨B, ρ2, A2, ρ3, .nx, S2.rel, z2, fun σ3 A3 H3 S3 => ⟨ρ3, A3, S3.rel, e1, q2.ahead S2.rel S3 ⟨fun _ => rfl, rfl, rfl, rfl⟩⟩⟩
          | ct => exact ⟨B, ρ2, A2, ρ3, .ct, S2.rel, z2, fun σ3 A3 H3 S3 => ⟨ρ3, A3, S3.rel, e1, q2.ahead S2.rel S3 ⟨fun _ => rfl, rfl, rfl, rfl⟩⟩⟩
          | bk => cases e1; exact ⟨B, ρ2, A2, ρ', .bk, S2.rel, z2, fun σ3 A3 H3 S3 => q2 _ _ _ S3⟩
          | rt c => cases e1; exact ⟨B, ρ2, A2, ρ', .rt c, S2.rel, z2, fun v σ3 A3 H3 S3 r => q2 _ _ _ _ S3 r⟩
end
end L3
/-! Targets, for loops, changes of owned lists. -/
namespace L3
open PySem PySem.Spec PyProof.Rows L2
def RG (w : World) (K : PySem.W.Frag) (p : Pat) : TG := fun v σ H Q => ∃ B ρ A d ρ', Rel w K B ρ σ A H ∧ bind p d ρ = some ρ' ∧ Rep w K (mu B A) H d v ∧ ∀ σ' A', Step w K B ρ σ A H ρ' σ' A' H → (∀ j, j ∉ p.slots → σ'[j]? = σ[j]? ∧ A' j = A j) → Q σ' H
def RGs (w : World) (K : PySem.W.Frag) (ps : List Pat) : TGs := fun vs σ H Q => ∃ B ρ A ds ρ', Rel w K B ρ σ A H ∧ binds ps ds ρ = some ρ' ∧ Reps w K (mu B A) H ds vs ∧ ∀ σ' A', Step w K B ρ σ A H ρ' σ' A' H → (∀ j, j ∉ slotsAll ps → σ'[j]? = σ[j]? ∧ A' j = A j) → Q σ' H
abbrev JG (X : Cx) (t : Expr) (p : Pat) : Prop := PG X t (RG X.w X.K p)
abbrev JGs (X : Cx) (ts : List Expr) (ps : List Pat) : Prop := PGs X ts (RGs X.w X.K ps)
section
variable {X : Cx}
theorem pgimp {e : Expr} {t t' : TG} (h : PG X e t) (i : ∀ v σ H Q, t' v σ H Q → t v σ H Q) : PG X e t' := ⟨fun pins s σ H v u Q I r q => h.run pins s σ H v u Q I r (i _ _ _ _ q)⟩
theorem pgsimp {e : List Expr} {t t' : TGs} (h : PGs X e t) (i : ∀ v σ H Q, t' v σ H Q → t v σ H Q) : PGs X e t' := ⟨fun pins s σ H v u Q I r q => h.run pins s σ H v u Q I r (i _ _ _ _ q)⟩
theorem gNm {i : Nat} {x : Str} {pos : Pos} (nd : X.N.Nodup) (hi : X.N[i]? = some x := by rfl) (hx : Loc X.env.scope x := by first | exact Or.inl rfl | exact Or.inr rfl) (hf : X.fn x = true ∨ X.env.scope.names.lookup x = some .local := by first | exact .inl rfl | exact .inr rfl) :
    JG X (.Name x pos) (.nm i) := pgimp (pg_name nd hi hx hf) fun v σ H Q h => by
  obtain ⟨B, ρ, A, d, ρ', R, e, r, q⟩ := h
  exact q _ _ (Step.put (as := []) R (Step.refl R) (show put i (.val d) ρ = some ρ' from by simpa [bind] using e) R.noB ⟨rfl, v, rfl, r.weak fun a m => m.elim id fun z => nomatch z⟩ fun x z => nomatch z) fun j hj => by
    have hj : j ≠ i := by simpa [Pat.slots] using hj
    exact ⟨by rw [List.getElem?_set_ne (Ne.symm hj)], putA_ne hj⟩
theorem gsNil : JGs X [] [] := pgsimp pgs_nil fun vs σ H Q h => by
  obtain ⟨B, ρ, A, ds, ρ', R, e, r, q⟩ := h
  cases ds with
  | nil => rw [binds] at e; cases e; exact ⟨r, q _ _ (Step.refl R) fun _ _ => ⟨rfl, rfl⟩⟩
  | cons _ _ => simp [binds] at e
theorem gsCons {e : Expr} {es : List Expr} {p : Pat} {ps : List Pat} (h1 : JG X e p) (h2 : JGs X es ps) (hs : (assignEach (e :: es) X.env).map (·.2) = assign e X.env :: (assignEach es X.env).map (·.2) := by rfl) : JGs X (e :: es) (p :: ps) := pgsimp (pgs_cons h1 h2 hs) fun vs σ H Q h => by
  obtain ⟨B, ρ, A, ds, ρ', R, e, r, q⟩ := h
  cases ds with
  | nil => simp [binds] at e
  | cons d ds =>
    obtain ⟨v, t, rfl, r1, r2⟩ := r
    rw [binds] at e
    cases z : bind p d ρ with
    | none => rw [z] at e; cases e
    | some ρ1 =>
      rw [z] at e
      exact ⟨v, t, rfl, B, ρ, A, d, ρ1, R, z, r1, fun σ1 A1 S1 k1 => ⟨B, ρ1, A1, ds, ρ', S1.rel, e, S1.reps R r2, fun σ2 A2 S2 k2 => q _ _ (S1.trans R S2) fun j hj => by
        simp only [slotsAll, List.mem_append, not_or] at hj
        exact ⟨(k2 j hj.2).1.trans (k1 j hj.1).1, (k2 j hj.2).2.trans (k1 j hj.1).2⟩⟩⟩
theorem binds_len : ∀ {ps : List Pat} {ds : List D} {ρ ρ' : Env}, binds ps ds ρ = some ρ' → ds.length = ps.length
  | [], [], _, _, _ => rfl
  | [], _ :: _, _, _, h => by simp [binds] at h
  | _ :: _, [], _, _, h => by simp [binds] at h
  | p :: ps, d :: ds, ρ, ρ', h => by
    rw [binds] at h
    cases z : bind p d ρ with
    | none => rw [z] at h; cases h
    | some ρ1 => rw [z] at h; rw [List.length_cons, List.length_cons, binds_len h]
mutual
theorem bind_len : ∀ (p : Pat) (d : D) (ρ ρ' : Env), bind p d ρ = some ρ' → ρ'.length = ρ.length
  | .nm i, d, ρ, ρ', h => by
    rw [bind] at h
    obtain ⟨_, rfl, _⟩ := put_inv h
    rw [List.length_set]
  | .tp ps, d, ρ, ρ', h => by
    cases d with
    | tuple xs => exact binds_len2 ps xs ρ ρ' (by simpa [bind] using h)
    | _ => simp [bind] at h
  | .tl ps, d, ρ, ρ', h => by
    cases d with
    | list xs => exact binds_len2 ps xs ρ ρ' (by simpa [bind] using h)
    | _ => simp [bind] at h
theorem binds_len2 : ∀ (ps : List Pat) (ds : List D) (ρ ρ' : Env), binds ps ds ρ = some ρ' → ρ'.length = ρ.length
  | [], [], _, _, h => by rw [binds] at h; cases h; rfl
  | [], _ :: _, _, _, h => by simp [binds] at h
  | _ :: _, [], _, _, h => by simp [binds] at h
  | p :: ps, d :: ds, ρ, ρ', h => by
    rw [binds] at h
    cases z : bind p d ρ with
    | none => rw [z] at h; cases h
    | some ρ1 => rw [z] at h; rw [binds_len2 ps ds ρ1 ρ' h, bind_len p d ρ ρ1 z]
end
theorem gTp {es : List Expr} {k : Nat} {ps : List Pat} {pos : Pos} (hc : X.calm = true) (h : JGs X es ps) (hn : (assignEach es X.env).length = ps.length := by rfl) (hst : (assignEach es X.env).findIdx? (·.1) = none := by rfl) : JG X (.Tuple es k pos) (.tp ps) :=
  pgimp (pg_tup hc h hn hst) fun v σ H Q h => by
    obtain ⟨B, ρ, A, d, ρ', R, e, r, q⟩ := h
    cases d with
    | tuple xs =>
      obtain ⟨a, vs, e1, h1, h2⟩ := r
      have e' : binds ps xs ρ = some ρ' := by simpa [bind] using e
      exact ⟨a, vs, e1, h1, by rw [h2.length, binds_len e'], B, ρ, A, xs, ρ', R, e', h2, fun σ' A' S k => q σ' A' S (by simpa [Pat.slots] using k)⟩
    | _ => simp [bind] at e
theorem gTl {es : List Expr} {k : Nat} {ps : List Pat} {pos : Pos} (hc : X.calm = true) (h : JGs X es ps) (hn : (assignEach es X.env).length = ps.length := by rfl) (hst : (assignEach es X.env).findIdx? (·.1) = none := by rfl) : JG X (.Tuple es k pos) (.tl ps) :=
  pgimp (pg_unl hc h hn hst) fun v σ H Q h => by
    obtain ⟨B, ρ, A, d, ρ', R, e, r, q⟩ := h
    cases d with
    | list xs =>
      obtain ⟨a, vs, e1, _, h1, h2⟩ := r
      have e' : binds ps xs ρ = some ρ' := by simpa [bind] using e
      exact ⟨a, vs, e1, SqL.of h1, by rw [h2.length, binds_len e'], B, ρ, A, xs, ρ', R, e', h2, fun σ' A' S k => q σ' A' S (by simpa [Pat.slots] using k)⟩
    | _ => simp [bind] at e
/-- target = e -/
theorem sAsg {tg e : Expr} {p : Pat} {f : E} {pos : Pos} (he : J X e f) (hg : JG X tg p) (hs : swapsWithSole [tg] e pos.line X.env = pure false := by rfl) (hw : swappedStores [tg] e X.env = pure none := by rfl)
    (h1 : (assignEach [tg] X.env).map (·.2) = [assign tg X.env] := by rfl) : S1 X (.Assign [tg] e pos) (sPat p f) := psimp (ps_asg he hg hs hw h1) fun D σ H h => by
  obtain ⟨B, ρ, A, ρ', o, R, e, q⟩ := h
  unfold sPat at e
  cases z : f ρ with
  | none => rw [z] at e; cases e
  | some r =>
    obtain ⟨ρ1, c⟩ := r
    rw [z] at e
    dsimp only at e
    cases z2 : c.toD with
    | none => rw [z2] at e; cases e
    | some d =>
      rw [z2] at e
      dsimp only at e
      cases z3 : bind p d ρ1 with
      | none => rw [z3] at e; cases e
      | some ρ2 =>
        rw [z3] at e; cases e
        exact ⟨B, ρ, A, ρ1, c, R, z, fun v A1 H1 S r => ⟨B, ρ1, A1, d, _, S.rel, z3, r.item z2, fun σ2 A2 S2 _ => q _ _ _ (S.trans R S2)⟩⟩
/-! ### what is walked -/
/-- an iterator that hands out xs; it holds while Keep holds -/
structure GoodIt (w : World) (K : PySem.W.Frag) (B : Addr → Prop) (xs : List D) (J : It) (Keep : (Nat → List Addr) → Hp → Prop) : Prop where
  go : ∀ i A H, i < xs.length → Keep A H → J.go i H ∧ ∀ v H', J.yld i H v H' → Same H H' ∧ Keep A H' ∧ ∀ x, xs[i]? = some x → Rep w K (mu B A) H' x v
  stop : ∀ i A H, xs.length ≤ i → Keep A H → J.stop i H
/-- through every step -/
def Steps (w : World) (K : PySem.W.Frag) (B : Addr → Prop) (Keep : (Nat → List Addr) → Hp → Prop) : Prop := ∀ (A : Nat → List Addr) (H : Hp) (A' : Nat → List Addr) (H' : Hp) (O : Addr → Prop), Keep A H → Ext O H H' → (∀ a, O a → mu B A a) → (∀ a, H a ≠ none → mu B A' a → mu B A a) → Keep A' H'
theorem Steps.step {w : World} {K : PySem.W.Frag} {B : Addr → Prop} {Keep : (Nat → List Addr) → Hp → Prop} (h : Steps w K B Keep) {ρ ρ' : Env} {σ σ' : L2.St} {A A' : Nat → List Addr} {H H' : Hp} (S : Step w K B ρ σ A H ρ' σ' A' H') (k : Keep A H) : Keep A' H' :=
  h A H A' H' _ k S.ext (fun a z => .inr z) fun a n m => by
    rcases m with m | ⟨i, m⟩
    · exact .inl m
    · rcases S.sub i a m with z | z
      · exact .inr z
      · exact absurd z n
/-- an iterator over xs -/
structure ItOk (w : World) (K : PySem.W.Frag) (xs : List D) (J : It) (Keep : (Addr → Prop) → (Nat → List Addr) → Hp → Prop) : Prop where
  good : ∀ B, GoodIt w K B xs J (Keep B)
  same : ∀ B A H H', Same H H' → Keep B A H → Keep B A H'
  prot : ∀ (B N : Addr → Prop) A H H', Same H H' → (∀ x, N x → H x = none) → Keep B A H → Keep (fun x => B x ∨ N x) A H'
def RIe (w : World) (K : PySem.W.Frag) (a : Ie) : TI := fun σ H R => ∃ B ρ A ρ1 xs, Rel w K B ρ σ A H ∧ a ρ = some (ρ1, xs) ∧ ∀ J Keep A1 H1, Step w K B ρ σ A H ρ1 σ A1 H1 → ItOk w K xs J Keep → (∀ B, Steps w K B (Keep B)) → Keep B A1 H1 → R J H1
abbrev JI (X : Cx) (tg iter : Expr) (a : Ie) : Prop := PI X tg iter (RIe X.w X.K a)
/-- .. walked where nothing is changed -/
def RIp (w : World) (K : PySem.W.Frag) (a : Ip) : TI := fun σ H R => ∃ B ρ A xs, Rel w K B ρ σ A H ∧ a ρ = some xs ∧ ∀ J Keep H1, Same H H1 → ItOk w K xs J Keep → Keep B A H1 → R J H1
abbrev JIp (X : Cx) (tg iter : Expr) (a : Ip) : Prop := PI X tg iter (RIp X.w X.K a)
theorem piimp {tg e : Expr} {t t' : TI} (h : PI X tg e t) (i : ∀ σ H Q, t' σ H Q → t σ H Q) : PI X tg e t' := ⟨fun pins s σ H R I q => h.run pins s σ H R I (i _ _ _ q)⟩
theorem good_list {w : World} {K : PySem.W.Frag} {B : Addr → Prop} {xs : List D} {a : Addr} : GoodIt w K B xs (Itl K a) fun A H => Rd1 w K (mu B A) H (.list xs) (.ref a) where
  go := fun i A H hi h => by
    obtain ⟨a', vs, e, h1, h2⟩ := h
    cases e
    have hl := h2.length
    refine ⟨⟨vs, vs[i], SqL.of h1, by simp [show i < vs.length by omega]⟩, fun v H' y => ?_⟩
    obtain ⟨rfl, y⟩ := y
    refine ⟨Same.refl _, ⟨a, vs, rfl, h1, h2⟩, fun x hx => ?_⟩
    obtain ⟨u, eu, ru⟩ := h2.get hx
    rw [y vs (SqL.of h1)] at eu
    cases eu
    exact ru
  stop := fun i A H hi h => by
    obtain ⟨a', vs, e, h1, h2⟩ := h
    cases e
    exact ⟨vs, SqL.of h1, by rw [h2.length]; exact hi⟩
theorem good_tup {w : World} {K : PySem.W.Frag} {B : Addr → Prop} {xs : List D} {a : Addr} : GoodIt w K B xs (Itt K a) fun A H => Rd1 w K (mu B A) H (.tuple xs) (.ref a) where
  go := fun i A H hi h => by
    obtain ⟨a', vs, e, h1, h2⟩ := h
    cases e
    have hl := h2.length
    refine ⟨⟨vs, vs[i], h1, by simp [show i < vs.length by omega]⟩, fun v H' y => ?_⟩
    obtain ⟨rfl, y⟩ := y
    refine ⟨Same.refl _, ⟨a, vs, rfl, h1, h2⟩, fun x hx => ?_⟩
    obtain ⟨u, eu, ru⟩ := h2.get hx
    rw [y vs h1] at eu
    cases eu
    exact ru
  stop := fun i A H hi h => by
    obtain ⟨a', vs, e, h1, h2⟩ := h
    cases e
    exact ⟨vs, h1, by rw [h2.length]; exact hi⟩
theorem r62_of {i : Int} (h : r62 i = true) : -(2 ^ 62) ≤ i ∧ i < 2 ^ 62 := by
  have h : i.natAbs.log2 < 62 := of_decide_eq_true h
  have h2 : i.natAbs < 2 ^ 62 := by
    by_cases h0 : i.natAbs = 0
    · rw [h0]; decide
    · exact (Nat.log2_lt h0).mp h
  omega
theorem rangeD_len (i j : Int) : (rangeD i j).length = (j - i).toNat := by unfold rangeD; rw [List.length_map, List.length_range]
theorem rangeD_get {i j : Int} {k : Nat} (h : k < (j - i).toNat) : (rangeD i j)[k]? = some (.int (i + k)) := by
  unfold rangeD
  rw [List.getElem?_map, List.getElem?_range h]
  rfl
theorem good_range {w : World} {K : PySem.W.Frag} {B : Addr → Prop} {i j : Int} : GoodIt w K B (rangeD i j) (Itr i (j - i).toNat) fun _ _ => True where
  go := fun k A H hk _ => by
    rw [rangeD_len] at hk
    refine ⟨hk, fun v H' y => ?_⟩
    obtain ⟨rfl, rfl⟩ := y
    refine ⟨Same.refl _, trivial, fun x hx => ?_⟩
    rw [rangeD_get hk] at hx
    cases hx
    exact (rfl : _ = _)
  stop := fun k A H hk _ => by rw [rangeD_len] at hk; exact hk
theorem prot_rep {w : World} {K : PySem.W.Frag} {B N : Addr → Prop} {A : Nat → List Addr} {H H' : Hp} {d : D} {v : V} (s : Same H H') (hN : ∀ x, N x → H x = none) (h : Rep w K (mu B A) H d v) : Rep w K (mu (fun x => B x ∨ N x) A) H' d v :=
  h.ext (O := fun _ => False) (Ext.same s) (fun _ z => z.elim) fun a n m => by
    rcases mu_or.mp m with m | m
    · exact m
    · exact absurd (hN a m) n
theorem prot_reps {w : World} {K : PySem.W.Frag} {B N : Addr → Prop} {A : Nat → List Addr} {H H' : Hp} {d : List D} {v : List V} (s : Same H H') (hN : ∀ x, N x → H x = none) (h : Reps w K (mu B A) H d v) : Reps w K (mu (fun x => B x ∨ N x) A) H' d v :=
  h.ext (O := fun _ => False) (Ext.same s) (fun _ z => z.elim) fun a n m => by
    rcases mu_or.mp m with m | m
    · exact m
    · exact absurd (hN a m) n
theorem ok_list {w : World} {K : PySem.W.Frag} {xs : List D} {a : Addr} : ItOk w K xs (Itl K a) fun B A H => Rep w K (mu B A) H (.list xs) (.ref a) where
  good := fun B => ⟨fun i A H hi h => by
    obtain ⟨g1, g2⟩ := good_list.go i A H hi h.rd1
    exact ⟨g1, fun v H' y => ⟨(g2 v H' y).1, h.same (g2 v H' y).1, (g2 v H' y).2.2⟩⟩, fun i A H hi h => good_list.stop i A H hi h.rd1⟩
  same := fun B A H H' s h => h.same s
  prot := fun B N A H H' s hN h => prot_rep s hN h
theorem ok_tup {w : World} {K : PySem.W.Frag} {xs : List D} {a : Addr} : ItOk w K xs (Itt K a) fun B A H => Rep w K (mu B A) H (.tuple xs) (.ref a) where
  good := fun B => ⟨fun i A H hi h => by
    obtain ⟨g1, g2⟩ := good_tup.go i A H hi h.rd1
    exact ⟨g1, fun v H' y => ⟨(g2 v H' y).1, h.same (g2 v H' y).1, (g2 v H' y).2.2⟩⟩, fun i A H hi h => good_tup.stop i A H hi h.rd1⟩
  same := fun B A H H' s h => h.same s
  prot := fun B N A H H' s hN h => prot_rep s hN h
theorem ok_listR {w : World} {K : PySem.W.Frag} {xs : List D} {a : Addr} : ItOk w K xs (Itl K a) fun B A H => Rd1 w K (mu B A) H (.list xs) (.ref a) where
  good := fun B => good_list
  same := fun B A H H' s h => Rd1.same s h
  prot := fun B N A H H' s hN h => by
    obtain ⟨a, vs, e, h1, h2⟩ := h
    exact ⟨a, vs, e, s _ _ h1, prot_reps s hN h2⟩
theorem ok_tupR {w : World} {K : PySem.W.Frag} {xs : List D} {a : Addr} : ItOk w K xs (Itt K a) fun B A H => Rd1 w K (mu B A) H (.tuple xs) (.ref a) where
  good := fun B => good_tup
  same := fun B A H H' s h => Rd1.same s h
  prot := fun B N A H H' s hN h => prot_rep (d := .tuple xs) s hN h
theorem ok_range {w : World} {K : PySem.W.Frag} {i j : Int} : ItOk w K (rangeD i j) (Itr i (j - i).toNat) fun _ _ _ => True := ⟨fun B => good_range, fun _ _ _ _ _ _ => trivial, fun _ _ _ _ _ _ _ _ => trivial⟩
theorem keep_rep {w : World} {K : PySem.W.Frag} {B : Addr → Prop} {d : D} {v : V} : Steps w K B fun A H => Rep w K (mu B A) H d v := fun A H A' H' O h ex hO hM => h.ext ex hO hM
/-- a list or a tuple -/
theorem iSeq {tg l : Expr} {p : P} (hl : JP X .c l p) : JI X tg l (iP p) := ⟨fun pins s σ H R I h => by
  obtain ⟨B, ρ, A, ρ1, xs, Rr, e, q⟩ := h
  unfold iP at e
  cases z : p ρ with
  | none => rw [z] at e; cases e
  | some d =>
    rw [z] at e
    cases d with
    | list ys =>
      cases e
      exact (pi_list hl).run pins s σ H R I ⟨B, ρ, A, _, Rr, z, fun v H' s r => by
        obtain ⟨a, vs, e1, n, h1, h2⟩ := id r
        subst e1
        exact ⟨a, rfl, ⟨vs, SqL.of h1⟩, q _ _ A H' (Step.same s Rr) ok_list (fun _ => keep_rep) r⟩⟩
    | tuple ys =>
      cases e
      exact (pi_tup hl).run pins s σ H R I ⟨B, ρ, A, _, Rr, z, fun v H' s r => by
        obtain ⟨a, vs, e1, h1, h2⟩ := id r
        subst e1
        exact ⟨a, rfl, ⟨vs, h1⟩, q _ _ A H' (Step.same s Rr) ok_tup (fun _ => keep_rep) r⟩⟩
    | _ => cases e⟩
theorem iSeqE {tg l : Expr} {f : E} (hl : J X l f) : JI X tg l (iE f) := ⟨fun pins s σ H R I h => by
  obtain ⟨B, ρ, A, ρ1, xs, Rr, e, q⟩ := h
  unfold iE at e
  cases z : f ρ with
  | none => rw [z] at e; cases e
  | some r =>
    obtain ⟨ρ2, c⟩ := r
    rw [z] at e
    dsimp only at e
    cases z2 : c.toD with
    | none => rw [z2] at e; cases e
    | some d =>
      rw [z2] at e
      cases d with
      | list ys =>
        cases e
        exact (pi_list hl).run pins s σ H R I ⟨B, ρ, A, _, _, Rr, z, fun v A1 H' S r => by
          have r := r.item z2
          obtain ⟨a, vs, e1, n, h1, h2⟩ := id r
          subst e1
          exact ⟨a, rfl, ⟨vs, SqL.of h1⟩, q _ _ A1 H' S ok_list (fun _ => keep_rep) r⟩⟩
      | tuple ys =>
        cases e
        exact (pi_tup hl).run pins s σ H R I ⟨B, ρ, A, _, _, Rr, z, fun v A1 H' S r => by
          have r := r.item z2
          obtain ⟨a, vs, e1, h1, h2⟩ := id r
          subst e1
          exact ⟨a, rfl, ⟨vs, h1⟩, q _ _ A1 H' S ok_tup (fun _ => keep_rep) r⟩⟩
      | _ => cases e⟩
/-- .. read in place -/
theorem ipSeq {tg l : Expr} {p : P} (hl : JP X .r l p) : JIp X tg l (ipP p) := ⟨fun pins s σ H R I h => by
  obtain ⟨B, ρ, A, xs, Rr, e, q⟩ := h
  unfold ipP at e
  cases z : p ρ with
  | none => rw [z] at e; cases e
  | some d =>
    rw [z] at e
    cases d with
    | list ys =>
      cases e
      exact (pi_list hl).run pins s σ H R I ⟨B, ρ, A, _, Rr, z, fun v H' s r => by
        obtain ⟨a, vs, e1, h1, h2⟩ := id r
        subst e1
        exact ⟨a, rfl, ⟨vs, SqL.of h1⟩, q _ _ H' s ok_listR r⟩⟩
    | tuple ys =>
      cases e
      exact (pi_tup hl).run pins s σ H R I ⟨B, ρ, A, _, Rr, z, fun v H' s r => by
        obtain ⟨a, vs, e1, h1, h2⟩ := id r
        subst e1
        exact ⟨a, rfl, ⟨vs, h1⟩, q _ _ H' s ok_tupR r⟩⟩
    | _ => cases e⟩
theorem evs1 {a : P} {ρ : Env} {d : D} (h : a ρ = some d) : evs [a] ρ = some [d] := by rw [evs, h]; rfl
theorem evs2 {a b : P} {ρ : Env} {d e : D} (h : a ρ = some d) (h2 : b ρ = some e) : evs [a, b] ρ = some [d, e] := by rw [evs, h]; dsimp only; rw [evs1 h2]
/-- range(b) -/
theorem ipR1 {tg a : Expr} {pa : P} {p0 p1 : Pos} (hm : X.mg "range" = none) (ha : JP X .r a pa) (hgl : Gl X "range" := by rfl) (hst : starEach [a] X.env = [(false, eval a X.env)] := by rfl) : JIp X tg (.Call (.Name "range" p0) [a] [] p1) (ipR (pC (.int 0)) pa) :=
  piimp (pi_range1 hgl hm (jaCons (k := .r) ha jaNil hst) hst) fun σ H R h => by
    obtain ⟨B, ρ, A, xs, Rr, e, q⟩ := h
    unfold ipR pC at e
    cases z : pa ρ with
    | none => rw [z] at e; cases e
    | some d =>
      rw [z] at e
      cases d with
      | int j =>
        dsimp only at e
        split at e
        · rename_i hr
          cases e
          rw [Bool.and_eq_true] at hr
          refine ⟨B, ρ, A, [.int j], Rr, evs1 z, fun vs H1 s1 r1 => ?_⟩
          cases r1 with
          | cons r1 r2 =>
            cases r2
            obtain ⟨b1, b2⟩ := r62_of hr.2
            refine ⟨j, by rw [show _ = V.int j from r1], b1, b2, ?_⟩
            have := q (Itr 0 (j - 0).toNat) _ H1 s1 ok_range trivial
            rwa [Int.sub_zero] at this
        · cases e
      | _ => cases e
theorem ipR2 {tg a b : Expr} {pa pb : P} {p0 p1 : Pos} (hm : X.mg "range" = none) (ha : JP X .r a pa) (hb' : JP X .r b pb) (hgl : Gl X "range" := by rfl)
    (hst : starEach [a, b] X.env = [(false, eval a X.env), (false, eval b X.env)] := by rfl) (hst2 : starEach [b] X.env = [(false, eval b X.env)] := by rfl) : JIp X tg (.Call (.Name "range" p0) [a, b] [] p1) (ipR pa pb) :=
  piimp (pi_range2 hgl hm (jaCons (k := .r) ha (jaCons hb' jaNil hst2) (by rw [hst, hst2])) hst hst2) fun σ H R h => by
    obtain ⟨B, ρ, A, xs, Rr, e, q⟩ := h
    unfold ipR at e
    cases z : pa ρ with
    | none => rw [z] at e; cases e
    | some d =>
      cases z2 : pb ρ with
      | none => rw [z, z2] at e; cases d <;> cases e
      | some d2 =>
        rw [z, z2] at e
        cases d with
        | int i =>
          cases d2 with
          | int j =>
            dsimp only at e
            split at e
            · rename_i hr
              cases e
              rw [Bool.and_eq_true] at hr
              refine ⟨B, ρ, A, [.int i, .int j], Rr, evs2 z z2, fun vs H1 s1 r1 => ?_⟩
              cases r1 with
              | cons r1 r2 =>
                cases r2 with
                | cons r2 r3 =>
                  cases r3
                  obtain ⟨b1, b2⟩ := r62_of hr.1
                  obtain ⟨b3, b4⟩ := r62_of hr.2
                  exact ⟨i, j, by rw [show _ = V.int i from r1, show _ = V.int j from r2], ⟨b1, b2, b3, b4⟩, q _ _ H1 s1 ok_range trivial⟩
            · cases e
          | _ => cases e
        | _ => cases e
/-- ranges walked by a loop -/
theorem iR1 {tg a : Expr} {pa : P} {p0 p1 : Pos} (hm : X.mg "range" = none) (ha : JP X .r a pa) (hgl : Gl X "range" := by rfl) (hst : starEach [a] X.env = [(false, eval a X.env)] := by rfl) : JI X tg (.Call (.Name "range" p0) [a] [] p1) (iR (pC (.int 0)) pa) :=
  piimp (pi_range1 hgl hm (jaCons (k := .r) ha jaNil hst) hst) fun σ H R h => by
    obtain ⟨B, ρ, A, ρ1, xs, Rr, e, q⟩ := h
    unfold iR pC at e
    cases z : pa ρ with
    | none => rw [z] at e; cases e
    | some d =>
      rw [z] at e
      cases d with
      | int j =>
        dsimp only at e
        split at e
        · rename_i hr
          cases e
          rw [Bool.and_eq_true] at hr
          refine ⟨B, ρ, A, [.int j], Rr, evs1 z, fun vs H1 s1 r1 => ?_⟩
          cases r1 with
          | cons r1 r2 =>
            cases r2
            obtain ⟨b1, b2⟩ := r62_of hr.2
            refine ⟨j, by rw [show _ = V.int j from r1], b1, b2, ?_⟩
            have := q (Itr 0 (j - 0).toNat) _ A H1 (Step.same s1 Rr) ok_range (fun _ _ _ _ _ _ _ _ _ _ => trivial) trivial
            rwa [Int.sub_zero] at this
        · cases e
      | _ => cases e
theorem iR2 {tg a b : Expr} {pa pb : P} {p0 p1 : Pos} (hm : X.mg "range" = none) (ha : JP X .r a pa) (hb' : JP X .r b pb) (hgl : Gl X "range" := by rfl)
    (hst : starEach [a, b] X.env = [(false, eval a X.env), (false, eval b X.env)] := by rfl) (hst2 : starEach [b] X.env = [(false, eval b X.env)] := by rfl) : JI X tg (.Call (.Name "range" p0) [a, b] [] p1) (iR pa pb) :=
  piimp (pi_range2 hgl hm (jaCons (k := .r) ha (jaCons hb' jaNil hst2) (by rw [hst, hst2])) hst hst2) fun σ H R h => by
    obtain ⟨B, ρ, A, ρ1, xs, Rr, e, q⟩ := h
    unfold iR at e
    cases z : pa ρ with
    | none => rw [z] at e; cases e
    | some d =>
      cases z2 : pb ρ with
      | none => rw [z, z2] at e; cases d <;> cases e
      | some d2 =>
        rw [z, z2] at e
        cases d with
        | int i =>
          cases d2 with
          | int j =>
            dsimp only at e
            split at e
            · rename_i hr
              cases e
              rw [Bool.and_eq_true] at hr
              refine ⟨B, ρ, A, [.int i, .int j], Rr, evs2 z z2, fun vs H1 s1 r1 => ?_⟩
              cases r1 with
              | cons r1 r2 =>
                cases r2 with
                | cons r2 r3 =>
                  cases r3
                  obtain ⟨b1, b2⟩ := r62_of hr.1
                  obtain ⟨b3, b4⟩ := r62_of hr.2
                  exact ⟨i, j, by rw [show _ = V.int i from r1, show _ = V.int j from r2], ⟨b1, b2, b3, b4⟩, q _ _ A H1 (Step.same s1 Rr) ok_range (fun _ _ _ _ _ _ _ _ _ _ => trivial) trivial⟩
            · cases e
          | _ => cases e
        | _ => cases e
theorem iRE1 {tg a : Expr} {fa : E} {p0 p1 : Pos} (hm : X.mg "range" = none) (ha : J X a fa) (hgl : Gl X "range" := by rfl) (hst : starEach [a] X.env = [(false, eval a X.env)] := by rfl) : JI X tg (.Call (.Name "range" p0) [a] [] p1) (iRE [fa]) :=
  piimp (pi_range1 hgl hm (jaeCons ha jaeNil hst) hst) fun σ H R h => by
    obtain ⟨B, ρ, A, ρ1, xs, Rr, e, q⟩ := h
    unfold iRE at e
    cases z : eevs [fa] ρ with
    | none => rw [z] at e; cases e
    | some r =>
      obtain ⟨ρ2, ds⟩ := r
      rw [z] at e
      refine ⟨B, ρ, A, ρ2, ds, Rr, z, fun vs A1 H1 S r1 => ?_⟩
      match ds, e, r1 with
      | [.int j], e, r1 =>
        dsimp only at e
        split at e
        · rename_i hr
          cases e
          obtain ⟨v, t, rfl, r1, r2⟩ := r1
          rw [show t = [] from r2]
          obtain ⟨b1, b2⟩ := r62_of hr
          refine ⟨j, by rw [show _ = V.int j from r1], b1, b2, ?_⟩
          have := q (Itr 0 (j - 0).toNat) _ A1 H1 S ok_range (fun _ _ _ _ _ _ _ _ _ _ => trivial) trivial
          rwa [Int.sub_zero] at this
        · cases e
      | [.int i, .int j], e, r1 =>
        exfalso
        rw [eevs] at z
        cases z1 : fa ρ with
        | none => rw [z1] at z; cases z
        | some r =>
          obtain ⟨a1, a2⟩ := r
          rw [z1] at z
          dsimp only at z
          cases z3 : a2.toD with
          | none => rw [z3] at z; cases z
          | some x => rw [z3] at z; simp [eevs] at z
theorem iRE2 {tg a b : Expr} {fa fb : E} {p0 p1 : Pos} (hm : X.mg "range" = none) (ha : J X a fa) (hb' : J X b fb) (hgl : Gl X "range" := by rfl)
    (hst : starEach [a, b] X.env = [(false, eval a X.env), (false, eval b X.env)] := by rfl) (hst2 : starEach [b] X.env = [(false, eval b X.env)] := by rfl) : JI X tg (.Call (.Name "range" p0) [a, b] [] p1) (iRE [fa, fb]) :=
  piimp (pi_range2 hgl hm (jaeCons ha (jaeCons hb' jaeNil hst2) (by rw [hst, hst2])) hst hst2) fun σ H R h => by
    obtain ⟨B, ρ, A, ρ1, xs, Rr, e, q⟩ := h
    unfold iRE at e
    cases z : eevs [fa, fb] ρ with
    | none => rw [z] at e; cases e
    | some r =>
      obtain ⟨ρ2, ds⟩ := r
      rw [z] at e
      refine ⟨B, ρ, A, ρ2, ds, Rr, z, fun vs A1 H1 S r1 => ?_⟩
      match ds, e, r1 with
      | [.int j], e, r1 =>
        exfalso
        rw [eevs] at z
        cases z1 : fa ρ with
        | none => rw [z1] at z; cases z
        | some r =>
          obtain ⟨a1, a2⟩ := r
          rw [z1] at z
          dsimp only at z
          cases z3 : a2.toD with
          | none => rw [z3] at z; cases z
          | some x =>
            rw [z3, eevs] at z
            dsimp only at z
            cases z4 : fb a1 with
            | none => rw [z4] at z; cases z
            | some r2 =>
              obtain ⟨a3, a4⟩ := r2
              rw [z4] at z
              dsimp only at z
              cases z5 : a4.toD with
              | none => rw [z5] at z; cases z
              | some x => rw [z5] at z; simp [eevs] at z
      | [.int i, .int j], e, r1 =>
        dsimp only at e
        split at e
        · rename_i hr
          cases e
          rw [Bool.and_eq_true] at hr
          obtain ⟨v, t, rfl, rv1, u, t2, rfl, r2, r3⟩ := r1
          rw [show t2 = [] from r3]
          obtain ⟨b1, b2⟩ := r62_of hr.1
          obtain ⟨b3, b4⟩ := r62_of hr.2
          exact ⟨i, j, by rw [show _ = V.int i from rv1, show _ = V.int j from r2], ⟨b1, b2, b3, b4⟩, q _ _ A1 H1 S ok_range (fun _ _ _ _ _ _ _ _ _ _ => trivial) trivial⟩
        · cases e
end
end L3
/-! for loops and comprehensions over anything that is walked. -/
namespace L3
open PySem PySem.Spec PyProof.Rows L2
section
variable {X : Cx}
/-- a turn of a for loop -/
theorem forL_cons {p : Pat} {b : Sm} {x : D} {r : List D} {ρ : Env} {out : Env × Out} (h : forL p b (x :: r) ρ = some out) : ∃ ρ1 ρ2 o, bind p x ρ = some ρ1 ∧ b ρ1 = some (ρ2, o) ∧
    match o with | .nx => forL p b r ρ2 = some out | .ct => forL p b r ρ2 = some out | .bk => out = (ρ2, .nx) | .rt c => out = (ρ2, .rt c) := by
  rw [forL] at h
  cases z : bind p x ρ with
  | none => rw [z] at h; cases h
  | some ρ1 =>
    rw [z] at h
    dsimp only at h
    cases z2 : b ρ1 with
    | none => rw [z2] at h; cases h
    | some r2 =>
      obtain ⟨ρ2, o⟩ := r2
      rw [z2] at h
      cases o with
      | nx => exact ⟨ρ1, ρ2, .nx, rfl, z2, h⟩
      | ct => exact ⟨ρ1, ρ2, .ct, rfl, z2, h⟩
      | bk => cases h; exact ⟨ρ1, ρ2, .bk, rfl, z2, rfl⟩
      | rt c => cases h; exact ⟨ρ1, ρ2, .rt c, rfl, z2, rfl⟩
theorem drop_at {α : Type} {ds : List α} {i : Nat} (hi : i < ds.length) : ds.drop i = ds[i] :: ds.drop (i + 1) := List.drop_eq_getElem_cons hi
theorem sForS {tg iter : Expr} {body : List Stmt} {p : Pat} {a : Ie} {g : Sm} {pos : Pos} (hp : PassesOwn (model X.prog X.w) X.A X.env X.xe) (hc : X.calm = true) (hi : JI X tg iter a) (hg : JG X tg p) (hb : Ss X body g)
    (hs : ∀ x, foldedSetIterable iter X.env x = pure x := by intro _; rfl) : S1 X (.For tg iter body [] pos) (sFor p a g) := psimp (ps_for hp hc hi hg hb hs) fun Dn σ H h => by
  obtain ⟨B, ρ, A, ρ', o, R, e, q⟩ := h
  unfold sFor at e
  cases z : a ρ with
  | none => rw [z] at e; cases e
  | some r =>
    obtain ⟨ρ0, xs⟩ := r
    rw [z] at e
    refine ⟨B, ρ, A, ρ0, xs, R, z, fun Ji Keep A0 H0 S0 Gd Sp K0 => ?_⟩
    have Gd := Gd.good B
    have Sp := Sp B
    have q0 := q.ahead (D' := Dn) R S0 ⟨fun _ => rfl, rfl, rfl, rfl⟩
    refine ⟨fun i m σ H => m = xs.length - i ∧ i ≤ xs.length ∧ ∃ ρi Ai, Rel X.w X.K B ρi σ Ai H ∧ forL p g (xs.drop i) ρi = some (ρ', o) ∧ After X.w X.K B ρi σ Ai H Dn ρ' o ∧ Keep B Ai H, ⟨xs.length, rfl, Nat.zero_le _, ρ0, A0, S0.rel, by rw [List.drop_zero]; exact e, q0, K0⟩, ?_⟩
    rintro i m σ1 H1 ⟨rfl, hi, ρi, Ai, Ri, ei, qi, Ki⟩
    by_cases hlt : i < xs.length
    · obtain ⟨g1, g2⟩ := Gd.go i Ai H1 hlt Ki
      refine .inr ⟨g1, fun σ' H' => ∃ ρj Aj, Rel X.w X.K B ρj σ' Aj H' ∧ forL p g (xs.drop (i + 1)) ρj = some (ρ', o) ∧ After X.w X.K B ρj σ' Aj H' Dn ρ' o ∧ Keep B Aj H', fun σ' H' hN => ⟨xs.length - (i + 1), by omega, rfl, hlt, hN⟩, fun v H2 y => ?_⟩
      obtain ⟨s2, k2, rv⟩ := g2 v H2 y
      have S2 := Step.same s2 Ri
      rw [drop_at hlt] at ei
      obtain ⟨ρ1, ρ2, o2, e1, e2, e3⟩ := forL_cons ei
      have qs := qi.ahead (D' := Dn) Ri S2 ⟨fun _ => rfl, rfl, rfl, rfl⟩
      refine ⟨B, ρi, Ai, xs[i], ρ1, S2.rel, e1, rv _ (by simp [hlt]), fun σ3 A3 S3 _ => ⟨B, ρ1, A3, ρ2, o2, S3.rel, e2, ?_⟩⟩
      have k3 := Sp.step S3 k2
      have q3 := qs.ahead (D' := Dn) S2.rel S3 ⟨fun _ => rfl, rfl, rfl, rfl⟩
      cases o2 with
      | nx => exact fun σ4 A4 H4 S4 => ⟨ρ2, A4, S4.rel, e3, q3.ahead S3.rel S4 ⟨fun _ => rfl, rfl, rfl, rfl⟩, Sp.step S4 k3⟩
      | ct => exact fun σ4 A4 H4 S4 => ⟨ρ2, A4, S4.rel, e3, q3.ahead S3.rel S4 ⟨fun _ => rfl, rfl, rfl, rfl⟩, Sp.step S4 k3⟩
      | bk => cases e3; exact fun σ4 A4 H4 S4 => qs _ _ _ (S3.trans S2.rel S4)
      | rt c => cases e3; exact fun v σ4 A4 H4 S4 r => qs v _ _ _ (S3.trans S2.rel S4) (ResC.ahead S2.rel S3 r)
    · refine .inl ⟨Gd.stop i Ai H1 (by omega) Ki, ?_⟩
      rw [List.drop_eq_nil_of_le (by omega), forL] at ei
      cases ei
      exact qi _ _ _ (Step.refl Ri)
/-! ### comprehensions -/
theorem wipe_agree {σ σ' : L2.St} : ∀ {vs : List Nat}, σ.length = σ'.length → (∀ j, j ∉ vs → σ'[j]? = σ[j]?) → wipe σ' vs = wipe σ vs := by
  intro vs hl h
  apply List.ext_getElem?
  intro j
  by_cases hj : j ∈ vs
  · have one : ∀ (τ : L2.St) (us : List Nat), j ∈ us → (wipe τ us)[j]? = if j < τ.length then some none else none := fun τ us => by
      induction us with
      | nil => intro z; cases z
      | cons u us ih =>
        intro hm
        unfold wipe
        by_cases hu : u = j
        · subst hu
          by_cases hlt : u < τ.length
          · rw [if_pos hlt, List.getElem?_set_self (by rw [wipe_length]; exact hlt)]
          · rw [if_neg hlt, List.getElem?_eq_none (by rw [List.length_set, wipe_length]; omega)]
        · rw [List.getElem?_set_ne hu]
          rcases List.mem_cons.mp hm with e | hm
          · exact absurd e.symm hu
          · exact ih hm
    rw [one σ' vs hj, one σ vs hj, hl]
  · rw [wipe_out hj, wipe_out hj, h j hj]
theorem wipe_wipe {σ : L2.St} {vs : List Nat} : wipe (wipe σ vs) vs = wipe σ vs := wipe_agree (wipe_length σ vs).symm fun j hj => wipe_out hj
theorem wipeE_length (ρ : Env) : ∀ vs : List Nat, (wipeE vs ρ).length = ρ.length
  | [] => rfl
  | v :: vs => by unfold wipeE; rw [List.length_set, wipeE_length ρ vs]
theorem wipeE_out {ρ : Env} {i : Nat} : ∀ {vs : List Nat}, i ∉ vs → (wipeE vs ρ)[i]? = ρ[i]?
  | [], _ => rfl
  | v :: vs, h => by
    simp only [List.mem_cons, not_or] at h
    unfold wipeE
    rw [List.getElem?_set_ne (fun e => h.1 e.symm), wipeE_out h.2]
theorem wipeE_in {ρ : Env} {i : Nat} {c : Cell} : ∀ {vs : List Nat}, i ∈ vs → (wipeE vs ρ)[i]? = some c → c = .un
  | [], h, _ => nomatch h
  | v :: vs, h, e => by
    unfold wipeE at e
    by_cases hv : v = i
    · subst hv
      by_cases hlt : v < (wipeE vs ρ).length
      · rw [List.getElem?_set_self hlt] at e; cases e; rfl
      · rw [List.getElem?_eq_none (by simpa using hlt)] at e; cases e
    · rw [List.getElem?_set_ne hv] at e
      rcases List.mem_cons.mp h with z | z
      · exact absurd z.symm hv
      · exact wipeE_in z e
variable {w : World} {K : PySem.W.Frag} {B : Addr → Prop}
/-- names that own nothing are forgotten -/
theorem Rel.wiped {ρ : Env} {σ : L2.St} {A : Nat → List Addr} {H : Hp} {vs : List Nat} (R : Rel w K B ρ σ A H) (hf : ∀ i ∈ vs, A i = []) : Rel w K B (wipeE vs ρ) (wipe σ vs) A H where
  len := by rw [wipeE_length, wipe_length]; exact R.len
  cell := fun i c e => by
    by_cases hi : i ∈ vs
    · rw [wipeE_in hi e]; exact hf i hi
    · rw [wipeE_out hi] at e
      rw [wipe_out hi]
      exact R.cell i c e
  out := fun i h => R.out i (by rw [wipeE_length] at h; exact h)
  aliveB := R.aliveB
  apart := R.apart
  one := R.one
theorem free_none {ρ : Env} {σ : L2.St} {A : Nat → List Addr} {H : Hp} {vs : List Nat} (R : Rel w K B ρ σ A H) (h : freeAt vs ρ = true) : ∀ i ∈ vs, A i = [] ∧ i < ρ.length := fun i hi => by
  unfold freeAt at h
  rw [List.all_eq_true] at h
  have := h i hi
  cases e : ρ[i]? with
  | none => rw [e] at this; cases this
  | some c =>
    rw [e] at this
    have hc := R.cell i c e
    refine ⟨?_, (List.getElem?_eq_some_iff.mp e).1⟩
    cases c with
    | un => exact hc
    | scr ns => exact hc.1
    | val d => exact hc.1
    | own fx o => cases this
theorem restore_out {ρ ρ' : Env} {i : Nat} : ∀ {vs : List Nat}, i ∉ vs → (restore vs ρ ρ')[i]? = ρ'[i]?
  | [], _ => rfl
  | v :: vs, h => by
    simp only [List.mem_cons, not_or] at h
    unfold restore
    rw [List.getElem?_set_ne (fun e => h.1 e.symm), restore_out h.2]
theorem restore_length (ρ ρ' : Env) : ∀ vs : List Nat, (restore vs ρ ρ').length = ρ'.length
  | [] => rfl
  | v :: vs => by unfold restore; rw [List.length_set, restore_length ρ ρ' vs]
theorem restore_in {ρ ρ' : Env} {i : Nat} {c : Cell} : ∀ {vs : List Nat}, i ∈ vs → (restore vs ρ ρ')[i]? = some c → c = ρ.getD i .un
  | [], h, _ => nomatch h
  | v :: vs, h, e => by
    unfold restore at e
    by_cases hv : v = i
    · subst hv
      by_cases hlt : v < (restore vs ρ ρ').length
      · rw [List.getElem?_set_self hlt] at e; cases e; rfl
      · rw [List.getElem?_eq_none (by simpa using hlt)] at e; cases e
    · rw [List.getElem?_set_ne hv] at e
      rcases List.mem_cons.mp h with z | z
      · exact absurd z.symm hv
      · exact restore_in z e
theorem upd_ext {H : Hp} {L : Addr} {us : List V} {o : HO} (hL : H L = some (.lst us)) : Ext (fun x => x = L) H (upd H L o) where
  keep := fun a ob e n => by rw [upd_ne n]; exact e
  tup := fun a vs e => by rw [upd_ne fun z => by rw [z, hL] at e; cases e]; exact e
  frz := fun a ob u e => by rw [upd_ne fun z => by rw [z, hL] at e; cases e]; exact e
/-- a thing of the callers' changes -/
theorem Rel.touch {ρ : Env} {σ : L2.St} {A : Nat → List Addr} {H H' : Hp} {L : Addr} (R : Rel w K B ρ σ A H) (hB : B L) (ex : Ext (fun x => x = L) H H') (hn : H' L ≠ none) : Rel w K B ρ σ A H' where
  len := R.len
  cell := fun i c e => (R.cell i c e).ext ex (fun a z => .inl (z ▸ hB)) (fun a _ m => m) fun x hx z => R.apart i x hx (z ▸ hB)
  out := R.out
  aliveB := fun x b => by
    by_cases hx : x = L
    · rw [hx]; exact hn
    · cases q : H x with
      | none => exact absurd q (R.aliveB x b)
      | some o => rw [ex.keep x o q hx]; simp
  apart := R.apart
  one := R.one
/-- tests of a clause -/
abbrev JTs (X : Cx) (ifs : List Expr) (t : T) : Prop := PTs X ifs (RT X.w X.K t)
theorem jtsNil : JTs X [] tYesP := ⟨fun pins s σ H Q I h => by
  obtain ⟨B, ρ, A, b, R, e, q⟩ := h
  cases e
  exact pts_nil.run pins s σ H Q I (q H (Same.refl H))⟩
theorem jtsOne {c : Expr} {t : T} (h : JT X c t) : JTs X [c] t := pts_one h
/-- a comprehension that changes nothing -/
theorem compP_cons {p : Pat} {t : T} {e : P} {ρ : Env} {x : D} {r ys : List D} (h : compP p t e ρ (x :: r) = some ys) : ∃ ρ1 b, bind p x ρ = some ρ1 ∧ t ρ1 = some b ∧ (if b = true then ∃ y zs, e ρ1 = some y ∧ compP p t e ρ r = some zs ∧ ys = y :: zs else compP p t e ρ r = some ys) := by
  rw [compP] at h
  cases z : bind p x ρ with
  | none => rw [z] at h; cases h
  | some ρ1 =>
    rw [z] at h
    dsimp only at h
    cases z2 : t ρ1 with
    | none => rw [z2] at h; cases h
    | some b =>
      rw [z2] at h
      refine ⟨ρ1, b, rfl, z2, ?_⟩
      cases b with
      | false => rw [if_neg (by decide)]; exact h
      | true =>
        rw [if_pos rfl]
        dsimp only at h
        cases z3 : e ρ1 with
        | none => rw [z3] at h; cases h
        | some y =>
          rw [z3] at h
          dsimp only at h
          cases z4 : compP p t e ρ r with
          | none => rw [z4] at h; cases h
          | some zs => rw [z4] at h; cases h; exact ⟨y, zs, rfl, rfl, rfl⟩
theorem compP_len {p : Pat} {t : T} {e : P} {ρ : Env} : ∀ {xs ys : List D}, compP p t e ρ xs = some ys → ys.length ≤ xs.length
  | [], ys, h => by rw [compP] at h; cases h; exact Nat.le_refl _
  | x :: r, ys, h => by
    obtain ⟨ρ1, b, _, _, h3⟩ := compP_cons h
    cases b with
    | false => rw [if_neg (by decide)] at h3; exact Nat.le_succ_of_le (compP_len h3)
    | true => rw [if_pos rfl] at h3; obtain ⟨y, zs, _, h4, rfl⟩ := h3; exact Nat.succ_le_succ (compP_len h4)
theorem rComp {k : Kind} {vs : List Nat} {p : Pat} {a : Ip} {t : T} {e : P} {σ : L2.St} {H : Hp} {Q : VK} (hsl : ∀ j, j ∈ p.slots → j ∈ vs) (h : RE w K k (pComp vs p a t e) σ H Q) : tLc (RIp w K a) (RG w K p) (RT w K t) (RE w K .c e) vs σ H Q := by
  obtain ⟨B, ρ, A, d, R, ec, q⟩ := h
  unfold pComp at ec
  cases z : a ρ with
  | none => rw [z] at ec; cases ec
  | some xs =>
    rw [z] at ec
    dsimp only at ec
    split at ec
    · rename_i hf
      rw [Bool.and_eq_true] at hf
      cases z2 : compP p t e (wipeE vs ρ) xs with
      | none => rw [z2] at ec; cases ec
      | some ys =>
        rw [z2] at ec
        cases ec
        refine ⟨B, ρ, A, xs, R, z, fun Ji Keep H1 s1 Gd K0 L hL => ?_⟩
        have hlen := compP_len z2
        have hline : xs.length ≤ sizeLine := len24_ok hf.2
        have fr := free_none R hf.1
        have R1 := R.same s1
        have K1 : Keep (fun x => B x ∨ x = L) A (upd H1 L (.lst [])) := Gd.prot B (fun x => x = L) A _ _ (same_new hL) (fun x e => e ▸ hL) K0
        have RL : Rel w K (fun x => B x ∨ x = L) ρ σ A (upd H1 L (.lst [])) := R1.protect (N := fun x => x = L) (same_new hL) fun x e => ⟨e ▸ hL, by rw [e, upd_same]; simp⟩
        have Gd' := Gd.good fun x => B x ∨ x = L
        refine ⟨fun i m H2 => m = xs.length - i ∧ i ≤ xs.length ∧ Rel w K (fun x => B x ∨ x = L) ρ σ A H2 ∧ Same H1 H2 ∧ Keep (fun x => B x ∨ x = L) A H2 ∧ ∃ acc zs us, compP p t e (wipeE vs ρ) (xs.drop i) = some zs ∧ ys = acc ++ zs ∧ acc.length ≤ i ∧ H2 L = some (.lst us) ∧ Reps w K (mu (fun x => B x ∨ x = L) A) H2 acc us,
          ⟨xs.length, rfl, Nat.zero_le _, RL, same_new hL, K1, [], ys, [], by rw [List.drop_zero]; exact z2, rfl, Nat.le_refl _, upd_same, rfl⟩, ?_⟩
        rintro i m H2 ⟨rfl, hi, R2, s2, K2, acc, zs, us, e2, rfl, la, hL2, ra⟩
        by_cases hlt : i < xs.length
        · obtain ⟨g1, g2⟩ := Gd'.go i A H2 hlt K2
          refine .inr ⟨g1, fun H3 => Rel w K (fun x => B x ∨ x = L) ρ σ A H3 ∧ Same H1 H3 ∧ Keep (fun x => B x ∨ x = L) A H3 ∧ ∃ acc' zs' us', compP p t e (wipeE vs ρ) (xs.drop (i + 1)) = some zs' ∧ acc ++ zs = acc' ++ zs' ∧ acc'.length ≤ i + 1 ∧ H3 L = some (.lst us') ∧ Reps w K (mu (fun x => B x ∨ x = L) A) H3 acc' us', fun H3 hN => ⟨xs.length - (i + 1), by omega, rfl, hlt, hN⟩, fun v H3 y => ?_⟩
          obtain ⟨s3, k3, rv⟩ := g2 v H3 y
          rw [drop_at hlt] at e2
          obtain ⟨ρ1, b, eb, et, ee⟩ := compP_cons e2
          have R3 := R2.same s3
          have Rw := R3.wiped (vs := vs) fun i hi => (fr i hi).1
          refine ⟨(fun x => B x ∨ x = L), wipeE vs ρ, A, xs[i], ρ1, Rw, eb, rv _ (by simp [hlt]), fun σ4 A4 S4 ka => ⟨?_, ?_⟩⟩
          · have hl4 : (wipe σ vs).length = σ4.length := by
              have := S4.rel.len
              have b1 := bind_len
              rw [← this, b1 _ _ _ _ eb, wipeE_length, wipe_length, R3.len]
            rw [← wipe_wipe (σ := σ)]
            exact wipe_agree hl4 fun j hj => (ka j fun z => hj (hsl j z)).1
          · refine ⟨(fun x => B x ∨ x = L), ρ1, A4, b, S4.rel, et, fun H5 s5 => ?_⟩
            cases b with
            | true =>
              rw [if_pos rfl] at ee ⊢
              obtain ⟨y0, zs', ey, ez, rfl⟩ := ee
              refine ⟨(fun x => B x ∨ x = L), ρ1, A4, y0, S4.rel.same s5, ey, fun u H6 s6 ru => ?_⟩
              have s36 := s5.trans s6
              have hL6 : H6 L = some (.lst us) := s36 _ _ (s3 _ _ hL2)
              refine ⟨us, hL6, ?_, ?_⟩
              · have := ra.length
                omega
              · have hne1 : Same H1 (upd H6 L (.lst (us ++ [u]))) := fun a o e => by
                  rw [upd_ne (ne_of_none e hL)]
                  exact ((s2.trans s3).trans s36) a o e
                have ex := upd_ext (o := .lst (us ++ [u])) hL6
                have BL : (fun x => B x ∨ x = L) L := .inr rfl
                have R6 := R3.same s36
                refine ⟨R6.touch BL ex (by rw [upd_same]; simp), hne1, Gd.prot B (fun x => x = L) A _ _ hne1 (fun x e => e ▸ hL) K0, acc ++ [y0], zs', us ++ [u], ez, by simp, by simp; omega, upd_same, ?_⟩
                have ru' : Rep w K (mu (fun x => B x ∨ x = L) A) H6 y0 u := Rep.weak (fun a m => ?_) ru
                · exact (((ra.same s3).same s36).append (Reps.one ru')).ext ex (fun a e => .inl (.inr e)) fun a _ m => m
                · rcases m with m | ⟨j, m⟩
                  · exact .inl m
                  · by_cases hj : j ∈ vs
                    · rw [(fr j hj).1] at m; cases m
                    · exact .inr ⟨j, by rw [(ka j fun z => hj (hsl j z)).2]; exact m⟩
            | false =>
              rw [if_neg (by decide)] at ee ⊢
              exact ⟨R3.same s5, (s2.trans s3).trans s5, Gd.same _ _ _ _ s5 k3, acc, zs, us, ee, rfl, by omega, s5 _ _ (s3 _ _ hL2), (ra.same s3).same s5⟩
        · refine .inl ⟨Gd'.stop i A H2 (by omega) K2, ?_⟩
          rw [List.drop_eq_nil_of_le (by omega), compP] at e2
          cases e2
          rw [List.append_nil] at q
          have R2' := R.same (s1.trans s2)
          refine q _ _ (s1.trans s2) (Res.down (k0 := .f) ⟨L, us, rfl, s1.free hL, hL2, ra.weak fun x m => mu_or.mpr m⟩ R.al (by cases k <;> rfl))
    · cases ec
end
end L3
/-! Comprehensions as expressions; defs and their calls. -/
namespace L3
open PySem PySem.Spec PyProof.Rows L2
section
variable {X : Cx}
theorem jComp {k : Kind} {elt tg iter : Expr} {ifs : List Expr} {scope : Scope} {own : List (Str × Nat)} {pos : Pos} {p : Pat} {a : Ip} {t : T} {e : P} (hc : X.calm = true) (nd : X.N.Nodup) (hi : JIp X tg iter a) (ok : blkC X.N X.env.scope scope own = true)
    (hg : ∀ (s : Shared) (H : Hp) (C : Addr) (cl : List (Str × Addr)) (fp : List Addr), JG (X.blk s H scope (compEnvC scope cl C X.env) fp) tg p)
    (ht : ∀ (s : Shared) (H : Hp) (C : Addr) (cl : List (Str × Addr)) (fp : List Addr), JTs (X.blk s H scope (compEnvC scope cl C X.env) fp) ifs t)
    (he : ∀ (s : Shared) (H : Hp) (C : Addr) (cl : List (Str × Addr)) (fp : List Addr), JP (X.blk s H scope (compEnvC scope cl C X.env) fp) .c elt e)
    (hsl : ∀ j, j ∈ p.slots → j ∈ own.map (·.2) := by decide) (hs : ∀ x, foldedSetIterable iter X.env x = pure x := by intro _; rfl) :
    JP X k (.ListComp elt [⟨tg, iter, ifs, 0⟩] scope pos) (pComp (own.map (·.2)) p a t e) :=
  peimp (pe_lc hc nd hi (blkOk_by ok) hg ht he hs) fun σ H Q h => rComp hsl h
/-- name = [..], the name a local -/
theorem sSetC {fr : Bool} {i : Nat} {y : Str} {py : Pos} {elt tg iter : Expr} {ifs : List Expr} {scope : Scope} {own : List (Str × Nat)} {pos spos : Pos} {p : Pat} {a : Ip} {t : T} {e : P} (hc : X.calm = true) (nd : X.N.Nodup) (hy : X.N[i]? = some y) (hyl : X.env.scope.names.lookup y = some .local)
    (hsw : swapsWith (.ListComp elt [⟨tg, iter, ifs, 0⟩] scope pos) (some (.Name y py)) spos.line X.env = pure true) (hi : JIp X tg iter a) (ok : blkC X.N X.env.scope scope own = true)
    (hg : ∀ (s : Shared) (H : Hp) (C : Addr) (cl : List (Str × Addr)) (fp : List Addr), JG (X.blk s H scope (compEnvC scope cl C X.env) fp) tg p)
    (ht : ∀ (s : Shared) (H : Hp) (C : Addr) (cl : List (Str × Addr)) (fp : List Addr), JTs (X.blk s H scope (compEnvC scope cl C X.env) fp) ifs t)
    (he : ∀ (s : Shared) (H : Hp) (C : Addr) (cl : List (Str × Addr)) (fp : List Addr), JP (X.blk s H scope (compEnvC scope cl C X.env) fp) .c elt e)
    (hsl : ∀ j, j ∈ p.slots → j ∈ own.map (·.2) := by decide) (hs : ∀ x, foldedSetIterable iter X.env x = pure x := by intro _; rfl) :
    S1 X (.Assign [.Name y py] (.ListComp elt [⟨tg, iter, ifs, 0⟩] scope pos) spos) (if fr then sOwn i (eF (pComp (own.map (·.2)) p a t e)) else sVal i (eP (pComp (own.map (·.2)) p a t e))) :=
  psimp (ps_setLc hc nd hy hyl hsw hi (blkOk_by ok) hg ht he hs) fun Dn σ H h => by
    obtain ⟨B, ρ, A, ρ', o, R, e1, q⟩ := h
    cases fr with
    | false =>
      rw [if_neg (by decide)] at e1
      unfold sVal eP at e1
      cases z : pComp (own.map (·.2)) p a t e ρ with
      | none => rw [z] at e1; cases e1
      | some d =>
        rw [z] at e1
        dsimp only [Cell.toD] at e1
        cases z3 : put i (.val d) ρ with
        | none => rw [z3] at e1; cases e1
        | some ρ2 =>
          rw [z3] at e1; cases e1
          refine rComp (k := .c) hsl ⟨B, ρ, A, d, R, z, fun v H' s r => ?_⟩
          exact q _ _ _ (Step.put (as := []) R (Step.same s R) z3 (R.same s).noB ⟨rfl, v, rfl, Rep.weak (fun a m => m.elim id fun z => nomatch z) r⟩ fun x z => nomatch z)
    | true =>
      rw [if_pos rfl] at e1
      unfold sOwn eF at e1
      cases z : pComp (own.map (·.2)) p a t e ρ with
      | none => rw [z] at e1; cases e1
      | some d =>
        rw [z] at e1
        cases d with
        | list xs =>
          dsimp only at e1
          cases z3 : put i (.own false (.lst xs)) ρ with
          | none => rw [z3] at e1; cases e1
          | some ρ2 =>
            rw [z3] at e1; cases e1
            refine rComp (k := .f) hsl ⟨B, ρ, A, _, R, z, fun v H' s r => ?_⟩
            obtain ⟨_, as, ok, hn, R1⟩ := ResC.of (k := .f) R (Step.refl R) s r (by decide)
            exact q _ _ _ (Step.put (as := as) R (Step.same s R) z3 R1 ⟨v, rfl, ok⟩ hn)
        | dict xs =>
          dsimp only at e1
          cases z3 : put i (.own false (.dic xs)) ρ with
          | none => rw [z3] at e1; cases e1
          | some ρ2 =>
            rw [z3] at e1; cases e1
            refine rComp (k := .f) hsl ⟨B, ρ, A, _, R, z, fun v H' s r => ?_⟩
            obtain ⟨_, as, ok, hn, R1⟩ := ResC.of (k := .f) R (Step.refl R) s r (by decide)
            exact q _ _ _ (Step.put (as := as) R (Step.same s R) z3 R1 ⟨v, rfl, ok⟩ hn)
        | _ => cases e1
end
/-! ### defs -/
/-- what a def promises, told by a function of cells -/
def spF (w : World) (K : PySem.W.Frag) (F : Fn) : List V → Hp → VK → Prop := fun vs H Q => ∃ B A cs cs' c, Rel w K B cs (vs.map some) A H ∧ F cs = some (cs', c) ∧
  ∀ v A' H', Step w K B cs (vs.map some) A H cs' (vs.map some) A' H' → ResC w K B cs' (vs.map some) A A' H H' c v → Q v H'
structure GnOk (P : Program) (w : World) (K : PySem.W.Frag) (mg : Str → Option Value) (base : Heap) (k : Nat) (f : Addr) (fd : FuncData) (ps : List Str) (F : Fn) : Prop where
  len : ∀ cs r, F cs = some r → cs.length = ps.length
  run : ∀ (A : Around) (outer : List PySem.Env) (s : Shared) (H : Hp) (args : Args) (us : List Value) (vs : List V) (Q : VK), Room k A → A.guards = some [] → Env0 P w K mg base A outer s H → BindsTo s fd args (ps.zip us) → Vals vs us → spF w K F vs H Q →
    codeAny (model P w) A (.call (.ref f) args) (CR C8.CX0 outer P w H s Q C8.E0) s
section
variable {w : World} {K : PySem.W.Frag} {B : Addr → Prop} {ρ ρ' ρ1 : Env} {σ σ' τ : L2.St} {A A' A1 : Nat → List Addr} {H H' H1 : Hp} {c : Cell} {v : V}
theorem backs_len : ∀ (cs : List Cell) (ρ : Env), (backs cs ρ).length = cs.length
  | [], _ => rfl
  | .own true _ :: r, c :: ρ => by rw [backs, List.length_cons, List.length_cons, backs_len r ρ]
  | .own true _ :: r, [] => by rw [backs.eq_3 _ _ _ (by simp), List.length_cons, List.length_cons, backs_len r _]
  | .own false _ :: r, ρ => by rw [backs.eq_3 _ _ _ (by simp), List.length_cons, List.length_cons, backs_len r _]
  | .un :: r, ρ => by rw [backs.eq_3 _ _ _ (by simp), List.length_cons, List.length_cons, backs_len r _]
  | .scr _ :: r, ρ => by rw [backs.eq_3 _ _ _ (by simp), List.length_cons, List.length_cons, backs_len r _]
  | .val _ :: r, ρ => by rw [backs.eq_3 _ _ _ (by simp), List.length_cons, List.length_cons, backs_len r _]
theorem tail_get (ρ : Env) (i : Nat) : ρ.tail[i]? = ρ[i + 1]? := by cases ρ <;> simp
theorem backs_un {r : List Cell} {ρ : Env} {c0 c : Cell} {i : Nat} (hb : ∀ o, c0 ≠ .own true o) (ih : ∀ (i : Nat) (c : Cell), (backs r ρ.tail)[i]? = some c → c = Cell.un ∨ ∃ o, r[i]? = some (Cell.own true o) ∧ ρ.tail[i]? = some c)
    (h : (backs (c0 :: r) ρ)[i]? = some c) : c = Cell.un ∨ ∃ o, (c0 :: r)[i]? = some (Cell.own true o) ∧ ρ[i]? = some c := by
  have e : backs (c0 :: r) ρ = .un :: backs r ρ.tail := by
    cases c0 with
    | own fx o =>
      cases fx with
      | true => exact absurd rfl (hb o)
      | false => rw [backs.eq_3 _ _ _ (by simp)]
    | un => rw [backs.eq_3 _ _ _ (by simp)]
    | scr ns => rw [backs.eq_3 _ _ _ (by simp)]
    | val d => rw [backs.eq_3 _ _ _ (by simp)]
  rw [e] at h
  cases i with
  | zero => simp at h; exact .inl h.symm
  | succ i =>
    rw [List.getElem?_cons_succ] at h
    rcases ih i c h with z | ⟨o, z1, z2⟩
    · exact .inl z
    · exact .inr ⟨o, by rw [List.getElem?_cons_succ]; exact z1, by rw [← tail_get]; exact z2⟩
theorem backs_get : ∀ (cs : List Cell) (ρ : Env) (i : Nat) (c : Cell), (backs cs ρ)[i]? = some c → c = Cell.un ∨ ∃ o, cs[i]? = some (Cell.own true o) ∧ ρ[i]? = some c
  | [], _, i, c, h => by simp [backs] at h
  | .own true o :: r, c0 :: ρ, i, c, h => by
    rw [backs] at h
    cases i with
    | zero => simp at h; subst h; exact .inr ⟨o, rfl, rfl⟩
    | succ i =>
      rw [List.getElem?_cons_succ] at h
      rcases backs_get r ρ i c h with z | ⟨o, z1, z2⟩
      · exact .inl z
      · exact .inr ⟨o, by rw [List.getElem?_cons_succ]; exact z1, by rw [List.getElem?_cons_succ]; exact z2⟩
  | .own true o :: r, [], i, c, h => by
    rw [backs.eq_3 _ _ _ (by simp)] at h
    cases i with
    | zero => simp at h; exact .inl h.symm
    | succ i =>
      rw [List.getElem?_cons_succ] at h
      rcases backs_get r _ i c h with z | ⟨o, z1, z2⟩
      · exact .inl z
      · simp at z2
  | .own false o :: r, ρ, i, c, h => backs_un (fun _ z => by cases z) (backs_get r ρ.tail) h
  | .un :: r, ρ, i, c, h => backs_un (fun _ z => by cases z) (backs_get r ρ.tail) h
  | .scr _ :: r, ρ, i, c, h => backs_un (fun _ z => by cases z) (backs_get r ρ.tail) h
  | .val _ :: r, ρ, i, c, h => backs_un (fun _ z => by cases z) (backs_get r ρ.tail) h
theorem backs_own : ∀ (cs : List Cell) (ρ : Env) (i : Nat) (o : Own) (c : Cell), cs[i]? = some (Cell.own true o) → ρ[i]? = some c → (backs cs ρ)[i]? = some c
  | [], _, i, o, c, h, _ => by simp at h
  | c0 :: r, [], i, o, c, _, h => by simp at h
  | c0 :: r, c1 :: ρ, i, o, c, h1, h2 => by
    cases i with
    | zero => simp at h1 h2; subst h1; subst h2; rw [backs]; rfl
    | succ i =>
      rw [List.getElem?_cons_succ] at h1 h2
      have ih := backs_own r ρ i o c h1 h2
      cases c0 with
      | own fx o' =>
        cases fx with
        | true => rw [backs, List.getElem?_cons_succ]; exact ih
        | false => rw [backs.eq_3 _ _ _ (by simp), List.getElem?_cons_succ]; exact ih
      | un => rw [backs.eq_3 _ _ _ (by simp), List.getElem?_cons_succ]; exact ih
      | scr ns => rw [backs.eq_3 _ _ _ (by simp), List.getElem?_cons_succ]; exact ih
      | val d => rw [backs.eq_3 _ _ _ (by simp), List.getElem?_cons_succ]; exact ih
/-- what of the owned goes back -/
def backA (cs : List Cell) (A : Nat → List Addr) : Nat → List Addr := fun i => match cs[i]? with
  | some (.own true _) => A i
  | _ => []
theorem backA_sub {cs : List Cell} {i : Nat} {x : Addr} (h : x ∈ backA cs A i) : x ∈ A i ∧ ∃ o, cs[i]? = some (Cell.own true o) := by
  unfold backA at h
  split at h
  · rename_i o e; exact ⟨h, o, e⟩
  · cases h
theorem mu_back {cs : List Cell} {x : Addr} (h : mu B (backA cs A) x) : mu B A x := h.imp id fun ⟨i, z⟩ => ⟨i, (backA_sub z).1⟩
theorem Rel.back {cs : List Cell} (R : Rel w K B ρ σ A H) (hl : cs.length = τ.length) (fx : ∀ (i : Nat) (o : Own), cs[i]? = some (Cell.own true o) → (∃ o', ρ[i]? = some (Cell.own true o')) ∧ σ[i]? = τ[i]?) : Rel w K B (backs cs ρ) τ (backA cs A) H where
  len := (backs_len cs ρ).trans hl
  cell := fun i c e => by
    rcases backs_get cs ρ i c e with z | ⟨o, z1, z2⟩
    · subst z
      show backA cs A i = []
      unfold backA
      split
      · rename_i o e2
        obtain ⟨⟨o', e3⟩, _⟩ := fx i o e2
        rw [backs_own cs ρ i o _ e2 e3] at e
        cases e
      · rfl
    · obtain ⟨⟨o', e3⟩, e4⟩ := fx i o z1
      have hc := R.cell i c z2
      rw [e4] at hc
      have ea : backA cs A i = A i := by unfold backA; rw [z1]
      rw [ea]
      exact hc.ext (O := fun _ => False) (Ext.refl H) (fun _ z => z.elim) (fun a _ m => mu_back m) fun _ _ z => z
  out := fun i h => by
    rw [backs_len] at h
    unfold backA
    rw [List.getElem?_eq_none h]
  aliveB := R.aliveB
  apart := fun i x h => R.apart i x (backA_sub h).1
  one := fun i j x h1 h2 => R.one i j x (backA_sub h1).1 (backA_sub h2).1
/-- the other names are not yet bound -/
theorem Rel.more {cs : List Cell} (R : Rel w K B cs τ A H) (m : Nat) : Rel w K B (cs ++ List.replicate m .un) (τ ++ List.replicate m none) A H where
  len := by rw [List.length_append, List.length_append, List.length_replicate, List.length_replicate, R.len]
  cell := fun i c e => by
    by_cases hi : i < cs.length
    · rw [List.getElem?_append_left hi] at e
      rw [List.getElem?_append_left (by rw [← R.len]; exact hi)]
      exact R.cell i c e
    · rw [List.getElem?_append_right (by omega), List.getElem?_replicate] at e
      split at e
      · cases e; exact R.out i (by omega)
      · cases e
  out := fun i h => R.out i (by rw [List.length_append] at h; omega)
  aliveB := R.aliveB
  apart := R.apart
  one := R.one
theorem Step.back {cs : List Cell} {m : Nat} (R : Rel w K B cs τ A H) (S : Step w K B (cs ++ List.replicate m .un) (τ ++ List.replicate m none) A H ρ' σ' A' H') :
    Step w K B cs τ A H (backs cs ρ') τ (backA cs A') H' ∧ (∀ (i : Nat) (o : Own), cs[i]? = some (Cell.own true o) → (∃ o', ρ'[i]? = some (Cell.own true o')) ∧ σ'[i]? = τ[i]?) := by
  have fx : ∀ (i : Nat) (o : Own), cs[i]? = some (Cell.own true o) → (∃ o', ρ'[i]? = some (Cell.own true o')) ∧ σ'[i]? = τ[i]? := fun i o e => by
    have hi : i < cs.length := (List.getElem?_eq_some_iff.mp e).1
    obtain ⟨h1, h2⟩ := S.fix i o (by rw [List.getElem?_append_left hi]; exact e)
    exact ⟨h1, by rw [h2, List.getElem?_append_left (by rw [← R.len]; exact hi)]⟩
  refine ⟨⟨S.rel.back R.len fx, S.ext, fun i x h => S.sub i x (backA_sub h).1, fun i o e => ?_⟩, fx⟩
  obtain ⟨⟨o', h1⟩, _⟩ := fx i o e
  exact ⟨⟨o', backs_own cs ρ' i o _ e h1⟩, rfl⟩
theorem ResC.back {cs : List Cell} (hl : cs.length = τ.length) (fx : ∀ (i : Nat) (o : Own), cs[i]? = some (Cell.own true o) → (∃ o', ρ'[i]? = some (Cell.own true o')) ∧ σ'[i]? = τ[i]?) (h : ResC w K B ρ' σ' A A' H H' c v) : ResC w K B (backs cs ρ') τ A (backA cs A') H H' c v := by
  cases c with
  | un => exact h
  | scr ns => exact h
  | val d => exact Rep.weak (fun a m => mu_back m) h
  | own fr o =>
    obtain ⟨e, as, ok, hn, rr⟩ := h
    exact ⟨e, as, ok.weak fun a m => m.imp mu_back id, fun x hx => ⟨fun m => (hn x hx).1 (mu_back m), (hn x hx).2⟩, rr.back hl fx⟩
end
section
variable {P : Program} {w : World} {K : PySem.W.Frag} {mg : Str → Option Value} {base : Heap}
theorem GnOk.mono {j k : Nat} {f : Addr} {fd : FuncData} {ps : List Str} {F : Fn} (G : GnOk P w K mg base j f fd ps F) (h : j ≤ k) : GnOk P w K mg base k f fd ps F := ⟨G.len, fun A outer s H args us vs Q hr => G.run A outer s H args us vs Q (hr.mono h)⟩
/-- a def by its body -/
theorem gn_of {k : Nat} {f : Addr} {name qual : Str} {params : Arguments} {body : List Stmt} {scope : Scope} {dV kV doc pm cdv ct oc : Value} {an od : Option Addr}
    {osl : Array (Option Value)} {N ps : List Str} {g : Sm} (lk : K.lookup f = some ⟨oc, od, .func (PySem.W.fnOf name qual params body scope dV kV doc pm an cdv ct), osl⟩) (hcd : PySem.W.codeIn K cdv qual = true) (S : FnScope N ps scope)
    (hbody : ∀ (A : Around) (outer : List PySem.Env) (s : Shared) (H : Hp), Room k (A.deeper (envOfC qual scope s.heap.objs.size f cdv)) → (A.deeper (envOfC qual scope s.heap.objs.size f cdv)).guards = some [] →
      Ss (cxOf C8.CX0 P w K mg base N qual scope f cdv A outer s H C8.E0).nox body g) :
    GnOk P w K mg base (k + 1) f (PySem.W.fnOf name qual params body scope dV kV doc pm an cdv ct) ps (mkFn ps.length N.length g) := by
  refine ⟨fun cs r e => ?_, fun A outer s H args us vs Q hr hgd e0 hb r hsp => ?_⟩
  · unfold mkFn at e
    split at e
    · assumption
    · cases e
  · obtain ⟨B, A0, cs, cs', c, R, hF, q⟩ := hsp
    have hl : vs.length = ps.length := by
      have h1 := R.len
      rw [List.length_map] at h1
      unfold mkFn at hF
      split at hF
      · omega
      · cases hF
    have KX : K.In s.heap := e0.mod.kin.keeps fun b o e => (e0.bs b o e).1
    have lim : s.heap.NoLimit := e0.mod.nolimit.keeps fun b o e => (e0.bs b o e).1
    have hkind : ∀ y ∈ ps.zip us, scope.names.lookup y.1 = some .local ∨ (scope.names.lookup y.1 = some .cell ∧ ((cellsFrom (s.heap.objs.size + 1) scope.names []).lookup y.1).isSome = true) := fun ⟨n, v⟩ hy => by
      rcases S.par n (List.of_mem_zip hy).1 with q | q
      · exact .inl q
      · exact .inr ⟨q, PySem.W.cellsFrom_some _ _ _ (.inl q)⟩
    refine codeAny_call_function hr.depth (KX _ _ lk) rfl S.co S.gen rfl (PySem.W.codeRec_of KX hcd) (hb _ _ _ _ ?_)
    refine wpAny_newFunctionEnv_cells S.kind hkind fun env he s1 x => ?_
    subst he
    refine ⟨lim.keeps x.toInCall.keep, codeAny_func ?_⟩
    have ht := (hbody A outer s H (hr.deeper _) hgd).nox
    have I : Inv (cxOf C8.CX0 P w K mg base N qual scope f cdv A outer s H C8.E0) [] (L2.start N vs) H s1 := inv_start S hr.hd e0 hl r x
    have fin : ∀ {s' : Shared} {σ' : L2.St} {H' : Hp} {v : V} {u : Value}, Inv (cxOf C8.CX0 P w K mg base N qual scope f cdv A outer s H C8.E0) [] σ' H' s' → RelV v u → Q v H' → CE outer P w H s Q u s' :=
      fun {s' σ' H' v u} J rv q => ⟨v, H', J.os, J.bare, J.base, J.hok, rv, q⟩
    unfold mkFn at hF
    rw [if_pos (by have := R.len; rw [List.length_map] at this; omega)] at hF
    have hst : L2.start N vs = vs.map some ++ List.replicate (N.length - ps.length) none := by unfold L2.start; rw [hl]
    have R0 := R.more (N.length - ps.length)
    cases z : g (cs ++ List.replicate (N.length - ps.length) .un) with
    | none => rw [z] at hF; cases hF
    | some r1 =>
      obtain ⟨ρ', o⟩ := r1
      rw [z] at hF
      have hq : RSm w K g { nx := fun _ H' => Q .non H', rt := Q } (L2.start N vs) H := by
        refine ⟨B, _, A0, ρ', o, by rw [hst]; exact R0, z, ?_⟩
        cases o with
        | nx =>
          cases hF
          intro σ' A' H' S'
          rw [hst] at S'
          obtain ⟨S2, fx⟩ := Step.back R S'
          exact q _ _ _ S2 rfl
        | rt c1 =>
          cases hF
          intro v σ' A' H' S' rc
          rw [hst] at S'
          obtain ⟨S2, fx⟩ := Step.back R S'
          exact q _ _ _ S2 (rc.back R.len fx)
        | bk => cases hF
        | ct => cases hF
      refine wpAny_mono (ht.run [] s1 (L2.start N vs) H _ I hq) (fun fl s' hs => ?_) fun e s' hs => hs
      cases fl with
      | ret u =>
        obtain ⟨v, σ', H', J, rv, q⟩ := hs
        exact fin J rv q
      | next =>
        obtain ⟨σ', H', J, q⟩ := hs
        exact fin (v := V.non) (u := Value.none) J rfl q
      | brk =>
        obtain ⟨_, _, _, q⟩ := hs
        exact False.elim q
      | cont =>
        obtain ⟨_, _, _, q⟩ := hs
        exact False.elim q
/-- a def of the text, under its name -/
theorem gn_def {x : Str} {st : Stmt} {f : Addr} {fd : FuncData} {N ps : List Str} {k : Nat} {g : Sm} (D0 : C8.Def K mg x st f fd) (sc : C8.scC N ps (C8.fnScope st) = true)
    (hbody : ∀ (cdv : Value) (A : Around) (outer : List PySem.Env) (s : Shared) (H : Hp), Room k (A.deeper (envOfC x (C8.fnScope st) s.heap.objs.size f cdv)) → (A.deeper (envOfC x (C8.fnScope st) s.heap.objs.size f cdv)).guards = some [] →
      Ss (cxOf C8.CX0 P w K mg base N x (C8.fnScope st) f cdv A outer s H C8.E0).nox (C8.fnBody st) g) : GnOk P w K mg base (k + 1) f fd ps (mkFn ps.length N.length g) := by
  obtain ⟨oc, od, dV, kV, doc, pm, an, cdv, ct, osl, rfl, lk, hcd⟩ := D0.fn.ex
  exact gn_of lk hcd (C8.fnScope_by sc) fun A outer s H hr hg => hbody cdv A outer s H hr hg
/-- a def that may be called by its name -/
structure Cg (P : Program) (w : World) (K : PySem.W.Frag) (mg : Str → Option Value) (base : Heap) (k : Nat) (x : Str) (F : Fn) : Prop where
  ex : ∃ (f : Addr) (fd : FuncData) (ps : List Str), GnOk P w K mg base k f fd ps F ∧ mg x = some (.ref f) ∧ PySem.W.keepIn K (.ref f) = true ∧ Binds K fd ps []
theorem cg {x : Str} {st : Stmt} {f : Addr} {fd : FuncData} {N ps : List Str} {k : Nat} {g : Sm} (D0 : C8.Def K mg x st f fd) (b : Binds K fd ps []) (sc : C8.scC N ps (C8.fnScope st) = true)
    (hbody : ∀ (cdv : Value) (A : Around) (outer : List PySem.Env) (s : Shared) (H : Hp), Room k (A.deeper (envOfC x (C8.fnScope st) s.heap.objs.size f cdv)) → (A.deeper (envOfC x (C8.fnScope st) s.heap.objs.size f cdv)).guards = some [] →
      Ss (cxOf C8.CX0 P w K mg base N x (C8.fnScope st) f cdv A outer s H C8.E0).nox (C8.fnBody st) g) : Cg P w K mg base (k + 1) x (mkFn ps.length N.length g) :=
  ⟨f, fd, ps, gn_def D0 sc hbody, D0.mgf, D0.kp, b⟩
end
end L3
/-! Calls of defs. -/
namespace L3
open PySem PySem.Spec PyProof.Rows L2
section
variable {X : Cx} {k j : Nat} {x : Str} {F : Fn} {p pos : Pos} {e : Expr} {es : List Expr} {t : L2.TA}
theorem pe_cg (c : Cg X.prog X.w X.K X.mg X.base k x F) (hr : Room j X.A) (hgd : X.A.guards = some []) (hk : k ≤ j) (hg : Gl X x) (ha : PA X (e :: es) t)
    (hdb : (x == ("__debug__" : Str)) = false := by decide) (he : starEach (e :: es) X.env = (false, eval e X.env) :: starEach es X.env := by rfl) (hpl : (backTo pos (starEach es X.env)).any (·.1) = false := by rfl) :
    PE X (.Call (.Name x p) (e :: es) [] pos) (fun σ H Q => t σ H fun vs H1 => spF X.w X.K F vs H1 Q) := by
  obtain ⟨f, fd, ps, G, hm, kp, hb⟩ := c.ex
  refine ⟨fun pins s σ H Q I h => ?_⟩
  refine wpAny_Call_Name_kw (ld_glob I hg hm ?_ hdb)
  refine PySem.W.callWith_K (h₀ := X.base) I.ok.mod.kin kp (thn (ha.run pos pins s σ H _ I h) fun us s1 ⟨vs, H1, I1, r, q⟩ => ⟨I1.kIn, ?_⟩) he hpl
  have hl : us.length = ps.length := by
    obtain ⟨B, A0, cs, cs', c, R, hF, _⟩ := id q
    have h1 := R.len
    rw [List.length_map] at h1
    have h2 := G.len _ _ hF
    have h3 := r.length
    omega
  have hb' : BindsTo s1 fd ⟨us, []⟩ (ps.zip us) := by
    have z := hb s1 us I1.kIn (by rw [List.append_nil]; exact hl)
    rwa [List.append_nil] at z
  refine wpAny_call (codeAny_mono (G.run X.A X.stack s1 H1 ⟨us, []⟩ us vs Q (hr.mono hk) hgd I1.env0 hb' r q) fun r s' hq => ?_)
  cases r with
  | error e => exact False.elim hq
  | ok fl =>
    cases fl with
    | ret u => exact I1.after hq
    | next => exact False.elim hq
    | brk => exact False.elim hq
    | cont => exact False.elim hq
end
section
variable {w : World} {K : PySem.W.Frag} {B : Addr → Prop} {ρ ρ' ρ1 : Env} {σ σ' τ : L2.St} {A A' A1 : Nat → List Addr} {H H' H1 : Hp} {c : Cell} {v : V}
def noA : Nat → List Addr := fun _ => []
theorem mu_noA {x : Addr} : mu B noA x ↔ B x := ⟨fun h => h.elim id (fun ⟨i, z⟩ => nomatch z), .inl⟩
theorem reps_get {M : Addr → Prop} : ∀ {ds : List D} {vs : List V} {i : Nat} {d : D}, Reps w K M H ds vs → ds[i]? = some d → ∃ v, vs[i]? = some v ∧ Rep w K M H d v := fun h e => h.get e
/-- values for a callee -/
theorem Rel.vals {ds : List D} {vs : List V} (h : Reps w K B H ds vs) (al : ∀ x, B x → H x ≠ none) : Rel w K B (ds.map .val) (vs.map some) noA H where
  len := by rw [List.length_map, List.length_map, h.length]
  cell := fun i c e => by
    rw [List.getElem?_map] at e
    cases z : ds[i]? with
    | none => rw [z] at e; cases e
    | some d =>
      rw [z] at e; cases e
      obtain ⟨v, ev, r⟩ := h.get z
      exact ⟨rfl, v, by rw [List.getElem?_map, ev]; rfl, r.weak fun a m => mu_noA.mp m⟩
  out := fun _ _ => rfl
  aliveB := al
  apart := fun i x h => nomatch h
  one := fun i j x h => nomatch h
theorem Ext.toSame {O : Addr → Prop} (e : Ext O H H') (h : ∀ x, ¬ O x) : Same H H' := fun a o z => e.keep a o z (h a)
/-- behind a callee that was handed values -/
theorem after_vals {cs : List Cell} (R : Rel w K B ρ σ A H) (S : Step w K (mu B A) cs τ noA H ρ' σ' A' H') (h : ResC w K (mu B A) ρ' σ' noA A' H H' c v) : Step w K B ρ σ A H ρ σ A H' ∧ ResC w K B ρ σ A A H H' c v := by
  have sm : Same H H' := S.ext.toSame fun x ⟨i, z⟩ => nomatch z
  have hM : ∀ a, mu B A a → mu (mu B A) A' a := fun a m => .inl m
  refine ⟨Step.same sm R, ?_⟩
  cases c with
  | un => exact h
  | scr ns => exact h
  | val d => exact Rep.weak hM h
  | own fr o =>
    obtain ⟨e, as, ok, hn, rr⟩ := h
    refine ⟨e, as, ok.weak fun a m => m.imp (hM a) id, fun x hx => ⟨fun m => (hn x hx).1 (hM x m), .inr ?_⟩, R.protect sm fun x hx => ⟨?_, (ok.alive x hx).1⟩⟩
    · rcases (hn x hx).2 with ⟨i, z⟩ | z
      · cases z
      · exact z
    · rcases (hn x hx).2 with ⟨i, z⟩ | z
      · cases z
      · exact z
mutual
theorem Rep.any {M M' : Addr → Prop} : ∀ (d : D) (v : V), noref d = true → Rep w K M H d v → Rep w K M' H d v
  | .none, _, _, h => h
  | .bool _, _, _, h => h
  | .int _, _, _, h => h
  | .str _, _, _, h => h
  | .tuple xs, v, n, h => by
    obtain ⟨a, vs, e, h1, h2⟩ := h
    exact ⟨a, vs, e, h1, Reps.any xs vs (by simpa [noref] using n) h2⟩
  | .list xs, v, n, h => by simp [noref] at n
  | .dict xs, v, n, h => by simp [noref] at n
theorem Reps.any {M M' : Addr → Prop} : ∀ (ds : List D) (vs : List V), norefs ds = true → Reps w K M H ds vs → Reps w K M' H ds vs
  | [], _, _, h => h
  | d :: ds, vs, n, h => by
    simp only [norefs, Bool.and_eq_true] at n
    obtain ⟨v, r, e, h1, h2⟩ := h
    exact ⟨v, r, e, Rep.any d v n.1 h1, Reps.any ds r n.2 h2⟩
end
end
section
variable {X : Cx} {k j : Nat} {x : Str} {F : Fn} {p pos : Pos} {e : Expr} {es : List Expr}
theorem pCall_inv {ps : List P} {ρ : Env} {d : D} (h : pCall F ps ρ = some d) : ∃ ds r c, evs ps ρ = some ds ∧ F (ds.map .val) = some (r, c) ∧ c.toD = some d := by
  unfold pCall at h
  cases z : evs ps ρ with
  | none => rw [z] at h; cases h
  | some ds =>
    rw [z] at h
    dsimp only at h
    cases z2 : F (ds.map .val) with
    | none => rw [z2] at h; cases h
    | some r => obtain ⟨r, c⟩ := r; rw [z2] at h; exact ⟨ds, r, c, rfl, z2, h⟩
/-- a call with values that stand -/
theorem jpCall {q : Kind} {ps : List P} (c : Cg X.prog X.w X.K X.mg X.base k x F) (hr : Room j X.A) (hgd : X.A.guards = some []) (ha : JA X .c (e :: es) ps) (hk : k ≤ j := by first | decide | omega) (hg : Gl X x := by rfl)
    (hdb : (x == ("__debug__" : Str)) = false := by decide) (he : starEach (e :: es) X.env = (false, eval e X.env) :: starEach es X.env := by rfl) (hpl : (backTo pos (starEach es X.env)).any (·.1) = false := by rfl) (hq : Kind.le q .c = true := by rfl) :
    JP X q (.Call (.Name x p) (e :: es) [] pos) (pCall F ps) := peimp (pe_cg c hr hgd hk hg ha hdb he hpl) fun σ H Q h => by
  obtain ⟨B, ρ, A, d, R, e1, q1⟩ := h
  obtain ⟨ds, r, c, z1, z2, z3⟩ := pCall_inv e1
  refine ⟨B, ρ, A, ds, R, z1, fun vs H1 s1 r1 => ?_⟩
  have R1 := R.same s1
  refine ⟨mu B A, noA, ds.map .val, r, c, Rel.vals (reps_of r1) R1.al, z2, fun v A' H' S rc => ?_⟩
  obtain ⟨S2, rc2⟩ := after_vals R1 S rc
  have sm : Same H1 H' := S.ext.toSame fun x ⟨i, z⟩ => nomatch z
  exact q1 v H' (s1.trans sm) (Res.down (k0 := .c) (rc2.item z3) R.al hq)
/-- .. with anything that is only read; the result holds nothing that could be changed -/
theorem jpCallB {q : Kind} {ps : List P} (c : Cg X.prog X.w X.K X.mg X.base k x F) (hr : Room j X.A) (hgd : X.A.guards = some []) (ha : JA X .r (e :: es) ps) (hk : k ≤ j := by first | decide | omega) (hg : Gl X x := by rfl)
    (hdb : (x == ("__debug__" : Str)) = false := by decide) (he : starEach (e :: es) X.env = (false, eval e X.env) :: starEach es X.env := by rfl) (hpl : (backTo pos (starEach es X.env)).any (·.1) = false := by rfl) (hq : Kind.le q .c = true := by rfl) :
    JP X q (.Call (.Name x p) (e :: es) [] pos) (pCallB F ps) := peimp (pe_cg c hr hgd hk hg ha hdb he hpl) fun σ H Q h => by
  obtain ⟨B, ρ, A, d, R, e1, q1⟩ := h
  unfold pCallB at e1
  cases z0 : pCall F ps ρ with
  | none => rw [z0] at e1; cases e1
  | some d' =>
    rw [z0] at e1
    dsimp only at e1
    split at e1
    · rename_i hn
      cases e1
      obtain ⟨ds, r, c, z1, z2, z3⟩ := pCall_inv z0
      refine ⟨B, ρ, A, ds, R, z1, fun vs H1 s1 r1 => ?_⟩
      have R1 := R.same s1
      have r0 : Reps X.w X.K (fun _ => False) H1 ds vs := by
        have go : ∀ {ds : List D} {vs : List V}, Paired (Itm X.w X.K .r (mu B A) H1) ds vs → Reps X.w X.K (fun _ => False) H1 ds vs := fun {ds vs} h => by
          induction h with
          | nil => rfl
          | cons a b ih => exact ⟨_, _, rfl, Rd1.rep0 a, ih⟩
        exact go r1
      refine ⟨fun _ => False, noA, ds.map .val, r, c, Rel.vals r0 (fun x z => z.elim), z2, fun v A' H' S rc => ?_⟩
      have sm : Same H1 H' := S.ext.toSame fun x ⟨i, z⟩ => nomatch z
      exact q1 v H' (s1.trans sm) (Res.down (k0 := .c) (Rep.any _ _ hn (rc.item z3)) R.al hq)
    · cases e1
/-- .. whose arguments may change things -/
theorem jCallV {fs : List E} (c : Cg X.prog X.w X.K X.mg X.base k x F) (hr : Room j X.A) (hgd : X.A.guards = some []) (ha : JAe X (e :: es) fs) (hk : k ≤ j := by first | decide | omega) (hg : Gl X x := by rfl)
    (hdb : (x == ("__debug__" : Str)) = false := by decide) (he : starEach (e :: es) X.env = (false, eval e X.env) :: starEach es X.env := by rfl) (hpl : (backTo pos (starEach es X.env)).any (·.1) = false := by rfl) :
    J X (.Call (.Name x p) (e :: es) [] pos) (eCallV F fs) := peimp (pe_cg c hr hgd hk hg ha hdb he hpl) fun σ H Q h => by
  obtain ⟨B, ρ, A, ρ', c0, R, e1, q1⟩ := h
  unfold eCallV at e1
  cases z1 : eevs fs ρ with
  | none => rw [z1] at e1; cases e1
  | some r =>
    obtain ⟨ρ1, ds⟩ := r
    rw [z1] at e1
    dsimp only at e1
    cases z2 : F (ds.map .val) with
    | none => rw [z2] at e1; cases e1
    | some r2 =>
      obtain ⟨r2, c2⟩ := r2
      rw [z2] at e1; cases e1
      refine ⟨B, ρ, A, _, ds, R, z1, fun vs A1 H1 S1 r1 => ?_⟩
      refine ⟨mu B A1, noA, ds.map .val, r2, _, Rel.vals r1 S1.rel.al, z2, fun v A' H' S rc => ?_⟩
      obtain ⟨S2, rc2⟩ := after_vals S1.rel S rc
      exact q1 v _ H' (S1.trans R S2) (ResC.ahead R S1 rc2)
end
end L3
/-! Changes of what is owned. -/
namespace L3
open PySem PySem.Spec PyProof.Rows L2
section
variable {w : World} {K : PySem.W.Frag} {B : Addr → Prop} {ρ ρ' ρ1 : Env} {σ σ' τ : L2.St} {A A' A1 : Nat → List Addr} {H H' H1 : Hp} {c : Cell} {v : V}
theorem Rel.at_own {i : Nat} {fx : Bool} {o : Own} (R : Rel w K B ρ σ A H) (e : ρ[i]? = some (.own fx o)) : ∃ v, σ[i]? = some (some v) ∧ OwnOk w K (mu B A) H o v (A i) := by
  obtain ⟨v, ev, ok⟩ := R.cell i _ e
  exact ⟨v, get_join ev, ok⟩
/-- what a name owns changes -/
theorem Step.chg {i : Nat} {fx : Bool} {o o' : Own} (R : Rel w K B ρ σ A H) (e : ρ[i]? = some (.own fx o)) (ev : σ[i]? = some (some v)) (ok' : OwnOk w K (mu B A) H' o' v (A i)) (ex : Ext (fun x => x ∈ A i) H H') :
    Step w K B ρ σ A H (ρ.set i (.own fx o')) σ A H' := by
  have hi : i < ρ.length := (List.getElem?_eq_some_iff.mp e).1
  refine ⟨⟨by rw [List.length_set]; exact R.len, fun j c ej => ?_, fun j h => R.out j (by rw [List.length_set] at h; exact h), fun x b => ?_, R.apart, R.one⟩, ⟨fun a ob h n => ex.keep a ob h fun z => n ⟨i, z⟩, ex.tup, ex.frz⟩, fun j x h => .inl ⟨j, h⟩, fun j o0 h => ?_⟩
  · by_cases hj : j = i
    · subst hj
      rw [List.getElem?_set_self hi] at ej
      cases ej
      exact ⟨v, by rw [ev]; rfl, ok'⟩
    · rw [List.getElem?_set_ne (Ne.symm hj)] at ej
      exact (R.cell j c ej).ext ex (fun a z => .inr ⟨i, z⟩) (fun a _ m => m) fun x hx z => hj (R.one j i x hx z)
  · cases q : H x with
    | none => exact absurd q (R.aliveB x b)
    | some ob => rw [ex.keep x ob q fun z => R.apart i x z b]; simp
  · refine ⟨?_, rfl⟩
    by_cases hj : j = i
    · subst hj
      rw [e] at h; cases h
      exact ⟨o', List.getElem?_set_self hi⟩
    · exact ⟨o0, by rw [List.getElem?_set_ne (Ne.symm hj)]; exact h⟩
theorem upd_ext1 {L : Addr} {o0 o : HO} (hL : H L = some o0) (ht : ∀ vs, o0 ≠ .tup vs) (hf : ∀ ob u, o0 ≠ .frz ob u) : Ext (fun x => x = L) H (upd H L o) where
  keep := fun a ob e n => by rw [upd_ne n]; exact e
  tup := fun a vs e => by rw [upd_ne fun z => by rw [z, hL] at e; cases e; exact ht vs rfl]; exact e
  frz := fun a ob u e => by rw [upd_ne fun z => by rw [z, hL] at e; cases e; exact hf ob u rfl]; exact e
theorem Ext.into {O O' : Addr → Prop} (e : Ext O H H') (h : ∀ x, O x → O' x) : Ext O' H H' := ⟨fun a ob q n => e.keep a ob q fun z => n (h a z), e.tup, e.frz⟩
end
section
variable {X : Cx}
theorem isLst_inv {oc : Option Cell} (h : isLst oc = true) : ∃ fx xs, oc = some (.own fx (.lst xs)) := by
  unfold isLst at h
  split at h
  · exact ⟨_, _, rfl⟩
  · cases h
theorem reps_len_line {w : World} {K : PySem.W.Frag} {M : Addr → Prop} {H : Hp} {xs : List D} {vs : List V} (h : Reps w K M H xs vs) (hl : xs.length < 16777216) : vs.length < sizeLine := by
  rw [h.length, sizeLine_eq]; exact hl
/-- xs.append(e) -/
theorem sAppS {i : Nat} {x : Str} {p ap cp pos : Pos} {e : Expr} {f : E} (he : J X e f) (hN : X.N[i]? = some x := by rfl) (hv : Vis X.env.scope x := by first | exact Or.inl rfl | exact Or.inr (Or.inl rfl) | exact Or.inr (Or.inr rfl)) (hd : (x == ("__debug__" : Str)) = false := by decide)
    (hcd : (x == ("__classdict__" : Str)) = false := by decide)
    (hbase : attributeBase (.Name x p) "append" X.env (eval (.Name x p) X.env) = eval (.Name x p) X.env := by rfl)
    (hfew : ((backTo cp (starEach [e] X.env)).all (fun x => !x.1) && (backToKw cp (keywordEach [] X.env)).all (fun x => x.1.isSome)
      && decide (([e] : List Expr).length + ([] : List Keyword).length + (if ([] : List Keyword).isEmpty then 0 else 1) < 30)) = true := by rfl)
    (hline : (ap.endLine == cp.line) = true := by rfl) (hst : starEach [e] X.env = [(false, eval e X.env)] := by rfl) (hs : swapsWith (.Call (.Attribute (.Name x p) "append" ap) [e] [] cp) none pos.line X.env = pure false := by rfl) :
    S1 X (.Expr (.Call (.Attribute (.Name x p) "append" ap) [e] [] cp) pos) (sApp i f) :=
  psimp (ps_expr (pe_bm PySem.F.plainAttrs_list PySem.F.slot_list_append PySem.F.type_list_append mt_append (pv i hN hv hd hcd) (jaeCons he jaeNil hst) hbase hfew hline hst (by rfl)) hs) fun Dn σ H h => by
    obtain ⟨B, ρ, A, ρ', o, R, e1, q⟩ := h
    unfold sApp at e1
    split at e1
    · rename_i hL
      obtain ⟨fx0, xs0, e0⟩ := isLst_inv hL
      obtain ⟨v0, ev0, a0, vs0, rfl, ea0, h0, _⟩ := R.at_own e0
      cases z : f ρ with
      | none => rw [z] at e1; cases e1
      | some r =>
        obtain ⟨ρ1, c⟩ := r
        rw [z] at e1
        dsimp only at e1
        split at e1
        · rename_i d fx xs zc zi
          split at e1
          · rename_i hl
            cases e1
            have hl := of_decide_eq_true hl
            refine ⟨.ref a0, ev0, .inl ⟨rfl, vs0, SqL.of h0⟩, B, ρ, A, ρ1, [d], R, by rw [eevs, z]; dsimp only; rw [zc]; rfl, fun vs A1 H1 S r1 => ?_⟩
            obtain ⟨v1, ev1, a1, vs1, e2, ea1, h1, rp⟩ := S.rel.at_own zi
            rw [ev0] at ev1; cases ev1; cases e2
            obtain ⟨u, t, rfl, ru, rt⟩ := r1
            rw [show t = [] from rt]
            refine ⟨a0, vs1, u, rfl, rfl, h1, reps_len_line rp hl, ?_⟩
            have ex := upd_ext1 (o := .lst (vs1 ++ [u])) h1 (fun _ z => by cases z) (fun _ _ z => by cases z)
            have hin : a0 ∈ A1 i := by rw [ea1]; simp
            have hM : ∀ x, x = a0 → mu B A1 x := fun x e => .inr ⟨i, e ▸ hin⟩
            refine q _ _ _ (S.trans R (Step.chg S.rel zi ev0 ⟨a0, vs1 ++ [u], rfl, ea1, upd_same, ?_⟩ (ex.into fun x e => e ▸ hin)))
            exact (rp.append (Reps.one ru)).ext ex hM fun _ _ m => m
          · cases e1
        · cases e1
    · cases e1
/-- xs.extend(e) -/
theorem sExtS {i : Nat} {x : Str} {p ap cp pos : Pos} {e : Expr} {f : E} (he : J X e f) (hN : X.N[i]? = some x := by rfl) (hv : Vis X.env.scope x := by first | exact Or.inl rfl | exact Or.inr (Or.inl rfl) | exact Or.inr (Or.inr rfl)) (hd : (x == ("__debug__" : Str)) = false := by decide)
    (hcd : (x == ("__classdict__" : Str)) = false := by decide)
    (hbase : attributeBase (.Name x p) "extend" X.env (eval (.Name x p) X.env) = eval (.Name x p) X.env := by rfl)
    (hfew : ((backTo cp (starEach [e] X.env)).all (fun x => !x.1) && (backToKw cp (keywordEach [] X.env)).all (fun x => x.1.isSome)
      && decide (([e] : List Expr).length + ([] : List Keyword).length + (if ([] : List Keyword).isEmpty then 0 else 1) < 30)) = true := by rfl)
    (hline : (ap.endLine == cp.line) = true := by rfl) (hst : starEach [e] X.env = [(false, eval e X.env)] := by rfl) (hs : swapsWith (.Call (.Attribute (.Name x p) "extend" ap) [e] [] cp) none pos.line X.env = pure false := by rfl) :
    S1 X (.Expr (.Call (.Attribute (.Name x p) "extend" ap) [e] [] cp) pos) (sExt i f) :=
  psimp (ps_expr (pe_bm PySem.F.plainAttrs_list PySem.F.slot_list_extend PySem.F.type_list_extend mt_extend (pv i hN hv hd hcd) (jaeCons he jaeNil hst) hbase hfew hline hst (by rfl)) hs) fun Dn σ H h => by
    obtain ⟨B, ρ, A, ρ', o, R, e1, q⟩ := h
    unfold sExt at e1
    split at e1
    · rename_i hL
      obtain ⟨fx0, xs0, e0⟩ := isLst_inv hL
      obtain ⟨v0, ev0, a0, vs0, rfl, ea0, h0, _⟩ := R.at_own e0
      cases z : f ρ with
      | none => rw [z] at e1; cases e1
      | some r =>
        obtain ⟨ρ1, c⟩ := r
        rw [z] at e1
        dsimp only at e1
        split at e1
        · rename_i ys fx xs zc zi
          split at e1
          · rename_i hl
            cases e1
            have hl := len24_ok hl
            refine ⟨.ref a0, ev0, .inl ⟨rfl, vs0, SqL.of h0⟩, B, ρ, A, ρ1, [.list ys], R, by rw [eevs, z]; dsimp only; rw [zc]; rfl, fun vs A1 H1 S r1 => ?_⟩
            obtain ⟨v1, ev1, a1, vs1, e2, ea1, h1, rp⟩ := S.rel.at_own zi
            rw [ev0] at ev1; cases ev1; cases e2
            obtain ⟨u, t, rfl, ⟨b, us, rfl, nb, hb, ru⟩, rt⟩ := r1
            rw [show t = [] from rt]
            refine ⟨a0, b, vs1, us, rfl, rfl, h1, hb, by rw [rp.length, ru.length]; exact hl, ?_⟩
            have ex := upd_ext1 (o := .lst (vs1 ++ us)) h1 (fun _ z => by cases z) (fun _ _ z => by cases z)
            have hin : a0 ∈ A1 i := by rw [ea1]; simp
            have hM : ∀ x, x = a0 → mu B A1 x := fun x e => .inr ⟨i, e ▸ hin⟩
            refine q _ _ _ (S.trans R (Step.chg S.rel zi ev0 ⟨a0, vs1 ++ us, rfl, ea1, upd_same, ?_⟩ (ex.into fun x e => e ▸ hin)))
            exact (rp.append ru).ext ex hM fun _ _ m => m
          · cases e1
        · cases e1
    · cases e1
/-- xs.pop() -/
theorem jPop {i : Nat} {x : Str} {p ap cp : Pos} (hN : X.N[i]? = some x := by rfl) (hv : Vis X.env.scope x := by first | exact Or.inl rfl | exact Or.inr (Or.inl rfl) | exact Or.inr (Or.inr rfl)) (hd : (x == ("__debug__" : Str)) = false := by decide)
    (hcd : (x == ("__classdict__" : Str)) = false := by decide)
    (hbase : attributeBase (.Name x p) "pop" X.env (eval (.Name x p) X.env) = eval (.Name x p) X.env := by rfl) (hline : (ap.endLine == cp.line) = true := by rfl) :
    J X (.Call (.Attribute (.Name x p) "pop" ap) [] [] cp) (ePop i) :=
  peimp (pe_bm0 PySem.F.plainAttrs_list PySem.F.slot_list_pop PySem.F.type_list_pop mt_pop (pv i hN hv hd hcd) hbase hline) fun σ H Q h => by
    obtain ⟨B, ρ, A, ρ', c, R, e1, q⟩ := h
    unfold ePop at e1
    split at e1
    · rename_i fx xs zi
      split at e1
      · rename_i d zd
        cases e1
        obtain ⟨v0, ev0, a0, vs0, rfl, ea0, h0, rp⟩ := R.at_own zi
        refine ⟨.ref a0, ev0, .inl ⟨rfl, vs0, SqL.of h0⟩, ?_⟩
        have hx : xs[xs.length - 1]? = some d := by rw [← List.getLast?_eq_getElem?]; exact zd
        obtain ⟨u, eu, ru⟩ := rp.get hx
        have hl := rp.length
        refine ⟨a0, vs0, u, rfl, rfl, h0, by rw [hl]; exact eu, ?_⟩
        have ex := upd_ext1 (o := .lst vs0.dropLast) h0 (fun _ z => by cases z) (fun _ _ z => by cases z)
        have hin : a0 ∈ A i := by rw [ea0]; simp
        have hM : ∀ x, x = a0 → mu B A x := fun x e => .inr ⟨i, e ▸ hin⟩
        refine q _ A _ (Step.chg R zi ev0 ⟨a0, _, rfl, ea0, upd_same, ?_⟩ (ex.into fun x e => e ▸ hin)) (ru.ext ex hM fun _ _ m => m)
        have e3 : xs.dropLast = xs.take (vs0.length - 1) := by rw [List.dropLast_eq_take, hl]
        have e4 : vs0.dropLast = vs0.take (vs0.length - 1) := List.dropLast_eq_take
        have rt := (rp.take (vs0.length - 1)).ext ex hM (M' := mu B A) fun _ _ m => m
        rw [← e3, ← e4] at rt
        exact rt
      · cases e1
    · cases e1
/-- an owned name gives away what it owns -/
theorem jMv {i : Nat} {x : Str} {pos : Pos} (hN : X.N[i]? = some x := by rfl) (hv : Vis X.env.scope x := by first | exact Or.inl rfl | exact Or.inr (Or.inl rfl) | exact Or.inr (Or.inr rfl)) (hd : (x == ("__debug__" : Str)) = false := by decide)
    (hcd : (x == ("__classdict__" : Str)) = false := by decide) : J X (.Name x pos) (eMv i) := peimp (pv i hN hv hd hcd) fun σ H Q h => by
  obtain ⟨B, ρ, A, ρ', c, R, e1, q⟩ := h
  unfold eMv at e1
  split at e1
  · rename_i o zi
    cases e1
    have hi : i < ρ.length := (List.getElem?_eq_some_iff.mp zi).1
    obtain ⟨v, ev, ok⟩ := R.at_own zi
    refine ⟨v, ev, ?_⟩
    have hsub : ∀ j x, x ∈ putA A i [] j → x ∈ A j ∧ j ≠ i := fun j x m => by
      by_cases hj : j = i
      · subst hj; rw [putA_self] at m; cases m
      · rw [putA_ne hj] at m; exact ⟨m, hj⟩
    have hmu : ∀ x, mu B (putA A i []) x → mu B A x := fun x m => m.imp id fun ⟨j, z⟩ => ⟨j, (hsub j x z).1⟩
    have hmu2 : ∀ x, (mu B (putA A i []) x ∨ x ∈ A i) → mu B A x := fun x m => m.elim (hmu x) fun z => .inr ⟨i, z⟩
    have mk : ∀ (N : Addr → Prop), (∀ x, N x → x ∈ A i) → Rel X.w X.K (fun x => B x ∨ N x) (ρ.set i .un) σ (putA A i []) H := fun N hN => by
      refine ⟨by rw [List.length_set]; exact R.len, fun j c ej => ?_, fun j h => ?_, fun x h => ?_, fun j x m h => ?_, fun j k x m1 m2 => R.one j k x (hsub j x m1).1 (hsub k x m2).1⟩
      · by_cases hj : j = i
        · subst hj
          rw [List.getElem?_set_self hi] at ej; cases ej
          rw [putA_self]; rfl
        · rw [List.getElem?_set_ne (Ne.symm hj)] at ej
          rw [putA_ne hj]
          refine (R.cell j c ej).ext (O := fun _ => False) (Ext.refl H) (fun _ z => z.elim) (fun a _ m => ?_) (fun _ _ z => z)
          rcases mu_or.mp m with m | m
          · exact hmu a m
          · exact .inr ⟨i, hN a m⟩
      · rw [List.length_set] at h
        rw [putA_ne (by omega)]; exact R.out j h
      · rcases h with h | h
        · exact R.aliveB x h
        · exact R.al x (.inr ⟨i, hN x h⟩)
      · rcases h with h | h
        · exact R.apart j x (hsub j x m).1 h
        · exact (hsub j x m).2 (R.one j i x (hsub j x m).1 (hN x h))
    have R1 := mk (fun _ => False) (fun _ z => z.elim)
    have R2 := mk (fun x => x ∈ A i) (fun _ z => z)
    have R0 : Rel X.w X.K B (ρ.set i .un) σ (putA A i []) H := by
      have e : (fun x => B x ∨ False) = B := by funext x; simp
      rwa [e] at R1
    refine q v (putA A i []) H ⟨R0, .refl H, fun j x m => .inl ⟨j, (hsub j x m).1⟩, fun j o' h => ?_⟩ ⟨rfl, A i, ok.weak fun a m => hmu2 a m, fun x hx => ⟨fun m => ?_, .inl ⟨i, hx⟩⟩, R2⟩
    · have hj : j ≠ i := fun z => by subst z; rw [zi] at h; cases h
      exact ⟨⟨o', by rw [List.getElem?_set_ne (Ne.symm hj)]; exact h⟩, rfl⟩
    · rcases m with m | ⟨j, m⟩
      · exact R.apart i x hx m
      · exact (hsub j x m).2 (R.one j i x (hsub j x m).1 hx)
  · cases e1
/-- xs[e] of an owned list -/
theorem jIxO {i : Nat} {x : Str} {p pos : Pos} {e : Expr} {f : E} (he : J X e f) (hN : X.N[i]? = some x := by rfl) (hv : Vis X.env.scope x := by first | exact Or.inl rfl | exact Or.inr (Or.inl rfl) | exact Or.inr (Or.inr rfl)) (hd : (x == ("__debug__" : Str)) = false := by decide)
    (hcd : (x == ("__classdict__" : Str)) = false := by decide) (hs : PlainIx e := by exact fun _ _ => rfl) : J X (.Subscript (.Name x p) e pos) (eIxO i f) := peimp (pe_ix oIx (pv i hN hv hd hcd) he hs) fun σ H Q h => by
  obtain ⟨B, ρ, A, ρ', c, R, e1, q⟩ := h
  unfold eIxO at e1
  split at e1
  · rename_i hL
    obtain ⟨fx0, xs0, e0⟩ := isLst_inv hL
    obtain ⟨v0, ev0, a0, vs0, rfl, ea0, h0, _⟩ := R.at_own e0
    cases z : f ρ with
    | none => rw [z] at e1; cases e1
    | some r =>
      obtain ⟨ρ1, c1⟩ := r
      rw [z] at e1
      dsimp only at e1
      split at e1
      · rename_i y fx xs zy zi
        split at e1
        · rename_i d zd
          cases e1
          refine ⟨.ref a0, ev0, B, ρ, A, _, c1, R, z, fun u A1 H1 S ru => ?_⟩
          obtain ⟨v1, ev1, a1, vs1, e2, ea1, h1, rp⟩ := S.rel.at_own zi
          rw [ev0] at ev1; cases ev1; cases e2
          exact ⟨mu B A1, .list xs, y, d, S.rel.al, ⟨a0, vs1, rfl, h1, rp⟩, (ru.item zy).rd1, zd, fun t H2 s2 rt => q t A1 H2 (S.more R s2) rt⟩
        · cases e1
      · cases e1
  · cases e1
end
end L3
/-! Calls by reference; the script; parallel stores; freezing. -/
namespace L3
open PySem PySem.Spec PyProof.Rows L2
section
variable {w : World} {K : PySem.W.Frag} {B N : Addr → Prop} {ρ ρ' ρ1 ρ2 : Env} {σ σ' τ : L2.St} {A A' A1 A2 : Nat → List Addr} {H H' H1 H2 : Hp} {c : Cell} {v : V}
theorem Rel.less {B' : Addr → Prop} (R : Rel w K B' ρ σ A H) (h : ∀ x, B x → B' x) : Rel w K B ρ σ A H :=
  ⟨R.len, fun i c e => (R.cell i c e).ext (O := fun _ => False) (Ext.refl H) (fun _ z => z.elim) (fun a _ m => m.imp (h a) id) (fun _ _ z => z), R.out, fun x b => R.aliveB x (h x b), fun i x m b => R.apart i x m (h x b), R.one⟩
theorem Step.less {B' : Addr → Prop} (S : Step w K B' ρ σ A H ρ' σ' A' H') (h : ∀ x, B x → B' x) : Step w K B ρ σ A H ρ' σ' A' H' := ⟨S.rel.less h, S.ext, S.sub, S.fix⟩
/-- what the callee at slot i leaves -/
theorem Rel.merge {i : Nat} {fx : Bool} {o o' : Own} {v0 : V} {cs' : List Cell} {Ac : Nat → List Addr} (R : Rel w K B ρ σ A H) (ei : ρ[i]? = some (.own fx o)) (ev : σ[i]? = some (some v0))
    (Rc : Rel w K (fun x => (B x ∨ ∃ j, j ≠ i ∧ x ∈ A j) ∨ N x) cs' τ Ac H') (e0 : cs'[0]? = some (.own true o')) (et : τ[0]? = some (some v0))
    (ex : Ext (fun x => x ∈ A i) H H') (sub : ∀ x, x ∈ Ac 0 → x ∈ A i ∨ H x = none) (hN : ∀ x, N x → x ∈ A i ∨ H x = none) :
    Rel w K (fun x => B x ∨ N x) (ρ.set i (.own fx o')) σ (putA A i (Ac 0)) H' := by
  have hi : i < ρ.length := (List.getElem?_eq_some_iff.mp ei).1
  refine ⟨by rw [List.length_set]; exact R.len, fun j c ej => ?_, fun j h => ?_, fun x h => ?_, fun j x m h => ?_, fun j k x m1 m2 => ?_⟩
  · by_cases hj : j = i
    · subst hj
      rw [List.getElem?_set_self hi] at ej
      cases ej
      have hc := Rc.cell 0 _ e0
      obtain ⟨v1, ev1, ok⟩ := hc
      rw [et] at ev1
      cases ev1
      rw [putA_self]
      refine ⟨v0, by rw [ev]; rfl, ok.weak fun a m => ?_⟩
      rcases m with (m | m) | ⟨k, m⟩
      · exact .inl (.inl (.inl m))
      · exact .inl (.inr m)
      · by_cases hk : k = j
        · subst hk; rw [putA_self] at m; exact .inr ⟨0, m⟩
        · rw [putA_ne hk] at m; exact .inl (.inl (.inr ⟨k, hk, m⟩))
    · rw [List.getElem?_set_ne (Ne.symm hj)] at ej
      rw [putA_ne hj]
      refine (R.cell j c ej).ext ex (fun a z => .inr ⟨i, z⟩) (fun a n m => ?_) fun x hx z => hj (R.one j i x hx z)
      rcases m with (m | m) | ⟨k, m⟩
      · exact .inl m
      · rcases hN a m with z | z
        · exact .inr ⟨i, z⟩
        · exact absurd z n
      · by_cases hk : k = i
        · subst hk
          rw [putA_self] at m
          rcases sub a m with z | z
          · exact .inr ⟨k, z⟩
          · exact absurd z n
        · rw [putA_ne hk] at m; exact .inr ⟨k, m⟩
  · rw [List.length_set] at h
    rw [putA_ne (by omega)]
    exact R.out j h
  · exact Rc.aliveB x (h.imp .inl id)
  · by_cases hj : j = i
    · subst hj
      rw [putA_self] at m
      exact Rc.apart 0 x m (h.imp .inl id)
    · rw [putA_ne hj] at m
      rcases h with h | h
      · exact R.apart j x m h
      · rcases hN x h with z | z
        · exact hj (R.one j i x m z)
        · exact R.al x (.inr ⟨j, m⟩) z
  · by_cases hj : j = i
    · by_cases hk : k = i
      · rw [hj, hk]
      · subst hj
        rw [putA_self] at m1
        rw [putA_ne hk] at m2
        exact absurd (.inl (.inr ⟨k, hk, m2⟩)) (Rc.apart 0 x m1)
    · by_cases hk : k = i
      · subst hk
        rw [putA_self] at m2
        rw [putA_ne hj] at m1
        exact absurd (.inl (.inr ⟨j, hj, m1⟩)) (Rc.apart 0 x m2)
      · rw [putA_ne hj] at m1
        rw [putA_ne hk] at m2
        exact R.one j k x m1 m2
/-- the first goes by reference, the others are values -/
def refA (as : List Addr) : Nat → List Addr := fun j => if j = 0 then as else []
theorem refA_sub {as : List Addr} {j : Nat} {x : Addr} (h : x ∈ refA as j) : j = 0 ∧ x ∈ as := by
  unfold refA at h
  split at h
  · exact ⟨by assumption, h⟩
  · cases h
theorem Rel.refs {i : Nat} {fx : Bool} {o : Own} {v0 : V} {ds : List D} {vs : List V} (R : Rel w K B ρ σ A H) (ei : ρ[i]? = some (.own fx o)) (ev : σ[i]? = some (some v0)) (h : Reps w K (mu B A) H ds vs) :
    Rel w K (fun x => B x ∨ ∃ j, j ≠ i ∧ x ∈ A j) (.own true o :: ds.map .val) ((v0 :: vs).map some) (refA (A i)) H where
  len := by simp [h.length]
  cell := fun j c e => by
    have hM : ∀ a, mu (fun x => B x ∨ ∃ j, j ≠ i ∧ x ∈ A j) (refA (A i)) a → mu B A a := fun a m => by
      rcases m with (m | ⟨k, _, m⟩) | ⟨k, m⟩
      · exact .inl m
      · exact .inr ⟨k, m⟩
      · exact .inr ⟨i, (refA_sub m).2⟩
    cases j with
    | zero =>
      simp at e; subst e
      obtain ⟨v1, ev1, ok⟩ := R.at_own ei
      rw [ev] at ev1; cases ev1
      exact ⟨v0, by simp, ok.weak hM⟩
    | succ j =>
      rw [List.getElem?_cons_succ, List.getElem?_map] at e
      cases z : ds[j]? with
      | none => rw [z] at e; cases e
      | some d =>
        rw [z] at e; cases e
        obtain ⟨u, eu, r⟩ := h.get z
        exact ⟨rfl, u, by simp [eu], r.weak hM⟩
  out := fun j hj => by
    unfold refA
    rw [if_neg (by simp at hj; omega)]
  aliveB := fun x b => R.al x (b.imp id fun ⟨j, _, m⟩ => ⟨j, m⟩)
  apart := fun j x m b => by
    have m := (refA_sub m).2
    rcases b with b | ⟨k, hk, b⟩
    · exact R.apart i x m b
    · exact hk (R.one k i x b m)
  one := fun j k x m1 m2 => by rw [(refA_sub m1).1, (refA_sub m2).1]
end
section
variable {X : Cx} {k j : Nat} {x y : Str} {F : Fn} {p p1 pos : Pos} {e : Expr} {es : List Expr}
theorem jCallR {i : Nat} {fs : List E} (c : Cg X.prog X.w X.K X.mg X.base k x F) (hr : Room j X.A) (hgd : X.A.guards = some []) (ha : JAe X es fs) (hk : k ≤ j := by first | decide | omega) (hg : Gl X x := by rfl)
    (hN : X.N[i]? = some y := by rfl) (hv : Vis X.env.scope y := by first | exact Or.inl rfl | exact Or.inr (Or.inl rfl) | exact Or.inr (Or.inr rfl)) (hd : (y == ("__debug__" : Str)) = false := by decide) (hcd : (y == ("__classdict__" : Str)) = false := by decide)
    (hdb : (x == ("__debug__" : Str)) = false := by decide) (he : starEach (.Name y p1 :: es) X.env = (false, eval (.Name y p1) X.env) :: starEach es X.env := by rfl) (hpl : (backTo pos (starEach es X.env)).any (·.1) = false := by rfl) :
    J X (.Call (.Name x p) (.Name y p1 :: es) [] pos) (eCallR F i fs) := peimp (pe_cg c hr hgd hk hg (pa_cons (pv i hN hv hd hcd) ha he) hdb he hpl) fun σ H Q h => by
  obtain ⟨B, ρ, A, ρ', c0, R, e1, q1⟩ := h
  unfold eCallR at e1
  split at e1
  · rename_i hO
    have hO : ∃ fx o, ρ[i]? = some (Cell.own fx o) := by
      unfold isOwnO at hO
      split at hO
      · exact ⟨_, _, by assumption⟩
      · cases hO
    obtain ⟨fx0, o0, ei0⟩ := hO
    obtain ⟨v0, ev, _⟩ := R.at_own ei0
    cases z1 : eevs fs ρ with
    | none => rw [z1] at e1; cases e1
    | some r =>
      obtain ⟨ρ1, ds⟩ := r
      rw [z1] at e1
      dsimp only at e1
      split at e1
      · rename_i fx o zi
        split at e1
        · rename_i fx2 o' cs2 c2 zF
          cases e1
          refine ⟨v0, ev, B, ρ, A, ρ1, ds, R, z1, fun vs A1 H1 S1 r1 => ?_⟩
          have R1 := S1.rel.refs zi ev r1
          refine ⟨_, _, _, _, _, R1, zF, fun v A' H' S rc => ?_⟩
          obtain ⟨⟨o2, e0⟩, _⟩ := S.fix 0 o rfl
          simp at e0
          obtain ⟨hfx, ho2⟩ := e0
          subst hfx; subst ho2
          have ex : Ext (fun x => x ∈ A1 i) H1 H' := S.ext.into fun x ⟨j, m⟩ => (refA_sub m).2
          have sub : ∀ x, x ∈ A' 0 → x ∈ A1 i ∨ H1 x = none := fun x m => (S.sub 0 x m).imp (fun ⟨j, m⟩ => (refA_sub m).2) id
          have go : ∀ N : Addr → Prop, (∀ x, N x → x ∈ A1 i ∨ H1 x = none) → Rel X.w X.K (fun x => (B x ∨ ∃ j, j ≠ i ∧ x ∈ A1 j) ∨ N x) (Cell.own true o' :: cs2) ((v0 :: vs).map some) A' H' → Rel X.w X.K (fun x => B x ∨ N x) (ρ1.set i (.own fx o')) σ (putA A1 i (A' 0)) H' := fun N hN Rc =>
            Rel.merge S1.rel zi ev Rc rfl (by simp) ex sub hN
          have Rn : Rel X.w X.K B (ρ1.set i (.own fx o')) σ (putA A1 i (A' 0)) H' := by
            have z := go (fun _ => False) (fun _ z => z.elim) (by simpa using S.rel)
            simpa using z
          have hi : i < ρ1.length := (List.getElem?_eq_some_iff.mp zi).1
          have S2 : Step X.w X.K B ρ1 σ A1 H1 (ρ1.set i (.own fx o')) σ (putA A1 i (A' 0)) H' := by
            refine ⟨Rn, ex.into fun x m => ⟨i, m⟩, fun j x m => ?_, fun j o3 e3 => ⟨?_, rfl⟩⟩
            · by_cases hj : j = i
              · subst hj; rw [putA_self] at m; exact (sub x m).imp (fun z => ⟨j, z⟩) id
              · rw [putA_ne hj] at m; exact .inl ⟨j, m⟩
            · by_cases hj : j = i
              · subst hj
                rw [zi] at e3; cases e3
                exact ⟨o', List.getElem?_set_self hi⟩
              · exact ⟨o3, by rw [List.getElem?_set_ne (Ne.symm hj)]; exact e3⟩
          have hM : ∀ a, mu B (putA A1 i (A' 0)) a → mu (fun x => B x ∨ ∃ j, j ≠ i ∧ x ∈ A1 j) A' a := fun a m => by
            rcases m with m | ⟨j, m⟩
            · exact .inl (.inl m)
            · by_cases hj : j = i
              · subst hj; rw [putA_self] at m; exact .inr ⟨0, m⟩
              · rw [putA_ne hj] at m; exact .inl (.inr ⟨j, hj, m⟩)
          refine q1 v _ H' (S1.trans R S2) (ResC.ahead R S1 ?_)
          cases c0 with
          | un => exact rc
          | scr ns => exact rc
          | val d => exact Rep.weak hM rc
          | own fr oo =>
            obtain ⟨er, as, ok, hn, rr⟩ := rc
            have hsub : ∀ x ∈ as, x ∈ A1 i ∨ H1 x = none := fun x hx => (hn x hx).2.imp (fun ⟨j, m⟩ => (refA_sub m).2) id
            exact ⟨er, as, ok.weak fun a m => m.imp (hM a) id, fun x hx => ⟨fun m => (hn x hx).1 (hM x m), (hsub x hx).imp (fun z => ⟨i, z⟩) id⟩, go (fun x => x ∈ as) hsub rr⟩
        · cases e1
      · cases e1
  · cases e1
/-- the script handed on -/
theorem jCallS {i : Nat} (c : Cg X.prog X.w X.K X.mg X.base k x F) (hr : Room j X.A) (hgd : X.A.guards = some []) (hk : k ≤ j := by first | decide | omega) (hg : Gl X x := by rfl)
    (hN : X.N[i]? = some y := by rfl) (hv : Vis X.env.scope y := by first | exact Or.inl rfl | exact Or.inr (Or.inl rfl) | exact Or.inr (Or.inr rfl)) (hd : (y == ("__debug__" : Str)) = false := by decide) (hcd : (y == ("__classdict__" : Str)) = false := by decide)
    (hdb : (x == ("__debug__" : Str)) = false := by decide) (he : starEach [.Name y p1] X.env = [(false, eval (.Name y p1) X.env)] := by rfl) :
    J X (.Call (.Name x p) [.Name y p1] [] pos) (eCallS F i) := peimp (pe_cg c hr hgd hk hg (pa_cons (pv i hN hv hd hcd) pa_nil he) hdb he (by rfl)) fun σ H Q h => by
  obtain ⟨B, ρ, A, ρ', c0, R, e1, q1⟩ := h
  unfold eCallS at e1
  split at e1
  · rename_i ns zi
    cases zF : F [.scr ns] with
    | none => rw [zF] at e1; cases e1
    | some r =>
      obtain ⟨cs2, c2⟩ := r
      rw [zF] at e1
      cases e1
      obtain ⟨_, a, ev, hs⟩ := R.cell i _ zi
      refine ⟨.ref a, get_join ev, mu B A, noA, [.scr ns], cs2, _, ⟨rfl, fun j c e => ?_, fun _ _ => rfl, R.al, fun j x m => (nomatch m), fun j k x m => (nomatch m)⟩, zF, fun v A' H' S rc => ?_⟩
      · cases j with
        | zero => simp at e; subst e; exact ⟨rfl, a, rfl, hs⟩
        | succ j => simp at e
      · obtain ⟨S2, rc2⟩ := after_vals R S rc
        exact q1 v _ H' S2 rc2
  · cases e1
end
/-! ### the script walked -/
section
variable {X : Cx}
def Scr (K : PySem.W.Frag) (H : Hp) (a : Addr) (ns : List Int) : Prop := (∃ o, H a = some (.frz o (.lst (ns.map .int)))) ∨ ∀ H', SqL K H' a (ns.map .int)
theorem Scr.sql {K : PySem.W.Frag} {H : Hp} {a : Addr} {ns : List Int} (h : Scr K H a ns) : SqL K H a (ns.map .int) := h.elim (fun ⟨o, e⟩ => .inl (.inr ⟨o, e⟩)) fun z => z H
theorem Scr.same {K : PySem.W.Frag} {H H' : Hp} {a : Addr} {ns : List Int} (s : Same H H') (h : Scr K H a ns) : Scr K H' a ns := h.imp (fun ⟨o, e⟩ => ⟨o, s _ _ e⟩) id
theorem ok_scr {w : World} {K : PySem.W.Frag} {ns : List Int} {a : Addr} : ItOk w K (ns.map .int) (Itl K a) fun B A H => Scr K H a ns where
  good := fun B => ⟨fun i A H hi h => by
    have hi : i < ns.length := by simpa using hi
    refine ⟨⟨_, .int ns[i], h.sql, by simp [hi]⟩, fun v H' y => ?_⟩
    obtain ⟨rfl, y⟩ := y
    refine ⟨Same.refl _, h, fun x hx => ?_⟩
    have e := y _ h.sql
    rw [List.getElem?_map] at hx e
    rw [List.getElem?_eq_getElem hi] at hx e
    cases hx; cases e
    exact (rfl : _ = _), fun i A H hi h => ⟨_, h.sql, by simpa using hi⟩⟩
  same := fun B A H H' s h => h.same s
  prot := fun B N A H H' s hN h => h.same s
theorem iScrI {i : Nat} {tg : Expr} {x : Str} {pos : Pos} (hN : X.N[i]? = some x := by rfl) (hv : Vis X.env.scope x := by first | exact Or.inl rfl | exact Or.inr (Or.inl rfl) | exact Or.inr (Or.inr rfl)) (hd : (x == ("__debug__" : Str)) = false := by decide)
    (hcd : (x == ("__classdict__" : Str)) = false := by decide) : JI X tg (.Name x pos) (iScr i) := ⟨fun pins s σ H R I h => by
  obtain ⟨B, ρ, A, ρ1, xs, Rr, e, q⟩ := h
  unfold iScr at e
  split at e
  · rename_i ns zi
    cases e
    obtain ⟨_, a, ev, hs⟩ := Rr.cell i _ zi
    have hs : Scr X.K H a ns := hs
    exact (pi_list (pv i hN hv hd hcd)).run pins s σ H R I ⟨.ref a, get_join ev, a, rfl, ⟨_, hs.sql⟩, q _ _ A H (Step.refl Rr) ok_scr (fun B A H A' H' O h ex hO hM => h.imp (fun ⟨o, e⟩ => ⟨o, ex.frz _ _ _ e⟩) id) hs⟩
  · cases e⟩
theorem ipScrI {i : Nat} {tg : Expr} {x : Str} {pos : Pos} (hN : X.N[i]? = some x := by rfl) (hv : Vis X.env.scope x := by first | exact Or.inl rfl | exact Or.inr (Or.inl rfl) | exact Or.inr (Or.inr rfl)) (hd : (x == ("__debug__" : Str)) = false := by decide)
    (hcd : (x == ("__classdict__" : Str)) = false := by decide) : JIp X tg (.Name x pos) (ipScr i) := ⟨fun pins s σ H R I h => by
  obtain ⟨B, ρ, A, xs, Rr, e, q⟩ := h
  unfold ipScr at e
  split at e
  · rename_i ns zi
    cases e
    obtain ⟨_, a, ev, hs⟩ := Rr.cell i _ zi
    have hs : Scr X.K H a ns := hs
    exact (pi_list (pv i hN hv hd hcd)).run pins s σ H R I ⟨.ref a, get_join ev, a, rfl, ⟨_, hs.sql⟩, q _ _ H (Same.refl H) ok_scr hs⟩
  · cases e⟩
end
end L3
/-! A drawing's source; parallel stores; freezing. -/
namespace L3
open PySem PySem.Spec PyProof.Rows L2
/-! ### the source -/
def srcK (s : Src) (c : Addr) : List (Key × V) := [(.inr "cells", .ref c), (.inr "left", .int s.left), (.inr "mixed", .int s.mixed), (.inr "turn", .int s.turn)]
theorem srcK_cells (s : Src) (c : Addr) : valV (srcK s c) (.inr "cells") = some (.ref c) := rfl
theorem srcK_get {s : Src} {c : Addr} {k : Str} {n : Int} (h : s.get k = some n) : valV (srcK s c) (.inr k) = some (.int n) := by
  unfold Src.get at h
  split at h
  · subst k; cases h; rfl
  · split at h
    · subst k; cases h; rfl
    · split at h
      · subst k; cases h; rfl
      · cases h
theorem srcK_put {s s' : Src} {c : Addr} {k : Str} {n : Int} (h : s.put k n = some s') : putK (srcK s c) (.inr k) (.int n) = srcK s' c ∧ s'.cells = s.cells := by
  unfold Src.put at h
  split at h
  · subst k; cases h; exact ⟨rfl, rfl⟩
  · split at h
    · subst k; cases h; exact ⟨rfl, rfl⟩
    · split at h
      · subst k; cases h; exact ⟨rfl, rfl⟩
      · cases h
section
variable {X : Cx}
theorem jSrc {k0 : Kind} {i : Nat} {x kk : Str} {p p2 pos : Pos} {j} (hu : X.A.units + 64 < cLine) (hN : X.N[i]? = some x := by rfl) (hv : Vis X.env.scope x := by first | exact Or.inl rfl | exact Or.inr (Or.inl rfl) | exact Or.inr (Or.inr rfl)) (hd : (x == ("__debug__" : Str)) = false := by decide)
    (hcd : (x == ("__classdict__" : Str)) = false := by decide) : JP X k0 (.Subscript (.Name x p) (.Constant (.str kk) j p2) pos) (pSrc i kk) := peimp (pe_dget (by omega) (pv i hN hv hd hcd) pe_str (fun _ _ => rfl)) fun σ H Q h => by
  obtain ⟨B, ρ, A, d, R, e, q⟩ := h
  unfold pSrc at e
  split at e
  · rename_i fx s zi
    cases z : s.get kk with
    | none => rw [z] at e; cases e
    | some n =>
      rw [z] at e; cases e
      obtain ⟨v, ev, a, c, rfl, ea, h1, h2⟩ := R.at_own zi
      exact ⟨.ref a, ev, a, .int n, rfl, by have this := DGet.k (k := .inr kk) h1; have e2 := srcK_get (c := c) z; unfold srcK at e2; rw [e2] at this; exact this, q _ _ (Same.refl H) (Res.flat (show Rep X.w X.K (mu B A) H (.int n) (.int n) from rfl))⟩
  · cases e
theorem jSrcC {i : Nat} {x : Str} {p p2 pos : Pos} {j} (hu : X.A.units + 64 < cLine) (hN : X.N[i]? = some x := by rfl) (hv : Vis X.env.scope x := by first | exact Or.inl rfl | exact Or.inr (Or.inl rfl) | exact Or.inr (Or.inr rfl)) (hd : (x == ("__debug__" : Str)) = false := by decide)
    (hcd : (x == ("__classdict__" : Str)) = false := by decide) : JP X .r (.Subscript (.Name x p) (.Constant (.str "cells") j p2) pos) (pSrcC i) := peimp (pe_dget (by omega) (pv i hN hv hd hcd) pe_str (fun _ _ => rfl)) fun σ H Q h => by
  obtain ⟨B, ρ, A, d, R, e, q⟩ := h
  unfold pSrcC at e
  split at e
  · rename_i fx s zi
    cases e
    obtain ⟨v, ev, a, c, rfl, ea, h1, h2⟩ := R.at_own zi
    exact ⟨.ref a, ev, a, .ref c, rfl, DGet.k (k := .inr "cells") h1, q _ _ (Same.refl H) ⟨c, _, rfl, h2, reps_ints _⟩⟩
  · cases e
where reps_ints : ∀ {w : World} {K : PySem.W.Frag} {M : Addr → Prop} {H : Hp} (ns : List Int), Reps w K M H (ns.map .int) (ns.map .int)
  | _, _, _, _, [] => rfl
  | _, _, _, _, n :: ns => ⟨.int n, _, rfl, rfl, reps_ints ns⟩
/-- source[k] = e -/
theorem src_put {w : World} {K : PySem.W.Frag} {B : Addr → Prop} {ρ : Env} {σ : L2.St} {A : Nat → List Addr} {H : Hp} {i : Nat} {fx : Bool} {s s' : Src} {kk : Str} {n : Int} {v : V} (R : Rel w K B ρ σ A H) (zi : ρ[i]? = some (.own fx (.src s))) (ev : σ[i]? = some (some v)) (z : s.put kk n = some s') :
    ∃ a c, v = .ref a ∧ H a = some (.dK (srcK s c)) ∧ Step w K B ρ σ A H (ρ.set i (.own fx (.src s'))) σ A (upd H a (.dK (putK (srcK s c) (.inr kk) (.int n)))) := by
  obtain ⟨v1, ev1, a, c, rfl, ea, h1, h2⟩ := R.at_own zi
  rw [ev] at ev1; cases ev1
  obtain ⟨e1, e2⟩ := srcK_put (c := c) z
  refine ⟨a, c, rfl, h1, ?_⟩
  have hca : c ≠ a := fun e => by rw [e, h1] at h2; cases h2
  have ex := upd_ext1 (o := .dK (putK (srcK s c) (.inr kk) (.int n))) h1 (fun _ z => by cases z) (fun _ _ z => by cases z)
  exact Step.chg R zi ev ⟨a, c, rfl, ea, by rw [e1]; exact upd_same, by rw [upd_ne hca, h2, e2]⟩ (ex.into fun x e => by rw [ea, e]; simp)
theorem sSrcPutS {i : Nat} {x kk : Str} {p p2 p3 pos : Pos} {j} {e : Expr} {a : P} (hu : X.A.units + 64 < cLine) (he : JP X .c e a) (hN : X.N[i]? = some x := by rfl) (hv : Vis X.env.scope x := by first | exact Or.inl rfl | exact Or.inr (Or.inl rfl) | exact Or.inr (Or.inr rfl)) (hd : (x == ("__debug__" : Str)) = false := by decide)
    (hcd : (x == ("__classdict__" : Str)) = false := by decide) (hs : swapsWith e (some (.Subscript (.Name x p) (.Constant (.str kk) j p2) p3)) pos.line X.env = pure false := by rfl) :
    S1 X (.Assign [.Subscript (.Name x p) (.Constant (.str kk) j p2) p3] e pos) (sSrcPut i kk a) := psimp (ps_dput (by omega) (pv i hN hv hd hcd) pe_str he hs) fun Dn σ H h => by
  obtain ⟨B, ρ, A, ρ', o, R, e1, q⟩ := h
  unfold sSrcPut at e1
  split at e1
  · rename_i n fx s za zi
    cases z : s.put kk n with
    | none => rw [z] at e1; cases e1
    | some s' =>
      rw [z] at e1; cases e1
      refine ⟨B, ρ, A, _, R, za, fun v H1 s1 r1 => ?_⟩
      cases (show v = .int n from r1)
      obtain ⟨v0, ev, _⟩ := R.at_own zi
      obtain ⟨a0, c, rfl, h1, S⟩ := src_put (R.same s1) zi ev z
      refine ⟨_, ev, a0, _, rfl, DPut.k (k := .inr kk) h1 (by rw [sizeLine_eq]; exact (by decide : 4 < 16777216)), ?_⟩
      exact q _ _ _ ((Step.same s1 R).trans R S)
  · cases e1
/-- source[k] = source['cells'].pop() -/
theorem sSrcPopS {i : Nat} {x kk : Str} {p p2 p3 p4 p5 p6 p7 p8 pos : Pos} {j j2} (hu : X.A.units + 64 < cLine) (hN : X.N[i]? = some x := by rfl) (hv : Vis X.env.scope x := by first | exact Or.inl rfl | exact Or.inr (Or.inl rfl) | exact Or.inr (Or.inr rfl)) (hd : (x == ("__debug__" : Str)) = false := by decide)
    (hcd : (x == ("__classdict__" : Str)) = false := by decide)
    (hbase : attributeBase (.Subscript (.Name x p4) (.Constant (.str "cells") j2 p5) p6) "pop" X.env (eval (.Subscript (.Name x p4) (.Constant (.str "cells") j2 p5) p6) X.env) = eval (.Subscript (.Name x p4) (.Constant (.str "cells") j2 p5) p6) X.env := by rfl) (hline : (p7.endLine == p8.line) = true := by rfl)
    (hs : swapsWith (.Call (.Attribute (.Subscript (.Name x p4) (.Constant (.str "cells") j2 p5) p6) "pop" p7) [] [] p8) (some (.Subscript (.Name x p) (.Constant (.str kk) j p2) p3)) pos.line X.env = pure false := by rfl) :
    S1 X (.Assign [.Subscript (.Name x p) (.Constant (.str kk) j p2) p3] (.Call (.Attribute (.Subscript (.Name x p4) (.Constant (.str "cells") j2 p5) p6) "pop" p7) [] [] p8) pos) (sSrcPop i kk) :=
  psimp (ps_dput (by omega) (pv i hN hv hd hcd) pe_str (pe_bm0 PySem.F.plainAttrs_list PySem.F.slot_list_pop PySem.F.type_list_pop mt_pop (pe_dget (by omega) (pv i hN hv hd hcd) pe_str (fun _ _ => rfl)) hbase hline) hs) fun Dn σ H h => by
  obtain ⟨B, ρ, A, ρ', o, R, e1, q⟩ := h
  unfold sSrcPop at e1
  split at e1
  · rename_i fx s zi
    cases zg : s.cells.getLast? with
    | none => rw [zg] at e1; cases e1
    | some n =>
      rw [zg] at e1
      dsimp only at e1
      cases z : ({ s with cells := s.cells.dropLast } : Src).put kk n with
      | none => rw [z] at e1; cases e1
      | some s' =>
        rw [z] at e1; cases e1
        obtain ⟨v, ev, a, c, rfl, ea, h1, h2⟩ := R.at_own zi
        have hca : c ≠ a := fun e => by rw [e, h1] at h2; cases h2
        refine ⟨_, ev, a, .ref c, rfl, DGet.k (k := .inr "cells") h1, .inl ⟨rfl, _, SqL.of h2⟩, c, _, .int n, rfl, rfl, h2, ?_, ?_⟩
        · rw [List.length_map, List.getElem?_map, ← List.getLast?_eq_getElem?, zg]; rfl
        · have ex := upd_ext1 (o := .lst (s.cells.map V.int).dropLast) h2 (fun _ z => by cases z) (fun _ _ z => by cases z)
          have S1 := Step.chg (fx := fx) (o' := .src { s with cells := s.cells.dropLast }) R zi ev (H' := upd H c (.lst (s.cells.map V.int).dropLast)) ⟨a, c, rfl, ea, by rw [upd_ne (Ne.symm hca)]; exact h1, by rw [upd_same, List.map_dropLast]⟩ (ex.into fun x e => by rw [ea, e]; simp)
          have hi : i < ρ.length := (List.getElem?_eq_some_iff.mp zi).1
          obtain ⟨a0, c0, ee, h3, S2⟩ := src_put S1.rel (List.getElem?_set_self hi) ev z
          cases ee
          refine ⟨_, ev, a, _, rfl, DPut.k (k := .inr kk) h3 (by rw [sizeLine_eq]; exact (by decide : 4 < 16777216)), ?_⟩
          have S3 := S1.trans R S2
          rw [List.set_set] at S3
          exact q _ _ _ S3
  · cases e1
/-- {'cells': .., 'left': .., 'mixed': .., 'turn': ..} -/
theorem intsOf_eq : ∀ {xs : List D} {ns : List Int}, intsOf xs = some ns → xs = ns.map .int
  | [], ns, h => by cases h; rfl
  | .int n :: r, ns, h => by
    rw [intsOf] at h
    cases z : intsOf r with
    | none => rw [z] at h; cases h
    | some m => rw [z] at h; cases h; rw [intsOf_eq z]; rfl
  | .none :: _, _, h => by simp [intsOf] at h
  | .bool _ :: _, _, h => by simp [intsOf] at h
  | .str _ :: _, _, h => by simp [intsOf] at h
  | .list _ :: _, _, h => by simp [intsOf] at h
  | .tuple _ :: _, _, h => by simp [intsOf] at h
  | .dict _ :: _, _, h => by simp [intsOf] at h
theorem reps_ints_eq {w : World} {K : PySem.W.Frag} {M : Addr → Prop} {H : Hp} : ∀ {ns : List Int} {vs : List V}, Reps w K M H (ns.map .int) vs → vs = ns.map .int
  | [], vs, h => h
  | n :: ns, vs, h => by
    obtain ⟨v, r, e, h1, h2⟩ := h
    rw [e, show v = .int n from h1, reps_ints_eq h2]; rfl
theorem jSrcNew {a b c d : Expr} {pa pb pc pd : P} {p1 p2 p3 p4 pos : Pos} {j1 j2 j3 j4} (ha : JP X .f a pa) (hb : JP X .c b pb) (hc : JP X .c c pc) (hd : JP X .c d pd) :
    J X (.Dict [some (.Constant (.str "cells") j1 p1), some (.Constant (.str "left") j2 p2), some (.Constant (.str "mixed") j3 p3), some (.Constant (.str "turn") j4 p4)] [a, b, c, d] pos) (eSrc pa pb pc pd) :=
  peimp (pe_disp (pps_cons pe_str ha (pps_cons pe_str hb (pps_cons pe_str hc (pps_cons pe_str hd pps_nil)))) rfl rfl (by simp) (by simp)) fun σ H Q h => by
  obtain ⟨B, ρ, A, ρ', cc, R, e1, q⟩ := h
  unfold eSrc at e1
  split at e1
  · rename_i xs l m t za zb zc zd
    cases zn : intsOf xs with
    | none => rw [zn] at e1; cases e1
    | some ns =>
      rw [zn] at e1; cases e1
      intro p hp
      have s0 := same_new (o := .dK []) hp
      have R0 := R.same s0
      refine ⟨B, ρ, A, _, R0, za, fun v1 H1 s1 r1 => ⟨B, ρ, A, _, R0.same s1, zb, fun v2 H2 s2 r2 => ⟨B, ρ, A, _, (R0.same s1).same s2, zc, fun v3 H3 s3 r3 => ⟨B, ρ, A, _, ((R0.same s1).same s2).same s3, zd, fun v4 H4 s4 r4 => ?_⟩⟩⟩⟩
      have s14 := (s2.trans s3).trans s4
      have s04 := s1.trans s14
      have hp4 : H4 p = some (.dK []) := s04 _ _ upd_same
      obtain ⟨c0, vs, rfl, hn, hc, rp⟩ := r1
      cases (show v2 = .int l from r2)
      cases (show v3 = .int m from r3)
      cases (show v4 = .int t from r4)
      obtain rfl := intsOf_eq zn
      obtain rfl := reps_ints_eq rp
      have hc4 : H4 c0 = some (.lst (ns.map .int)) := s14 _ _ hc
      have hpc : c0 ≠ p := fun e => by rw [e, upd_same] at hn; cases hn
      have hcH : H c0 = none := s0.free hn
      refine ⟨hp4, [(.inr "cells", .ref c0), (.inr "left", .int l), (.inr "mixed", .int m), (.inr "turn", .int t)], rfl, by simp, ?_⟩
      have sF : Same H (upd H4 p (.dK (srcK ⟨ns, l, m, t⟩ c0))) := fun x ob e => by
        rw [upd_ne (ne_of_none e hp)]
        exact (s0.trans s04) x ob e
      have hN : ∀ x ∈ [p, c0], H x = none ∧ (upd H4 p (.dK (srcK ⟨ns, l, m, t⟩ c0))) x ≠ none := fun x hx => by
        rcases List.mem_cons.mp hx with rfl | hx
        · exact ⟨hp, by rw [upd_same]; simp⟩
        · rw [List.mem_singleton.mp hx]
          exact ⟨hcH, by rw [upd_ne hpc, hc4]; simp⟩
      refine q (.ref p) A _ (Step.same sF R) ⟨rfl, [p, c0], ⟨p, c0, rfl, rfl, upd_same, by rw [upd_ne hpc]; exact hc4⟩, fun x hx => ⟨fun mm => R.al x mm (hN x hx).1, .inr (hN x hx).1⟩, R.protect sF hN⟩
  · cases e1
/-! ### {} -/
theorem jDict0 {k : Kind} {pos : Pos} : JP X k (.Dict [] [] pos) (pC (.dict [])) := ⟨fun pins s σ H Q I h => by
  obtain ⟨B, ρ, A, d, R, e, q⟩ := h
  cases e
  have hf := I.hok.fresh (Nat.le_refl s.heap.objs.size)
  refine wpAny_Dict_empty ⟨.ref s.heap.objs.size, _, I.laid (a := s.heap.objs.size) (o := .ext (DRaw s.heap.objs.size [])) (t' := s.toks) (fun _ _ q => Heap.get?_push_of_some _ q) (Nat.le_refl _) ?_, rfl, q _ _ (same_new hf) (Res.down (k0 := .f) ?_ R.al (by cases k <;> rfl))⟩
  · refine ⟨⟨_, #[], 0, Heap.get?_push_size _ rfl, ⟨rfl, rfl, rfl⟩, rfl, .nil⟩, ⟨_, Heap.get?_push_size _ rfl⟩, fun h1 h2 ⟨o, es, ep, e1, e2⟩ hk => ⟨o, es, ep, hk o e1, e2⟩⟩
  · exact ⟨s.heap.objs.size, [], rfl, hf, ⟨beq_eq_false_iff_ne.mpr (Ne.symm (Nat.ne_of_lt I.big)), Nat.zero_le _, upd_same⟩, rfl, List.nodup_nil⟩⟩
end
end L3
/-! Parallel stores; freezing. -/
namespace L3
open PySem PySem.Spec PyProof.Rows L2
section
variable {w : World} {K : PySem.W.Frag} {B N : Addr → Prop} {ρ ρ' ρ0 ρ1 ρ2 : Env} {σ σ' σ0 τ : L2.St} {A A' A0 A1 A2 : Nat → List Addr} {H H' H0 H1 H2 : Hp} {c : Cell} {v : V}
theorem ResC.opened (R : Rel w K B ρ' σ A' H') (h : ResC w K B ρ' σ A A' H H' c v) : ∃ as, CellOk w K (fun x => mu B A' x ∨ x ∈ as) H' c (some v) as ∧ (∀ x ∈ as, ¬ mu B A' x ∧ ((∃ j, x ∈ A j) ∨ H x = none)) ∧ Rel w K (fun x => B x ∨ x ∈ as) ρ' σ A' H' := by
  cases c with
  | un => exact h.elim
  | scr ns => exact h.elim
  | val d => exact ⟨[], ⟨rfl, v, rfl, Rep.weak (fun a m => m.elim id fun z => nomatch z) h⟩, fun x z => (nomatch z), R.noB⟩
  | own fx o =>
    obtain ⟨_, as, ok, hn, rr⟩ := h
    exact ⟨as, ⟨v, rfl, ok⟩, hn, rr⟩
/-- cells and what they own -/
def Outs (w : World) (K : PySem.W.Frag) (M : Addr → Prop) (H : Hp) : List Cell → List V → List Addr → Prop
  | [], vs, N => vs = [] ∧ N = []
  | c :: cs, vs, N => ∃ v r as N', vs = v :: r ∧ N = as ++ N' ∧ CellOk w K M H c (some v) as ∧ (∀ x ∈ as, x ∉ N') ∧ Outs w K M H cs r N'
theorem Outs.weak {M M' : Addr → Prop} (hM : ∀ a, M' a → M a) : ∀ {cs : List Cell} {vs : List V} {N : List Addr}, Outs w K M H cs vs N → Outs w K M' H cs vs N
  | [], _, _, h => h
  | c :: cs, vs, N, h => by
    obtain ⟨v, r, as, N', e1, e2, ok, d, t⟩ := h
    exact ⟨v, r, as, N', e1, e2, ok.ext (O := fun _ => False) (Ext.refl H) (fun _ z => z.elim) (fun a _ m => hM a m) (fun _ _ z => z), d, t.weak hM⟩
def RAc (w : World) (K : PySem.W.Frag) (fs : List E) : L2.TA := fun σ H Q => ∃ B ρ A ρ' cs, Rel w K B ρ σ A H ∧ ecells fs ρ = some (ρ', cs) ∧
  ∀ vs A' H' N, Step w K B ρ σ A H ρ' σ A' H' → Rel w K (fun x => B x ∨ x ∈ N) ρ' σ A' H' → Outs w K (fun x => mu B A' x ∨ x ∈ N) H' cs vs N → (∀ x ∈ N, ¬ mu B A' x ∧ ((∃ j, x ∈ A j) ∨ H x = none)) → Q vs H'
abbrev JAc (X : Cx) (es : List Expr) (fs : List E) : Prop := PA X es (RAc X.w X.K fs)
end
section
variable {X : Cx}
theorem jacNil : JAc X [] [] := paimp pa_nil fun σ H Q h => by
  obtain ⟨B, ρ, A, ρ', cs, R, e, q⟩ := h
  cases e
  exact q [] A H [] (Step.refl R) R.noB ⟨rfl, rfl⟩ fun x z => nomatch z
theorem jacCons {e : Expr} {es : List Expr} {f : E} {fs : List E} (ha : J X e f) (hr : JAc X es fs) (hs : starEach (e :: es) X.env = (false, eval e X.env) :: starEach es X.env := by rfl) : JAc X (e :: es) (f :: fs) := paimp (pa_cons ha hr hs) fun σ H Q h => by
  obtain ⟨B, ρ, A, ρ', cs, R, e, q⟩ := h
  rw [ecells] at e
  cases e1 : f ρ with
  | none => rw [e1] at e; cases e
  | some r1 =>
    obtain ⟨ρ1, c1⟩ := r1
    rw [e1] at e
    dsimp only at e
    cases e2 : ecells fs ρ1 with
    | none => rw [e2] at e; cases e
    | some r2 =>
      obtain ⟨ρ2, cs2⟩ := r2
      rw [e2] at e; cases e
      refine ⟨B, ρ, A, ρ1, c1, R, e1, fun v A1 H1 S1 r1 => ?_⟩
      obtain ⟨as, ok, hn, R1⟩ := r1.opened S1.rel
      refine ⟨fun x => B x ∨ x ∈ as, ρ1, A1, _, cs2, R1, e2, fun vs A2 H2 N' S2 R2 os hn2 => ?_⟩
      have S2' : Step X.w X.K B ρ1 σ A1 H1 ρ' σ A2 H2 := S2.less fun x b => .inl b
      have S := S1.trans R S2'
      have hB : ∀ x, x ∈ as → ¬ mu B A2 x := fun x hx m => by
        rcases m with m | ⟨j, m⟩
        · exact (hn x hx).1 (.inl m)
        · rcases S2.sub j x m with z | z
          · exact (hn x hx).1 (.inr z)
          · exact R1.aliveB x (.inr hx) z
      have hd : ∀ x ∈ as, x ∉ N' := fun x hx z => (hn2 x z).1 (.inl (.inr hx))
      refine q (v :: vs) A2 H2 (as ++ N') S (R2.less fun x b => ?_) ⟨v, vs, as, N', rfl, rfl, ?_, hd, os.weak fun a m => ?_⟩ fun x hx => ?_
      · rcases b with b | b
        · exact .inl (.inl b)
        · rcases List.mem_append.mp b with b | b
          · exact .inl (.inr b)
          · exact .inr b
      · refine ok.ext S2.ext (fun a z => .inl (.inr z)) (fun a n m => ?_) fun x hx z => (hn x hx).1 (.inr z)
        rcases m with (m | ⟨j, m⟩) | m
        · exact .inl (.inl m)
        · rcases S2.sub j a m with z | z
          · exact .inl (.inr z)
          · exact absurd z n
        · rcases List.mem_append.mp m with m | m
          · exact .inr m
          · rcases (hn2 a m).2 with z | z
            · exact .inl (.inr z)
            · exact absurd z n
      · rcases m with m | m
        · rcases m with m | m
          · exact .inl (.inl (.inl m))
          · exact .inl (.inr m)
        · rcases List.mem_append.mp m with m | m
          · exact .inl (.inl (.inr m))
          · exact .inr m
      · rcases List.mem_append.mp hx with hx | hx
        · exact ⟨hB x hx, (hn x hx).2⟩
        · refine ⟨fun m => (hn2 x hx).1 (m.imp .inl id), ?_⟩
          rcases (hn2 x hx).2 with ⟨j, z⟩ | z
          · exact S1.sub j x z
          · by_cases q : ∃ j, x ∈ A j
            · exact .inl q
            · refine .inr ?_
              cases e : H x with
              | none => rfl
              | some o => rw [S1.ext.keep x o e q] at z; cases z
/-- the stores of a parallel assignment -/
def setsV : List Nat → List V → L2.St → L2.St
  | i :: is, v :: vs, σ => setsV is vs (σ.set i (some v))
  | _, _, σ => σ
end
section
variable {w : World} {K : PySem.W.Frag} {B : Addr → Prop} {ρ0 : Env} {σ0 : L2.St} {A0 : Nat → List Addr} {H0 H : Hp}
theorem Step.puts (R0 : Rel w K B ρ0 σ0 A0 H0) : ∀ {is : List Nat} {cs : List Cell} {vs : List V} {N : List Addr} {ρ ρ' : Env} {σ : L2.St} {A : Nat → List Addr}, Step w K B ρ0 σ0 A0 H0 ρ σ A H → Rel w K (fun x => B x ∨ x ∈ N) ρ σ A H →
    Outs w K (fun x => mu B A x ∨ x ∈ N) H cs vs N → (∀ x ∈ N, ¬ mu B A x ∧ ((∃ j, x ∈ A0 j) ∨ H0 x = none)) → L3.puts is cs ρ = some ρ' → ∃ A', Step w K B ρ0 σ0 A0 H0 ρ' (setsV is vs σ) A' H
  | [], [], vs, N, ρ, ρ', σ, A, S, R, os, hn, hp => by
    cases hp
    obtain ⟨rfl, rfl⟩ := os
    exact ⟨A, S⟩
  | [], c :: cs, vs, N, ρ, ρ', σ, A, S, R, os, hn, hp => by simp [L3.puts] at hp
  | i :: is, [], vs, N, ρ, ρ', σ, A, S, R, os, hn, hp => by simp [L3.puts] at hp
  | i :: is, c :: cs, vs, N, ρ, ρ', σ, A, S, R, os, hn, hp => by
    obtain ⟨v, r, as, N', rfl, rfl, ok, hd, t⟩ := os
    rw [L3.puts] at hp
    cases z : L3.put i c ρ with
    | none => rw [z] at hp; cases hp
    | some ρ1 =>
      rw [z] at hp
      dsimp only at hp
      obtain ⟨hi, e1, _⟩ := put_inv z
      have S1 : Step w K B ρ0 σ0 A0 H0 ρ1 (σ.set i (some v)) (putA A i as) H := Step.put R0 S z (R.less fun x b => b.imp id fun m => List.mem_append_left _ m)
        (ok.ext (O := fun _ => False) (Ext.refl H) (fun _ z => z.elim) (fun a _ m => m.imp id fun m => List.mem_append_left _ m) (fun _ _ z => z)) fun x hx => hn x (List.mem_append_left _ hx)
      have R1 : Rel w K (fun x => B x ∨ x ∈ N') ρ1 (σ.set i (some v)) (putA A i as) H := by
        rw [e1]
        refine L3.Rel.put (B := fun x => B x ∨ x ∈ N') (R.less fun x b => ?_) hi (ok.ext (O := fun _ => False) (Ext.refl H) (fun _ z => z.elim) (fun a _ m => ?_) (fun _ _ z => z)) (fun x hx m => ?_) fun x b => R.aliveB x (b.imp id fun m => List.mem_append_right _ m)
        · rcases b with (b | b) | b
          · exact .inl b
          · exact .inr (List.mem_append_right _ b)
          · exact .inr (List.mem_append_left _ b)
        · rcases m with m | m
          · rcases mu_or.mp m with m | m
            · exact .inl m
            · exact .inr (List.mem_append_right _ m)
          · exact .inr (List.mem_append_left _ m)
        · rcases mu_or.mp m with m | m
          · exact (hn x (List.mem_append_left _ hx)).1 m
          · exact hd x hx m
      have hmu : ∀ x, mu B (putA A i as) x → mu B A x ∨ x ∈ as := fun x m => by
        rcases m with m | ⟨j, m⟩
        · exact .inl (.inl m)
        · by_cases hj : j = i
          · subst hj; rw [putA_self] at m; exact .inr m
          · rw [putA_ne hj] at m; exact .inl (.inr ⟨j, m⟩)
      refine Step.puts R0 (is := is) (cs := cs) (vs := r) (N := N') S1 R1 (t.weak fun a m => ?_) (fun x hx => ⟨fun m => ?_, (hn x (List.mem_append_right _ hx)).2⟩) hp
      · rcases m with m | m
        · exact (hmu a m).imp id fun m => List.mem_append_left _ m
        · exact .inr (List.mem_append_right _ m)
      · rcases hmu x m with m | m
        · exact (hn x (List.mem_append_right _ hx)).1 m
        · exact hd x m hx
end
section
variable {X : Cx}
theorem outs2 {w : World} {K : PySem.W.Frag} {M : Addr → Prop} {H : Hp} {c1 c2 : Cell} {vs : List V} {N : List Addr} (h : Outs w K M H [c1, c2] vs N) : ∃ v1 v2, vs = [v1, v2] := by
  obtain ⟨v, r, as, N', e1, e2, ok, d, t⟩ := h
  obtain ⟨v', r', as', N2, e1', e2', ok', d', t'⟩ := t
  subst e1 e1'
  rw [t'.1]
  exact ⟨v, v', rfl⟩
theorem ecells_len : ∀ {fs : List E} {ρ ρ' : Env} {cs : List Cell}, ecells fs ρ = some (ρ', cs) → cs.length = fs.length
  | [], _, _, _, h => by cases h; rfl
  | f :: fs, ρ, ρ', cs, h => by
    rw [ecells] at h
    cases e1 : f ρ with
    | none => rw [e1] at h; cases h
    | some r1 =>
      obtain ⟨ρ1, c1⟩ := r1
      rw [e1] at h
      dsimp only at h
      cases e2 : ecells fs ρ1 with
      | none => rw [e2] at h; cases h
      | some r2 => obtain ⟨ρ2, cs2⟩ := r2; rw [e2] at h; cases h; rw [List.length_cons, List.length_cons, ecells_len e2]
theorem sPar2 {i j : Nat} {x y : Str} {a b : Expr} {fa fb : E} {px py pt pos : Pos} {kt k2 pt2} (hc : X.calm = true) (nd : X.N.Nodup) (ha : JAc X [a, b] [fa, fb]) (hi : X.N[i]? = some x := by rfl) (hj : X.N[j]? = some y := by rfl) (hij : i ≠ j := by decide)
    (hx : X.env.scope.names.lookup x = some .local := by rfl) (hy : X.env.scope.names.lookup y = some .local := by rfl)
    (hw : swappedStores [.Tuple [.Name x px, .Name y py] kt pt] (.Tuple [a, b] k2 pt2) X.env = pure (some [x, y]) := by rfl)
    (hs : swapsWithSole [.Tuple [.Name x px, .Name y py] kt pt] (.Tuple [a, b] k2 pt2) pos.line X.env = pure false := by rfl) :
    S1 X (.Assign [.Tuple [.Name x px, .Name y py] kt pt] (.Tuple [a, b] k2 pt2) pos) (sPar [i, j] [fa, fb]) := psimp (ps_par hc nd hi hj hij hx hy ha hw hs) fun Dn σ H h => by
  obtain ⟨B, ρ, A, ρ', o, R, e, q⟩ := h
  unfold sPar at e
  cases z : ecells [fa, fb] ρ with
  | none => rw [z] at e; cases e
  | some r =>
    obtain ⟨ρ1, cs⟩ := r
    rw [z] at e
    dsimp only at e
    cases z2 : puts [i, j] cs ρ1 with
    | none => rw [z2] at e; cases e
    | some ρ2 =>
      rw [z2] at e; cases e
      refine ⟨B, ρ, A, ρ1, cs, R, z, fun vs A1 H1 N S R1 os hn => ?_⟩
      obtain ⟨A', S2⟩ := Step.puts R S R1 os hn z2
      have hl := ecells_len z
      match cs, hl, os with
      | [c1, c2], _, os =>
        obtain ⟨v1, v2, rfl⟩ := outs2 os
        exact ⟨v1, v2, rfl, q _ _ _ S2⟩
theorem sPar3 {i j l : Nat} {x y y3 : Str} {a b c : Expr} {fa fb fc : E} {px py pz pt pos : Pos} {kt k2 pt2} (hc : X.calm = true) (nd : X.N.Nodup) (ha : JAc X [a, b, c] [fa, fb, fc]) (hi : X.N[i]? = some x := by rfl) (hj : X.N[j]? = some y := by rfl) (hl : X.N[l]? = some y3 := by rfl)
    (hij : i ≠ j := by decide) (hil : i ≠ l := by decide) (hjl : j ≠ l := by decide)
    (hx : X.env.scope.names.lookup x = some .local := by rfl) (hy : X.env.scope.names.lookup y = some .local := by rfl) (hz : X.env.scope.names.lookup y3 = some .local := by rfl)
    (hw : swappedStores [.Tuple [.Name x px, .Name y py, .Name y3 pz] kt pt] (.Tuple [a, b, c] k2 pt2) X.env = pure (some [x, y, y3]) := by rfl)
    (hs : swapsWithSole [.Tuple [.Name x px, .Name y py, .Name y3 pz] kt pt] (.Tuple [a, b, c] k2 pt2) pos.line X.env = pure false := by rfl) :
    S1 X (.Assign [.Tuple [.Name x px, .Name y py, .Name y3 pz] kt pt] (.Tuple [a, b, c] k2 pt2) pos) (sPar [i, j, l] [fa, fb, fc]) := psimp (ps_par3 hc nd hi hj hl hij hil hjl hx hy hz ha hw hs) fun Dn σ H h => by
  obtain ⟨B, ρ, A, ρ', o, R, e, q⟩ := h
  unfold sPar at e
  cases z : ecells [fa, fb, fc] ρ with
  | none => rw [z] at e; cases e
  | some r =>
    obtain ⟨ρ1, cs⟩ := r
    rw [z] at e
    dsimp only at e
    cases z2 : puts [i, j, l] cs ρ1 with
    | none => rw [z2] at e; cases e
    | some ρ2 =>
      rw [z2] at e; cases e
      refine ⟨B, ρ, A, ρ1, cs, R, z, fun vs A1 H1 N S R1 os hn => ?_⟩
      obtain ⟨A', S2⟩ := Step.puts R S R1 os hn z2
      have hl := ecells_len z
      match cs, hl, os with
      | [c1, c2, c3], _, os =>
        obtain ⟨v, r, as, N', e1, e2, ok, d, t⟩ := os
        obtain ⟨v1, v2, rfl⟩ := outs2 t
        subst e1
        exact ⟨v, v1, v2, rfl, q _ _ _ S2⟩
end
/-! ### freezing -/
section
variable {w : World} {K : PySem.W.Frag} {B : Addr → Prop} {ρ : Env} {σ : L2.St} {A : Nat → List Addr} {H : Hp}
theorem Step.frz {i : Nat} {o : Own} {d : D} (R : Rel w K B ρ σ A H) (e : ρ[i]? = some (.own false o)) (hd : (Cell.own false o).toD = some d) : Step w K B ρ σ A H (ρ.set i (.val d)) σ (putA A i []) H := by
  have hi : i < ρ.length := (List.getElem?_eq_some_iff.mp e).1
  obtain ⟨v, ev, ok⟩ := R.at_own e
  have hsub : ∀ j x, x ∈ putA A i [] j → x ∈ A j ∧ j ≠ i := fun j x m => by
    by_cases hj : j = i
    · subst hj; rw [putA_self] at m; cases m
    · rw [putA_ne hj] at m; exact ⟨m, hj⟩
  have hmu : ∀ x, mu B (putA A i []) x → mu B A x := fun x m => m.imp id fun ⟨j, z⟩ => ⟨j, (hsub j x z).1⟩
  have hno : ∀ x ∈ A i, ¬ mu B (putA A i []) x := fun x hx m => by
    rcases m with m | ⟨j, m⟩
    · exact R.apart i x hx m
    · exact (hsub j x m).2 (R.one j i x (hsub j x m).1 hx)
  have rep : Rep w K (mu B (putA A i [])) H d v := by
    cases o with
    | lst xs =>
      cases hd
      obtain ⟨a, vs, e1, e2, h1, h2⟩ := ok
      exact ⟨a, vs, e1, hno a (by rw [e2]; simp), h1, h2.weak hmu⟩
    | dic xs =>
      cases hd
      obtain ⟨a, vs, e1, e2, h1, h2, nd⟩ := ok
      exact ⟨a, vs, e1, hno a (by rw [e2]; simp), h1, h2.weak hmu, nd⟩
    | src s => cases hd
    | lsts xss =>
      cases hd
      obtain ⟨a, bs, e1, e2, h1, h2, h3⟩ := ok
      exact ⟨a, bs.map .ref, e1, hno a (by rw [e2]; simp), h1, h3.rep hmu fun x hx => hno x (by rw [e2]; exact List.mem_cons_of_mem _ hx)⟩
  refine ⟨⟨by rw [List.length_set]; exact R.len, fun j c ej => ?_, fun j h => ?_, R.aliveB, fun j x m => R.apart j x (hsub j x m).1, fun j k x m1 m2 => R.one j k x (hsub j x m1).1 (hsub k x m2).1⟩, .refl H, fun j x m => .inl ⟨j, (hsub j x m).1⟩, fun j o' h => ?_⟩
  · by_cases hj : j = i
    · subst hj
      rw [List.getElem?_set_self hi] at ej; cases ej
      rw [putA_self]
      exact ⟨rfl, v, by rw [ev]; rfl, rep⟩
    · rw [List.getElem?_set_ne (Ne.symm hj)] at ej
      rw [putA_ne hj]
      exact (R.cell j c ej).ext (O := fun _ => False) (Ext.refl H) (fun _ z => z.elim) (fun a _ m => hmu a m) (fun _ _ z => z)
  · rw [List.length_set] at h
    rw [putA_ne (by omega)]; exact R.out j h
  · have hj : j ≠ i := fun z => by subst z; rw [e] at h; cases h
    exact ⟨⟨o', by rw [List.getElem?_set_ne (Ne.symm hj)]; exact h⟩, rfl⟩
theorem rFrz {Dn : Ends} {g : Sm} : ∀ {is : List Nat} {ρ : Env} {A : Nat → List Addr} {ρ' : Env} {o : Out}, Rel w K B ρ σ A H → sFrzs is g ρ = some (ρ', o) → After w K B ρ σ A H Dn ρ' o → RSm w K g Dn σ H
  | [], ρ, A, ρ', o, R, e, q => ⟨B, ρ, A, ρ', o, R, e, q⟩
  | i :: is, ρ, A, ρ', o, R, e, q => by
    rw [sFrzs] at e
    dsimp only at e
    split at e
    · rename_i ow zi
      cases z : (Cell.own false ow).toD with
      | none => rw [z] at e; cases e
      | some d =>
        rw [z] at e
        have S := Step.frz R zi z
        exact rFrz S.rel e (q.ahead R S ⟨fun _ => rfl, rfl, rfl, rfl⟩)
    · exact rFrz R e q
    · cases e
end
section
variable {X : Cx}
theorem sFrz1 {is : List Nat} {st : Stmt} {g : Sm} (h : S1 X st g) : S1 X st (sFrzs is g) := psimp h fun Dn σ H ⟨B, ρ, A, ρ', o, R, e, q⟩ => rFrz R e q
end
end L3
/-! The end: a law's def, told by a pure function, keeps its row. -/
namespace L3
open PySem PySem.Spec PyProof.Rows L2
/-- the abstract heap at a law's entry: the script alone, if the module does not hold it itself -/
theorem law_run {P : Program} {w : World} {K : PySem.W.Frag} {mg mb : Str → Option Value} {k : Nat} {fa a : Addr} {fd : FuncData} {x : Str} {F : Fn} {s : Shared} {vs : List Value} {ns : List Int}
    (KX : K.In s.heap) (hns : s.heap.Ns mainGlobals mg) (hb : s.heap.Ns builtinsNs mb) (hbb : ∀ x : Str, x ≠ "__name__" → mb x = bootBuiltins x) (hlim : s.heap.NoLimit) (hg : s.gens = #[])
    (ha : s.heap.get? a = some { cls := .type "list", data := .seq vs.toArray }) (hi : IntsAre vs ns) (hl : ns.length ≤ sizeLine) (hr : Room k callerA)
    (G : ∀ base : Heap, K.In base → base.Ns mainGlobals mg → GnOk P w K mg base k fa fd [x] F) (hbind : ∀ (s : Shared) (u : Value), BindsTo s fd ⟨[u], []⟩ [(x, u)])
    (hF : ∃ cs', F [.scr ns] = some (cs', .val (.bool true))) :
    codeAny (model P w) callerA (.call (.ref fa) ⟨[.ref a], []⟩) (fun r s' => r = .ok (.ret (.bool true)) ∧ OldK s.heap s'.heap ∧ s'.os = s.os ∧ AllBare s'.gens) s := by
  have rv := vals_ints hi
  obtain ⟨cs', hF⟩ := hF
  have core : ∀ H : Hp, (∀ b, H b = none ∨ (b = a ∧ K.lookup a = none ∧ ∃ o, H b = some (.frz o (.lst (ns.map .int))))) → Scr K H a ns → HOk P w H s.heap →
      codeAny (model P w) callerA (.call (.ref fa) ⟨[.ref a], []⟩) (fun r s' => r = .ok (.ret (.bool true)) ∧ OldK s.heap s'.heap ∧ s'.os = s.os ∧ AllBare s'.gens) s := fun H hO hS ok => by
    have put : ∀ {b : Addr} {o : Obj}, s.heap.get? b = some o → H b = none → (hidT s.heap H).get? b = some o := hidT_get
    have dictFree : ∀ {b : Addr} {o : Obj} {es : Array DictEntry} {ep : Nat}, s.heap.get? b = some o → o.data = .dict es ep → H b = none := fun {b o es ep} e d => by
      rcases hO b with z | ⟨rfl, _, _⟩
      · exact z
      · rw [ha] at e
        cases e
        exact Data.noConfusion d
    have nsB : ∀ {b : Addr} {m : Str → Option Value}, s.heap.Ns b m → (hidT s.heap H).Ns b m := fun {b m} ⟨o, es, ep, e, d, r⟩ => ⟨o, es, ep, put e (dictFree e d), d, r⟩
    have kB : K.In (hidT s.heap H) := fun b o e => put (KX b o e) (by
      rcases hO b with z | ⟨rfl, nk, _⟩
      · exact z
      · rw [nk] at e; cases e)
    have noFr : ∀ b, b ∉ frs ([] : List PySem.Env) := fun b z => nomatch (show b ∈ ([] : List Addr) from z)
    have start : Env0 P w K mg (hidT s.heap H) callerA [] s H :=
      { frames := rfl, mod := ⟨kB, nsB hns, ⟨mb, nsB hb, hbb⟩, by obtain ⟨mc, z1, z2⟩ := hlim; exact ⟨mc, nsB z1, z2⟩⟩, bs := fun b o e => of_hidT e, bsz := Nat.le_of_eq (hidT_size _ _), funs := trivial, frf := fun b z => absurd z (noFr b), hok := ok, bare := .of_eq hg }
    have sp : spF w K F [.ref a] H (fun v _ => v = .bl true) := by
      refine ⟨fun _ => False, noA, [.scr ns], cs', _, ⟨rfl, fun j c e => ?_, fun _ _ => rfl, fun _ z => z.elim, fun j x m => (nomatch m), fun j k x m => (nomatch m)⟩, hF, fun v A' H' S rc => rc⟩
      cases j with
      | zero => simp at e; subst e; exact ⟨rfl, a, rfl, hS⟩
      | succ j => simp at e
    refine codeAny_mono ((G _ kB (nsB hns)).run callerA [] s H ⟨[.ref a], []⟩ [.ref a] [.ref a] _ hr rfl start (hbind s (.ref a)) (.cons rfl .nil) sp) fun r s' h => ?_
    match r, h with
    | .ok (.ret u), ⟨v, H', os, bare, un, ok', r', q⟩ =>
      cases (show v = .bl true from q)
      obtain rfl : u = Value.bool true := r'
      refine ⟨rfl, OldK.of_keep fun b o e => ?_, os, bare⟩
      rcases hO b with z | ⟨_, _, ob, z⟩
      · exact un.keep b o e z (noFr b) (by simp)
      · obtain ⟨e1, _⟩ := ok b _ z
        obtain ⟨e2, _⟩ := ok' b _ (un.frzs b ob _ z)
        rw [e] at e1; cases e1
        exact e2
    | .ok .next, h => exact False.elim h
    | .ok .brk, h => exact False.elim h
    | .ok .cont, h => exact False.elim h
    | .error e, h => exact False.elim h
  cases hk : K.lookup a with
  | some o =>
    have e := KX a o hk
    rw [ha] at e
    cases e
    exact core (fun _ => none) (fun _ => .inl rfl) (.inr fun H' => .inr ⟨_, vs.toArray, _, hk, rfl, rfl, rfl, by rw [List.size_toArray, hi.length]; exact hl, by simpa using rv⟩) fun b u z => nomatch (show (none : Option HO) = some u from z)
  | none =>
    let ob : Obj := { cls := .type "list", data := .seq vs.toArray }
    refine core (fun b => if b = a then some (.frz ob (.lst (ns.map .int))) else none) (fun b => ?_) (.inl ⟨ob, if_pos rfl⟩) fun b u z => ?_
    · by_cases h : b = a
      · exact .inr ⟨h, hk, ob, if_pos h⟩
      · exact .inl (if_neg h)
    · by_cases h : b = a
      · subst h
        cases (if_pos rfl).symm.trans z
        exact ⟨ha, by rw [List.length_map]; exact hl, vs, _, rv, ha⟩
      · cases (if_neg h).symm.trans z
/-- a law over a head by facts -/
theorem walk_ofG {l : PySem.W.OpenLaw} {n k : Nat} {q : Program} {loose : List Str} {XP : (Str → Option Value) → Heap → Prop} {YP : World → Heap → Prop} {d : DefRec} {x : Str} {F : Fn}
    (hn : l.most = some n) (hn2 : n ≤ sizeLine) (hdf : d.params.defaults = []) (hr : Room k callerA)
    (G : ∀ (w : World) (mg : Str → Option Value) (fa : Addr) (h : Heap), YP w h → h.Ns mainGlobals mg → mg d.name = some (.ref fa) →
      ∃ (K : PySem.W.Frag) (fd : FuncData), K.In h ∧ (∀ (s : Shared) (u : Value), BindsTo s fd ⟨[u], []⟩ [(x, u)]) ∧
        ∀ base : Heap, K.In base → base.Ns mainGlobals mg → GnOk l.prog w K mg base k fa fd [x] F)
    (hF : ∀ ns : List Int, ns.length ≤ n → ∃ cs', F [.scr ns] = some (cs', .val (.bool true))) :
    PySem.W.WalkO q loose XP YP l.row.toRowW d [] (fun f vs => PySem.call f vs) := by
  refine Att.attach_call hn hdf fun w s₀ s₁ mg mb fa o pm cd doc a vs ns Gr Y ho hd hcd hmg hobj hints hlen hg => ?_
  obtain ⟨K, fd, KX, hb, hG⟩ := G w mg fa _ Y Gr.T.g hmg
  exact law_run KX Gr.T.g Gr.T.b Gr.T.builtins Gr.T.nolimit hg hobj hints (Nat.le_trans hlen hn2) hr hG hb (hF ns hlen)
end L3
/-! Comprehensions whose parts change things. -/
namespace L3
open PySem PySem.Spec PyProof.Rows L2
section
variable {w : World} {K : PySem.W.Frag} {B : Addr → Prop}
def wipeA (vs : List Nat) (A : Nat → List Addr) : Nat → List Addr := fun j => if j ∈ vs then [] else A j
theorem wipeA_sub {vs : List Nat} {A : Nat → List Addr} {j : Nat} {x : Addr} (h : x ∈ wipeA vs A j) : x ∈ A j ∧ j ∉ vs := by
  unfold wipeA at h
  split at h
  · cases h
  · exact ⟨h, by assumption⟩
theorem mu_wipe {vs : List Nat} {A : Nat → List Addr} {x : Addr} (h : mu B (wipeA vs A) x) : mu B A x := h.imp id fun ⟨j, m⟩ => ⟨j, (wipeA_sub m).1⟩
/-- names forgotten, whatever they own -/
theorem Rel.wipedA {ρ : Env} {σ : L2.St} {A : Nat → List Addr} {H : Hp} (vs : List Nat) (R : Rel w K B ρ σ A H) : Rel w K B (wipeE vs ρ) (wipe σ vs) (wipeA vs A) H where
  len := by rw [wipeE_length, wipe_length]; exact R.len
  cell := fun i c e => by
    by_cases hi : i ∈ vs
    · rw [wipeE_in hi e]
      show wipeA vs A i = []
      unfold wipeA; rw [if_pos hi]
    · rw [wipeE_out hi] at e
      rw [wipe_out hi, show wipeA vs A i = A i by unfold wipeA; rw [if_neg hi]]
      exact (R.cell i c e).ext (O := fun _ => False) (Ext.refl H) (fun _ z => z.elim) (fun a _ m => mu_wipe m) fun _ _ z => z
  out := fun i h => by
    unfold wipeA
    split
    · rfl
    · exact R.out i (by rw [wipeE_length] at h; exact h)
  aliveB := R.aliveB
  apart := fun i x h => R.apart i x (wipeA_sub h).1
  one := fun i j x h1 h2 => R.one i j x (wipeA_sub h1).1 (wipeA_sub h2).1
theorem wipe_len_of {ρ : Env} {vs : List Nat} : (wipeE vs ρ).length = ρ.length := wipeE_length ρ vs
/-- a turn of an effectful comprehension -/
theorem compL_cons {vs : List Nat} {p : Pat} {t : TE'} {e : E} {ρ ρ' : Env} {x : D} {r ys : List D} (h : compL vs p t e (x :: r) ρ = some (ρ', ys)) : ∃ ρ1 ρ2 b, bind p x ρ = some ρ1 ∧ t ρ1 = some (ρ2, b) ∧
    (if b = true then ∃ ρ3 c y zs, e ρ2 = some (ρ3, c) ∧ c.toD = some y ∧ compL vs p t e r (wipeE vs ρ3) = some (ρ', zs) ∧ ys = y :: zs else compL vs p t e r (wipeE vs ρ2) = some (ρ', ys)) := by
  rw [compL] at h
  cases z : bind p x ρ with
  | none => rw [z] at h; cases h
  | some ρ1 =>
    rw [z] at h
    dsimp only at h
    cases z2 : t ρ1 with
    | none => rw [z2] at h; cases h
    | some r2 =>
      obtain ⟨ρ2, b⟩ := r2
      rw [z2] at h
      refine ⟨ρ1, ρ2, b, rfl, z2, ?_⟩
      cases b with
      | false => rw [if_neg (by decide)]; exact h
      | true =>
        rw [if_pos rfl]
        dsimp only at h
        cases z3 : e ρ2 with
        | none => rw [z3] at h; cases h
        | some r3 =>
          obtain ⟨ρ3, c⟩ := r3
          rw [z3] at h
          dsimp only at h
          cases z4 : c.toD with
          | none => rw [z4] at h; cases h
          | some y =>
            rw [z4] at h
            dsimp only at h
            cases z5 : compL vs p t e r (wipeE vs ρ3) with
            | none => rw [z5] at h; cases h
            | some r5 => obtain ⟨ρ5, zs⟩ := r5; rw [z5] at h; cases h; exact ⟨ρ3, c, y, zs, rfl, z4, z5, rfl⟩
theorem compL_len {vs : List Nat} {p : Pat} {t : TE'} {e : E} : ∀ {xs ys : List D} {ρ ρ' : Env}, compL vs p t e xs ρ = some (ρ', ys) → ys.length ≤ xs.length
  | [], ys, ρ, ρ', h => by rw [compL] at h; cases h; exact Nat.le_refl _
  | x :: r, ys, ρ, ρ', h => by
    obtain ⟨ρ1, ρ2, b, _, _, h3⟩ := compL_cons h
    cases b with
    | false => rw [if_neg (by decide)] at h3; exact Nat.le_succ_of_le (compL_len h3)
    | true => rw [if_pos rfl] at h3; obtain ⟨ρ3, c, y, zs, _, _, h4, rfl⟩ := h3; exact Nat.succ_le_succ (compL_len h4)
/-- a step behind a wipe -/
theorem Step.wiped {vs : List Nat} {ρw ρ' : Env} {σw σ' : L2.St} {A A' : Nat → List Addr} {H H' : Hp} (hw : ∀ i ∈ vs, ∀ o, ρw[i]? ≠ some (Cell.own true o)) (hσ : wipe σ' vs = σw) (S : Step w K B ρw σw A H ρ' σ' A' H') :
    Step w K B ρw σw A H (wipeE vs ρ') σw (wipeA vs A') H' := by
  refine ⟨by have := S.rel.wipedA vs; rwa [hσ] at this, S.ext, fun i x m => S.sub i x (wipeA_sub m).1, fun i o e => ?_⟩
  have hi : i ∉ vs := fun z => hw i z o e
  obtain ⟨⟨o', e1⟩, e2⟩ := S.fix i o e
  exact ⟨⟨o', by rw [wipeE_out hi]; exact e1⟩, rfl⟩
/-- a thing that was not there changes -/
theorem Step.touchL {ρ ρ' : Env} {σ σ' : L2.St} {A A' : Nat → List Addr} {H H' H2 : Hp} {L : Addr} (hL : H L = none) (S : Step w K B ρ σ A H ρ' σ' A' H') (R2 : Rel w K B ρ' σ' A' H2) (ex : Ext (fun x => x = L) H' H2) : Step w K B ρ σ A H ρ' σ' A' H2 :=
  ⟨R2, ⟨fun a o e n => ex.keep a o (S.ext.keep a o e n) (ne_of_none e hL), fun a vs e => ex.tup _ _ (S.ext.tup _ _ e), fun a o u e => ex.frz _ _ _ (S.ext.frz _ _ _ e)⟩, S.sub, S.fix⟩
abbrev JTse (X : Cx) (ifs : List Expr) (t : TE') : Prop := PTs X ifs (RTe X.w X.K t)
theorem rCompE {vs : List Nat} {p : Pat} {a : Ie} {t : TE'} {e : E} {σ : L2.St} {H : Hp} {Q : VK} (hsl : ∀ j, j ∈ p.slots → j ∈ vs) (h : REf w K (eComp vs p a t e) σ H Q) : tLc (RIe w K a) (RG w K p) (RTe w K t) (REf w K e) vs σ H Q := by
  obtain ⟨B, ρ, A, ρ', c, R, ec, q⟩ := h
  unfold eComp at ec
  cases z : a ρ with
  | none => rw [z] at ec; cases ec
  | some r =>
    obtain ⟨ρ1, xs⟩ := r
    rw [z] at ec
    dsimp only at ec
    split at ec
    · rename_i hf
      rw [Bool.and_eq_true] at hf
      cases z2 : compL vs p t e xs (wipeE vs ρ1) with
      | none => rw [z2] at ec; cases ec
      | some r2 =>
        obtain ⟨ρe, ys⟩ := r2
        rw [z2] at ec
        cases ec
        refine ⟨B, ρ, A, ρ1, xs, R, z, fun Ji Keep A1 H1 S1 Gd Sp K0 L hL => ?_⟩
        have hlen := compL_len z2
        have hline : xs.length ≤ sizeLine := len24_ok hf.2
        have fr := free_none S1.rel hf.1
        have wA : wipeA vs A1 = A1 := by
          funext j
          unfold wipeA
          split
          · rename_i hj; rw [(fr j hj).1]
          · rfl
        have hw : ∀ i ∈ vs, ∀ o, (wipeE vs ρ1)[i]? ≠ some (Cell.own true o) := fun i hi o ee => by cases wipeE_in hi ee
        have Rw : Rel w K B (wipeE vs ρ1) (wipe σ vs) A1 H1 := by have := S1.rel.wipedA vs; rwa [wA] at this
        have R1L : Rel w K (fun x => B x ∨ x = L) (wipeE vs ρ1) (wipe σ vs) A1 (upd H1 L (.lst [])) := Rw.protect (N := fun x => x = L) (same_new hL) fun x e => ⟨e ▸ hL, by rw [e, upd_same]; simp⟩
        have K1 : Keep (fun x => B x ∨ x = L) A1 (upd H1 L (.lst [])) := Gd.prot B (fun x => x = L) A1 _ _ (same_new hL) (fun x e => e ▸ hL) K0
        have Gd' := Gd.good fun x => B x ∨ x = L
        have Sp' := Sp fun x => B x ∨ x = L
        have BL : (fun x => B x ∨ x = L) L := .inr rfl
        refine ⟨fun i m H2 => m = xs.length - i ∧ i ≤ xs.length ∧ ∃ ρi Ai, Rel w K (fun x => B x ∨ x = L) ρi (wipe σ vs) Ai H2 ∧ Step w K B (wipeE vs ρ1) (wipe σ vs) A1 H1 ρi (wipe σ vs) Ai H2 ∧ (∀ i ∈ vs, ∀ o, ρi[i]? ≠ some (Cell.own true o)) ∧ Keep (fun x => B x ∨ x = L) Ai H2 ∧
            ∃ acc zs us, compL vs p t e (xs.drop i) ρi = some (ρe, zs) ∧ ys = acc ++ zs ∧ acc.length ≤ i ∧ H2 L = some (.lst us) ∧ Reps w K (mu (fun x => B x ∨ x = L) Ai) H2 acc us,
          ⟨xs.length, rfl, Nat.zero_le _, wipeE vs ρ1, A1, R1L, Step.same (same_new hL) Rw, hw, K1, [], ys, [], by rw [List.drop_zero]; exact z2, rfl, Nat.le_refl _, upd_same, rfl⟩, ?_⟩
        rintro i m H2 ⟨rfl, hi, ρi, Ai, R2, S2, hw2, K2, acc, zs, us, e2, rfl, la, hL2, ra⟩
        by_cases hlt : i < xs.length
        · obtain ⟨g1, g2⟩ := Gd'.go i Ai H2 hlt K2
          refine .inr ⟨g1, fun H3 => ∃ ρj Aj, Rel w K (fun x => B x ∨ x = L) ρj (wipe σ vs) Aj H3 ∧ Step w K B (wipeE vs ρ1) (wipe σ vs) A1 H1 ρj (wipe σ vs) Aj H3 ∧ (∀ i ∈ vs, ∀ o, ρj[i]? ≠ some (Cell.own true o)) ∧ Keep (fun x => B x ∨ x = L) Aj H3 ∧
              ∃ acc' zs' us', compL vs p t e (xs.drop (i + 1)) ρj = some (ρe, zs') ∧ acc ++ zs = acc' ++ zs' ∧ acc'.length ≤ i + 1 ∧ H3 L = some (.lst us') ∧ Reps w K (mu (fun x => B x ∨ x = L) Aj) H3 acc' us', fun H3 hN => ⟨xs.length - (i + 1), by omega, rfl, hlt, hN⟩, fun v H3 y => ?_⟩
          obtain ⟨s3, k3, rv⟩ := g2 v H3 y
          rw [drop_at hlt] at e2
          obtain ⟨ρa, ρb, b, eb, et, ee⟩ := compL_cons e2
          have R3 := R2.same s3
          have S3 := S2.more Rw s3
          refine ⟨(fun x => B x ∨ x = L), ρi, Ai, xs[i], ρa, R3, eb, rv _ (by simp [hlt]), fun σ4 A4 S4 ka => ?_⟩
          have hσ4 : wipe σ4 vs = wipe σ vs := by
            have hl4 : (wipe σ vs).length = σ4.length := by rw [← S4.rel.len, bind_len _ _ _ _ eb, R3.len]
            rw [← wipe_wipe (σ := σ)]
            exact wipe_agree hl4 fun j hj => (ka j fun z => hj (hsl j z)).1
          refine ⟨hσ4, (fun x => B x ∨ x = L), ρa, A4, ρb, b, S4.rel, et, fun A5 H5 S5 => ?_⟩
          have S35 := S4.trans R3 S5
          have k5 := Sp'.step S35 k3
          have hwf : ∀ {ρz : Env}, ∀ i ∈ vs, ∀ o, (wipeE vs ρz)[i]? ≠ some (Cell.own true o) := fun {ρz} i hi o ee => by cases wipeE_in hi ee
          cases b with
          | false =>
            rw [if_neg (by decide)] at ee
            dsimp only
            rw [if_neg (by decide)]
            have Sw := Step.wiped hw2 hσ4 S35
            have hL5 : H5 L = some (.lst us) := S35.ext.keep _ _ (s3 _ _ hL2) fun ⟨j, m⟩ => R3.apart j L m BL
            refine ⟨wipeE vs ρb, wipeA vs A5, Sw.rel, S3.trans Rw (Sw.less fun x b => .inl b), hwf, Sp' _ _ _ _ (fun _ => False) k5 (Ext.refl H5) (fun _ z => z.elim) (fun a _ m => mu_wipe m), acc, zs, us, ee, rfl, by omega, hL5, ?_⟩
            exact (S35.reps R3 (ra.same s3)).weak fun a m => mu_wipe m
          | true =>
            rw [if_pos rfl] at ee
            dsimp only
            rw [if_pos rfl]
            obtain ⟨ρ3, c3, y0, zs', ey, ec3, ez, rfl⟩ := ee
            refine ⟨(fun x => B x ∨ x = L), ρb, A5, ρ3, c3, S5.rel, ey, fun u A6 H6 S6 rc => ?_⟩
            have S36 := S35.trans R3 S6
            have k6 := Sp'.step S36 k3
            have Sw := Step.wiped hw2 hσ4 S36
            have hL6 : H6 L = some (.lst us) := S36.ext.keep _ _ (s3 _ _ hL2) fun ⟨j, m⟩ => R3.apart j L m BL
            have ra6 := S36.reps R3 (ra.same s3)
            have ru := rc.item ec3
            have hlu := ra6.length
            refine ⟨us, hL6, by omega, ?_⟩
            have ex := upd_ext (o := .lst (us ++ [u])) hL6
            have R7 := Sw.rel.touch BL ex (by rw [upd_same]; simp)
            refine ⟨wipeE vs ρ3, wipeA vs A6, R7, ?_, hwf, ?_, acc ++ [y0], zs', us ++ [u], ez, by simp, by simp; omega, upd_same, ?_⟩
            · exact Step.touchL hL (S3.trans Rw (Sw.less fun x b => .inl b)) (R7.less fun x b => .inl b) ex
            · exact Sp' _ _ _ _ (fun x => x = L) k6 ex (fun a z => .inl (.inr z)) fun a _ m => mu_wipe m
            · exact (ra6.append (Reps.one ru)).ext ex (fun a z => .inl (.inr z)) fun a _ m => mu_wipe m
        · refine .inl ⟨Gd'.stop i Ai H2 (by omega) K2, ?_⟩
          rw [List.drop_eq_nil_of_le (by omega), compL] at e2
          cases e2
          rw [List.append_nil] at q
          -- the block's names are put back
          have Rb : ∀ (N : Addr → Prop), (∀ x, N x → x = L) → Rel w K (fun x => B x ∨ N x) (restore vs ρ1 ρe) σ Ai H2 := fun N hN => by
            refine ⟨by rw [restore_length, R2.len, wipe_length], fun j cj ej => ?_, fun j hj => R2.out j (by rw [restore_length] at hj; exact hj), fun x b => R2.aliveB x (b.imp id (hN x)), fun j x m b => R2.apart j x m (b.imp id (hN x)), R2.one⟩
            by_cases hj : j ∈ vs
            · have e1 := restore_in hj ej
              have hjl := (fr j hj).2
              have e3 : ρ1[j]? = some cj := by rw [e1, List.getD_eq_getElem?_getD, List.getElem?_eq_getElem hjl]; rfl
              have hAj : Ai j = [] := by
                have hji : j < ρe.length := by rw [R2.len, wipe_length, ← S1.rel.len]; exact hjl
                by_cases hAj : Ai j = []
                · exact hAj
                · exfalso
                  obtain ⟨x, hx⟩ := List.exists_mem_of_ne_nil _ hAj
                  obtain ⟨fx, o, v, _, ev, _⟩ := R2.own hx
                  exact (wipe_some ev).2 hj
              have hc := (S1.rel.cell j cj e3).ext (O := fun x => ∃ i, x ∈ A1 i) (M' := mu (fun x => B x ∨ N x) Ai) S2.ext (fun a m => .inr m) (fun a n m => by
                rcases m with (m | m) | ⟨k, m⟩
                · exact .inl m
                · rw [hN a m] at n; exact absurd hL n
                · rcases S2.sub k a m with z | z
                  · exact .inr z
                  · exact absurd z n) (fun x hx => by rw [(fr j hj).1] at hx; cases hx)
              rw [(fr j hj).1] at hc
              rw [hAj]
              exact hc
            · rw [restore_out hj] at ej
              have hc := R2.cell j cj ej
              rw [wipe_out hj] at hc
              exact hc.ext (O := fun _ => False) (Ext.refl H2) (fun _ z => z.elim) (fun a _ m => m.imp (fun m => m.imp id (hN a)) id) fun _ _ z => z
          have R0 : Rel w K B (restore vs ρ1 ρe) σ Ai H2 := (Rb (fun _ => False) fun _ z => z.elim).less fun x b => .inl b
          have Sf : Step w K B ρ1 σ A1 H1 (restore vs ρ1 ρe) σ Ai H2 := by
            refine ⟨R0, S2.ext, S2.sub, fun j o ej => ⟨?_, rfl⟩⟩
            have hj : j ∉ vs := fun z => by
              have := (fr j z).1
              obtain ⟨v, ev, ok⟩ := S1.rel.at_own ej
              obtain ⟨a0, r0, _, e5⟩ := ok.refs
              rw [e5] at this; cases this
            obtain ⟨⟨o', e1⟩, _⟩ := S2.fix j o (by rw [wipeE_out hj]; exact ej)
            exact ⟨o', by rw [restore_out hj]; exact e1⟩
          refine q (.ref L) Ai H2 (S1.trans R Sf) (ResC.ahead R S1 ⟨rfl, [L], ⟨L, us, rfl, rfl, hL2, ra.weak fun x m => ?_⟩, fun x hx => ?_, Rb (fun x => x ∈ [L]) fun x m => List.mem_singleton.mp m⟩)
          · rcases m with m | m
            · exact m.imp .inl id
            · exact .inl (.inr (List.mem_singleton.mp m))
          · rw [List.mem_singleton.mp hx]
            refine ⟨fun m => ?_, .inr hL⟩
            rcases m with m | ⟨j, m⟩
            · exact S1.rel.aliveB L m hL
            · exact R2.apart j L m BL
    · cases ec
end
section
variable {X : Cx}
theorem jtseNil : JTse X [] tYesE := ⟨fun pins s σ H Q I h => by
  obtain ⟨B, ρ, A, ρ', b, R, e, q⟩ := h
  cases e
  exact pts_nil.run pins s σ H Q I (q A H (Step.refl R))⟩
theorem jtseOne {c : Expr} {t : TE'} (h : JTe X c t) : JTse X [c] t := pts_one h
theorem jEComp {elt tg iter : Expr} {ifs : List Expr} {scope : Scope} {own : List (Str × Nat)} {pos : Pos} {p : Pat} {a : Ie} {t : TE'} {e : E} (hc : X.calm = true) (nd : X.N.Nodup) (hi : JI X tg iter a) (ok : blkC X.N X.env.scope scope own = true)
    (hg : ∀ (s : Shared) (H : Hp) (C : Addr) (cl : List (Str × Addr)) (fp : List Addr), JG (X.blk s H scope (compEnvC scope cl C X.env) fp) tg p)
    (ht : ∀ (s : Shared) (H : Hp) (C : Addr) (cl : List (Str × Addr)) (fp : List Addr), JTse (X.blk s H scope (compEnvC scope cl C X.env) fp) ifs t)
    (he : ∀ (s : Shared) (H : Hp) (C : Addr) (cl : List (Str × Addr)) (fp : List Addr), J (X.blk s H scope (compEnvC scope cl C X.env) fp) elt e)
    (hsl : ∀ j, j ∈ p.slots → j ∈ own.map (·.2) := by decide) (hs : ∀ x, foldedSetIterable iter X.env x = pure x := by intro _; rfl) :
    J X (.ListComp elt [⟨tg, iter, ifs, 0⟩] scope pos) (eComp (own.map (·.2)) p a t e) :=
  peimp (pe_lc hc nd hi (blkOk_by ok) hg ht he hs) fun σ H Q h => rCompE hsl h
/-- name = [..], the name a local -/
theorem sSetCE {fr : Bool} {i : Nat} {y : Str} {py : Pos} {elt tg iter : Expr} {ifs : List Expr} {scope : Scope} {own : List (Str × Nat)} {pos spos : Pos} {p : Pat} {a : Ie} {t : TE'} {e : E} (hc : X.calm = true) (nd : X.N.Nodup) (hy : X.N[i]? = some y) (hyl : X.env.scope.names.lookup y = some .local)
    (hsw : swapsWith (.ListComp elt [⟨tg, iter, ifs, 0⟩] scope pos) (some (.Name y py)) spos.line X.env = pure true) (hi : JI X tg iter a) (ok : blkC X.N X.env.scope scope own = true)
    (hg : ∀ (s : Shared) (H : Hp) (C : Addr) (cl : List (Str × Addr)) (fp : List Addr), JG (X.blk s H scope (compEnvC scope cl C X.env) fp) tg p)
    (ht : ∀ (s : Shared) (H : Hp) (C : Addr) (cl : List (Str × Addr)) (fp : List Addr), JTse (X.blk s H scope (compEnvC scope cl C X.env) fp) ifs t)
    (he : ∀ (s : Shared) (H : Hp) (C : Addr) (cl : List (Str × Addr)) (fp : List Addr), J (X.blk s H scope (compEnvC scope cl C X.env) fp) elt e)
    (hsl : ∀ j, j ∈ p.slots → j ∈ own.map (·.2) := by decide) (hs : ∀ x, foldedSetIterable iter X.env x = pure x := by intro _; rfl) :
    S1 X (.Assign [.Name y py] (.ListComp elt [⟨tg, iter, ifs, 0⟩] scope pos) spos) (if fr then sOwn i (eComp (own.map (·.2)) p a t e) else sVal i (eComp (own.map (·.2)) p a t e)) :=
  psimp (ps_setLc hc nd hy hyl hsw hi (blkOk_by ok) hg ht he hs) fun Dn σ H h => by
    obtain ⟨B, ρ, A, ρ', o, R, e1, q⟩ := h
    cases fr with
    | false =>
      rw [if_neg (by decide)] at e1
      unfold sVal at e1
      cases z : eComp (own.map (·.2)) p a t e ρ with
      | none => rw [z] at e1; cases e1
      | some r =>
        obtain ⟨ρ1, c⟩ := r
        rw [z] at e1
        dsimp only at e1
        cases z2 : c.toD with
        | none => rw [z2] at e1; cases e1
        | some d =>
          rw [z2] at e1
          dsimp only at e1
          cases z3 : put i (.val d) ρ1 with
          | none => rw [z3] at e1; cases e1
          | some ρ2 =>
            rw [z3] at e1; cases e1
            refine rCompE hsl ⟨B, ρ, A, ρ1, c, R, z, fun v A1 H1 S r => ?_⟩
            exact q _ _ _ (Step.put (as := []) R S z3 S.rel.noB ⟨rfl, v, rfl, Rep.weak (fun a m => m.elim id fun z => nomatch z) (r.item z2)⟩ fun x z => nomatch z)
    | true =>
      rw [if_pos rfl] at e1
      unfold sOwn at e1
      cases z : eComp (own.map (·.2)) p a t e ρ with
      | none => rw [z] at e1; cases e1
      | some r =>
        obtain ⟨ρ1, c⟩ := r
        rw [z] at e1
        cases c with
        | own fx ow =>
          cases fx with
          | true => cases e1
          | false =>
            dsimp only at e1
            cases z3 : put i (.own false ow) ρ1 with
            | none => rw [z3] at e1; cases e1
            | some ρ2 =>
              rw [z3] at e1; cases e1
              refine rCompE hsl ⟨B, ρ, A, ρ1, _, R, z, fun v A1 H1 S r => ?_⟩
              obtain ⟨_, as, ok, hn, R1⟩ := r
              exact q _ _ _ (Step.put (as := as) R S z3 R1 ⟨v, rfl, ok⟩ hn)
        | _ => cases e1
end
end L3
/-! Defs by the head's facts. -/
namespace L3
open PySem PySem.Spec PyProof.Rows L2
section
variable {P : Program} {w : World} {K : PySem.W.Frag} {mg : Str → Option Value} {base : Heap}
abbrev FnP (K : PySem.W.Frag) (x : Str) (st : Stmt) (f : Addr) (fd : FuncData) : Prop := FunD K x x (defArgs st) (defBody st) (defScope st) [] [] f fd
/-- the context in which a def's body runs -/
abbrev cx (P : Program) (w : World) (K : PySem.W.Frag) (mg : Str → Option Value) (base : Heap) (N : List Str) (x : Str) (st : Stmt) (f : Addr) (cdv : Value) (A : Around) (outer : List PySem.Env) (s : Shared) (H : Hp) : Cx :=
  (cxOf C8.CX0 P w K mg base N x (defScope st) f cdv A outer s H C8.E0).nox
theorem gn_fun {x : Str} {st : Stmt} {f : Addr} {fd : FuncData} {N ps : List Str} {k : Nat} {g : Sm} (D0 : FnP K x st f fd) (sc : C8.scC N ps (defScope st) = true)
    (hbody : ∀ (cdv : Value) (A : Around) (outer : List PySem.Env) (s : Shared) (H : Hp), Room k (A.deeper (envOfC x (defScope st) s.heap.objs.size f cdv)) → (A.deeper (envOfC x (defScope st) s.heap.objs.size f cdv)).guards = some [] →
      Ss (cx P w K mg base N x st f cdv A outer s H) (defBody st) g) : GnOk P w K mg base (k + 1) f fd ps (mkFn ps.length N.length g) := by
  obtain ⟨oc, od, dV, kV, doc, pm, an, cdv, ct, osl, rfl, lk, hcd, _⟩ := D0.ex
  exact gn_of lk hcd (C8.fnScope_by sc) fun A outer s H hr hg => hbody cdv A outer s H hr hg
theorem cg_fun {x : Str} {st : Stmt} {f : Addr} {fd : FuncData} {N ps : List Str} {k : Nat} {g : Sm} (D0 : FnP K x st f fd) (hm : mg x = some (.ref f)) (b : Binds K fd ps []) (sc : C8.scC N ps (defScope st) = true)
    (hbody : ∀ (cdv : Value) (A : Around) (outer : List PySem.Env) (s : Shared) (H : Hp), Room k (A.deeper (envOfC x (defScope st) s.heap.objs.size f cdv)) → (A.deeper (envOfC x (defScope st) s.heap.objs.size f cdv)).guards = some [] →
      Ss (cx P w K mg base N x st f cdv A outer s H) (defBody st) g) : Cg P w K mg base (k + 1) x (mkFn ps.length N.length g) :=
  ⟨f, fd, ps, gn_fun D0 sc hbody, hm, D0.kp, b⟩
theorem Cg.mono {x : Str} {j k : Nat} {F : Fn} (c : Cg P w K mg base j x F) (h : j ≤ k) : Cg P w K mg base k x F := by
  obtain ⟨f, fd, ps, G, a, b, d⟩ := c.ex
  exact ⟨f, fd, ps, G.mono h, a, b, d⟩
end
end L3
/-! Dicts whose keys are tuples: reading, storing. -/
namespace L3
open PySem PySem.Spec PyProof.Rows L2
def keyOk (k : D) : Bool := match k with
  | .tuple _ => (match keyOf k with | some nk => decide (nk.depth ≤ 8) | none => false)
  | _ => false
def getK : List (D × D) → D → Option D
  | [], _ => none
  | p :: r, k => if D.beq p.1 k then some p.2 else getK r k
def setK : List (D × D) → D → D → List (D × D)
  | [], _, _ => []
  | p :: r, k, v => (if D.beq p.1 k then (p.1, v) else p) :: setK r k v
def putD (kvs : List (D × D)) (k v : D) : List (D × D) := if (getK kvs k).isSome then setK kvs k v else kvs ++ [(k, v)]
def allK (kvs : List (D × D)) : Bool := kvs.all fun p => keyOk p.1
/-- d[k] of a dict -/
def dIxK : D → D → Option D
  | .dict kvs, k => if allK kvs && keyOk k then getK kvs k else none
  | _, _ => none
/-- d.get(k, x) -/
def dGet2 : D → D → D → Option D
  | .dict kvs, k, x => if allK kvs && keyOk k then some ((getK kvs k).getD x) else none
  | _, _, _ => none
def p3 (f : D → D → D → Option D) (a b c : P) : P := fun ρ => match a ρ with
  | some x => (match b ρ with | some y => (match c ρ with | some z => f x y z | none => none) | none => none)
  | none => none
/-- d[k] = v -/
def sDPut (i : Nat) (k v : P) : Sm := fun ρ => match v ρ, k ρ, ρ[i]? with
  | some x, some y, some (.own fx (.dic kvs)) => if allK kvs && keyOk y && decide (kvs.length < 16777216) then some (ρ.set i (.own fx (.dic (putD kvs y x))), .nx) else none
  | _, _, _ => none
mutual
theorem key_data : ∀ (a : D) (k : NestedKey), keyOf a = some k → k.data = a
  | .none, k, h => by cases h; rfl
  | .int i, k, h => by cases h; rfl
  | .str x, k, h => by cases h; rfl
  | .tuple xs, k, h => by
    simp only [keyOf, Option.map_eq_some_iff] at h
    obtain ⟨ks, h1, rfl⟩ := h
    rw [NestedKey.data, keys_data xs ks h1]
  | .bool _, k, h => by cases h
  | .list _, k, h => by cases h
  | .dict _, k, h => by cases h
theorem keys_data : ∀ (as : List D) (ks : List NestedKey), keysOf as = some ks → NestedKey.datas ks = as
  | [], ks, h => by cases h; rfl
  | a :: r, ks, h => by
    simp only [keysOf] at h
    cases e : keyOf a with
    | none => rw [e] at h; cases h
    | some k =>
      cases e2 : keysOf r with
      | none => rw [e, e2] at h; cases h
      | some t =>
        rw [e, e2] at h
        cases h
        rw [NestedKey.datas, key_data a k e, keys_data r t e2]
end
theorem keyOf_inj {a b : D} {k : NestedKey} (h : keyOf a = some k) (h' : keyOf b = some k) : a = b := (key_data a k h).symm.trans (key_data b k h')
theorem keyOk_inv {k : D} (h : keyOk k = true) : ∃ nk, keyOf k = some nk ∧ nk.depth ≤ 8 ∧ ∃ xs, k = .tuple xs := by
  cases k with
  | tuple xs =>
    simp only [keyOk] at h
    cases e : keyOf (.tuple xs) with
    | none => rw [e] at h; cases h
    | some nk => rw [e] at h; exact ⟨nk, rfl, of_decide_eq_true h, xs, rfl⟩
  | _ => cases h
section
variable {X : Cx} {pins : List (Addr × Obj)} {σ : L2.St} {H H1 H' : Hp} {s : Shared} {M : Addr → Prop} {w : World} {K : PySem.W.Frag}
mutual
theorem Rep.nested (I : Inv X pins σ H s) : ∀ (d : D) (v : V) (u : Value) (nk : NestedKey), Rep X.w X.K M H d v → RelV v u → keyOf d = some nk → NestedIs s.heap nk u
  | .none, v, u, nk, h, r, e => by rw [show v = .non from h] at r; cases r; cases e; exact .none
  | .int i, v, u, nk, h, r, e => by rw [show v = .int i from h] at r; obtain ⟨t, rfl⟩ := r; cases e; exact .int i t
  | .str x, v, u, nk, h, r, e => by rw [show v = .str x from h] at r; obtain ⟨t, rfl⟩ := r; cases e; exact .text x t
  | .tuple xs, v, u, nk, h, r, e => by
    obtain ⟨a, vs, e1, h1, h2⟩ := h
    rw [e1] at r; cases r
    obtain ⟨its, rv, ⟨o, ho, hc, n, hd⟩, _⟩ := I.tuple h1
    simp only [keyOf, Option.map_eq_some_iff] at e
    obtain ⟨ks, e2, rfl⟩ := e
    exact .tup ho hc hd (by simpa using Reps.nested I xs vs its ks h2 rv e2)
  | .bool _, v, u, nk, h, r, e => by cases e
  | .list _, v, u, nk, h, r, e => by cases e
  | .dict _, v, u, nk, h, r, e => by cases e
theorem Reps.nested (I : Inv X pins σ H s) : ∀ (ds : List D) (vs : List V) (us : List Value) (ks : List NestedKey), Reps X.w X.K M H ds vs → Vals vs us → keysOf ds = some ks → NestedAll s.heap ks us
  | [], vs, us, ks, h, r, e => by rw [show vs = [] from h] at r; cases r; cases e; exact .nil
  | x :: xs, vs, us, ks, h, r, e => by
    obtain ⟨v, t, e1, h1, h2⟩ := h
    rw [e1] at r
    obtain ⟨u, q, rfl, r1, r2⟩ := Vals.cons_inv r
    simp only [keysOf] at e
    cases k1 : keyOf x with
    | none => rw [k1] at e; cases e
    | some k =>
      cases k2 : keysOf xs with
      | none => rw [k1, k2] at e; cases e
      | some t' =>
        rw [k1, k2] at e
        cases e
        exact .cons (Rep.nested I x v u k h1 r1 k1) (Reps.nested I xs t q t' h2 r2 k2)
end
/-- an entry: as a tree, as known of the heap, as it stands -/
def Ent (w : World) (K : PySem.W.Frag) (M : Addr → Prop) (H : Hp) (p : D × D) (q : Int × V × V) (x : NestedKey × Addr × Value) : Prop :=
  keyOf p.1 = some x.1 ∧ x.1.depth ≤ 8 ∧ q.1 = x.1.hash w ∧ q.2.1 = .ref x.2.1 ∧ Rep w K M H p.1 q.2.1 ∧ Rep w K M H p.2 q.2.2 ∧ RelV q.2.2 x.2.2
inductive T3 (w : World) (K : PySem.W.Frag) (M : Addr → Prop) (H : Hp) : List (D × D) → List (Int × V × V) → List (NestedKey × Addr × Value) → Prop
  | nil : T3 w K M H [] [] []
  | cons {p q x ps qs xs} : Ent w K M H p q x → T3 w K M H ps qs xs → T3 w K M H (p :: ps) (q :: qs) (x :: xs)
theorem T3.of {prog : Program} : ∀ {kvs : List (D × D)} {ents : List (Int × V × V)} {es : List DictEntry}, allK kvs = true → RepK w K M H kvs ents → Paired (fun (p : Int × V × V) (e : DictEntry) => e.hash = p.1 ∧ RelV p.2.1 e.key ∧ RelV p.2.2 e.val) ents es →
    ∃ xs, T3 w K M H kvs ents xs ∧ es = xs.map (entryOfKey (nestedKind prog w))
  | [], ents, es, _, h, r => by rw [show ents = [] from h] at r; cases r; rw [show ents = [] from h]; exact ⟨[], .nil, rfl⟩
  | (k, x) :: t, ents, es, ok, h, r => by
    obtain ⟨n, kv, v, te, e, h1, ⟨nk, e2, e3⟩, h3, h4⟩ := h
    subst e
    cases r with
    | @cons _ en _ ens r1 r2 =>
      simp only [allK, List.all_cons, Bool.and_eq_true] at ok
      obtain ⟨nk', e4, e5, xs0, e6⟩ := keyOk_inv ok.1
      rw [e2] at e4; cases e4
      obtain ⟨xs, t1, t2⟩ := T3.of (prog := prog) (by rw [allK]; exact ok.2) h4 r2
      subst e6
      obtain ⟨a, vs, ea, q1, q2⟩ := id h1
      subst ea
      refine ⟨(nk, a, en.val) :: xs, .cons ⟨e2, e5, e3, rfl, h1, h3, r1.2.2⟩ t1, ?_⟩
      rw [List.map_cons, ← t2]
      have hk : en.key = .ref a := r1.2.1
      have hh : en.hash = nk.hash w := r1.1.trans e3
      obtain ⟨eh, ek, ev⟩ := en
      dsimp only at hk hh
      subst hk hh
      rfl
theorem T3.get {kvs : List (D × D)} {ents : List (Int × V × V)} {xs : List (NestedKey × Addr × Value)} {k : D} {nk : NestedKey} (e : keyOf k = some nk) (t : T3 w K M H kvs ents xs) :
    (∀ d, getK kvs k = some d → ∃ p v, atKey xs nk = some p ∧ Rep w K M H d v ∧ RelV v p.2) ∧ (getK kvs k = none → atKey xs nk = none) := by
  induction t with
  | nil => exact ⟨fun d h => (by cases h), fun _ => rfl⟩
  | @cons p q x ps qs xs h t ih =>
    obtain ⟨h1, h2, h3, h4, h5, h6, h7⟩ := h
    by_cases z : D.beq p.1 k = true
    · have z1 : p.1 = k := D.of_beq _ _ z
      have z2 : x.1 = nk := by rw [z1, e] at h1; cases h1; rfl
      refine ⟨fun d hd => ?_, fun hd => ?_⟩
      · rw [getK, if_pos z] at hd
        cases hd
        exact ⟨x.2, q.2.2, by simp [atKey, z2], h6, h7⟩
      · rw [getK, if_pos z] at hd; cases hd
    · have z2 : x.1 ≠ nk := fun q => z (by rw [q] at h1; rw [keyOf_inj h1 e]; exact D.beq_refl _)
      have ea : atKey (x :: xs) nk = atKey xs nk := by simp [atKey, z2]
      rw [getK, if_neg z, ea]
      exact ih
theorem T3.same (sm : Same H H') {kvs : List (D × D)} {ents : List (Int × V × V)} {xs : List (NestedKey × Addr × Value)} (t : T3 w K M H kvs ents xs) : T3 w K M H' kvs ents xs := by
  induction t with
  | nil => exact .nil
  | cons h t ih =>
    obtain ⟨h1, h2, h3, h4, h5, h6, h7⟩ := h
    exact .cons ⟨h1, h2, h3, h4, h5.same sm, h6.same sm, h7⟩ ih
theorem T3.repK {kvs : List (D × D)} {ents : List (Int × V × V)} {xs : List (NestedKey × Addr × Value)} (t : T3 w K M H kvs ents xs) : RepK w K M H kvs ents := by
  induction t with
  | nil => rfl
  | @cons p q x ps qs xs h t ih =>
    obtain ⟨h1, h2, h3, h4, h5, h6, h7⟩ := h
    exact ⟨q.1, q.2.1, q.2.2, qs, rfl, h5, ⟨_, h1, h3⟩, h6, ih⟩
theorem T3.paired {prog : Program} {kvs : List (D × D)} {ents : List (Int × V × V)} {xs : List (NestedKey × Addr × Value)} (t : T3 w K M H kvs ents xs) :
    Paired (fun (p : Int × V × V) (e : DictEntry) => e.hash = p.1 ∧ RelV p.2.1 e.key ∧ RelV p.2.2 e.val) ents (xs.map (entryOfKey (nestedKind prog w))) := by
  induction t with
  | nil => exact .nil
  | @cons p q x ps qs xs h t ih =>
    obtain ⟨h1, h2, h3, h4, h5, h6, h7⟩ := h
    exact .cons ⟨h3.symm, by rw [h4]; rfl, h7⟩ ih
theorem T3.nodup {kvs : List (D × D)} {ents : List (Int × V × V)} {xs : List (NestedKey × Addr × Value)} (t : T3 w K M H kvs ents xs) : (xs.map (·.1)).Nodup ↔ (kvs.map (·.1)).Nodup := by
  have e : (kvs.map (·.1)).map keyOf = (xs.map (·.1)).map some := by
    induction t with
    | nil => rfl
    | cons h t ih => simp only [List.map_cons]; rw [ih, h.1]
  have inj : ∀ a ∈ kvs.map (·.1), ∃ nk, keyOf a = some nk := by
    clear e
    induction t with
    | nil => intro a h; cases h
    | cons h t ih =>
      intro a ha
      rcases List.mem_cons.mp ha with rfl | ha
      · exact ⟨_, h.1⟩
      · exact ih a ha
  constructor
  · intro n
    have n1 : ((xs.map (·.1)).map some).Nodup := by
      unfold List.Nodup at n ⊢
      rw [List.pairwise_map]
      exact n.imp fun h q => h (by cases q; rfl)
    rw [← e] at n1
    unfold List.Nodup at n1 ⊢
    rw [List.pairwise_map] at n1
    exact n1.imp fun h q => h (by rw [q])
  · intro n
    have n1 : ((kvs.map (·.1)).map keyOf).Nodup := by
      unfold List.Nodup at n ⊢
      rw [List.pairwise_map]
      refine n.imp_of_mem fun ha hb h q => h ?_
      obtain ⟨nk, e1⟩ := inj _ ha
      exact keyOf_inj e1 (q ▸ e1)
    rw [e] at n1
    unfold List.Nodup at n1 ⊢
    rw [List.pairwise_map] at n1
    exact n1.imp fun h q => h (by rw [q])
theorem T3.isH (I : Inv X pins σ H s) {kvs : List (D × D)} {ents : List (Int × V × V)} {xs : List (NestedKey × Addr × Value)} (t : T3 X.w X.K M H kvs ents xs) : ∀ x ∈ xs, (nestedKind X.prog X.w).is s.heap x.1 x.2.1 := by
  induction t with
  | nil => intro x h; cases h
  | @cons p q x ps qs xs h t ih =>
    obtain ⟨h1, h2, h3, h4, h5, h6, h7⟩ := h
    intro y hy
    rcases List.mem_cons.mp hy with rfl | hy
    · exact ⟨Rep.nested I _ _ _ _ h5 (by rw [h4]; rfl) h1, h2⟩
    · exact ih y hy
/-- a dict that is read, as the kit tells it -/
theorem dict_at (I : Inv X pins σ H s) {kvs : List (D × D)} {ents : List (Int × V × V)} {a : Addr} (ok : allK kvs = true) (h : DAt H a ents) (r : RepK X.w X.K M H kvs ents) (nd : (kvs.map (·.1)).Nodup) :
    ∃ xs, T3 X.w X.K M H kvs ents xs ∧ s.heap.DictOfH (nestedKind X.prog X.w) a xs := by
  obtain ⟨⟨o, es, ep, ho, hx, hd, hp⟩, _⟩ := I.hok a _ h.2.2
  obtain ⟨xs, t, e⟩ := T3.of (prog := X.prog) ok r hp
  exact ⟨xs, t, o, es, ep, ho, hx, hd, e, t.isH I, t.nodup.mpr nd⟩
theorem key_is (I : Inv X pins σ H s) {k : D} {v : V} {u : Value} (ok : keyOk k = true) (h : Rep X.w X.K M H k v) (r : RelV v u) : ∃ nk b, keyOf k = some nk ∧ v = .ref b ∧ u = .ref b ∧ (nestedKind X.prog X.w).is s.heap nk b := by
  obtain ⟨nk, e1, e2, xs, e3⟩ := keyOk_inv ok
  subst e3
  obtain ⟨a, vs, e4, h1, h2⟩ := id h
  subst e4
  cases r
  exact ⟨nk, a, e1, rfl, rfl, Rep.nested I _ _ _ _ h rfl e1, e2⟩
end
end L3
namespace L3
open PySem PySem.Spec PyProof.Rows L2
theorem p3_inv {f : D → D → D → Option D} {a b c : P} {ρ : Env} {d : D} (h : p3 f a b c ρ = some d) : ∃ x y z, a ρ = some x ∧ b ρ = some y ∧ c ρ = some z ∧ f x y z = some d := by
  unfold p3 at h
  split at h
  · split at h
    · split at h
      · exact ⟨_, _, _, by assumption, by assumption, by assumption, h⟩
      · cases h
    · cases h
  · cases h
section
variable {X : Cx}
theorem in1_le (A : Around) : A.in1.units ≤ A.units + 2 := by first | exact Nat.le_of_eq rfl | (show A.units + 1 ≤ A.units + 2; omega) | (simp [Around.in1])
theorem room8 {A : Around} (hu : A.units + 64 < cLine) : A.in1.units + 8 < cLine := by
  have := in1_le A
  omega
theorem dIxK_inv {dx dy d : D} (h : dIxK dx dy = some d) : ∃ kvs, dx = .dict kvs ∧ allK kvs = true ∧ keyOk dy = true ∧ getK kvs dy = some d := by
  cases dx with
  | dict kvs =>
    simp only [dIxK] at h
    split at h
    · rename_i hc
      rw [Bool.and_eq_true] at hc
      exact ⟨kvs, rfl, hc.1, hc.2, h⟩
    · cases h
  | _ => cases h
theorem oIxK (hu : X.A.units + 64 < cLine) : IxR X (rD X.w X.K .c dIxK) := by
  intro value slice pins s σ H x y v u Q I rx ry h hs
  obtain ⟨M, dx, dy, d, al, hx, hy, e, q⟩ := h
  obtain ⟨kvs, rfl, ok, ky, eg⟩ := dIxK_inv e
  obtain ⟨a, ents, rfl, hd, hr, nd⟩ := hx
  cases rx
  obtain ⟨_, _, _, xs0, rfl⟩ := keyOk_inv ky
  obtain ⟨nk, b, ek, rfl, rfl, kis⟩ := key_is I ky (show Rep X.w X.K M H (.tuple xs0) y from hy) ry
  obtain ⟨xs, t, dh⟩ := dict_at I ok hd hr nd
  obtain ⟨p, v', ep, rv, rl⟩ := (t.get ek).1 d eg
  have hT : s.TypeIs (.ref a) "dict" := dh.typeIs
  unfold subscriptTail
  refine wpAny_bind ?_
  rw [getitemInPython_of_ne hT.not_modules]
  refine wpAny_bind (wpAny_specialOf hT PySem.F.slot_dict_getitem.lookup ?_)
  have fin : wpAny (model X.prog X.w) X.A (subscripted slice false (.ref a) (.ref b)) (fun r s₃ => wpAny (model X.prog X.w) X.A (letTemporaryGo value (.ref a) r >>= fun _ => pure r) (EP X pins σ Q) X.xe s₃) X.xe s := by
    rw [hs]
    refine wpAny_operating (wpAny_mono (wpAny_getItem_heap (knd := nestedKind X.prog X.w) (room8 hu) kis dh ep (Q := EP X pins σ Q) ⟨v', H, I.tok _, rl, q _ _ (Same.refl H) rv⟩) (fun r s₃ h₃ => wpAny_bind (wpAny_letTemporaryGo (wpAny_pure h₃))) fun _ _ x => x)
  first
    | exact wpAny_pure (wpAny_bind fin)
    | exact wpAny_bind (wpAny_pure (wpAny_bind fin))
    | exact wpAny_bind fin
theorem jIxK {k : Kind} {a b : Expr} {pa pb : P} {pos : Pos} (hu : X.A.units + 64 < cLine) (ha : JP X .r a pa) (hb : JP X .r b pb) (hs : PlainIx b := by exact fun _ _ => rfl) (hk : Kind.le k .c = true := by rfl) : JP X k (.Subscript a b pos) (p2 dIxK pa pb) :=
  peimp (pe_ix (oIxK hu) ha hb hs) fun σ H Q h => rOp hk h
/-- d.get(k, x) -/
theorem jGet2 {k : Kind} {o e f : Expr} {po pe pf : P} {apos cpos : Pos} (hu : X.A.units + 64 < cLine) (ho : JP X .r o po) (he : JP X .r e pe) (hf : JP X .c f pf)
    (base : attributeBase o "get" X.env (eval o X.env) = eval o X.env := by rfl)
    (few : ((backTo cpos (starEach [e, f] X.env)).all (fun x => !x.1) && (backToKw cpos (keywordEach [] X.env)).all (fun x => x.1.isSome)
      && decide (([e, f] : List Expr).length + ([] : List Keyword).length + (if ([] : List Keyword).isEmpty then 0 else 1) < 30)) = true := by rfl)
    (line : (apos.endLine == cpos.line) = true := by rfl) (trees : backTo cpos (starEach [e, f] X.env) = [(false, eval e X.env), (false, eval f X.env)] := by rfl) (hk : Kind.le k .c = true := by rfl) :
    JP X k (.Call (.Attribute o "get" apos) [e, f] [] cpos) (p3 dGet2 po pe pf) := by
  refine ⟨fun pins s σ H Q I h => ?_⟩
  obtain ⟨B, ρ, A, d, R, e0, q⟩ := h
  obtain ⟨dx, dy, dz, eo, ee, ef, eq⟩ := p3_inv e0
  obtain ⟨kvs, rfl, ok, ky, ed⟩ : ∃ kvs, dx = .dict kvs ∧ allK kvs = true ∧ keyOk dy = true ∧ d = (getK kvs dy).getD dz := by
    cases dx with
    | dict kvs =>
      simp only [dGet2] at eq
      split at eq
      · rename_i hc
        rw [Bool.and_eq_true] at hc
        cases eq
        exact ⟨kvs, rfl, hc.1, hc.2, rfl⟩
      · cases eq
    | _ => cases eq
  refine wpAny_Call_method base few line PySem.F.plainAttrs_dict PySem.F.slot_dict_get PySem.F.type_dict_get (thn (ho.run pins s σ H (fun x H1 => Same H H1 ∧ Rd1 X.w X.K (mu B A) H1 (.dict kvs) x) I ⟨B, ρ, A, _, R, eo, fun v H' sm r => ⟨sm, r⟩⟩) fun u s1 ⟨x, H1, I1, rx, sm1, r1⟩ => ?_)
  obtain ⟨a, ents, rfl, hd, hr, nd⟩ := id r1
  cases rx
  obtain ⟨xs1, t1, dh1⟩ := dict_at I1 ok hd hr nd
  refine ⟨dh1.typeIs, fun b q => ?_, ?_⟩
  · cases q
    obtain ⟨ob, _, _, h1, h2, _⟩ := dh1
    exact ⟨ob, h1, h2.2.1⟩
  rw [trees]
  have R1 := R.same sm1
  refine Calls.callWith_builtin rfl (Calls.evalArgs_plain (Calls.spliced_cons (thn (he.run pins s1 σ H1 (fun x H2 => Same H1 H2 ∧ Rd1 X.w X.K (mu B A) H2 dy x) I1 ⟨B, ρ, A, _, R1, ee, fun v H' sm r => ⟨sm, r⟩⟩) fun iv s2 ⟨y, H2, I2, ry, sm2, r2⟩ =>
    Calls.spliced_cons (thn (hf.run pins s2 σ H2 (fun x H3 => Same H2 H3 ∧ Rep X.w X.K (mu B A) H3 dz x) I2 ⟨B, ρ, A, _, R1.same sm2, ef, fun v H' sm r => ⟨sm, r⟩⟩) fun fv s3 ⟨z, H3, I3, rz, sm3, r3⟩ => Calls.spliced_nil ?_))))
  have sm : Same H1 H3 := fun a o e => sm3 _ _ (sm2 _ _ e)
  obtain ⟨_, _, _, xs0, rfl⟩ := keyOk_inv ky
  obtain ⟨nk, b, ek, rfl, rfl, kis⟩ := key_is I3 ky (show Rep X.w X.K (mu B A) H3 (.tuple xs0) y from Rep.same (d := .tuple xs0) sm3 r2) ry
  obtain ⟨xs, t, dh⟩ := dict_at I3 ok ⟨hd.1, hd.2.1, sm _ _ hd.2.2⟩ (hr.same sm) nd
  refine call_meetsIn PySem.F.slot_dict_get dh.typeIs PySem.F.entry_dict_get (PySem.F.args_dict_get_3 _ _ _) (meetsH_dict_get_default (nestedKind X.prog X.w) a b hd.1 fv) ⟨room8 (A := X.A) hu, nk, xs, kis, dh, ?_⟩
  have smH : Same H H3 := fun a o e => sm _ _ (sm1 _ _ e)
  cases g : getK kvs (.tuple xs0) with
  | some d' =>
    obtain ⟨p, v', ep, rv, rl⟩ := (t.get ek).1 d' g
    rw [ep]
    rw [g] at ed
    exact ⟨v', H3, I3.tok _, rl, q _ _ smH (Res.down (k0 := .c) (by rw [ed]; exact rv) R.alive hk)⟩
  | none =>
    rw [(t.get ek).2 g]
    rw [g] at ed
    exact ⟨z, H3, I3.tok _, rz, q _ _ smH (Res.down (k0 := .c) (by rw [ed]; exact r3) R.alive hk)⟩
theorem T3.set {w : World} {K : PySem.W.Frag} {M : Addr → Prop} {H : Hp} {kvs : List (D × D)} {ents : List (Int × V × V)} {xs : List (NestedKey × Addr × Value)} {k x : D} {nk : NestedKey} {v : V} {u : Value} (e : keyOf k = some nk) (hr : Rep w K M H x v) (ru : RelV v u) (t : T3 w K M H kvs ents xs) :
    ∃ ents', T3 w K M H (setK kvs k x) ents' (xs.map (putAt nk u)) ∧ ents'.length = ents.length := by
  induction t with
  | nil => exact ⟨[], .nil, rfl⟩
  | @cons p q y ps qs ys h t ih =>
    obtain ⟨ents', t', l⟩ := ih
    obtain ⟨h1, h2, h3, h4, h5, h6, h7⟩ := h
    by_cases z : D.beq p.1 k = true
    · have z1 : p.1 = k := D.of_beq _ _ z
      have z2 : y.1 = nk := by rw [z1, e] at h1; cases h1; rfl
      refine ⟨(q.1, q.2.1, v) :: ents', ?_, by simp [l]⟩
      rw [setK, if_pos z, List.map_cons]
      have ey : putAt nk u y = (y.1, y.2.1, u) := by unfold putAt; rw [if_pos z2]
      rw [ey]
      exact .cons ⟨h1, h2, h3, h4, h5, hr, ru⟩ t'
    · have z2 : y.1 ≠ nk := fun q => z (by rw [q] at h1; rw [keyOf_inj h1 e]; exact D.beq_refl _)
      refine ⟨q :: ents', ?_, by simp [l]⟩
      rw [setK, if_neg z, List.map_cons]
      have ey : putAt nk u y = y := by unfold putAt; rw [if_neg z2]
      rw [ey]
      exact .cons ⟨h1, h2, h3, h4, h5, h6, h7⟩ t'
theorem T3.append1 {w : World} {K : PySem.W.Frag} {M : Addr → Prop} {H : Hp} {kvs : List (D × D)} {ents : List (Int × V × V)} {xs : List (NestedKey × Addr × Value)} {p : D × D} {q : Int × V × V} {y : NestedKey × Addr × Value} (h : Ent w K M H p q y) (t : T3 w K M H kvs ents xs) :
    T3 w K M H (kvs ++ [p]) (ents ++ [q]) (xs ++ [y]) := by
  induction t with
  | nil => exact .cons h .nil
  | cons a t ih => exact .cons a ih
theorem T3.len {w : World} {K : PySem.W.Frag} {M : Addr → Prop} {H : Hp} {kvs : List (D × D)} {ents : List (Int × V × V)} {xs : List (NestedKey × Addr × Value)} (t : T3 w K M H kvs ents xs) : ents.length = kvs.length ∧ xs.length = kvs.length := by
  induction t with
  | nil => exact ⟨rfl, rfl⟩
  | cons a t ih => exact ⟨by simp [ih.1], by simp [ih.2]⟩
theorem T3.put {w : World} {K : PySem.W.Frag} {M : Addr → Prop} {H : Hp} {kvs : List (D × D)} {ents : List (Int × V × V)} {xs : List (NestedKey × Addr × Value)} {k x : D} {nk : NestedKey} {b : Addr} {v : V} {u : Value} (e : keyOf k = some nk) (hd : nk.depth ≤ 8) (hk : Rep w K M H k (.ref b)) (hr : Rep w K M H x v) (ru : RelV v u) (t : T3 w K M H kvs ents xs) :
    ∃ ents', T3 w K M H (putD kvs k x) ents' (storedH xs nk b u) ∧ ents'.length ≤ kvs.length + 1 := by
  unfold putD storedH
  cases g : getK kvs k with
  | some d =>
    obtain ⟨p, _, ep, _, _⟩ := (t.get e).1 d g
    rw [ep]
    obtain ⟨ents', t', l⟩ := t.set e hr ru
    exact ⟨ents', by simpa using t', by rw [l, t.len.1]; omega⟩
  | none =>
    rw [(t.get e).2 g]
    exact ⟨ents ++ [(nk.hash w, .ref b, v)], by simpa using t.append1 ⟨e, hd, rfl, rfl, hk, hr, ru⟩, by rw [List.length_append, t.len.1]; simp⟩
/-- x[k] = e of a dict that the name x owns -/
theorem sDPutS {i : Nat} {x : Str} {p p3 pos : Pos} {e1 e2 : Expr} {ka va : P} (hu : X.A.units + 64 < cLine) (hv : JP X .c e2 va) (hk : JP X .r e1 ka) (hN : X.N[i]? = some x := by rfl) (hvs : Vis X.env.scope x := by first | exact Or.inl rfl | exact Or.inr (Or.inl rfl) | exact Or.inr (Or.inr rfl)) (hdb : (x == ("__debug__" : Str)) = false := by decide)
    (hcd : (x == ("__classdict__" : Str)) = false := by decide) (hs : swapsWith e2 (some (.Subscript (.Name x p) e1 p3)) pos.line X.env = pure false := by rfl) :
    S1 X (.Assign [.Subscript (.Name x p) e1 p3] e2 pos) (sDPut i ka va) := by
  refine ⟨fun pins s σ H Dn I h => ?_⟩
  obtain ⟨B, ρ, A, ρ', o, R, e0, q⟩ := h
  unfold sDPut at e0
  split at e0
  · rename_i dx dy fx kvs zv zk zi
    split at e0
    · rename_i hc
      cases e0
      rw [Bool.and_eq_true, Bool.and_eq_true, decide_eq_true_eq] at hc
      obtain ⟨⟨ok, ky⟩, hl⟩ := hc
      obtain ⟨v0, ev, a, ents, rfl, ea, hd, hr, nd⟩ := R.at_own zi
      refine wpAny_Assign_Subscript (thn (hv.run pins s σ H (fun x H1 => Same H H1 ∧ Rep X.w X.K (mu B A) H1 dx x) I ⟨B, ρ, A, _, R, zv, fun v H' sm r => ⟨sm, r⟩⟩) fun r s1 ⟨v, H1, I1, rv, sm1, r1⟩ =>
        thn ((pv i hN hvs hdb hcd).run pins s1 σ H1 (fun x H2 => x = .ref a ∧ H2 = H1) I1 ⟨.ref a, ev, rfl, rfl⟩) fun u s2 ⟨x2, H2, I2, rx, ex, eH⟩ =>
        thn (hk.run pins s2 σ H1 (fun x H3 => Same H1 H3 ∧ Rd1 X.w X.K (mu B A) H3 dy x) (eH ▸ I2) ⟨B, ρ, A, _, R.same sm1, zk, fun v H' sm r => ⟨sm, r⟩⟩) fun iv s3 ⟨y, H3, I3, ry, sm3, r3⟩ => ?_) hs
      subst ex
      cases rx
      have sm : Same H H3 := fun a o e => sm3 _ _ (sm1 _ _ e)
      obtain ⟨_, _, _, xs0, rfl⟩ := keyOk_inv ky
      have rk : Rep X.w X.K (mu B A) H3 (.tuple xs0) y := r3
      obtain ⟨nk, b, ek, rfl, rfl, kis⟩ := key_is I3 ky rk ry
      have hd3 : DAt H3 a ents := ⟨hd.1, hd.2.1, sm _ _ hd.2.2⟩
      obtain ⟨xs, t, dh⟩ := dict_at I3 ok hd3 (hr.same sm) nd
      obtain ⟨ents', t', hlen⟩ := t.put (b := b) ek kis.2 rk (r1.same sm3) rv
      refine wpAny_setItem_heap (hsz := by rw [t.len.2, sizeLine_eq]; omega) (room8 hu) kis dh fun h' dh' hsb => ?_
      obtain ⟨ob, es, ep, h1, h2, h3, h4, h5, h6⟩ := dh'
      have I4 : Inv X pins σ (upd H3 a (.ext (DRaw a ents'))) { s3 with heap := h', toks := s3.toks + (nestedKind X.prog X.w).draws nk } := by
        refine d_write I3 (by rw [hd3.2.2]; exact True.intro) hsb ⟨ob, h1⟩ ⟨⟨ob, es, ep, h1, h2, h3, ?_⟩, ⟨ob, h1⟩, fun q1 q2 ⟨o, es, ep, e1, e2⟩ hk => ⟨o, es, ep, hk o e1, e2⟩⟩
        rw [h4]
        exact t'.paired
      refine ⟨σ, _, I4, ?_⟩
      have R3 := R.same sm
      have ex := upd_ext1 (o := .ext (DRaw a ents')) hd3.2.2 (fun _ z => by cases z) (fun _ _ z => by cases z)
      have hin : a ∈ A i := by rw [ea]; simp
      refine q _ _ _ ((Step.same sm R).trans R (Step.chg R3 zi ev ⟨a, ents', rfl, ea, ⟨hd.1, by rw [sizeLine_eq]; omega, upd_same⟩, ?_, ?_⟩ (ex.into fun x e => e ▸ hin)))
      · exact t'.repK.ext ex (fun x e => .inr ⟨i, e ▸ hin⟩) (fun _ _ m => m)
      · exact t'.nodup.mp h6
    · cases e0
  · cases e0
end
end L3
/-! sorted(xs), sorted(d); min of a list of ints. -/
namespace L3
open PySem PySem.Spec PyProof.Rows L2
def alikes (xs : List D) : Bool := xs.all fun a => xs.all fun b => PySem.W.alike a b
def tupled : D → Bool
  | .tuple (_ :: _) => true
  | _ => false
def untupled : D → Bool
  | .none => false
  | .tuple _ => false
  | _ => true
def sortOk (xs : List D) : Bool := alikes xs && (xs.all tupled || xs.all untupled) && decide (PyData.depthAll xs ≤ 40) && len24 xs.length
def sortD (xs : List D) : List D := xs.mergeSort (PySem.W.dataLe false id)
def dSorted : D → Option D
  | .list xs => if sortOk xs then some (.list (sortD xs)) else none
  | .dict kvs => if sortOk (kvs.map (·.1)) then some (.list (sortD (kvs.map (·.1)))) else none
  | _ => none
theorem sortOk_inv {xs : List D} (h : sortOk xs = true) : PySem.W.AllAlike xs ∧ PySem.W.Sortable xs ∧ (∀ x ∈ xs, x.depth ≤ 40) ∧ xs.length ≤ 16777216 := by
  simp only [sortOk, Bool.and_eq_true, Bool.or_eq_true, decide_eq_true_eq] at h
  obtain ⟨⟨⟨h1, h2⟩, h3⟩, h4⟩ := h
  refine ⟨fun d hd d' hd' => ?_, ?_, ?_, of_decide_eq_true h4⟩
  · exact List.all_eq_true.mp (List.all_eq_true.mp h1 d hd) d' hd'
  · refine h2.imp (fun h d hd => ?_) fun h d hd => ?_
    · have := List.all_eq_true.mp h d hd
      unfold tupled at this
      split at this
      · exact ⟨_, _, rfl⟩
      · cases this
    · have := List.all_eq_true.mp h d hd
      refine ⟨fun e => (by rw [e] at this; cases this), fun xs e => (by rw [e] at this; cases this)⟩
  · clear h1 h2 h4
    induction xs with
    | nil => intro x hx; cases hx
    | cons a r ih =>
      rw [PyData.depthAll] at h3
      intro x hx
      rcases List.mem_cons.mp hx with rfl | hx
      · omega
      · exact ih (by omega) x hx
mutual
theorem Reads.there {h : Heap} : ∀ {v : Value} {d : D} {as : List Addr}, Reads h v d as → ∀ a ∈ as, ∃ o, h.get? a = some o
  | _, _, _, .none, a, ha => by cases ha
  | _, _, _, .bool b, a, ha => by cases ha
  | _, _, _, .int i t, a, ha => by cases ha
  | _, _, _, .str i t, a, ha => by cases ha
  | _, _, _, .list h1 h2 h3 h4, a, ha => by
    rcases List.mem_cons.mp ha with rfl | ha
    · exact ⟨_, h1⟩
    · exact ReadsAll.there h4 a ha
  | _, _, _, .tuple h1 h2 h3 h4, a, ha => ReadsAll.there h4 a ha
  | _, _, _, .dict h1 h2 h3 h4 h5, a, ha => by
    rcases List.mem_append.mp ha with ha | ha
    · rcases List.mem_cons.mp ha with rfl | ha
      · exact ⟨_, h1⟩
      · exact ReadsAll.there h4 a ha
    · exact ReadsAll.there h5 a ha
theorem ReadsAll.there {h : Heap} : ∀ {vs : List Value} {ds : List D} {as : List Addr}, ReadsAll h vs ds as → ∀ a ∈ as, ∃ o, h.get? a = some o
  | _, _, _, .nil, a, ha => by cases ha
  | _, _, _, .cons h1 h2, a, ha => by
    rcases List.mem_append.mp ha with ha | ha
    · exact Reads.there h1 a ha
    · exact ReadsAll.there h2 a ha
end
theorem each_reads {h : Heap} : ∀ {us : List Value} {ds : List D} {vs : List V} {as : List Addr}, ReadsAll h us ds as → Vals vs us → PySem.W.EachIs (fun u (b : D × V) => RelV b.2 u) us (ds.zip vs) ∧ PySem.W.EachIs (fun u (b : D × V) => ∃ as, Reads h u b.1 as) us (ds.zip vs)
  | _, _, _, _, .nil, .nil => ⟨.nil, .nil⟩
  | _, _, _, _, .cons h1 h2, .cons r1 r2 => ⟨.cons r1 (each_reads h2 r2).1, .cons ⟨_, h1⟩ (each_reads h2 r2).2⟩
theorem each_vals : ∀ {us : List Value} {bs : List (D × V)}, PySem.W.EachIs (fun u (b : D × V) => RelV b.2 u) us bs → Vals (bs.map (·.2)) us
  | _, _, .nil => .nil
  | _, _, .cons h t => .cons h (each_vals t)
theorem zip_fst : ∀ {ds : List D} {vs : List V}, vs.length = ds.length → (ds.zip vs).map (·.1) = ds
  | [], _, _ => by simp
  | d :: ds, [], h => by simp at h
  | d :: ds, v :: vs, h => by simp [zip_fst (ds := ds) (vs := vs) (by simpa using h)]
section
variable {w : World} {K : PySem.W.Frag} {M : Addr → Prop} {H : Hp}
theorem reps_zip : ∀ {ds : List D} {vs : List V}, Reps w K M H ds vs → ∀ b ∈ ds.zip vs, Rep w K M H b.1 b.2
  | [], _, _, b, hb => by simp at hb
  | d :: ds, vs, h, b, hb => by
    obtain ⟨v, r, e, h1, h2⟩ := h
    subst e
    rw [List.zip_cons_cons] at hb
    rcases List.mem_cons.mp hb with rfl | hb
    · exact h1
    · exact reps_zip h2 b hb
theorem reps_unzip : ∀ {l : List (D × V)}, (∀ b ∈ l, Rep w K M H b.1 b.2) → Reps w K M H (l.map (·.1)) (l.map (·.2))
  | [], _ => rfl
  | b :: l, h => ⟨b.2, _, rfl, h b (List.mem_cons_self ..), reps_unzip fun c hc => h c (List.mem_cons_of_mem _ hc)⟩
theorem sortD_zip {ds : List D} {vs : List V} (hl : vs.length = ds.length) : ((ds.zip vs).mergeSort (PySem.W.dataLe false fun b => b.1)).map (·.1) = sortD ds := by
  unfold sortD
  conv => rhs; rw [← zip_fst hl]
  exact List.map_mergeSort fun a _ b _ => rfl
end
section
variable {prog : Program} {w : World} {A : Around} {E : Value → Shared → Prop} {s : Shared}
/-- a dict as what a list is made of, whatever its keys are -/
theorem kdl_raw {d : Addr} {es : Array DictEntry} {ep : Nat} (lo : (d == sysModules) = false) : PySem.W.KdlSrc prog w "dict" d d es.size (fun i v => ∃ hi : i < es.size, v = es[i].key) (fun h => h.DictRaw d es ep) where
  type := fun _ hm => hm.typeIs
  there := fun _ hm => ⟨let ⟨_, ho, _⟩ := hm; Heap.lt_size ho, let ⟨_, ho, _⟩ := hm; Heap.lt_size ho⟩
  keep := fun _ _ hm hk => hm.at fun o e => hk d (.inl rfl) o e
  notList := by decide
  notTuple := by decide
  hint := fun _ _ _ _ hm hq => PySem.W.kdl_hint_dict hm.typeIs hq
  iter := fun _ _ hh hm => ⟨_, _, (fun _ _ hq => wpAny_pyIter_dict_raw lo hm hq), Walks.rawKeys hh _ d (Nat.ne_of_lt (let ⟨_, ho, _⟩ := hm; Heap.lt_size ho)) es ep, ⟨⟨_, Heap.get?_push_size _ rfl, rfl, rfl⟩, hm.at fun _ e => Heap.get?_push_of_some _ e⟩⟩
end
section
open PySem.Calls PyProof.V
variable {prog : Program} {w : World} {A : Around} {E : Value → Shared → Prop} {s : Shared}
/-- sorted(d) up to the sort -/
theorem sorted_raw {d : Addr} {es : Array DictEntry} {ep : Nat} {Q : Value → Shared → Prop} (lo : (d == sysModules) = false) (hm : s.heap.DictRaw d es ep) (hh : A.handled = none) (hn : es.size ≤ sizeLine)
    (h : ∀ (h' : Heap) (tk : Nat), (∀ b o, s.heap.get? b = some o → h'.get? b = some o) →
      wpAny (model prog w) A.in1 (call (.builtin "list.sort") [.ref h'.objs.size]) (fun _ s' => Q (.ref h'.objs.size) s') E { s with heap := h'.push { cls := .type "list", data := .seq (es.toList.map (·.key)).toArray }, toks := tk }) :
    wpAny (model prog w) A (call (.builtin "sorted") [.ref d]) Q E s := by
  refine call_function_entry kind_sorted plain_sorted entry_sorted (args_sorted1 _) ?_
  unfold Builtin.«sorted»
  refine wpAny_bind (m := checkCount "sorted" 1 1 _) (wpAny_pure ?_)
  refine wpAny_bind (PySem.W.kdu_collect (A := A.in1) (kdl_raw lo) hh hm hn fun h' tk acc hk hacc => ?_)
  have hv : acc.toList = es.toList.map (·.key) := by
    apply List.ext_getElem?
    intro j
    by_cases hj : j < es.size
    · have hj' : j < acc.size := by rw [hacc.1]; exact hj
      obtain ⟨hi, e⟩ := hacc.2 j acc[j] (by simp [hj'])
      simp [hj, hj', e]
    · have hj' : ¬ j < acc.size := by rw [hacc.1]; exact hj
      simp [hj, hj']
  rw [hv]
  refine wpAny_bind (wpAny_newList ?_ (by rw [List.length_map, Array.length_toList]; exact hn))
  refine wpAny_bind (wpAny_holding (wpAny_mono (h h' tk hk) (fun _ s' x => ?_) fun _ _ e => e))
  exact wpAny_pure ⟨_, rfl, x⟩
end
theorem relV_keys : ∀ {ents : List (Int × V × V)} {es : List DictEntry}, Paired (fun (p : Int × V × V) (e : DictEntry) => e.hash = p.1 ∧ RelV p.2.1 e.key ∧ RelV p.2.2 e.val) ents es → Vals (ents.map (·.2.1)) (es.map (·.key))
  | _, _, .nil => .nil
  | _, _, .cons r t => .cons r.2.1 (relV_keys t)
theorem repK_keys {w : World} {K : PySem.W.Frag} {M : Addr → Prop} {H : Hp} : ∀ {kvs : List (D × D)} {ents : List (Int × V × V)}, RepK w K M H kvs ents → Reps w K M H (kvs.map (·.1)) (ents.map (·.2.1))
  | [], ents, h => by rw [show ents = [] from h]; rfl
  | (k, x) :: r, ents, h => by
    obtain ⟨n, kv, v, t, e, h1, _, h3, h4⟩ := h
    subst e
    exact ⟨kv, _, rfl, h1, repK_keys h4⟩
section
variable {X : Cx}
theorem cSorted (hc : X.calm = true) (hu : X.A.units + 64 < cLine) : CallR X (.builtin "sorted") (cD X.w X.K .f (l1 dSorted)) := by
  intro pins s σ H xs us Q I rs h
  obtain ⟨M, ds, d, al, hx, e, q⟩ := h
  cases hx with
  | nil => cases e
  | @cons dx vx dr vr h1 hr =>
    cases hr with
    | cons _ _ => cases e
    | nil =>
      cases rs with
      | @cons _ ux _ _ r1 rt =>
        cases rt
        replace e : dSorted dx = some d := e
        cases dx with
        | list xs =>
          simp only [dSorted] at e
          split at e
          · rename_i ok
            cases e
            obtain ⟨hal, hk, hdp, hln⟩ := sortOk_inv ok
            obtain ⟨a, vs, rfl, ha, rp⟩ := h1
            cases r1
            obtain ⟨its, rv, hl, _⟩ := I.list (SqL.of ha)
            obtain ⟨as, ra, _⟩ := Reps.reads I xs vs its rp rv
            have hlen : vs.length = xs.length := rp.length
            have hz : (xs.zip vs).length = xs.length := by rw [List.length_zip, hlen, Nat.min_self]
            obtain ⟨e1, e2⟩ := each_reads ra rv
            have hmap : (xs.zip vs).map (fun b => b.1) = xs := zip_fst hlen
            refine PySem.W.sorted_data (enc := fun b : D × V => b.1) hl.isList e1 e2 (by rw [hmap]; exact hal) (by rw [hmap]; exact hk) (by rw [hz, sizeLine_eq]; exact hln) (fun b hb => ?_) fun out ho eo => ?_
            · have := hdp b.1 (by rw [← hmap]; exact List.mem_map_of_mem hb)
              omega
            · obtain ⟨ep, he'⟩ := PyProof.Rows.sortedAll_at s.heap its out.toArray
              have rvo := each_vals eo
              have hlo : (((xs.zip vs).mergeSort (PySem.W.dataLe false fun b => b.1)).map (·.2)).length ≤ sizeLine := by rw [List.length_map, List.length_mergeSort, hz, sizeLine_eq]; exact hln
              have hp : H (s.heap.objs.size + 1) = none := I.hok.fresh (Nat.le_succ _)
              have sm := same_new (o := .lst (((xs.zip vs).mergeSort (PySem.W.dataLe false fun b => b.1)).map (·.2))) hp
              refine ⟨.ref _, upd H (s.heap.objs.size + 1) (.lst (((xs.zip vs).mergeSort (PySem.W.dataLe false fun b => b.1)).map (·.2))), I.laid (t' := s.toks) (fun _ _ => PyProof.Rows.sortedAll_old) (Nat.le_succ _) ⟨hlo, out, ep, rvo, he'⟩, rfl, q _ _ sm ?_⟩
              refine ⟨_, _, rfl, hp, upd_same, ?_⟩
              rw [← sortD_zip hlen]
              refine (reps_unzip fun b hb => reps_zip rp b ((List.mem_mergeSort).mp hb)).ext (O := fun _ => False) (Ext.same sm) (fun _ z => z.elim) fun a n m => ?_
              rcases m with m | m
              · exact m
              · subst m; exact absurd hp n
          · cases e
        | dict kvs =>
          simp only [dSorted] at e
          split at e
          · rename_i ok
            cases e
            obtain ⟨hal, hk, hdp, hln⟩ := sortOk_inv ok
            obtain ⟨a, ents, rfl, ha, rp, nd⟩ := h1
            cases r1
            obtain ⟨⟨o, es, ep, ho, hx, hd, hp⟩, _⟩ := I.hok a _ ha.2.2
            have rpk := repK_keys rp
            have rv := relV_keys hp
            have hlen := rpk.length
            have hes : es.size = (kvs.map (·.1)).length := by
              have h1 := Vals.length rv
              rw [← hlen, h1, List.length_map, Array.length_toList]
            obtain ⟨as, ra, _⟩ := Reps.reads I _ _ _ rpk rv
            generalize hxs : kvs.map (·.1) = ks at *
            generalize hvs : ents.map (·.2.1) = vs at *
            generalize hits : es.toList.map (·.key) = its at *
            have hz : (ks.zip vs).length = ks.length := by rw [List.length_zip, hlen, Nat.min_self]
            have hmap : (ks.zip vs).map (fun b => b.1) = ks := zip_fst hlen
            refine sorted_raw (es := es) (ep := ep) ha.1 ⟨o, ho, hx, hd⟩ (I.ok.hd hc) (by rw [hes, sizeLine_eq]; exact hln) fun h' tk keep => ?_
            rw [hits]
            have keep2 : ∀ b o, s.heap.get? b = some o → (h'.push { cls := .type "list", data := .seq its.toArray }).get? b = some o := fun b o e => Heap.get?_push_of_some _ (keep b o e)
            obtain ⟨e1, e2⟩ := each_reads ra rv
            have hat : (h'.push { cls := .type "list", data := .seq its.toArray }).get? h'.objs.size = some (seqObj "list" its.toArray 0) := Heap.get?_push_size _ rfl
            refine PySem.W.list_sort_data (enc := fun b : D × V => b.1) (n := 0) hat e1 (e2.mono fun u b ⟨as, r⟩ => ⟨as, Reads.keeps keep2 r, fun z => (let ⟨o1, z1⟩ := Reads.there r _ z; absurd (Heap.lt_size (keep _ _ z1)) (Nat.lt_irrefl _))⟩) (by rw [hmap]; exact hal) (by rw [hmap]; exact hk) (by rw [hz, sizeLine_eq]; exact hln) (fun b hb => ?_) fun out ho2 eo => ?_
            · have := hdp b.1 (by rw [← hmap]; exact List.mem_map_of_mem hb)
              have := in1_le X.A
              omega
            · obtain ⟨ep', he'⟩ := PyProof.Rows.sortedHeap_at (out := out.toArray) hat
              have rvo := each_vals eo
              have hlo : (((ks.zip vs).mergeSort (PySem.W.dataLe false fun b => b.1)).map (·.2)).length ≤ sizeLine := by rw [List.length_map, List.length_mergeSort, hz, sizeLine_eq]; exact hln
              have hge : s.heap.get? h'.objs.size = none := by
                cases z : s.heap.get? h'.objs.size with
                | none => rfl
                | some o1 => exact absurd (Heap.lt_size (keep _ _ z)) (Nat.lt_irrefl _)
              have hp : H h'.objs.size = none := HOk.gone I.hok hge
              have sm := same_new (o := .lst (((ks.zip vs).mergeSort (PySem.W.dataLe false fun b => b.1)).map (·.2))) hp
              have keep3 : ∀ b o, s.heap.get? b = some o → (sortedHeap (h'.push { cls := .type "list", data := .seq its.toArray }) h'.objs.size its out.toArray).get? b = some o := fun b o e => by
                have hlt := Heap.lt_size (keep b o e)
                rw [PyProof.Rows.sortedHeap_old (Nat.ne_of_lt hlt) (Heap.lt_size (keep2 b o e))]
                exact keep2 b o e
              refine ⟨.ref _, upd H h'.objs.size (.lst (((ks.zip vs).mergeSort (PySem.W.dataLe false fun b => b.1)).map (·.2))), I.laidN (t' := tk) keep3 hge hp ⟨hlo, out, ep', rvo, he'⟩, rfl, q _ _ sm ?_⟩
              refine ⟨_, _, rfl, hp, upd_same, ?_⟩
              rw [← sortD_zip hlen]
              refine (reps_unzip fun b hb => reps_zip rpk b ((List.mem_mergeSort).mp hb)).ext (O := fun _ => False) (Ext.same sm) (fun _ z => z.elim) fun a n m => ?_
              rcases m with m | m
              · exact m
              · subst m; exact absurd hp n
          · cases e
        | _ => cases e
/-! ### min of a list of ints -/
def minI : Int → List Int → Int
  | m, [] => m
  | m, n :: r => minI (if n < m then n else m) r
def dMinL : D → Option D
  | .list xs => (match intsOf xs with | some (n :: r) => some (.int (minI n r)) | _ => none)
  | _ => none
theorem minI_mem : ∀ (m : Int) (r : List Int), minI m r ∈ m :: r
  | m, [] => by simp [minI]
  | m, n :: r => by
    rw [minI]
    have := minI_mem (if n < m then n else m) r
    rcases List.mem_cons.mp this with h | h
    · rw [h]
      by_cases z : n < m
      · rw [if_pos z]; exact List.mem_cons_of_mem _ (List.mem_cons_self ..)
      · rw [if_neg z]; exact List.mem_cons_self ..
    · exact List.mem_cons_of_mem _ (List.mem_cons_of_mem _ h)
theorem minI_le : ∀ (m : Int) (r : List Int), minI m r ≤ m ∧ ∀ y ∈ r, minI m r ≤ y
  | m, [] => by simp [minI]
  | m, n :: r => by
    rw [minI]
    have h := minI_le (if n < m then n else m) r
    refine ⟨by have := h.1; split at this <;> split <;> omega, fun y hy => ?_⟩
    rcases List.mem_cons.mp hy with rfl | hy
    · have := h.1; split at this <;> split <;> omega
    · exact h.2 y hy
theorem cMinL (hc : X.calm = true) : CallR X (.builtin "min") (cD X.w X.K .c (l1 dMinL)) := cimp (cr_min hc) fun xs H Q h => by
  obtain ⟨M, ds, d, al, hx, e, q⟩ := h
  cases hx with
  | nil => cases e
  | @cons dx vx dr vr h1 hr =>
    cases hr with
    | cons _ _ => cases e
    | nil =>
      replace e : dMinL dx = some d := e
      cases dx with
      | list xs =>
        simp only [dMinL] at e
        split at e
        · rename_i n r hi
          cases e
          have ex := intsOf_eq hi
          subst ex
          obtain ⟨a, vs, rfl, ha, rp⟩ := h1
          have ev := reps_ints_eq rp
          subst ev
          refine ⟨a, n :: r, rfl, SqL.of ha, by simp, fun m hm hle => ?_⟩
          have e1 : m = minI n r := by
            have h1 := hle _ (minI_mem n r)
            have h2 := minI_le n r
            rcases List.mem_cons.mp hm with rfl | hm
            · have := h2.1; omega
            · have := h2.2 m hm; omega
          subst e1
          exact q _ _ (Same.refl H) rfl
        · cases e
      | _ => cases e
end
end L3
/-! The module's constants: tuples, dicts with tuple keys. -/
namespace L3
open PySem PySem.Spec PyProof.Rows L2
mutual
def constB (K : PySem.W.Frag) : D → Value → Bool
  | .none, .none => true
  | .bool b, .bool c => b == c
  | .int i, .int j _ => decide (i = j)
  | .str x, .str y _ => decide (x = y)
  | .tuple ds, .ref a => (match K.lookup a with
    | some ⟨.type c, _, .seq its _, _⟩ => decide (c = "tuple") && decide (its.size ≤ sizeLine) && constsB K ds its.toList
    | _ => false)
  | _, _ => false
def constsB (K : PySem.W.Frag) : List D → List Value → Bool
  | [], [] => true
  | d :: ds, u :: us => constB K d u && constsB K ds us
  | _, _ => false
end
section
variable {K : PySem.W.Frag} {w : World}
mutual
theorem constB_ok : ∀ (d : D) (u : Value), constB K d u = true → ∃ v, RelV v u ∧ ∀ M H, Rep w K M H d v
  | .none, u, h => by
    cases u with
    | none => exact ⟨.non, rfl, fun _ _ => rfl⟩
    | _ => simp [constB] at h
  | .bool b, u, h => by
    cases u with
    | bool c => exact ⟨.bl c, rfl, fun _ _ => by simp [constB] at h; rw [h]; rfl⟩
    | _ => simp [constB] at h
  | .int i, u, h => by
    cases u with
    | int j t => exact ⟨.int j, ⟨t, rfl⟩, fun _ _ => by simp [constB] at h; rw [h]; rfl⟩
    | _ => simp [constB] at h
  | .str i, u, h => by
    cases u with
    | str j t => exact ⟨.str j, ⟨t, rfl⟩, fun _ _ => by simp [constB] at h; rw [h]; rfl⟩
    | _ => simp [constB] at h
  | .tuple ds, u, h => by
    cases u with
    | ref a =>
      rw [constB] at h
      split at h
      · rename_i c od its n sl e
        rw [Bool.and_eq_true, Bool.and_eq_true, decide_eq_true_eq, decide_eq_true_eq] at h
        obtain ⟨vs, r1, r2⟩ := constsB_ok ds its.toList h.2
        exact ⟨.ref a, rfl, fun M H => ⟨a, vs, rfl, .inr ⟨_, its, n, e, congrArg Value.type h.1.1, rfl, h.1.2, r1⟩, r2 M H⟩⟩
      · cases h
    | _ => simp [constB] at h
  | .list ds, u, h => by simp [constB] at h
  | .dict ds, u, h => by simp [constB] at h
theorem constsB_ok : ∀ (ds : List D) (us : List Value), constsB K ds us = true → ∃ vs, Vals vs us ∧ ∀ M H, Reps w K M H ds vs
  | [], us, h => by
    cases us with
    | nil => exact ⟨[], .nil, fun _ _ => rfl⟩
    | cons _ _ => simp [constsB] at h
  | d :: ds, us, h => by
    cases us with
    | nil => simp [constsB] at h
    | cons u us =>
      rw [constsB, Bool.and_eq_true] at h
      obtain ⟨v, r1, r2⟩ := constB_ok d u h.1
      obtain ⟨vs, r3, r4⟩ := constsB_ok ds us h.2
      exact ⟨v :: vs, .cons r1 r3, fun M H => ⟨v, vs, rfl, r2 M H, r4 M H⟩⟩
end
mutual
def noText : NestedKey → Bool
  | .text _ => false
  | .tup ks => noTexts ks
  | _ => true
def noTexts : List NestedKey → Bool
  | [] => true
  | k :: ks => noText k && noTexts ks
end
mutual
def hashN : NestedKey → Int
  | .none => reduceHash 0xFCA86420
  | .num i => hashInt i
  | .text _ => 0
  | .tup ks => reduceHash (Builtin.Tuple.tupleHashOf (hashNs ks))
def hashNs : List NestedKey → List Int
  | [] => []
  | k :: ks => hashN k :: hashNs ks
end
mutual
theorem hashN_eq : ∀ k : NestedKey, noText k = true → k.hash w = hashN k
  | .none, _ => by simp [NestedKey.hash, hashN]
  | .num i, _ => by simp [NestedKey.hash, hashN]
  | .text _, h => by simp [noText] at h
  | .tup ks, h => by rw [NestedKey.hash, hashN, hashNs_eq ks (by simpa [noText] using h)]
theorem hashNs_eq : ∀ ks : List NestedKey, noTexts ks = true → NestedKey.hashes w ks = hashNs ks
  | [], _ => by simp [NestedKey.hashes, hashNs]
  | k :: ks, h => by
    simp only [noTexts, Bool.and_eq_true] at h
    rw [NestedKey.hashes, hashNs, hashN_eq k h.1, hashNs_eq ks h.2]
end
def entsB (K : PySem.W.Frag) : List (D × D) → List DictEntry → Bool
  | [], [] => true
  | p :: ps, e :: es => (match keyOf p.1 with | some k => noText k && decide (e.hash = hashN k) | none => false) && constB K p.1 e.key && constB K p.2 e.val && entsB K ps es
  | _, _ => false
def dictB (K : PySem.W.Frag) (kvs : List (D × D)) (u : Value) : Bool := match u with
  | .ref a => (match K.lookup a with
    | some ⟨.type c, none, .dict es _, sl⟩ => decide (c = "dict") && decide (sl = #[]) && entsB K kvs es.toList
    | _ => false) && !(a == sysModules) && allK kvs && decide ((kvs.map (·.1)).Nodup)
  | _ => false
theorem entsB_ok {prog : Program} : ∀ {kvs : List (D × D)} {es : List DictEntry}, allK kvs = true → entsB K kvs es = true → ∀ M H, ∃ ents xs, T3 w K M H kvs ents xs ∧ es = xs.map (entryOfKey (nestedKind prog w))
  | [], es, _, h, M, H => by
    cases es with
    | nil => exact ⟨[], [], .nil, rfl⟩
    | cons _ _ => simp [entsB] at h
  | p :: ps, es, ok, h, M, H => by
    cases es with
    | nil => simp [entsB] at h
    | cons en es =>
      rw [entsB, Bool.and_eq_true, Bool.and_eq_true, Bool.and_eq_true] at h
      obtain ⟨⟨⟨h1, h2⟩, h3⟩, h4⟩ := h
      simp only [allK, List.all_cons, Bool.and_eq_true] at ok
      obtain ⟨nk, e1, e2, xs0, e3⟩ := keyOk_inv ok.1
      rw [e1] at h1
      simp only [Bool.and_eq_true, decide_eq_true_eq] at h1
      obtain ⟨v, r1, r2⟩ := constB_ok (w := w) _ _ h2
      obtain ⟨v', r3, r4⟩ := constB_ok (w := w) _ _ h3
      obtain ⟨ents, xs, t, et⟩ := entsB_ok (prog := prog) (kvs := ps) (by rw [allK]; exact ok.2) h4 M H
      obtain ⟨k, x⟩ := p
      dsimp only at e3
      subst e3
      obtain ⟨a, vs, ea, _, _⟩ := r2 M H
      subst ea
      refine ⟨(nk.hash w, .ref a, v') :: ents, (nk, a, en.val) :: xs, .cons ⟨e1, e2, rfl, rfl, r2 M H, r4 M H, r3⟩ t, ?_⟩
      rw [List.map_cons, ← et]
      have hk : en.key = .ref a := r1
      have hh : en.hash = nk.hash w := h1.2.trans (hashN_eq nk h1.1).symm
      obtain ⟨eh, ek, ev⟩ := en
      dsimp only at hk hh
      subst hk hh
      rfl
end
def dGetC (kvs : List (D × D)) (k : D) : Option D := if keyOk k then some ((getK kvs k).getD .none) else none
section
variable {X : Cx}
/-- a constant of the module -/
theorem jGlo {k : Kind} {x : Str} {d : D} {pos : Pos} (hm : ∃ u, X.mg x = some u ∧ constB X.K d u = true) (hg : Gl X x := by rfl) (hd : (x == ("__debug__" : Str)) = false := by decide) (hk : Kind.le k .c = true := by rfl) : JP X k (.Name x pos) (pC d) := by
  obtain ⟨u, hm, hc⟩ := hm
  obtain ⟨v, r1, r2⟩ := constB_ok (w := X.w) _ _ hc
  exact peimp (pe_glob hg hm r1 hd) fun σ H Q h => by
    obtain ⟨B, ρ, A, d', R, e, q⟩ := h
    cases e
    exact q _ _ (Same.refl H) (Res.down (k0 := .c) (r2 _ _) R.alive hk)
/-- D.get(k) of a dict of the module -/
theorem jGloGet {k : Kind} {x : Str} {kvs : List (D × D)} {e : Expr} {pe : P} {p apos cpos : Pos} (hu : X.A.units + 64 < cLine) (hm : ∃ u, X.mg x = some u ∧ dictB X.K kvs u = true) (he : JP X .r e pe) (hg : Gl X x := by rfl) (hdb : (x == ("__debug__" : Str)) = false := by decide)
    (base : attributeBase (.Name x p) "get" X.env (eval (.Name x p) X.env) = eval (.Name x p) X.env := by rfl)
    (few : ((backTo cpos (starEach [e] X.env)).all (fun x => !x.1) && (backToKw cpos (keywordEach [] X.env)).all (fun x => x.1.isSome)
      && decide (([e] : List Expr).length + ([] : List Keyword).length + (if ([] : List Keyword).isEmpty then 0 else 1) < 30)) = true := by rfl)
    (line : (apos.endLine == cpos.line) = true := by rfl) (trees : backTo cpos (starEach [e] X.env) = [(false, eval e X.env)] := by rfl) (hk : Kind.le k .c = true := by rfl) :
    JP X k (.Call (.Attribute (.Name x p) "get" apos) [e] [] cpos) (p1 (dGetC kvs) pe) := by
  obtain ⟨u0, hm, hc⟩ := hm
  obtain ⟨a, rfl⟩ : ∃ a, u0 = .ref a := by
    cases u0 with
    | ref a => exact ⟨a, rfl⟩
    | _ => cases hc
  simp only [dictB, Bool.and_eq_true, decide_eq_true_eq] at hc
  obtain ⟨⟨⟨h1, lo⟩, ok⟩, hl⟩ := hc
  split at h1
  · rename_i c es ep sl lk
    simp only [Bool.and_eq_true, decide_eq_true_eq] at h1
    refine ⟨fun pins s σ H Q I h => ?_⟩
    obtain ⟨B, ρ, A, d, R, e0, q⟩ := h
    obtain ⟨dy, ee, ed⟩ := p1_inv e0
    simp only [dGetC] at ed
    split at ed
    · rename_i ky
      cases ed
      have lo' : (a == sysModules) = false := by simpa using lo
      have dictH : ∀ {s' : Shared} {H' : Hp}, Inv X pins σ H' s' → ∃ ents xs, T3 X.w X.K (mu B A) H' kvs ents xs ∧ s'.heap.DictOfH (nestedKind X.prog X.w) a xs := fun {s' H'} I' => by
        obtain ⟨ents, xs, t, et⟩ := entsB_ok (w := X.w) (prog := X.prog) ok h1.2 (mu B A) H'
        refine ⟨ents, xs, t, _, es, ep, I'.kIn _ _ lk, ⟨by rw [h1.1.1], rfl, h1.1.2⟩, rfl, et, t.isH I', ?_⟩
        exact t.nodup.mpr hl
      refine wpAny_Call_method base few line PySem.F.plainAttrs_dict PySem.F.slot_dict_get PySem.F.type_dict_get (thn ((pe_glob (v := .ref a) hg hm rfl hdb).run pins s σ H (fun x H1 => x = .ref a ∧ H1 = H) I ⟨rfl, rfl⟩) fun u s1 ⟨x, H1, I1, rx, ex, eH⟩ => ?_)
      subst ex
      cases rx
      rw [eH] at I1
      obtain ⟨ents1, xs1, t1, dh1⟩ := dictH I1
      refine ⟨dh1.typeIs, fun b q => ?_, ?_⟩
      · cases q
        obtain ⟨ob, _, _, h1, h2, _⟩ := dh1
        exact ⟨ob, h1, h2.2.1⟩
      rw [trees]
      refine Calls.callWith_builtin rfl (Calls.evalArgs_plain (Calls.spliced_cons (thn (he.run pins s1 σ H (fun x H2 => Same H H2 ∧ Rd1 X.w X.K (mu B A) H2 dy x) I1 ⟨B, ρ, A, _, R, ee, fun v H' sm r => ⟨sm, r⟩⟩) fun iv s2 ⟨y, H2, I2, ry, sm2, r2⟩ => Calls.spliced_nil ?_)))
      obtain ⟨_, _, _, xs0, rfl⟩ := keyOk_inv ky
      obtain ⟨nk, b, ek, rfl, rfl, kis⟩ := key_is I2 ky (show Rep X.w X.K (mu B A) H2 (.tuple xs0) y from r2) ry
      obtain ⟨ents, xs, t, dh⟩ := dictH I2
      refine call_meetsIn PySem.F.slot_dict_get dh.typeIs PySem.F.entry_dict_get (PySem.F.args_dict_get_2 _ _) (meetsH_dict_get (nestedKind X.prog X.w) a b lo') ⟨room8 (A := X.A) hu, nk, xs, kis, dh, ?_⟩
      cases g : getK kvs (.tuple xs0) with
      | some d' =>
        obtain ⟨p, v', ep, rv, rl⟩ := (t.get ek).1 d' g
        rw [ep]
        exact ⟨v', H2, I2.tok _, rl, q _ _ sm2 (Res.down (k0 := .c) (by rw [g]; exact rv) R.alive hk)⟩
      | none =>
        rw [(t.get ek).2 g]
        exact ⟨.non, H2, I2.tok _, rfl, q _ _ sm2 (Res.down (k0 := .c) (by rw [g]; exact rfl) R.alive hk)⟩
    · cases ed
  · cases h1
end
/-! ### the head: facts of defs, of constants -/
def growK (g : Addr → Option Obj) (as : List Addr) : List Addr := (as ++ as.flatMap fun a => match g a with
  | some o => (match o.data with
    | .dict es _ => es.toList.flatMap fun e => He.refV e.key
    | .seq its _ => its.toList.flatMap He.refV
    | _ => [])
  | none => []).eraseDups
def asE (g : Addr → Option Obj) (n : Nat) : List Addr := growK g (growK g (He.asD g n))
def hookE (n : Nat) (fa : List He.Fa) (fn : List He.DefD) (ex : PySem.W.Frag → Bool) : PySem.W.Hook where
  α := He.AlD × Bool
  obs := fun s => (He.obsD fa fn (He.frG s.heap.get? (asE s.heap.get? n)), ex (He.frG s.heap.get? (asE s.heap.get? n)))
  val := fun _ => (He.valD fn, true)
  says := fun _ h => ∃ K : PySem.W.Frag, K.In h ∧ He.SaysD fa fn K ∧ ex K = true
  of := fun _ _ e => ⟨_, He.frG_in, congrArg (fun z : He.AlD × Bool => z.1) e, congrArg (fun z : He.AlD × Bool => z.2) e⟩
  keeps := fun _ _ _ ⟨K, hK, c⟩ k => ⟨K, PySem.W.Frag.In.keeps hK k, c⟩
def obsE (n : Nat) (fa : List He.Fa) (fn : List He.DefD) (ex : PySem.W.Frag → Bool) (g : Addr → Option Obj) : He.AlD × Bool := (He.obsD fa fn (He.frG g (asE g n)), ex (He.frG g (asE g n)))
theorem obsE_eq {n : Nat} {fa : List He.Fa} {fn : List He.DefD} {ex : PySem.W.Frag → Bool} {g : Addr → Option Obj} {s : Shared} (h : ∀ a, g a = s.heap.get? a) : obsE n fa fn ex g = (hookE n fa fn ex).obs s := by
  have e : g = s.heap.get? := funext h
  rw [e] <;> rfl
def gloB (K : PySem.W.Frag) (x : Str) (t : Value → Bool) : Bool := match PySem.W.nsIn K mainGlobals x with
  | some (some u) => t u
  | _ => false
theorem gloB_ok {K : PySem.W.Frag} {h : Heap} {mg : Str → Option Value} {x : Str} {t : Value → Bool} (X : K.In h) (G : h.Ns mainGlobals mg) (c : gloB K x t = true) : ∃ u, mg x = some u ∧ t u = true := by
  unfold gloB at c
  split at c
  · rename_i u e
    exact ⟨u, PySem.W.mg_of X G e, c⟩
  · cases c
end L3
/-! Lists of lists that a name owns. -/
namespace L3
open PySem PySem.Spec PyProof.Rows L2
/-- x = [[] for j in ..] -/
def sLots (i j : Nat) (a : Ip) : Sm := fun ρ => match a ρ with
  | some xs => if freeAt [j] ρ && len24 xs.length then (match put i (.own false (.lsts (xs.map fun _ => []))) ρ with | some ρ2 => some (ρ2, .nx) | none => none) else none
  | none => none
/-- x[k].append(e) -/
def sLotApp (i : Nat) (k e : P) : Sm := fun ρ => match ρ[i]?, k ρ, e ρ with
  | some (.own fx (.lsts xss)), some (.int n), some d => (match L2.ixN xss.length n with
    | some m => (match xss[m]? with
      | some xs => if decide (xs.length < 16777216) then some (ρ.set i (.own fx (.lsts (xss.set m (xs ++ [d])))), .nx) else none
      | none => none)
    | none => none)
  | _, _, _ => none
def tNE : L2.TE := fun σ H Q => ∀ p, H p = none → Q (.ref p) (upd H p (.lst []))
section
variable {X : Cx}
theorem pe_empty {pos : Pos} : PE X (.List [] pos) tNE := peimp (pe_lst pa_nil) fun σ H Q h => by
  exact ⟨Nat.zero_le _, fun p hp => h p hp⟩
end
section
variable {w : World} {K : PySem.W.Frag}
theorem rLots {j : Nat} {a : Ip} {σ : L2.St} {H : Hp} {Q : VK}
    (h : ∃ B ρ A xs, Rel w K B ρ σ A H ∧ a ρ = some xs ∧ freeAt [j] ρ = true ∧ len24 xs.length = true ∧ ∀ L bs H', Same H H' → H L = none → (∀ b ∈ bs, H b = none) → (L :: bs).Nodup → H' L = some (.lst (bs.map .ref)) → (∀ b ∈ bs, H' b = some (.lst [])) → bs.length = xs.length → Q (.ref L) H') :
    tLc (RIp w K a) (RG w K (.nm j)) (RT w K tYesP) tNE [j] σ H Q := by
  obtain ⟨B, ρ, A, xs, R, z, hf1, hf2, q⟩ := h
  refine ⟨B, ρ, A, xs, R, z, fun Ji Keep H1 s1 Gd K0 L hL => ?_⟩
  have hline : xs.length ≤ sizeLine := len24_ok hf2
  have fr := free_none R hf1
  have R1 := R.same s1
  have K1 : Keep (fun x => B x ∨ x = L) A (upd H1 L (.lst [])) := Gd.prot B (fun x => x = L) A _ _ (same_new hL) (fun x e => e ▸ hL) K0
  have RL : Rel w K (fun x => B x ∨ x = L) ρ σ A (upd H1 L (.lst [])) := R1.protect (N := fun x => x = L) (same_new hL) fun x e => ⟨e ▸ hL, by rw [e, upd_same]; simp⟩
  have Gd' := Gd.good fun x => B x ∨ x = L
  refine ⟨fun i m H2 => m = xs.length - i ∧ i ≤ xs.length ∧ Rel w K (fun x => B x ∨ x = L) ρ σ A H2 ∧ Same H1 H2 ∧ Keep (fun x => B x ∨ x = L) A H2 ∧ ∃ bs : List Addr, bs.length = i ∧ H2 L = some (.lst (bs.map .ref)) ∧ (L :: bs).Nodup ∧ (∀ b ∈ bs, H1 b = none) ∧ ∀ b ∈ bs, H2 b = some (.lst []),
    ⟨xs.length, rfl, Nat.zero_le _, RL, same_new hL, K1, [], rfl, upd_same, by simp, (fun _ h => nomatch h), (fun _ h => nomatch h)⟩, ?_⟩
  rintro i m H2 ⟨rfl, hi, R2, s2, K2, bs, lb, hL2, nd, hb1, hb2⟩
  by_cases hlt : i < xs.length
  · obtain ⟨g1, g2⟩ := Gd'.go i A H2 hlt K2
    refine .inr ⟨g1, fun H3 => Rel w K (fun x => B x ∨ x = L) ρ σ A H3 ∧ Same H1 H3 ∧ Keep (fun x => B x ∨ x = L) A H3 ∧ ∃ bs : List Addr, bs.length = i + 1 ∧ H3 L = some (.lst (bs.map .ref)) ∧ (L :: bs).Nodup ∧ (∀ b ∈ bs, H1 b = none) ∧ ∀ b ∈ bs, H3 b = some (.lst []), fun H3 hN => ⟨xs.length - (i + 1), by omega, rfl, hlt, hN⟩, fun v H3 y => ?_⟩
    obtain ⟨s3, k3, rv⟩ := g2 v H3 y
    have R3 := R2.same s3
    have Rw := R3.wiped (vs := [j]) fun i hi => (fr i hi).1
    have hj : j < ρ.length := (fr j (by simp)).2
    have hun : (wipeE [j] ρ)[j]? = some .un := by
      cases e : (wipeE [j] ρ)[j]? with
      | none => rw [List.getElem?_eq_none_iff, wipeE_length] at e; omega
      | some c => rw [wipeE_in (by simp) e]
    have eb : bind (.nm j) xs[i] (wipeE [j] ρ) = some ((wipeE [j] ρ).set j (.val xs[i])) := by
      rw [bind, put, hun]
    refine ⟨(fun x => B x ∨ x = L), wipeE [j] ρ, A, xs[i], _, Rw, eb, rv _ (by simp [hlt]), fun σ4 A4 S4 ka => ⟨?_, ?_⟩⟩
    · have hl4 : (wipe σ [j]).length = σ4.length := by
        rw [← S4.rel.len, List.length_set, wipeE_length, wipe_length, R3.len]
      rw [← wipe_wipe (σ := σ)]
      exact wipe_agree hl4 fun k hk => (ka k (by simpa [Pat.slots] using hk)).1
    · refine ⟨(fun x => B x ∨ x = L), _, A4, true, S4.rel, rfl, fun H5 s5 => ?_⟩
      dsimp only
      rw [if_pos rfl]
      intro p hp
      have s35 := s3.trans s5
      have hL5 : H5 L = some (.lst (bs.map .ref)) := s35 _ _ hL2
      have hpL : p ≠ L := fun e => by rw [e, hL5] at hp; cases hp
      have hpb : p ∉ bs := fun e => by rw [s35 _ _ (hb2 p e)] at hp; cases hp
      have hp1 : H1 p = none := by
        cases e : H1 p with
        | none => rfl
        | some o => rw [s35 _ _ (s2 _ _ e)] at hp; cases hp
      have sN := same_new (o := .lst []) hp
      have hL6 : (upd H5 p (.lst [])) L = some (.lst (bs.map .ref)) := sN _ _ hL5
      refine ⟨bs.map .ref, hL6, by rw [List.length_map]; omega, ?_⟩
      have s16 : Same H1 (upd H5 p (.lst [])) := ((s2.trans s35).trans sN)
      have hne1 : Same H1 (upd (upd H5 p (.lst [])) L (.lst (bs.map .ref ++ [.ref p]))) := fun a o e => by
        rw [upd_ne (ne_of_none e hL)]
        exact s16 a o e
      have ex := upd_ext (o := .lst (bs.map .ref ++ [.ref p])) hL6
      have BL : (fun x => B x ∨ x = L) L := .inr rfl
      have R6 := (R3.same s5).same sN
      refine ⟨R6.touch BL ex (by rw [upd_same]; simp), hne1, Gd.prot B (fun x => x = L) A _ _ hne1 (fun x e => e ▸ hL) K0, bs ++ [p], by simp [lb], by rw [List.map_append]; exact upd_same, ?_, ?_, ?_⟩
      · rw [List.nodup_cons] at nd ⊢
        refine ⟨fun h => ?_, ?_⟩
        · rcases List.mem_append.mp h with h | h
          · exact nd.1 h
          · exact hpL (List.mem_singleton.mp h).symm
        · rw [List.nodup_append]
          exact ⟨nd.2, by simp, fun a ha b hb e => hpb (by rw [List.mem_singleton.mp hb] at e; exact e ▸ ha)⟩
      · intro b hb
        rcases List.mem_append.mp hb with hb | hb
        · exact hb1 b hb
        · rw [List.mem_singleton.mp hb]; exact hp1
      · intro b hb
        rcases List.mem_append.mp hb with hb | hb
        · have hbL : b ≠ L := fun e => by rw [List.nodup_cons] at nd; exact nd.1 (e ▸ hb)
          rw [upd_ne hbL]
          exact sN _ _ (s35 _ _ (hb2 b hb))
        · rw [List.mem_singleton.mp hb, upd_ne hpL, upd_same]
  · refine .inl ⟨Gd'.stop i A H2 (by omega) K2, ?_⟩
    refine q L bs H2 (s1.trans s2) (s1.free hL) (fun b hb => s1.free (hb1 b hb)) nd hL2 hb2 (by omega)
end
theorem ll_new {w : World} {K : PySem.W.Frag} {M : Addr → Prop} {H : Hp} : ∀ {xs : List D} {bs : List Addr}, bs.length = xs.length → (∀ b ∈ bs, H b = some (.lst [])) → LL w K M H (xs.map fun _ => []) bs
  | [], bs, e, _ => List.eq_nil_of_length_eq_zero e
  | x :: xs, [], e, _ => by simp at e
  | x :: xs, b :: bs, e, h => ⟨b, bs, [], rfl, h b (List.mem_cons_self ..), rfl, ll_new (by simpa using e) fun c hc => h c (List.mem_cons_of_mem _ hc)⟩
section
variable {X : Cx}
/-- x = [[] for j in ..] -/
theorem sLotsS {i j : Nat} {y : Str} {py : Pos} {tg iter : Expr} {scope : Scope} {own : List (Str × Nat)} {pos spos p2 : Pos} {a : Ip} (hc : X.calm = true) (nd : X.N.Nodup) (hy : X.N[i]? = some y) (hyl : X.env.scope.names.lookup y = some .local)
    (hsw : swapsWith (.ListComp (.List [] p2) [⟨tg, iter, [], 0⟩] scope pos) (some (.Name y py)) spos.line X.env = pure true) (hi : JIp X tg iter a) (ok : blkC X.N X.env.scope scope own = true)
    (hg : ∀ (s : Shared) (H : Hp) (C : Addr) (cl : List (Str × Addr)) (fp : List Addr), JG (X.blk s H scope (compEnvC scope cl C X.env) fp) tg (.nm j))
    (hsl : own.map (·.2) = [j] := by rfl) (hs : ∀ x, foldedSetIterable iter X.env x = pure x := by intro _; rfl) :
    S1 X (.Assign [.Name y py] (.ListComp (.List [] p2) [⟨tg, iter, [], 0⟩] scope pos) spos) (sLots i j a) :=
  psimp (ps_setLc hc nd hy hyl hsw hi (blkOk_by ok) hg (fun _ _ _ _ _ => jtsNil) (fun _ _ _ _ _ => pe_empty) hs) fun Dn σ H h => by
    obtain ⟨B, ρ, A, ρ', o, R, e1, q⟩ := h
    unfold sLots at e1
    cases z : a ρ with
    | none => rw [z] at e1; cases e1
    | some xs =>
      rw [z] at e1
      dsimp only at e1
      split at e1
      · rename_i hf
        rw [Bool.and_eq_true] at hf
        cases z3 : put i (.own false (.lsts (xs.map fun _ => []))) ρ with
        | none => rw [z3] at e1; cases e1
        | some ρ2 =>
          rw [z3] at e1; cases e1
          rw [hsl]
          refine rLots ⟨B, ρ, A, xs, R, z, hf.1, hf.2, fun L bs H' sm hL hb nd2 h1 h2 h3 => ?_⟩
          have hN : ∀ x, x ∈ L :: bs → H x = none ∧ H' x ≠ none := fun x hx => by
            rcases List.mem_cons.mp hx with rfl | hx
            · exact ⟨hL, by rw [h1]; simp⟩
            · exact ⟨hb x hx, by rw [h2 x hx]; simp⟩
          exact q _ _ _ (Step.put (as := L :: bs) R (Step.same sm R) z3 (R.protect sm hN) ⟨.ref L, rfl, L, bs, rfl, rfl, h1, nd2, ll_new h3 h2⟩ fun x hx => ⟨fun m => R.alive x m (hN x hx).1, .inr (hN x hx).1⟩)
      · cases e1
end
end L3
namespace L3
open PySem PySem.Spec PyProof.Rows L2
theorem LL.get {w : World} {K : PySem.W.Frag} {M : Addr → Prop} {H : Hp} : ∀ {xss : List (List D)} {bs : List Addr} {m : Nat} {xs : List D}, LL w K M H xss bs → xss[m]? = some xs → ∃ b vs, bs[m]? = some b ∧ H b = some (.lst vs) ∧ Reps w K M H xs vs
  | [], bs, m, xs, h, e => by simp at e
  | x :: r, bs, 0, xs, h, e => by
    obtain ⟨b, t, vs, e1, h1, h2, h3⟩ := h
    subst e1
    simp at e; subst e
    exact ⟨b, vs, rfl, h1, h2⟩
  | x :: r, bs, m + 1, xs, h, e => by
    obtain ⟨b, t, vs, e1, h1, h2, h3⟩ := h
    subst e1
    exact LL.get (m := m) h3 (by simpa using e)
theorem LL.set {w : World} {K : PySem.W.Frag} {M : Addr → Prop} {H H' : Hp} {b : Addr} {ys : List D} {us : List V} (hb : H' b = some (.lst us)) (hr : Reps w K M H' ys us) (ex : Ext (fun x => x = b) H H') (hM : M b) : ∀ {xss : List (List D)} {bs : List Addr} {m : Nat}, bs.Nodup → LL w K M H xss bs → bs[m]? = some b →
    LL w K M H' (xss.set m ys) bs
  | [], bs, m, nd, h, e => by rw [show bs = [] from h] at e; simp at e
  | x :: r, bs, 0, nd, h, e => by
    obtain ⟨b0, t, vs, e1, h1, h2, h3⟩ := h
    subst e1
    simp at e; subst e
    rw [List.nodup_cons] at nd
    exact ⟨b0, t, us, rfl, hb, hr, h3.ext ex (fun a z => by rw [z]; exact hM) (fun _ _ m => m) fun x hx z => nd.1 (z ▸ hx)⟩
  | x :: r, bs, m + 1, nd, h, e => by
    obtain ⟨b0, t, vs, e1, h1, h2, h3⟩ := h
    subst e1
    rw [List.nodup_cons] at nd
    have e' : t[m]? = some b := by simpa using e
    have hne : b0 ≠ b := fun z => nd.1 (z ▸ List.mem_of_getElem? e')
    exact ⟨b0, t, vs, rfl, ex.keep _ _ h1 hne, h2.ext ex (fun a z => by rw [z]; exact hM) (fun _ _ m => m), LL.set hb hr ex hM nd.2 h3 e'⟩
section
variable {X : Cx}
/-- x[k].append(e) -/
theorem sLotAppS {i : Nat} {x : Str} {p ip ap cp pos : Pos} {k e : Expr} {pk pe : P} (hk : JP X .r k pk) (he : JP X .c e pe) (hN : X.N[i]? = some x := by rfl) (hv : Vis X.env.scope x := by first | exact Or.inl rfl | exact Or.inr (Or.inl rfl) | exact Or.inr (Or.inr rfl)) (hd : (x == ("__debug__" : Str)) = false := by decide)
    (hcd : (x == ("__classdict__" : Str)) = false := by decide) (hps : PlainIx k := by exact fun _ _ => rfl)
    (hbase : attributeBase (.Subscript (.Name x p) k ip) "append" X.env (eval (.Subscript (.Name x p) k ip) X.env) = eval (.Subscript (.Name x p) k ip) X.env := by rfl)
    (hfew : ((backTo cp (starEach [e] X.env)).all (fun x => !x.1) && (backToKw cp (keywordEach [] X.env)).all (fun x => x.1.isSome)
      && decide (([e] : List Expr).length + ([] : List Keyword).length + (if ([] : List Keyword).isEmpty then 0 else 1) < 30)) = true := by rfl)
    (hline : (ap.endLine == cp.line) = true := by rfl) (hst : starEach [e] X.env = [(false, eval e X.env)] := by rfl) (hs : swapsWith (.Call (.Attribute (.Subscript (.Name x p) k ip) "append" ap) [e] [] cp) none pos.line X.env = pure false := by rfl) :
    S1 X (.Expr (.Call (.Attribute (.Subscript (.Name x p) k ip) "append" ap) [e] [] cp) pos) (sLotApp i pk pe) :=
  psimp (ps_expr (pe_bm PySem.F.plainAttrs_list PySem.F.slot_list_append PySem.F.type_list_append mt_append (pe_ix ix_list (pv i hN hv hd hcd) hk hps) (jaCons he jaNil hst) hbase hfew hline hst (by rfl)) hs) fun Dn σ H h => by
    obtain ⟨B, ρ, A, ρ', o, R, e1, q⟩ := h
    unfold sLotApp at e1
    split at e1
    · rename_i fx xss n d zi zk ze
      cases z1 : ixN xss.length n with
      | none => rw [z1] at e1; cases e1
      | some m =>
        rw [z1] at e1
        dsimp only at e1
        cases z2 : xss[m]? with
        | none => rw [z2] at e1; cases e1
        | some xs =>
          rw [z2] at e1
          dsimp only at e1
          split at e1
          · rename_i hl
            cases e1
            have hl := of_decide_eq_true hl
            obtain ⟨v0, ev0, a0, bs, rfl, ea0, h0, nd, hll⟩ := R.at_own zi
            obtain ⟨b, vs, hb, hbH, rp⟩ := hll.get z2
            have hat : atI (bs.map V.ref) n = some (.ref b) := by
              unfold atI
              rw [List.length_map, hll.len, z1]
              simp [hb]
            refine ⟨.ref a0, ev0, B, ρ, A, .int n, R, zk, fun vk H1 s1 rk => ?_⟩
            cases (show vk = .int n from rk)
            refine ⟨a0, bs.map .ref, n, .ref b, rfl, rfl, SqL.of (s1 _ _ h0), hat, .inl ⟨rfl, vs, SqL.of (s1 _ _ hbH)⟩, B, ρ, A, [d], R.same s1, evs1 ze, fun us H2 s2 r2 => ?_⟩
            have s12 := s1.trans s2
            cases r2 with
            | @cons _ u _ _ ru rt =>
              cases rt
              have hb2 : H2 b = some (.lst vs) := s12 _ _ hbH
              refine ⟨b, vs, u, rfl, rfl, hb2, reps_len_line rp hl, ?_⟩
              have ex := upd_ext1 (o := .lst (vs ++ [u])) hb2 (fun _ z => by cases z) (fun _ _ z => by cases z)
              have hin : b ∈ A i := by rw [ea0]; exact List.mem_cons_of_mem _ (List.mem_of_getElem? hb)
              have hM : mu B A b := .inr ⟨i, hin⟩
              have hab : a0 ≠ b := fun z => by rw [List.nodup_cons] at nd; exact nd.1 (z ▸ List.mem_of_getElem? hb)
              have hll2 : LL X.w X.K (mu B A) H2 xss bs := hll.ext (O := fun _ => False) (Ext.same s12) (fun _ z => z.elim) (fun _ _ m => m) fun _ _ z => z
              refine q _ _ _ ((Step.same s12 R).trans R (Step.chg (R.same s12) zi ev0 ⟨a0, bs, rfl, ea0, ?_, nd, ?_⟩ (ex.into fun x e => e ▸ hin)))
              · rw [upd_ne hab]; exact s12 _ _ h0
              · refine LL.set upd_same ?_ ex hM (List.nodup_cons.mp nd).2 hll2 hb
                exact (((rp.same s12).append (Reps.one ru))).ext ex (fun x e => e ▸ hM) fun _ _ m => m
          · cases e1
    · cases e1
end
end L3
namespace L3
open PySem PySem.Spec PyProof.Rows L2
/-- [[] for j in ..] -/
def eLots (j : Nat) (a : Ip) : E := fun ρ => match a ρ with
  | some xs => if freeAt [j] ρ && len24 xs.length then some (ρ, .own false (.lsts (xs.map fun _ => []))) else none
  | none => none
section
variable {X : Cx}
theorem jLots {j : Nat} {tg iter : Expr} {scope : Scope} {own : List (Str × Nat)} {pos p2 : Pos} {a : Ip} (hc : X.calm = true) (nd : X.N.Nodup) (hi : JIp X tg iter a) (ok : blkC X.N X.env.scope scope own = true)
    (hg : ∀ (s : Shared) (H : Hp) (C : Addr) (cl : List (Str × Addr)) (fp : List Addr), JG (X.blk s H scope (compEnvC scope cl C X.env) fp) tg (.nm j))
    (hsl : own.map (·.2) = [j] := by rfl) (hs : ∀ x, foldedSetIterable iter X.env x = pure x := by intro _; rfl) :
    J X (.ListComp (.List [] p2) [⟨tg, iter, [], 0⟩] scope pos) (eLots j a) :=
  peimp (pe_lc hc nd hi (blkOk_by ok) hg (fun _ _ _ _ _ => jtsNil) (fun _ _ _ _ _ => pe_empty) hs) fun σ H Q h => by
    obtain ⟨B, ρ, A, ρ', c, R, e1, q⟩ := h
    unfold eLots at e1
    cases z : a ρ with
    | none => rw [z] at e1; cases e1
    | some xs =>
      rw [z] at e1
      dsimp only at e1
      split at e1
      · rename_i hf
        rw [Bool.and_eq_true] at hf
        cases e1
        rw [hsl]
        refine rLots ⟨B, ρ, A, xs, R, z, hf.1, hf.2, fun L bs H' sm hL hb nd2 h1 h2 h3 => ?_⟩
        have hN : ∀ x, x ∈ L :: bs → H x = none ∧ H' x ≠ none := fun x hx => by
          rcases List.mem_cons.mp hx with rfl | hx
          · exact ⟨hL, by rw [h1]; simp⟩
          · exact ⟨hb x hx, by rw [h2 x hx]; simp⟩
        exact q _ _ _ (Step.same sm R) ⟨rfl, L :: bs, ⟨L, bs, rfl, rfl, h1, nd2, ll_new h3 h2⟩, fun x hx => ⟨fun m => R.alive x m (hN x hx).1, .inr (hN x hx).1⟩, R.protect sm hN⟩
      · cases e1
end
end L3
/-! {k: v, ..} with keys that are tuples. -/
namespace L3
open PySem PySem.Spec PyProof.Rows L2
def evsKV : List (P × P) → Env → Option (List (D × D))
  | [], _ => some []
  | q :: r, ρ => match q.1 ρ with
    | some x => (match q.2 ρ with | some y => (match evsKV r ρ with | some t => some ((x, y) :: t) | none => none) | none => none)
    | none => none
def putAll (acc : List (D × D)) : List (D × D) → List (D × D)
  | [] => acc
  | q :: r => putAll (putD acc q.1 q.2) r
def pDisp (ps : List (P × P)) : P := fun ρ => match evsKV ps ρ with
  | some kvs => if allK kvs && decide (kvs.length ≤ 15) then some (.dict (putAll [] kvs)) else none
  | none => none
theorem evsKV_cons {q : P × P} {r : List (P × P)} {ρ : Env} {l : List (D × D)} (h : evsKV (q :: r) ρ = some l) : ∃ x y t, q.1 ρ = some x ∧ q.2 ρ = some y ∧ evsKV r ρ = some t ∧ l = (x, y) :: t := by
  rw [evsKV] at h
  split at h
  · split at h
    · split at h
      · cases h; exact ⟨_, _, _, by assumption, by assumption, by assumption, rfl⟩
      · cases h
    · cases h
  · cases h
section
variable {w : World} {K : PySem.W.Frag} {M : Addr → Prop} {H H' : Hp}
abbrev KVs (w : World) (K : PySem.W.Frag) (M : Addr → Prop) (H : Hp) : List (D × D) → List (V × V) → Prop := Paired fun p q => Rep w K M H p.1 q.1 ∧ Rep w K M H p.2 q.2
theorem rPairs {B : Addr → Prop} {ρ : Env} {σ : L2.St} {A : Nat → List Addr} : ∀ {ps : List (P × P)} {kvs : List (D × D)} {H : Hp} {Q : List (V × V) → Hp → Prop}, Rel w K B ρ σ A H → evsKV ps ρ = some kvs → (∀ vs H', Same H H' → KVs w K (mu B A) H' kvs vs → Q vs H') →
    tPairs (ps.map fun q => (RE w K .c q.1, RE w K .c q.2)) σ H Q
  | [], kvs, H, Q, R, e, q => by cases e; exact q [] H (Same.refl H) .nil
  | p :: ps, kvs, H, Q, R, e, q => by
    obtain ⟨x, y, t, e1, e2, e3, rfl⟩ := evsKV_cons e
    refine ⟨B, ρ, A, x, R, e1, fun v H1 s1 r1 => ⟨B, ρ, A, y, R.same s1, e2, fun u H2 s2 r2 => ?_⟩⟩
    refine rPairs ((R.same s1).same s2) e3 fun vs H3 s3 r3 => q _ _ ((s1.trans s2).trans s3) (.cons ⟨(Rep.same s2 r1).same s3, Rep.same s3 r2⟩ r3)
end
section
variable {X : Cx} {pins : List (Addr × Obj)} {σ : L2.St} {H : Hp} {s : Shared} {M : Addr → Prop}
theorem foldT (I : Inv X pins σ H s) : ∀ {kvs : List (D × D)} {vs : List (V × V)} {us : List (Value × Value)}, allK kvs = true → KVs X.w X.K M H kvs vs → VV vs us → ∃ ps : List (NestedKey × Addr × Value), CarriesH (nestedKind X.prog X.w) s.heap us ps ∧
    ∀ acc ents xs, T3 X.w X.K M H acc ents xs → ∃ ents', T3 X.w X.K M H (putAll acc kvs) ents' (storedAllH xs ps) ∧ ents'.length ≤ acc.length + kvs.length
  | [], vs, us, _, r, v => by
    cases r; cases v
    exact ⟨[], trivial, fun acc ents xs t => ⟨ents, t, by rw [t.len.1]; exact Nat.le_add_right _ _⟩⟩
  | p :: kvs, vs, us, ok, r, v => by
    cases r with
    | @cons _ q _ qs r1 rt =>
    cases v with
    | @cons _ b _ bs v1 vt =>
    simp only [allK, List.all_cons, Bool.and_eq_true] at ok
    obtain ⟨ps, c, f⟩ := foldT I (by rw [allK]; exact ok.2) rt vt
    obtain ⟨nk, ad, ek, ev, eu, kis⟩ := key_is I ok.1 r1.1 v1.1
    obtain ⟨b1, b2⟩ := b
    dsimp only at eu
    subst eu
    refine ⟨(nk, ad, b2) :: ps, ⟨rfl, rfl, kis, c⟩, fun acc ents xs t => ?_⟩
    obtain ⟨ents1, t1, l1⟩ := t.put (b := ad) ek kis.2 (ev ▸ r1.1) r1.2 v1.2
    obtain ⟨ents2, t2, l2⟩ := f _ _ _ t1
    refine ⟨ents2, t2, ?_⟩
    have := t1.len.1
    rw [List.length_cons]
    omega
theorem wpAny_Dict_H {prog : Program} {w : World} {knd : HeapKind prog w NestedKey} {A : Around} {E : Value → Shared → Prop} {env : PySem.Env} {keys : List (Option Expr)} {values : List Expr} {pos : Pos} {Q : Value → Shared → Prop} (hu : knd.room A)
    (hall : keys.all (·.isSome) = true) (hl : keys.length = values.length) (h0 : keys ≠ []) (hlen : keys.length ≤ 15)
    (h : wpAny (model prog w) A (evalPairs (pairTrees keys values env pos)) (fun vs s₁ => ∃ ps, CarriesH knd s₁.heap vs ps ∧ s₁.heap.DictOfH knd s.heap.objs.size [] ∧
      ∀ h' tk, h'.DictOfH knd s.heap.objs.size (storedAllH [] ps) → Heap.SameBut s.heap.objs.size s₁.heap h' → Q (.ref s.heap.objs.size) { s₁ with heap := h', toks := tk }) E
      { s with heap := s.heap.push { cls := .type "dict", data := .dict #[] } }) :
    wpAny (model prog w) A (eval (.Dict keys values pos) env) Q E s := by
  have hn := pairTrees_length keys values env pos hall hl
  have h0' : pairTrees keys values env pos ≠ [] := fun e => h0 (List.length_eq_zero_iff.mp (by rw [← hn, e]; rfl))
  rw [arm_eval_Dict, zip_pairTrees keys values env pos hall hl, dictDisplay_pairs _ h0' (by omega)]
  exact wpAny_bind (wpAny_standAt (wpAny_bind (wpAny_subDictH (knd := knd) (Q := fun d s' => wpAny (model prog w) A (pure (Value.ref d)) Q E s') hu (by omega)
    (wpAny_mono h (fun vs s₁ h₁ => by obtain ⟨ps, hc, hm, hq⟩ := h₁; exact ⟨ps, hc, hm, fun h' tk a b => wpAny_pure (hq h' tk a b)⟩) fun _ _ e => e))))
end
section
variable {X : Cx}
theorem jDisp {k : Kind} {keys : List (Option Expr)} {values : List Expr} {ps : List (P × P)} {pos : Pos} (hu : X.A.units + 64 < cLine) (h : PPs X pos keys values (ps.map fun q => (RE X.w X.K .c q.1, RE X.w X.K .c q.2)))
    (hall : keys.all (·.isSome) = true := by rfl) (hl : keys.length = values.length := by rfl) (h0 : keys ≠ [] := by decide) (h15 : keys.length ≤ 15 := by decide) : JP X k (.Dict keys values pos) (pDisp ps) := ⟨fun pins s σ H Q I h' => by
  obtain ⟨B, ρ, A, d, R, e, q⟩ := h'
  unfold pDisp at e
  cases z : evsKV ps ρ with
  | none => rw [z] at e; cases e
  | some kvs =>
    rw [z] at e
    dsimp only at e
    split at e
    · rename_i hc
      cases e
      rw [Bool.and_eq_true, decide_eq_true_eq] at hc
      obtain ⟨ok, l15⟩ := hc
      have hf := I.hok.fresh (Nat.le_refl s.heap.objs.size)
      have hlo : (s.heap.objs.size == sysModules) = false := beq_eq_false_iff_ne.mpr (Ne.symm (Nat.ne_of_lt I.big))
      have I1 : Inv X pins σ (upd H s.heap.objs.size (.ext (DRaw s.heap.objs.size []))) { s with heap := s.heap.push { cls := .type "dict", data := .dict #[] }, toks := s.toks } :=
        I.laid (a := s.heap.objs.size) (o := .ext (DRaw s.heap.objs.size [])) (t' := s.toks) (fun _ _ q => Heap.get?_push_of_some _ q) (Nat.le_refl _)
          ⟨⟨_, #[], 0, Heap.get?_push_size _ rfl, ⟨rfl, rfl, rfl⟩, rfl, .nil⟩, ⟨_, Heap.get?_push_size _ rfl⟩, fun h1 h2 ⟨o, es, ep, e1, e2⟩ hk => ⟨o, es, ep, hk o e1, e2⟩⟩
      have sm0 := same_new (o := .ext (DRaw s.heap.objs.size [])) hf
      have R1 : Rel X.w X.K (fun x => B x ∨ x = s.heap.objs.size) ρ σ A _ := R.protect (N := fun x => x = s.heap.objs.size) sm0 fun x e => ⟨e ▸ hf, by rw [e, upd_same]; simp⟩
      refine wpAny_Dict_H (knd := nestedKind X.prog X.w) (by have := in1_le X.A; show X.A.units + 8 < cLine; omega) hall hl h0 h15
        (thn (h.run pins _ σ _ (fun vs H2 => Same (upd H s.heap.objs.size (.ext (DRaw s.heap.objs.size []))) H2 ∧ KVs X.w X.K (mu (fun x => B x ∨ x = s.heap.objs.size) A) H2 kvs vs) I1 (rPairs R1 z fun vs H' sm r => ⟨sm, r⟩)) fun us s2 ⟨vs, H2, I2, rel, sm2, kr⟩ => ?_)
      obtain ⟨xs, c, f⟩ := foldT I2 ok kr rel
      obtain ⟨ents, t, lt⟩ := f [] [] [] .nil
      have hat : H2 s.heap.objs.size = some (.ext (DRaw s.heap.objs.size [])) := sm2 _ _ upd_same
      obtain ⟨⟨o0, es0, ep0, g1, g2, g3, g4⟩, _⟩ := I2.hok _ _ hat
      refine ⟨xs, c, ⟨o0, es0, ep0, g1, g2, g3, by cases hes : es0.toList with | nil => rfl | cons _ _ => (rw [hes] at g4; cases g4), (fun _ h => nomatch h), List.nodup_nil⟩, fun h' tk dh hs => ?_⟩
      obtain ⟨ob, es, ep, q1, q2, q3, q4, q5, q6⟩ := dh
      have I3 : Inv X pins σ (upd H2 s.heap.objs.size (.ext (DRaw s.heap.objs.size ents))) { s2 with heap := h', toks := tk } := by
        refine d_write I2 (by rw [hat]; exact True.intro) hs ⟨ob, q1⟩ ⟨⟨ob, es, ep, q1, q2, q3, ?_⟩, ⟨ob, q1⟩, fun h1 h2 ⟨o, es, ep, e1, e2⟩ hk => ⟨o, es, ep, hk o e1, e2⟩⟩
        rw [q4]
        exact t.paired
      have ex := upd_ext1 (o := .ext (DRaw s.heap.objs.size ents)) hat (fun _ z => by cases z) (fun _ _ z => by cases z)
      have sm3 : Same H (upd H2 s.heap.objs.size (.ext (DRaw s.heap.objs.size ents))) := fun a o e => by
        rw [upd_ne (ne_of_none e hf)]
        exact sm2 _ _ (sm0 _ _ e)
      refine ⟨.ref s.heap.objs.size, _, I3, rfl, q _ _ sm3 (Res.down (k0 := .f) ⟨s.heap.objs.size, ents, rfl, hf, ⟨hlo, by rw [sizeLine_eq]; simp at lt; omega, upd_same⟩, ?_, t.nodup.mp q6⟩ R.al (by cases k <;> rfl))⟩
      refine t.repK.ext ex (fun x e => .inl (.inr e)) fun a _ m => ?_
      rcases m with m | m
      · exact m.imp .inl id
      · exact .inl (.inr m)
    · cases e⟩
end
end L3
/-! a, b = x, y through a tuple, new things owned. -/
namespace L3
open PySem PySem.Spec PyProof.Rows L2
theorem Outs.same {w : World} {K : PySem.W.Frag} {M : Addr → Prop} {H H' : Hp} (s : Same H H') : ∀ {cs : List Cell} {vs : List V} {N : List Addr}, Outs w K M H cs vs N → Outs w K M H' cs vs N
  | [], _, _, h => h
  | c :: cs, vs, N, h => by
    obtain ⟨v, r, as, N', e1, e2, ok, d, t⟩ := h
    exact ⟨v, r, as, N', e1, e2, ok.same s, d, t.same s⟩
section
variable {X : Cx}
theorem sParT2 {i j : Nat} {x y : Str} {a b : Expr} {fa fb : E} {px py pt pos : Pos} {kt k2 pt2} (hc : X.calm = true) (nd : X.N.Nodup) (ha : JAc X [a, b] [fa, fb]) (hi : X.N[i]? = some x := by rfl) (hj : X.N[j]? = some y := by rfl)
    (hx : Loc X.env.scope x := by first | exact Or.inl rfl | exact Or.inr rfl) (hfx : X.fn x = true ∨ X.env.scope.names.lookup x = some .local := by first | exact .inl rfl | exact .inr rfl)
    (hy : Loc X.env.scope y := by first | exact Or.inl rfl | exact Or.inr rfl) (hfy : X.fn y = true ∨ X.env.scope.names.lookup y = some .local := by first | exact .inl rfl | exact .inr rfl)
    (hs : swapsWithSole [.Tuple [.Name x px, .Name y py] kt pt] (.Tuple [a, b] k2 pt2) pos.line X.env = pure false := by rfl)
    (hw : swappedStores [.Tuple [.Name x px, .Name y py] kt pt] (.Tuple [a, b] k2 pt2) X.env = pure none := by rfl)
    (h1 : (assignEach [.Tuple [.Name x px, .Name y py] kt pt] X.env).map (·.2) = [assign (.Tuple [.Name x px, .Name y py] kt pt) X.env] := by rfl)
    (q1 : (assignEach [.Name y py] X.env).map (·.2) = assign (.Name y py) X.env :: (assignEach [] X.env).map (·.2) := by rfl)
    (q2 : (assignEach [.Name x px, .Name y py] X.env).map (·.2) = assign (.Name x px) X.env :: (assignEach [.Name y py] X.env).map (·.2) := by rfl)
    (hn : (assignEach [.Name x px, .Name y py] X.env).length = 2 := by rfl) (hst : (assignEach [.Name x px, .Name y py] X.env).findIdx? (·.1) = none := by rfl) :
    S1 X (.Assign [.Tuple [.Name x px, .Name y py] kt pt] (.Tuple [a, b] k2 pt2) pos) (sPar [i, j] [fa, fb]) :=
  psimp (ps_asg (pe_tup ha) (pg_tup hc (pgs_cons (pg_name nd hi hx hfx) (pgs_cons (pg_name nd hj hy hfy) pgs_nil q1) q2) hn hst) hs hw h1) fun Dn σ H h => by
  obtain ⟨B, ρ, A, ρ', o, R, e, q⟩ := h
  unfold sPar at e
  cases z : ecells [fa, fb] ρ with
  | none => rw [z] at e; cases e
  | some r =>
    obtain ⟨ρ1, cs⟩ := r
    rw [z] at e
    dsimp only at e
    cases z2 : puts [i, j] cs ρ1 with
    | none => rw [z2] at e; cases e
    | some ρ2 =>
      rw [z2] at e; cases e
      refine ⟨B, ρ, A, ρ1, cs, R, z, fun vs A1 H1 N S R1 os hn => ?_⟩
      have hl := ecells_len z
      match cs, hl, os, z2 with
      | [c1, c2], _, os, z2 =>
        obtain ⟨v1, v2, rfl⟩ := outs2 os
        refine ⟨by rw [sizeLine_eq]; exact (by decide : 2 ≤ 16777216), fun p hp => ?_⟩
        have sm := same_new (o := .tup [v1, v2]) hp
        obtain ⟨A', S2⟩ := Step.puts R (S.more R sm) (R1.same sm) (os.same sm) hn z2
        exact ⟨p, [v1, v2], rfl, SqT.of upd_same, rfl, v1, [v2], rfl, v2, [], rfl, rfl, q _ _ _ S2⟩
end
end L3
/-! zip(a, b, strict=True) of two tuples: the call. -/
namespace L3
open PySem
open PySem.Sem (wp)
section
variable {M : Model} {U : Around} {E : Value → Shared → Prop} {s : Shared} {env : PySem.Env}
theorem callWith_typeK {pos : Pos} {T : String} {e : Expr} {more : List Expr} {ks : List Keyword} {Q : Value → Shared → Prop}
    (h : wpAny M U (spliced (backTo pos (starEach (e :: more) env))) (fun vs s1 => wpAny M U (evalAll ((backToKw pos (keywordEach ks env)).map (·.2)))
      (fun kv s2 => wpAny M U (call (.type T) vs (((backToKw pos (keywordEach ks env)).filterMap (·.1)).zip kv)) Q E s2) E s1) E s)
    (he : backTo pos (starEach (e :: more) env) = (false, eval e env) :: backTo pos (starEach more env) := by rfl)
    (hp : (backTo pos (starEach (e :: more) env)).any (·.1) = false := by rfl)
    (ha : (backToKw pos (keywordEach ks env)).all (·.1.isSome) = true := by rfl)
    (hk : (backToKw pos (keywordEach ks env)).any (·.1.isNone) = false := by rfl) :
    wpAny M U (callWith pos (.type T) [] (backTo pos (starEach (e :: more) env)) (backToKw pos (keywordEach ks env))) Q E s := by
  have hb : wpAny M U (evalArgs (.type T) true (backTo pos (starEach (e :: more) env)) (backToKw pos (keywordEach ks env))) (fun a s1 => wpAny M U (call (.type T) ([] ++ a.pos) a.kw) Q E s1) E s := by
    rw [he] at h ⊢
    exact PyProof.Rows.evalArgs_kwB ha h
  unfold callWith
  refine wpAny_bind (wpAny_holding (wpAny_mono hb (fun a s1 h1 => wpAny_bind (wpAny_standAt ?_)) fun _ _ x => x))
  simp only [hp, hk, Bool.or_false]
  refine wpAny_bind (wpAny_pure ?_)
  exact wpAny_bind (wpAny_mono h1 (fun r s2 hr => wpAny_bind (wpAny_holding (wpAny_point (wpAny_pure hr)))) fun _ _ x => x)
end
section
variable {prog : Program} {w : World} {U : Around} {E : Value → Shared → Prop} {s : Shared}
theorem typeK_meets {T newId initId : String} {Bn Bi : Builtin} {args : List Value} {kw : List (Str × Value)} {S : Spec} {Q Q1 : Value → Shared → Prop} (ft : TypeCalled T newId initId)
    (hct : checkTypeCall T ⟨args, kw⟩ = pure ()) (hcn : checkBuiltinCall newId ⟨.type T :: args, kw⟩ = pure ())
    (eN : entryFor table newId = some Bn) (eI : entryFor table initId = some Bi) (g : Meets (Bn ⟨.type T :: args, kw⟩) S)
    (h : S U.in1 (wants Q1 E) s)
    (hnext : ∀ obj s1, Q1 obj s1 → s1.TypeIs obj T ∧ argsOk initId ⟨obj :: args, kw⟩ ∧ ∃ Si, Meets (Bi ⟨obj :: args, kw⟩) Si ∧ Si U.in1 (wants (fun r s2 => r = .none ∧ Q obj s2) E) s1) :
    wpAny (model prog w) U (call (.type T) args kw) Q E s := by
  obtain ⟨c0, cs, hmr⟩ := ft.mro
  have hmd := ft.made
  have hsb := ft.sub
  refine wpAny_call (codeAny_of_tree (show wpAny _ _ (callAny (.type T) _) _ _ _ from ?_))
  refine wpAny_pure ⟨Code.quiet_builtin _ (by decide +kernel), codeAny_builtin F.entry_type_call (show _ from ?_)⟩
  rw [Around.under_plain (weight_type_call_type T args kw) (units_type_call_type T args kw)]
  have hn1 := ft.notType
  have hn2 := ft.canCreate
  repeat (any_goals (first | assumption | wp_step))
  refine codeAny_mono (codeAny_call_builtin ft.plain eN (wpAny_of_eq hcn (g prog w U.in1 _ s h))) fun r s1 hr => ?_
  match r, hr with
  | .error e, hr => exact hr
  | .ok (.ret obj), hr =>
    obtain ⟨hT, hok, Si, gi, hsi⟩ := hnext _ _ hr
    have hli := ft.init.lookup
    have hbi := ft.init.bind obj
    repeat (any_goals (first | assumption | wp_step))
    refine codeAny_mono (codeAny_call_builtin ft.init.plain eI (ft.init.check _ _ _ _ _ _ _ _ hT hok (gi prog w U.in1 _ s1 hsi))) fun r2 s2 hr2 => ?_
    match r2, hr2 with
    | .error e, hr2 => exact hr2
    | .ok (.ret r), hr2 =>
      obtain ⟨rfl, hq⟩ := hr2
      repeat (any_goals (first | assumption | wp_step))
  | .ok .brk, hr => exact hr.elim
  | .ok .cont, hr => exact hr.elim
theorem initK_meets {T newId : String} {self : Value} {more : List Value} {kp : Str × Value} {kr : List (Str × Value)} (hl : typeLookup (.type T) "__init__" = pure (some (.builtin "object.__init__")))
    (hm : Bind.madeBy (.type T) = pure (some newId)) (hne : (some newId != some "object.__new__") = true) :
    Meets (Builtin.«object.__init__» ⟨self :: more, kp :: kr⟩) (fun _ R s => s.TypeIs self T ∧ R (.ok (.ret .none)) s) := by
  refine Meets.of_wp fun prog w U R s hs => ?_
  obtain ⟨hT, hq⟩ := hs
  unfold Builtin.«object.__init__»
  repeat (any_goals (first | assumption | wp_step))
  exact ⟨_, rfl, hq⟩
abbrev kS1 : List (Str × Value) := [("strict", .bool true)]
theorem call_typeK {T newId : String} {Bn : Builtin} {args : List Value} {S : Spec} {Q : Value → Shared → Prop} (ft : TypeCalled T newId "object.__init__")
    (hne : (some newId != some "object.__new__") = true) (hct : checkTypeCall T ⟨args, kS1⟩ = pure ()) (hcn : checkBuiltinCall newId ⟨.type T :: args, kS1⟩ = pure ())
    (hok : ∀ obj, argsOk "object.__init__" ⟨obj :: args, kS1⟩) (eN : entryFor table newId = some Bn) (g : Meets (Bn ⟨.type T :: args, kS1⟩) S)
    (h : S U.in1 (wants (fun obj s1 => s1.TypeIs obj T ∧ Q obj s1) E) s) : wpAny (model prog w) U (call (.type T) args kS1) Q E s :=
  typeK_meets ft hct hcn eN F.entry_object_init g h fun obj _ hq =>
    ⟨hq.1, hok obj, _, initK_meets ft.init.lookup ft.made hne, hq.1, rfl, hq.2⟩
theorem newZ (a b : Value) : checkTypeCall "zip" ⟨[a, b], [("strict", .bool true)]⟩ = pure () := by kernel_rfl
theorem newZ2 (a b : Value) : checkBuiltinCall "zip.__new__" ⟨[.type "zip", a, b], [("strict", .bool true)]⟩ = pure () := by kernel_rfl
theorem newZ3 (a b c : Value) : argsOk "object.__init__" ⟨[a, b, c], [("strict", .bool true)]⟩ := by
  unfold argsOk
  rw [signature?_of (id := "object.__init__") (n := ['_', '_', 't', 'i', 'n', 'i', '_', '_']) (o := ['t', 'c', 'e', 'j', 'b', 'o']) (by kernel_rfl) F.owner_object]
  kernel_rfl
abbrev zS1 (h : Heap) (a : Addr) : Heap := h.push { cls := .type "tuple_iterator", data := .fields #[.ref a, .int 0 0] }
abbrev zS2 (h : Heap) (a b : Addr) : Heap := (zS1 h a).push { cls := .type "tuple_iterator", data := .fields #[.ref b, .int 0 0] }
abbrev zS3 (h : Heap) (a b : Addr) : Heap := (zS2 h a b).push { cls := .type "tuple", data := .seq #[.ref h.objs.size, .ref (zS1 h a).objs.size] }
abbrev zS4 (h : Heap) (a b : Addr) : Heap := (zS3 h a b).push { cls := .type "tuple", data := .seq #[.none, .none] }
abbrev zS5 (h : Heap) (a b : Addr) : Heap := (zS4 h a b).push { cls := .type "zip", data := .fields #[.none, .bool false, .bool true, .ref (zS2 h a b).objs.size, .ref (zS3 h a b).objs.size] }
theorem zipS_new (a b : Addr) (xs ys : Array Value) :
    Meets (Builtin.«zip.__new__» ⟨[.type "zip", .ref a, .ref b], kS1⟩) (fun _ R s => s.heap.IsTuple a xs ∧ s.heap.IsTuple b ys ∧
      R (.ok (.ret (.ref (zS4 s.heap a b).objs.size))) { s with heap := zS5 s.heap a b }) :=
  .of_wp fun prog w U R s h => by
    obtain ⟨hp, g, d, tk, os⟩ := s
    obtain ⟨ha, hb, h⟩ := h
    have hsb := sub_zip
    have hA : Heap.IsTuple (Shared.heap ⟨hp, g, d, tk, os⟩) a xs := ha
    have hB : Heap.IsTuple (Shared.heap ⟨hp.push { cls := .type "tuple_iterator", data := .fields #[.ref a, .int 0 0] }, g, d, tk, os⟩) b ys := Heap.IsTuple.push hb _
    wp_walk using wpAny_pyIter_tuple hA, wpAny_pyIter_tuple hB
    exact ⟨_, rfl, h⟩
/-- a zip that is strict -/
abbrev IsZS (h : Heap) (z TI TO : Addr) (f0 : Value) : Prop := h.get? z = some { cls := .type "zip", dict := none, data := .fields #[f0, .bool false, .bool true, .ref TI, .ref TO], slots := #[] }
theorem call_zipS {a b : Addr} {xs ys : Array Value} {Q : Value → Shared → Prop} (ha : s.heap.IsTuple a xs) (hb : s.heap.IsTuple b ys)
    (q : ∀ h', IsZS h' (s.heap.objs.size + 4) (s.heap.objs.size + 2) (s.heap.objs.size + 3) .none → IsPair h' (s.heap.objs.size + 2) (.ref s.heap.objs.size) (.ref (s.heap.objs.size + 1)) →
      IsPair h' (s.heap.objs.size + 3) .none .none → h'.IsTupleIter s.heap.objs.size a 0 → h'.IsTupleIter (s.heap.objs.size + 1) b 0 → h'.objs.size = s.heap.objs.size + 5 →
      (∀ c o, s.heap.get? c = some o → h'.get? c = some o) → Q (.ref (s.heap.objs.size + 4)) { s with heap := h' }) :
    wpAny (model prog w) U (call (.type "zip") [.ref a, .ref b] kS1) Q E s := by
  refine call_typeK F.called_zip (by decide) (newZ _ _) (newZ2 _ _) (fun obj => newZ3 obj _ _) F.entry_zip_new (zipS_new a b xs ys) ⟨ha, hb, ?_⟩
  have n1 : (zS1 s.heap a).objs.size = s.heap.objs.size + 1 := Heap.size_push ..
  have n2 : (zS2 s.heap a b).objs.size = s.heap.objs.size + 2 := by rw [Heap.size_push, n1]
  have n3 : (zS3 s.heap a b).objs.size = s.heap.objs.size + 3 := by rw [Heap.size_push, n2]
  have n4 : (zS4 s.heap a b).objs.size = s.heap.objs.size + 4 := by rw [Heap.size_push, n3]
  have n5 : (zS5 s.heap a b).objs.size = s.heap.objs.size + 5 := by rw [Heap.size_push, n4]
  have up : ∀ {h : Heap} {c : Addr} {o o' : Obj}, h.get? c = some o → (h.push o').get? c = some o := fun e => Heap.get?_push_of_some _ e
  have e5 : (zS5 s.heap a b).get? (zS4 s.heap a b).objs.size = some _ := Heap.get?_push_size _ rfl
  have e4 : (zS5 s.heap a b).get? (zS3 s.heap a b).objs.size = some _ := up (Heap.get?_push_size _ rfl)
  have e3 : (zS5 s.heap a b).get? (zS2 s.heap a b).objs.size = some _ := up (up (Heap.get?_push_size _ rfl))
  have e2 : (zS5 s.heap a b).get? (zS1 s.heap a).objs.size = some _ := up (up (up (Heap.get?_push_size _ rfl)))
  have e1 : (zS5 s.heap a b).get? s.heap.objs.size = some _ := up (up (up (up (Heap.get?_push_size _ rfl))))
  show _ ∧ _
  rw [n2, n3, n4] at e5
  rw [n1, n2] at e3
  rw [n3] at e4
  rw [n1] at e2
  rw [n4]
  exact ⟨⟨_, e5, rfl⟩, q _ e5 e3 e4 ⟨_, e1, rfl, rfl⟩ ⟨_, e2, rfl, rfl⟩ n5 fun c o x => up (up (up (up (up x))))⟩
/-! the next of it -/
theorem orEnd_item {it l : Addr} {i : Nat} {items} {x : Value} {Q : Option Value → Shared → Prop} (hit : s.heap.IsTupleIter it l i) (hl : s.heap.IsTuple l items) (hx : items[i]? = some x)
    (hQ : ∀ h', h'.IsTupleIter it l (i + 1) → Heap.SameBut it s.heap h' → Q (some x) { s with heap := h' }) : wpAny (model prog w) U (Builtin.SmallTypes.nextOrEnd (.ref it)) Q E s := by
  unfold Builtin.SmallTypes.nextOrEnd
  exact wpAny_bind (wpAny_attempt (RZ.nextOf_tuple_item hit hl hx fun h' a b => wpAny_pure (hQ h' a b)))
theorem orEnd_end {it l : Addr} {i : Nat} {items} {Q : Option Value → Shared → Prop} (hh : U.handled = none) (hit : s.heap.IsTupleIter it l i) (hl : s.heap.IsTuple l items) (hx : items[i]? = none)
    (hQ : ∀ h', Heap.ExtBut it s.heap h' → Q none { s with heap := h' }) : wpAny (model prog w) U (Builtin.SmallTypes.nextOrEnd (.ref it)) Q E s := by
  unfold Builtin.SmallTypes.nextOrEnd
  refine wpAny_bind (wpAny_attempt (RZ.nextOf_tuple_end hh hit hl hx fun h' e hk he => ?_))
  obtain ⟨o, ho, hc⟩ := he
  refine wpAny_bind (wpAny_isInstance (T := "StopIteration") (b := true) ⟨o, ho, hc⟩ isSubtype_stop ?_)
  exact wpAny_pure (hQ _ hk)
end
end L3
/-! zip(a, b, strict=True) of two tuples: its turns. -/
namespace L3
open PySem
open PySem.Sem (wp)
section
variable {prog : Program} {w : World} {U : Around} {E : Value → Shared → Prop} {s : Shared}
/-- up to the drawing of the items -/
theorem zs_item {z TI TO j1 j2 m1 m2 : Addr} {k : Nat} {xs ys : Array Value} {x y a b : Value} {Q : Value → Shared → Prop} (D : ZipApart z TI TO j1 j2 m1 m2)
    (hz : IsZS s.heap z TI TO .none) (hI : IsPair s.heap TI (.ref j1) (.ref j2)) (hO : IsPair s.heap TO a b)
    (c1 : s.heap.IsTupleIter j1 m1 k) (c2 : s.heap.IsTupleIter j2 m2 k) (t1 : s.heap.IsTuple m1 xs) (t2 : s.heap.IsTuple m2 ys) (hx : xs[k]? = some x) (hy : ys[k]? = some y)
    (q : ∀ h', IsZS h' z TI TO (rawInt s.heap.objs.size) → IsPair h' TO x y → h'.IsTupleIter j1 m1 (k + 1) → h'.IsTupleIter j2 m2 (k + 1) → IsPair h' s.heap.objs.size x y → h'.objs.size = s.heap.objs.size + 1 →
      (∀ c o, c ≠ z → c ≠ TO → c ≠ j1 → c ≠ j2 → s.heap.get? c = some o → h'.get? c = some o) → Q (.ref s.heap.objs.size) { s with heap := h' }) :
    wpAny (model prog w) U (Builtin.«zip.__next__» ⟨[.ref z], []⟩) (fun fin s' => ∃ v, fin = .done (.ret v) ∧ Q v s') E s := by
  show wpAny _ _ (field (.ref z) 2 >>= fun _ => _) _ _ _
  refine wpAny_bind (wpAny_field hz rfl (x := .bool true) rfl ?_)
  show wpAny _ _ (field (.ref z) 3 >>= fun _ => _) _ _ _
  refine wpAny_bind (wpAny_field hz rfl (x := .ref TI) rfl ?_)
  refine wpAny_bind (wpAny_seqItems hI rfl ?_)
  show wpAny _ _ (Builtin.SmallTypes.ownedTupleIsFree (.ref z) >>= fun _ => _) _ _ _
  refine wpAny_bind ?_
  unfold Builtin.SmallTypes.ownedTupleIsFree
  refine wpAny_bind (wpAny_field hz rfl (x := .none) rfl (wpAny_pure ?_))
  simp only [if_true]
  refine wpAny_bind (wpAny_rule ?_)
  refine wpAny_bind (wpAny_field hz rfl (x := .ref TO) rfl ?_)
  refine wpAny_bind (wpAny_setField_rec hz (by simp) fun g1 y1 b1 => ?_)
  replace y1 : IsZS g1 z TI TO .ellipsis := y1
  refine wpAny_bind ?_
  simp only [List.zipIdx_cons, List.zipIdx_nil, List.forIn_cons, List.forIn_nil]
  refine wpAny_bind (wpAny_bind (wpAny_onRaise ?_))
  show wpAny _ _ (Builtin.SmallTypes.nextOrEnd (.ref j1)) _ _ _
  refine orEnd_item (c1.extBut b1.extBut D.i1z) (t1.extBut b1.extBut D.l1z) hx fun g2 d1 b2 => ?_
  have p2 : IsPair g2 TO a b := b2.extBut _ _ D.TOi1 (b1.extBut _ _ D.TOz hO)
  refine wpAny_bind (wpAny_seqItems p2 rfl ?_)
  refine wpAny_bind (wpAny_updateSeq_pair p2 fun g3 p3 b3 => ?_)
  replace p3 : IsPair g3 TO x b := p3
  refine wpAny_bind (wpAny_letGo (wpAny_pure ?_))
  refine wpAny_bind (wpAny_bind (wpAny_onRaise ?_))
  show wpAny _ _ (Builtin.SmallTypes.nextOrEnd (.ref j2)) _ _ _
  refine orEnd_item (((c2.extBut b1.extBut D.i2z).extBut b2.extBut D.i12.symm).extBut b3.extBut D.TOi2.symm) (((t2.extBut b1.extBut D.l2z).extBut b2.extBut D.l2i1).extBut b3.extBut D.l2TO) hy fun g4 d2 b4 => ?_
  have p4 : IsPair g4 TO x b := b4.extBut _ _ D.TOi2 p3
  refine wpAny_bind (wpAny_seqItems p4 rfl ?_)
  refine wpAny_bind (wpAny_updateSeq_pair p4 fun g5 p5 b5 => ?_)
  replace p5 : IsPair g5 TO x y := p5
  refine wpAny_bind (wpAny_letGo (wpAny_pure (wpAny_pure ?_)))
  refine wpAny_bind (wpAny_seqItems p5 rfl ?_)
  refine wpAny_bind (wpAny_newTuple ?_)
  have es : g5.objs.size = s.heap.objs.size := by rw [b5.1, b4.1, b3.1, b2.1, b1.1]
  have y5 : IsZS g5 z TI TO .ellipsis := b5.extBut _ _ D.TOz.symm (b4.extBut _ _ D.i2z.symm (b3.extBut _ _ D.TOz.symm (b2.extBut _ _ D.i1z.symm y1)))
  have k5 : ∀ c o, c ≠ z → c ≠ TO → c ≠ j1 → c ≠ j2 → s.heap.get? c = some o → g5.get? c = some o := fun c o n1 n2 n3 n4 e => b5.extBut _ _ n2 (b4.extBut _ _ n4 (b3.extBut _ _ n2 (b2.extBut _ _ n3 (b1.extBut _ _ n1 e))))
  have r1 : g5.IsTupleIter j1 m1 (k + 1) := ((d1.extBut b3.extBut D.TOi1.symm).extBut b4.extBut D.i12).extBut b5.extBut D.TOi1.symm
  have r2 : g5.IsTupleIter j2 m2 (k + 1) := d2.extBut b5.extBut D.TOi2.symm
  have zl : z < g5.objs.size := Heap.lt_size y5
  show wpAny _ _ (Builtin.SmallTypes.ownedTupleHandOut (.ref z) (.ref g5.objs.size) >>= fun _ => _) _ _ _
  refine wpAny_bind ?_
  unfold Builtin.SmallTypes.ownedTupleHandOut
  have y6 : IsZS (g5.push { cls := .type "tuple", data := .seq #[x, y] }) z TI TO .ellipsis := Heap.get?_push_of_some _ y5
  refine wpAny_bind (wpAny_setField_rec y6 (by simp) fun g7 y7 b7 => ?_)
  replace y7 : IsZS g7 z TI TO (rawInt g5.objs.size) := y7
  refine wpAny_setField_rec y7 (by simp) fun g8 y8 b8 => ?_
  replace y8 : IsZS g8 z TI TO (rawInt g5.objs.size) := y8
  have up : ∀ c o, c ≠ z → g5.get? c = some o → g8.get? c = some o := fun c o n e => b8.extBut _ _ n (b7.extBut _ _ n (Heap.get?_push_of_some _ e))
  have T8 : IsPair g8 g5.objs.size x y := b8.extBut _ _ (Nat.ne_of_gt zl) (b7.extBut _ _ (Nat.ne_of_gt zl) (Heap.get?_push_size _ rfl))
  have s8 : g8.objs.size = g5.objs.size + 1 := by rw [b8.1, b7.1, Heap.size_push]
  rw [es] at y8 T8 s8
  refine wpAny_pure ⟨_, rfl, ?_⟩
  show Q (.ref g5.objs.size) _
  rw [es]
  exact q g8 y8 (up _ _ D.TOz p5) (r1.at fun o e => up _ o D.i1z e) (r2.at fun o e => up _ o D.i2z e) T8 s8 fun c o n1 n2 n3 n4 e => up c o n1 (k5 c o n1 n2 n3 n4 e)
theorem zs_end {z TI TO j1 j2 m1 m2 : Addr} {k : Nat} {xs ys : Array Value} {a b : Value} {Q : PySem.Fin → Shared → Prop} (hh : U.handled = none) (D : ZipApart z TI TO j1 j2 m1 m2)
    (hz : IsZS s.heap z TI TO .none) (hI : IsPair s.heap TI (.ref j1) (.ref j2)) (hO : IsPair s.heap TO a b)
    (c1 : s.heap.IsTupleIter j1 m1 k) (c2 : s.heap.IsTupleIter j2 m2 k) (t1 : s.heap.IsTuple m1 xs) (t2 : s.heap.IsTuple m2 ys) (hx : xs[k]? = none) (hy : ys[k]? = none)
    (q : ∀ h' e, (∀ c o, c ≠ z → c ≠ TO → c ≠ j1 → c ≠ j2 → s.heap.get? c = some o → h'.get? c = some o) → (∃ o, h'.get? e = some o ∧ o.cls = .type "StopIteration") → E (.ref e) { s with heap := h' }) :
    wpAny (model prog w) U (Builtin.«zip.__next__» ⟨[.ref z], []⟩) Q E s := by
  show wpAny _ _ (field (.ref z) 2 >>= fun _ => _) _ _ _
  refine wpAny_bind (wpAny_field hz rfl (x := .bool true) rfl ?_)
  show wpAny _ _ (field (.ref z) 3 >>= fun _ => _) _ _ _
  refine wpAny_bind (wpAny_field hz rfl (x := .ref TI) rfl ?_)
  refine wpAny_bind (wpAny_seqItems hI rfl ?_)
  show wpAny _ _ (Builtin.SmallTypes.ownedTupleIsFree (.ref z) >>= fun _ => _) _ _ _
  refine wpAny_bind ?_
  unfold Builtin.SmallTypes.ownedTupleIsFree
  refine wpAny_bind (wpAny_field hz rfl (x := .none) rfl (wpAny_pure ?_))
  simp only [if_true]
  refine wpAny_bind (wpAny_rule ?_)
  refine wpAny_bind (wpAny_field hz rfl (x := .ref TO) rfl ?_)
  refine wpAny_bind (wpAny_setField_rec hz (by simp) fun g1 y1 b1 => ?_)
  replace y1 : IsZS g1 z TI TO .ellipsis := y1
  refine wpAny_bind ?_
  simp only [List.zipIdx_cons, List.zipIdx_nil, List.forIn_cons, List.forIn_nil]
  refine wpAny_bind (wpAny_bind (wpAny_onRaise ?_))
  show wpAny _ _ (Builtin.SmallTypes.nextOrEnd (.ref j1)) _ _ _
  refine orEnd_end hh (c1.extBut b1.extBut D.i1z) (t1.extBut b1.extBut D.l1z) hx fun g2 b2 => ?_
  have y2 : IsZS g2 z TI TO .ellipsis := b2 _ _ D.i1z.symm y1
  refine wpAny_bind (wpAny_setField_rec y2 (by simp) fun g3 y3 b3 => ?_)
  refine wpAny_bind (wpAny_bind ?_)
  simp only [List.drop_succ_cons, List.drop_zero, List.zipIdx_cons, List.zipIdx_nil, List.forIn_cons, List.forIn_nil]
  have a2 : Heap.IsTuple g3 m2 ys := ((t2.extBut b1.extBut D.l2z).extBut b2 D.l2i1).extBut b3.extBut D.l2z
  have a1 : g3.IsTupleIter j2 m2 k := ((c2.extBut b1.extBut D.i2z).extBut b2 D.i12.symm).extBut b3.extBut D.i2z
  refine wpAny_bind (wpAny_bind (orEnd_end hh a1 a2 hy fun g4 b4 => ?_))
  refine wpAny_pure (wpAny_pure ?_)
  refine wpAny_bind (wpAny_rule ?_)
  unfold Builtin.SmallTypes.stopIteration
  refine wpAny_bind ?_
  simp only [newExc, newTuple]
  refine wpAny_bind (wpAny_newObj_type ?_ (by size_fits))
  refine wpAny_bind (m := firstArgMember _ _) (wpAny_of_eq (a := Value.none) (by first | rfl | (simp only [firstArgMember]; rfl)) ?_)
  refine wpAny_newObj_type ?_ (by size_fits)
  simp only [raiseNew]
  refine wpAny_bind (wpAny_handled ?_)
  first | rw [show U.in1.handled = none from hh] | rw [hh]
  refine wpAny_bind (wpAny_pure (wpAny_throw ?_))
  refine q _ _ (fun c o n1 n2 n3 n4 e => ?_) ⟨_, Heap.get?_push_size _ rfl, rfl⟩
  exact Heap.get?_push_of_some _ (Heap.get?_push_of_some _ (b4 _ _ n4 (b3.extBut _ _ n1 (b2 _ _ n3 (b1.extBut _ _ n1 e)))))
end
end L3
/-! zip(a, b, strict=True) of two tuples: walked. -/
namespace L3
open PySem PySem.Spec PyProof.Rows L2
section
variable {prog : Program} {w : World} {U : Around} {E : Value → Shared → Prop} {s : Shared}
theorem zs_next {z TI TO j1 j2 m1 m2 : Addr} {k : Nat} {xs ys : Array Value} {x y a b : Value} {Q : Option Value → Shared → Prop} (D : ZipApart z TI TO j1 j2 m1 m2)
    (hz : IsZS s.heap z TI TO .none) (hI : IsPair s.heap TI (.ref j1) (.ref j2)) (hO : IsPair s.heap TO a b)
    (c1 : s.heap.IsTupleIter j1 m1 k) (c2 : s.heap.IsTupleIter j2 m2 k) (t1 : s.heap.IsTuple m1 xs) (t2 : s.heap.IsTuple m2 ys) (hx : xs[k]? = some x) (hy : ys[k]? = some y)
    (q : ∀ h', IsZS h' z TI TO (rawInt s.heap.objs.size) → IsPair h' TO x y → h'.IsTupleIter j1 m1 (k + 1) → h'.IsTupleIter j2 m2 (k + 1) → IsPair h' s.heap.objs.size x y → h'.objs.size = s.heap.objs.size + 1 →
      (∀ c o, c ≠ z → c ≠ TO → c ≠ j1 → c ≠ j2 → s.heap.get? c = some o → h'.get? c = some o) → Q (some (.ref s.heap.objs.size)) { s with heap := h' }) :
    wpAny (model prog w) U (pyNext (.ref z)) Q E s := by
  have ty : s.TypeIs (.ref z) "zip" := ⟨_, hz, rfl⟩
  unfold pyNext
  exact wpAny_bind (wpAny_attempt (wpAny_callSpecial?_slot (name := Str.ofString "__next__") ty F.slot_zip_next
    (wpAny_call_entry F.slot_zip_next ty F.entry_zip_next (zs_item D hz hI hO c1 c2 t1 t2 hx hy fun h' p1 p2 p3 p4 p5 p6 p7 => wpAny_pure (q h' p1 p2 p3 p4 p5 p6 p7)) (F.args_zip_next_1 _))))
theorem zs_last {z TI TO j1 j2 m1 m2 : Addr} {k : Nat} {xs ys : Array Value} {a b : Value} {Q : Option Value → Shared → Prop} (hh : U.handled = none) (D : ZipApart z TI TO j1 j2 m1 m2)
    (hz : IsZS s.heap z TI TO .none) (hI : IsPair s.heap TI (.ref j1) (.ref j2)) (hO : IsPair s.heap TO a b)
    (c1 : s.heap.IsTupleIter j1 m1 k) (c2 : s.heap.IsTupleIter j2 m2 k) (t1 : s.heap.IsTuple m1 xs) (t2 : s.heap.IsTuple m2 ys) (hx : xs[k]? = none) (hy : ys[k]? = none)
    (q : ∀ h', (∀ c o, c ≠ z → c ≠ TO → c ≠ j1 → c ≠ j2 → s.heap.get? c = some o → h'.get? c = some o) → Q none { s with heap := h' }) : wpAny (model prog w) U (pyNext (.ref z)) Q E s := by
  have ty : s.TypeIs (.ref z) "zip" := ⟨_, hz, rfl⟩
  unfold pyNext
  refine wpAny_bind (wpAny_attempt (wpAny_callSpecial?_slot (name := Str.ofString "__next__") ty F.slot_zip_next
    (wpAny_call_entry F.slot_zip_next ty F.entry_zip_next (zs_end hh D hz hI hO c1 c2 t1 t2 hx hy fun h' e hk he => ?_) (F.args_zip_next_1 _))))
  obtain ⟨oe, ho, hc⟩ := he
  exact wpAny_bind (wpAny_isInstance (T := "StopIteration") (b := true) ⟨oe, ho, hc⟩ isSubtype_stop (wpAny_pure (q _ hk)))
theorem zs_go {elts : List Expr} {kk : Nat} {pos : Pos} {z TI TO T : Addr} {Q : Unit → Shared → Prop} (hz : IsZS s.heap z TI TO (rawInt T))
    (q : ∀ h', IsZS h' z TI TO .none → Heap.SameBut z s.heap h' → Q () { s with heap := h' }) : wpAny (model prog w) U (letOwnedTupleGo (.Tuple elts kk pos) (.ref z) (.ref T)) Q E s := by
  unfold letOwnedTupleGo
  refine wpAny_bind (wpAny_load hz ?_)
  show wpAny _ _ (if (["enumerate", "zip", "dict_itemiterator", "dict_reverseitemiterator", "odict_iterator", "itertools.zip_longest", "itertools.pairwise"].contains "zip" && (#[rawInt T, .bool false, .bool true, .ref TI, .ref TO] : Array Value)[0]? == some (rawInt T)) = true then _ else _) Q E s
  rw [if_pos (by simp)]
  refine wpAny_bind (wpAny_rule (show wpAny _ _ (setField (.ref z) 0 .none) Q E s from ?_))
  exact wpAny_setField_rec hz (by simp) fun h' y' b' => q h' y' b'
theorem zs_iter {z TI TO : Addr} {f0 : Value} {Q : Value → Shared → Prop} (hz : IsZS s.heap z TI TO f0) (q : Q (.ref z) s) : wpAny (model prog w) U (pyIter (.ref z)) Q E s := by
  have ty : s.TypeIs (.ref z) "zip" := ⟨_, hz, rfl⟩
  refine wpAny_pyIter_slot ty F.slot_zip_iter (wpAny_call_entry F.slot_zip_iter ty F.entry_zip_iter (show wpAny _ _ (ret (.ref z)) _ _ s from ?_) (F.args_zip_iter_1 _))
  exact wpAny_pure ⟨_, rfl, "zip", _, ty, F.slot_zip_next.lookup, q⟩
end
/-- the tuples at a and b, of one length, as they stand at each turn; the items in new pairs -/
def ItzS (K : PySem.W.Frag) (a b : Addr) : It :=
  ⟨fun i H => ∃ (xs ys : List V) (x y : V), SqT K H a xs ∧ SqT K H b ys ∧ xs[i]? = some x ∧ ys[i]? = some y,
    fun i H v H' => ∃ T x y, v = .ref T ∧ H T = none ∧ H' = upd H T (.tup [x, y]) ∧ (∀ xs, SqT K H a xs → xs[i]? = some x) ∧ ∀ ys, SqT K H b ys → ys[i]? = some y,
    fun i H => ∃ xs ys : List V, SqT K H a xs ∧ SqT K H b ys ∧ xs.length ≤ i ∧ ys.length ≤ i⟩
theorem turn_zs {P : Program} {w : World} {K : PySem.W.Frag} {elts : List Expr} {kk : Nat} {tpos : Pos} {a b z TI TO j1 j2 : Addr} (D : ZipApart z TI TO j1 j2 a b) :
    Turn P w K (.Tuple elts kk tpos) (ItzS K a b) [z, TI, TO, j1, j2] z (fun i h => IsZS h z TI TO .none ∧ IsPair h TI (.ref j1) (.ref j2) ∧ (∃ x y, IsPair h TO x y) ∧ h.IsTupleIter j1 a i ∧ h.IsTupleIter j2 b i) where
  mem := by simp
  obj := fun i h st c hc => by
    obtain ⟨hz, hI, ⟨x, y, hO⟩, ⟨o1, e1, _, d1⟩, ⟨o2, e2, _, d2⟩⟩ := st
    simp only [List.mem_cons, List.not_mem_nil, or_false] at hc
    rcases hc with rfl | rfl | rfl | rfl | rfl
    · exact ⟨_, hz, fun v q => nomatch q⟩
    · exact ⟨_, hI, fun v q => nomatch q⟩
    · exact ⟨_, hO, fun v q => nomatch q⟩
    · exact ⟨o1, e1, fun v q => by rw [d1] at q; cases q⟩
    · exact ⟨o2, e2, fun v q => by rw [d2] at q; cases q⟩
  keep := fun i h h' st k => by
    obtain ⟨hz, hI, ⟨x, y, hO⟩, r1, r2⟩ := st
    exact ⟨k z (by simp) _ hz, k TI (by simp) _ hI, ⟨x, y, k TO (by simp) _ hO⟩, r1.at fun o q => k j1 (by simp) o q, r2.at fun o q => k j2 (by simp) o q⟩
  item := by
    intro X hP hw hK hc i pins s σ H E I hf st hg
    subst hP hw hK
    obtain ⟨hz, hI, ⟨x0, y0, hO⟩, r1, r2⟩ := st
    obtain ⟨xs, ys, x, y, ha, hb, hx, hy⟩ := hg
    obtain ⟨its, rv, t1, _⟩ := I.tuple ha
    obtain ⟨its2, rv2, t2, _⟩ := I.tuple hb
    obtain ⟨u, hu, ru⟩ := rv.get hx
    obtain ⟨u2, hu2, ru2⟩ := rv2.get hy
    have zl : z < s.heap.objs.size := Heap.lt_size hz
    refine zs_next D hz hI hO r1 r2 t1 t2 (x := u) (y := u2) (by simpa using hu) (by simpa using hu2) fun h' y' O' r1' r2' hT hsz hk => ?_
    refine ⟨_, rfl, zs_go (s := { s with heap := h' }) y' fun g z2 sb => ?_⟩
    have T2 : g.get? s.heap.objs.size = some { cls := .type "tuple", data := .seq #[u, u2] } := (sb.2 _ (Nat.ne_of_gt zl)).trans hT
    have new : ObjOk X.prog X.w (upd H s.heap.objs.size (.tup [x, y])) g s.heap.objs.size (.tup [x, y]) := ⟨by show 2 ≤ sizeLine; decide, [u, u2], .cons ru (.cons ru2 .nil), ⟨_, T2, rfl, _, rfl⟩⟩
    have ne : ∀ {c d : Addr}, c ∉ [z, TI, TO, j1, j2] → d ∈ [z, TI, TO, j1, j2] → c ≠ d := fun h1 h2 e => h1 (e ▸ h2)
    have I1 : Inv X pins σ (upd H s.heap.objs.size (.tup [x, y])) { s with heap := g } :=
      I.turnedNew (t' := s.toks) (ch := [z, TI, TO, j1, j2]) (fun c o hb q => (sb.2 c (ne hb (by simp))).trans (hk c o (ne hb (by simp)) (ne hb (by simp)) (ne hb (by simp)) (ne hb (by simp)) q)) hf (Nat.le_refl _) new
    refine ⟨.ref s.heap.objs.size, _, I1, rfl, ⟨_, x, y, rfl, I.hok.fresh (Nat.le_refl _), rfl, fun l hl => by rw [I.tuple_inj hl ha]; exact hx, fun l hl => by rw [I.tuple_inj hl hb]; exact hy⟩, ⟨z2, ?_, ⟨u, u2, ?_⟩, ?_, ?_⟩, fun c hcm => ?_⟩
    · exact (sb.2 _ D.TIz).trans (hk _ _ D.TIz D.TITO D.TIi1 D.TIi2 hI)
    · exact (sb.2 _ D.TOz).trans O'
    · exact r1'.at fun o q => (sb.2 _ D.i1z).trans q
    · exact r2'.at fun o q => (sb.2 _ D.i2z).trans q
    · have lt : c < s.heap.objs.size := by
        have hcm' := hcm
        simp only [List.mem_cons, List.not_mem_nil, or_false] at hcm'
        rcases hcm' with rfl | rfl | rfl | rfl | rfl
        · exact zl
        · exact Heap.lt_size hI
        · exact Heap.lt_size hO
        · obtain ⟨_, e1, _⟩ := r1; exact Heap.lt_size e1
        · obtain ⟨_, e2, _⟩ := r2; exact Heap.lt_size e2
      rw [upd_ne (Nat.ne_of_lt lt)]
      exact (hf c hcm).1
  done := by
    intro X hP hw hK hc i pins s σ H E I hf st hg
    subst hP hw hK
    obtain ⟨hz, hI, ⟨x0, y0, hO⟩, r1, r2⟩ := st
    obtain ⟨xs, ys, ha, hb, n1, n2⟩ := hg
    obtain ⟨its, rv, t1, _⟩ := I.tuple ha
    obtain ⟨its2, rv2, t2, _⟩ := I.tuple hb
    have l1 := rv.length
    have l2 := rv2.length
    have ne : ∀ {c d : Addr}, c ∉ [z, TI, TO, j1, j2] → d ∈ [z, TI, TO, j1, j2] → c ≠ d := fun h1 h2 e => h1 (e ▸ h2)
    exact zs_last (I.ok.hd hc) D hz hI hO r1 r2 t1 t2 (by simp; omega) (by simp; omega) fun h' hk => ⟨rfl, I.turnedL (t' := s.toks) (ch := [z, TI, TO, j1, j2]) (fun c o hb q =>
      hk c o (ne hb (by simp)) (ne hb (by simp)) (ne hb (by simp)) (ne hb (by simp)) q) hf⟩
  self := fun A i s Q E st h => zs_iter st.1 h
def iZipS (K : PySem.W.Frag) (ta : TA) : L2.TI := fun σ H R => ta σ H fun vs H1 => ∃ a b xs ys, vs = [.ref a, .ref b] ∧ SqT K H1 a xs ∧ SqT K H1 b ys ∧ R (ItzS K a b) H1
theorem pi_zipS {X : Cx} {e e2 : Expr} {ta : TA} {p pos tpos kp cp : Pos} {elts : List Expr} {kk cj} (hg : Gl X "zip") (hm : X.mg "zip" = none) (ha : PA X [e, e2] ta)
    (hs : backTo pos (starEach [e, e2] X.env) = (false, eval e X.env) :: backTo pos (starEach [e2] X.env) := by rfl) (hp : (backTo pos (starEach [e, e2] X.env)).any (·.1) = false := by rfl) :
    PI X (.Tuple elts kk tpos) (.Call (.Name "zip" p) [e, e2] [⟨some "strict", .Constant (.bool true) cj cp, kp⟩] pos) (iZipS X.K ta) := by
  refine ⟨fun pins s σ H R I h => ?_⟩
  show wpAny _ _ (eval (.Name "zip" p) X.env >>= fun f => callWith pos f [] (backTo pos (starEach [e, e2] X.env)) (backToKw pos (keywordEach [⟨some "strict", .Constant (.bool true) cj cp, kp⟩] X.env))) _ _ _
  refine wpAny_bind (ld_blt I hg hm PyProof.Rows.boot_zip ?_)
  refine callWith_typeK (thn (ha.run pos pins s σ H _ I h) fun us s1 ⟨vs, H1, I1, r1, q1⟩ => ?_) hs hp
  obtain ⟨a, b, xs, ys, ex, ta', tb', q1⟩ := q1
  subst ex
  refine PyProof.Rows.kws_cons (Constant_bool (PyProof.Rows.kws_nil ?_))
  cases r1 with
  | cons r rr =>
    cases rr with
    | cons r' rr =>
      cases rr
      cases r
      cases r'
      obtain ⟨its, rv, t1, _⟩ := I1.tuple ta'
      obtain ⟨its2, rv2, t2, _⟩ := I1.tuple tb'
      obtain ⟨o1, ho1, _⟩ := id t1
      obtain ⟨o2, ho2, _⟩ := id t2
      refine call_zipS (show s1.heap.IsTuple a its.toArray from t1) (show s1.heap.IsTuple b its2.toArray from t2) fun h' hz hI hO c1 c2 hsz hk => zs_iter hz ?_
      have I2 : Inv X pins σ H1 { s1 with heap := h' } := I1.kept (t' := s1.toks) hk
      refine ⟨s1.heap.objs.size + 4, [s1.heap.objs.size + 4, s1.heap.objs.size + 2, s1.heap.objs.size + 3, s1.heap.objs.size, s1.heap.objs.size + 1], _, _, H1, rfl, I2, turn_zs (PySem.W.ktu_apart s1.heap.objs.size a b (Heap.lt_size ho1) (Heap.lt_size ho2)), ⟨hz, hI, ⟨_, _, hO⟩, c1, c2⟩, fun c hc => ?_, q1⟩
      have hle : s1.heap.objs.size ≤ c := by
        simp only [List.mem_cons, List.not_mem_nil, or_false] at hc
        rcases hc with rfl | rfl | rfl | rfl | rfl <;> omega
      exact I1.fpOk hle (I1.hok.fresh hle)
end L3
/-! zip of two tuples or of two lists, strict or not, as something that is walked. -/
namespace L3
open PySem PySem.Spec PyProof.Rows L2
def zipD (xs ys : List D) : List D := List.zipWith (fun x y => PyData.tuple [x, y]) xs ys
def zipV (st : Bool) : D → D → Option (List D)
  | .tuple xs, .tuple ys => if !st || decide (xs.length = ys.length) then some (zipD xs ys) else none
  | .list xs, .list ys => if !st then some (zipD xs ys) else none
  | _, _ => none
def ipZ (st : Bool) (a b : P) : Ip := fun ρ => match a ρ, b ρ with
  | some x, some y => zipV st x y
  | _, _ => none
def iZ (st : Bool) (a b : P) : Ie := fun ρ => match a ρ, b ρ with
  | some x, some y => (match zipV st x y with | some zs => some (ρ, zs) | none => none)
  | _, _ => none
section
variable {w : World} {K : PySem.W.Frag}
theorem zipD_len (xs ys : List D) : (zipD xs ys).length = min xs.length ys.length := by unfold zipD; rw [List.length_zipWith]
theorem zipD_get {xs ys : List D} {i : Nat} {x y : D} (hx : xs[i]? = some x) (hy : ys[i]? = some y) : (zipD xs ys)[i]? = some (.tuple [x, y]) := by
  unfold zipD
  rw [List.getElem?_zipWith, hx, hy]
theorem pair_rep {M : Addr → Prop} {H : Hp} {T : Addr} {x y : D} {u v : V} (hT : H T = none) (hx : Rep w K M H x u) (hy : Rep w K M H y v) : Same H (upd H T (.tup [u, v])) ∧ Rep w K M (upd H T (.tup [u, v])) (.tuple [x, y]) (.ref T) := by
  have s : Same H (upd H T (.tup [u, v])) := same_new hT
  exact ⟨s, T, [u, v], rfl, SqT.of upd_same, u, [v], rfl, hx.same s, v, [], rfl, hy.same s, rfl⟩
theorem ok_zipT {xs ys : List D} {a b : Addr} : ItOk w K (zipD xs ys) (RZ.ItzT K a b) fun B A H => Rep w K (mu B A) H (.tuple xs) (.ref a) ∧ Rep w K (mu B A) H (.tuple ys) (.ref b) where
  good := fun B => ⟨fun i A H hi h => by
    rw [zipD_len] at hi
    obtain ⟨⟨a', us, e1, k1, r1⟩, ⟨b', vs, e2, k2, r2⟩⟩ := id h
    cases e1; cases e2
    have l1 := r1.length
    have l2 := r2.length
    refine ⟨⟨us, vs, us[i]'(by omega), vs[i]'(by omega), k1, k2, by rw [List.getElem?_eq_getElem], by rw [List.getElem?_eq_getElem]⟩, fun v H' y => ?_⟩
    obtain ⟨T, u, v', rfl, hT, rfl, f1, f2⟩ := y
    obtain ⟨x, ex, rx⟩ := r1.getV (f1 us k1)
    obtain ⟨y, ey, ry⟩ := r2.getV (f2 vs k2)
    obtain ⟨s, rp⟩ := pair_rep hT rx ry
    refine ⟨s, ⟨h.1.same s, h.2.same s⟩, fun z hz => ?_⟩
    rw [zipD_get ex ey] at hz
    cases hz
    exact rp, fun i A H hi h => by
    rw [zipD_len] at hi
    obtain ⟨⟨a', us, e1, k1, r1⟩, ⟨b', vs, e2, k2, r2⟩⟩ := id h
    cases e1; cases e2
    have l1 := r1.length
    have l2 := r2.length
    exact ⟨us, vs, k1, k2, by omega⟩⟩
  same := fun B A H H' s h => ⟨h.1.same s, h.2.same s⟩
  prot := fun B N A H H' s hN h => ⟨prot_rep s hN h.1, prot_rep s hN h.2⟩
theorem ok_zipS {xs ys : List D} {a b : Addr} (hl : xs.length = ys.length) : ItOk w K (zipD xs ys) (ItzS K a b) fun B A H => Rep w K (mu B A) H (.tuple xs) (.ref a) ∧ Rep w K (mu B A) H (.tuple ys) (.ref b) where
  good := fun B => ⟨fun i A H hi h => by
    obtain ⟨g1, g2⟩ := ((ok_zipT (w := w) (K := K) (xs := xs) (ys := ys) (a := a) (b := b)).good B).go i A H hi h
    exact ⟨g1, g2⟩, fun i A H hi h => by
    rw [zipD_len] at hi
    obtain ⟨⟨a', us, e1, k1, r1⟩, ⟨b', vs, e2, k2, r2⟩⟩ := id h
    cases e1; cases e2
    have l1 := r1.length
    have l2 := r2.length
    exact ⟨us, vs, k1, k2, by omega, by omega⟩⟩
  same := fun B A H H' s h => ⟨h.1.same s, h.2.same s⟩
  prot := fun B N A H H' s hN h => ⟨prot_rep s hN h.1, prot_rep s hN h.2⟩
/-- .. of lists, as they are read -/
theorem ok_zipL {xs ys : List D} {a b : Addr} : ItOk w K (zipD xs ys) (Itz K a b) fun B A H => Rd1 w K (mu B A) H (.list xs) (.ref a) ∧ Rd1 w K (mu B A) H (.list ys) (.ref b) where
  good := fun B => ⟨fun i A H hi h => by
    rw [zipD_len] at hi
    obtain ⟨⟨a', us, e1, k1, r1⟩, ⟨b', vs, e2, k2, r2⟩⟩ := id h
    cases e1; cases e2
    have l1 := r1.length
    have l2 := r2.length
    refine ⟨⟨us, vs, us[i]'(by omega), vs[i]'(by omega), SqL.of k1, SqL.of k2, by rw [List.getElem?_eq_getElem], by rw [List.getElem?_eq_getElem]⟩, fun v H' y => ?_⟩
    obtain ⟨T, u, v', rfl, hT, rfl, f1, f2⟩ := y
    obtain ⟨x, ex, rx⟩ := r1.getV (f1 us (SqL.of k1))
    obtain ⟨y, ey, ry⟩ := r2.getV (f2 vs (SqL.of k2))
    obtain ⟨s, rp⟩ := pair_rep hT rx ry
    refine ⟨s, ⟨Rd1.same s h.1, Rd1.same s h.2⟩, fun z hz => ?_⟩
    rw [zipD_get ex ey] at hz
    cases hz
    exact rp, fun i A H hi h => by
    rw [zipD_len] at hi
    obtain ⟨⟨a', us, e1, k1, r1⟩, ⟨b', vs, e2, k2, r2⟩⟩ := id h
    cases e1; cases e2
    have l1 := r1.length
    have l2 := r2.length
    exact ⟨us, vs, SqL.of k1, SqL.of k2, by omega⟩⟩
  same := fun B A H H' s h => ⟨Rd1.same s h.1, Rd1.same s h.2⟩
  prot := fun B N A H H' s hN h => by
    obtain ⟨⟨a', us, e1, k1, r1⟩, ⟨b', vs, e2, k2, r2⟩⟩ := h
    exact ⟨⟨a', us, e1, s _ _ k1, prot_reps s hN r1⟩, ⟨b', vs, e2, s _ _ k2, prot_reps s hN r2⟩⟩
theorem ok_zipLc {xs ys : List D} {a b : Addr} : ItOk w K (zipD xs ys) (Itz K a b) fun B A H => Rep w K (mu B A) H (.list xs) (.ref a) ∧ Rep w K (mu B A) H (.list ys) (.ref b) where
  good := fun B => ⟨fun i A H hi h => by
    obtain ⟨g1, g2⟩ := ((ok_zipL (w := w) (K := K) (xs := xs) (ys := ys) (a := a) (b := b)).good B).go i A H hi ⟨h.1.rd1, h.2.rd1⟩
    exact ⟨g1, fun v H' y => ⟨(g2 v H' y).1, ⟨h.1.same (g2 v H' y).1, h.2.same (g2 v H' y).1⟩, (g2 v H' y).2.2⟩⟩, fun i A H hi h => ((ok_zipL (w := w) (K := K) (xs := xs) (ys := ys) (a := a) (b := b)).good B).stop i A H hi ⟨h.1.rd1, h.2.rd1⟩⟩
  same := fun B A H H' s h => ⟨h.1.same s, h.2.same s⟩
  prot := fun B N A H H' s hN h => ⟨prot_rep s hN h.1, prot_rep s hN h.2⟩
end
section
variable {X : Cx}
/-- zip(a, b) read in place -/
theorem ipZip {a b : Expr} {pa pb : P} {p0 p1 tpos : Pos} {elts : List Expr} {kk : Nat} (hm : X.mg "zip" = none) (ha : JP X .r a pa) (hb' : JP X .r b pb) (hgl : Gl X "zip" := by rfl)
    (hst : starEach [a, b] X.env = (false, eval a X.env) :: starEach [b] X.env := by rfl) (hst2 : starEach [b] X.env = [(false, eval b X.env)] := by rfl) (hp : (backTo p1 (starEach [b] X.env)).any (·.1) = false := by rfl) :
    JIp X (.Tuple elts kk tpos) (.Call (.Name "zip" p0) [a, b] [] p1) (ipZ false pa pb) :=
  piimp (RZ.pi_zipA hgl hm (jaCons (k := .r) ha (jaCons hb' jaNil hst2) hst) hst hp) fun σ H R h => by
    obtain ⟨B, ρ, A, xs, Rr, e, q⟩ := h
    unfold ipZ at e
    cases z : pa ρ with
    | none => rw [z] at e; cases e
    | some d =>
      cases z2 : pb ρ with
      | none => rw [z, z2] at e; cases e
      | some d2 =>
        rw [z, z2] at e
        refine ⟨B, ρ, A, [d, d2], Rr, evs2 z z2, fun vs H1 s1 r1 => ?_⟩
        cases r1 with
        | cons r1 r2 =>
          cases r2 with
          | cons r2 r3 =>
            cases r3
            cases d with
            | tuple xs1 =>
              cases d2 with
              | tuple ys1 =>
                cases e
                obtain ⟨a', us, rfl, k1, u1⟩ := id r1
                obtain ⟨b', vs, rfl, k2, u2⟩ := id r2
                exact ⟨a', b', us, vs, rfl, .inr ⟨k1, k2, q _ _ H1 s1 ok_zipT ⟨r1, r2⟩⟩⟩
              | _ => cases e
            | list xs1 =>
              cases d2 with
              | list ys1 =>
                cases e
                obtain ⟨a', us, rfl, k1, u1⟩ := id r1
                obtain ⟨b', vs, rfl, k2, u2⟩ := id r2
                exact ⟨a', b', us, vs, rfl, .inl ⟨SqL.of k1, SqL.of k2, q _ _ H1 s1 ok_zipL ⟨r1, r2⟩⟩⟩
              | _ => cases e
            | _ => cases e
/-- zip(a, b, strict=True) -/
theorem ipZipS {a b : Expr} {pa pb : P} {p0 p1 tpos kp cp : Pos} {elts : List Expr} {kk cj} (hm : X.mg "zip" = none) (ha : JP X .r a pa) (hb' : JP X .r b pb) (hgl : Gl X "zip" := by rfl)
    (hst : starEach [a, b] X.env = (false, eval a X.env) :: starEach [b] X.env := by rfl) (hst2 : starEach [b] X.env = [(false, eval b X.env)] := by rfl)
    (hs : backTo p1 (starEach [a, b] X.env) = (false, eval a X.env) :: backTo p1 (starEach [b] X.env) := by rfl) (hp : (backTo p1 (starEach [a, b] X.env)).any (·.1) = false := by rfl) :
    JIp X (.Tuple elts kk tpos) (.Call (.Name "zip" p0) [a, b] [⟨some "strict", .Constant (.bool true) cj cp, kp⟩] p1) (ipZ true pa pb) :=
  piimp (pi_zipS hgl hm (jaCons (k := .r) ha (jaCons hb' jaNil hst2) hst) hs hp) fun σ H R h => by
    obtain ⟨B, ρ, A, xs, Rr, e, q⟩ := h
    unfold ipZ at e
    cases z : pa ρ with
    | none => rw [z] at e; cases e
    | some d =>
      cases z2 : pb ρ with
      | none => rw [z, z2] at e; cases e
      | some d2 =>
        rw [z, z2] at e
        refine ⟨B, ρ, A, [d, d2], Rr, evs2 z z2, fun vs H1 s1 r1 => ?_⟩
        cases r1 with
        | cons r1 r2 =>
          cases r2 with
          | cons r2 r3 =>
            cases r3
            cases d with
            | tuple xs1 =>
              cases d2 with
              | tuple ys1 =>
                dsimp only [zipV] at e
                split at e
                · rename_i hl
                  cases e
                  have hl : xs1.length = ys1.length := by simpa using hl
                  obtain ⟨a', us, rfl, k1, u1⟩ := id r1
                  obtain ⟨b', vs, rfl, k2, u2⟩ := id r2
                  exact ⟨a', b', us, vs, rfl, k1, k2, q _ _ H1 s1 (ok_zipS hl) ⟨r1, r2⟩⟩
                · cases e
              | _ => cases e
            | list xs1 =>
              cases d2 with
              | list ys1 => cases e
              | _ => cases e
            | _ => cases e
theorem keep_rep2 {w : World} {K : PySem.W.Frag} {B : Addr → Prop} {d e : D} {v u : V} : Steps w K B fun A H => Rep w K (mu B A) H d v ∧ Rep w K (mu B A) H e u := fun A H A' H' O h ex hO hM => ⟨h.1.ext ex hO hM, h.2.ext ex hO hM⟩
/-- walked by a loop -/
theorem iZip {a b : Expr} {pa pb : P} {p0 p1 tpos : Pos} {elts : List Expr} {kk : Nat} (hm : X.mg "zip" = none) (ha : JP X .c a pa) (hb' : JP X .c b pb) (hgl : Gl X "zip" := by rfl)
    (hst : starEach [a, b] X.env = (false, eval a X.env) :: starEach [b] X.env := by rfl) (hst2 : starEach [b] X.env = [(false, eval b X.env)] := by rfl) (hp : (backTo p1 (starEach [b] X.env)).any (·.1) = false := by rfl) :
    JI X (.Tuple elts kk tpos) (.Call (.Name "zip" p0) [a, b] [] p1) (iZ false pa pb) :=
  piimp (RZ.pi_zipA hgl hm (jaCons (k := .c) ha (jaCons hb' jaNil hst2) hst) hst hp) fun σ H R h => by
    obtain ⟨B, ρ, A, ρ1, xs, Rr, e, q⟩ := h
    unfold iZ at e
    cases z : pa ρ with
    | none => rw [z] at e; cases e
    | some d =>
      cases z2 : pb ρ with
      | none => rw [z, z2] at e; cases e
      | some d2 =>
        rw [z, z2] at e
        refine ⟨B, ρ, A, [d, d2], Rr, evs2 z z2, fun vs H1 s1 r1 => ?_⟩
        cases r1 with
        | cons r1 r2 =>
          cases r2 with
          | cons r2 r3 =>
            cases r3
            cases d with
            | tuple xs1 =>
              cases d2 with
              | tuple ys1 =>
                cases e
                obtain ⟨a', us, rfl, k1, u1⟩ := id r1
                obtain ⟨b', vs, rfl, k2, u2⟩ := id r2
                exact ⟨a', b', us, vs, rfl, .inr ⟨k1, k2, q _ _ A H1 (Step.same s1 Rr) ok_zipT (fun _ => keep_rep2) ⟨r1, r2⟩⟩⟩
              | _ => cases e
            | list xs1 =>
              cases d2 with
              | list ys1 =>
                cases e
                obtain ⟨a', us, rfl, n1, k1, u1⟩ := id r1
                obtain ⟨b', vs, rfl, n2, k2, u2⟩ := id r2
                exact ⟨a', b', us, vs, rfl, .inl ⟨SqL.of k1, SqL.of k2, q _ _ A H1 (Step.same s1 Rr) ok_zipLc (fun _ => keep_rep2) ⟨r1, r2⟩⟩⟩
              | _ => cases e
            | _ => cases e
theorem iZipS' {a b : Expr} {pa pb : P} {p0 p1 tpos kp cp : Pos} {elts : List Expr} {kk cj} (hm : X.mg "zip" = none) (ha : JP X .c a pa) (hb' : JP X .c b pb) (hgl : Gl X "zip" := by rfl)
    (hst : starEach [a, b] X.env = (false, eval a X.env) :: starEach [b] X.env := by rfl) (hst2 : starEach [b] X.env = [(false, eval b X.env)] := by rfl)
    (hs : backTo p1 (starEach [a, b] X.env) = (false, eval a X.env) :: backTo p1 (starEach [b] X.env) := by rfl) (hp : (backTo p1 (starEach [a, b] X.env)).any (·.1) = false := by rfl) :
    JI X (.Tuple elts kk tpos) (.Call (.Name "zip" p0) [a, b] [⟨some "strict", .Constant (.bool true) cj cp, kp⟩] p1) (iZ true pa pb) :=
  piimp (pi_zipS hgl hm (jaCons (k := .c) ha (jaCons hb' jaNil hst2) hst) hs hp) fun σ H R h => by
    obtain ⟨B, ρ, A, ρ1, xs, Rr, e, q⟩ := h
    unfold iZ at e
    cases z : pa ρ with
    | none => rw [z] at e; cases e
    | some d =>
      cases z2 : pb ρ with
      | none => rw [z, z2] at e; cases e
      | some d2 =>
        rw [z, z2] at e
        refine ⟨B, ρ, A, [d, d2], Rr, evs2 z z2, fun vs H1 s1 r1 => ?_⟩
        cases r1 with
        | cons r1 r2 =>
          cases r2 with
          | cons r2 r3 =>
            cases r3
            cases d with
            | tuple xs1 =>
              cases d2 with
              | tuple ys1 =>
                dsimp only [zipV] at e
                split at e
                · rename_i zs hz
                  cases e
                  split at hz
                  · rename_i hl
                    cases hz
                    have hl : xs1.length = ys1.length := by simpa using hl
                    obtain ⟨a', us, rfl, k1, u1⟩ := id r1
                    obtain ⟨b', vs, rfl, k2, u2⟩ := id r2
                    exact ⟨a', b', us, vs, rfl, k1, k2, q _ _ A H1 (Step.same s1 Rr) (ok_zipS hl) (fun _ => keep_rep2) ⟨r1, r2⟩⟩
                  · cases hz
                · cases e
              | _ => cases e
            | list xs1 =>
              cases d2 with
              | list ys1 => cases e
              | _ => cases e
            | _ => cases e
end
end L3
/-! The source's cells by a second name, for as long as they are popped. -/
namespace L3
open PySem PySem.Spec PyProof.Rows L2
/-- the pure side: x = s['cells']; while t and len(x) > 0: s['left'] = x.pop() -/
def tLeft (i : Nat) (t : T) : TE' := tP (L3.tAnd t (tV (p2 dGt (pN (l1 dLen) [pSrcC i]) (pC (.int 0)))))
def sAl (i j : Nat) (t : T) : Sm := fun ρ => match ρ[i]?, put j .un ρ with
  | some (.own _ (.src _)), some ρ1 => if decide (i ≠ j) then sWhile (tLeft i t) (sSrcPop i "left") ρ1 else none
  | _, _ => none
section
variable {w : World} {K : PySem.W.Frag} {B : Addr → Prop} {ρ : Env} {σ : L2.St} {A : Nat → List Addr} {H : Hp}
/-- one list alone is looked at -/
def rOne (n j : Nat) (xs : List D) : Env := (List.replicate n Cell.un).set j (.own false (.lst xs))
def aOne (j : Nat) (c : Addr) : Nat → List Addr := fun k => if k = j then [c] else []
theorem rel_one {j : Nat} {c : Addr} {ns : List Int} (hj : σ[j]? = some (some (.ref c))) (hc : H c = some (.lst (ns.map .int))) : Rel w K (fun _ => False) (rOne σ.length j (ns.map .int)) σ (aOne j c) H := by
  have hlt : j < σ.length := (List.getElem?_eq_some_iff.mp hj).1
  refine ⟨by unfold rOne; rw [List.length_set, List.length_replicate], fun k x e => ?_, fun k h => ?_, fun _ h => h.elim, fun _ _ _ h => h, fun i k x h1 h2 => ?_⟩
  · unfold rOne at e
    by_cases hk : j = k
    · subst hk
      rw [List.getElem?_set_self (by rw [List.length_replicate]; exact hlt)] at e
      cases e
      refine ⟨.ref c, by rw [hj]; rfl, ?_⟩
      unfold aOne
      rw [if_pos rfl]
      exact ⟨c, _, rfl, rfl, hc, jSrcC.reps_ints _⟩
    · rw [List.getElem?_set_ne hk] at e
      obtain ⟨_, e2⟩ := List.getElem?_eq_some_iff.mp e
      rw [List.getElem_replicate] at e2
      subst e2
      show aOne j c k = []
      unfold aOne
      rw [if_neg (Ne.symm hk)]
  · unfold rOne at h
    rw [List.length_set, List.length_replicate] at h
    unfold aOne
    rw [if_neg (by omega)]
  · unfold aOne at h1 h2
    split at h1
    · split at h2
      · omega
      · simp at h2
    · simp at h1
end
section
variable {X : Cx}
theorem ssAlias {i j : Nat} {x y : Str} {c1 : Expr} {t : T} {rest : List Stmt} {g : Sm} {p1 p2 p3 p4 p5 p6 p7 p8 p9 q0 q1 q2 q3 q4 q5 q6 q7 q8 q9 : Pos} {j1 j2 j3} (hp : PassesOwn (model X.prog X.w) X.A X.env X.xe) (hu : X.A.units + 64 < cLine) (nd : X.N.Nodup)
    (hc1 : JT X c1 t) (ml : X.mg "len" = none) (hr : Ss X rest g)
    (hi : X.N[i]? = some x := by rfl) (hv : Vis X.env.scope x := by first | exact Or.inl rfl | exact Or.inr (Or.inl rfl) | exact Or.inr (Or.inr rfl)) (hd : (x == ("__debug__" : Str)) = false := by decide) (hcd : (x == ("__classdict__" : Str)) = false := by decide)
    (hj : X.N[j]? = some y := by rfl) (hvj : Vis X.env.scope y := by first | exact Or.inl rfl | exact Or.inr (Or.inl rfl) | exact Or.inr (Or.inr rfl)) (hdj : (y == ("__debug__" : Str)) = false := by decide) (hcdj : (y == ("__classdict__" : Str)) = false := by decide)
    (hlj : Loc X.env.scope y := by first | exact Or.inl rfl | exact Or.inr rfl) (hfj : X.fn y = true ∨ X.env.scope.names.lookup y = some .local := by first | exact .inl rfl | exact .inr rfl)
    (hs1 : swapsWith (.Subscript (.Name x p2) (.Constant (.str "cells") j1 p3) p4) (some (.Name y p1)) p5.line X.env = pure false := by rfl)
    (hgl : Gl X "len" := by rfl) (hst : starEach [.Name y q1] X.env = (false, eval (.Name y q1) X.env) :: starEach [] X.env := by rfl) (hpl : (backTo q2 (starEach [] X.env)).any (·.1) = false := by rfl)
    (hmk : behindInMarks .Gt (.Constant (.int 0) j2 q3) = false := by first | exact nomark _ | rfl)
    (hbase : attributeBase (.Name y p8) "pop" X.env (eval (.Name y p8) X.env) = eval (.Name y p8) X.env := by rfl) (hline : (p9.endLine == q7.line) = true := by rfl)
    (hs2 : swapsWith (.Call (.Attribute (.Name y p8) "pop" p9) [] [] q7) (some (.Subscript (.Name x p6) (.Constant (.str "left") j3 p7) q8)) q9.line X.env = pure false := by rfl) :
    Ss X (.Assign [.Name y p1] (.Subscript (.Name x p2) (.Constant (.str "cells") j1 p3) p4) p5 ::
      .While (.BoolOp .And [c1, .Compare (.Call (.Name "len" q4) [.Name y q1] [] q2) [.Gt] [.Constant (.int 0) j2 q3] q5] q6)
        [.Assign [.Subscript (.Name x p6) (.Constant (.str "left") j3 p7) q8] (.Call (.Attribute (.Name y p8) "pop" p9) [] [] q7) q9] [] q0 :: rest) (sSeq (sAl i j t) g) :=
  pssimp (pss_cons (ps_set nd hj hlj (pe_dget (by omega) (pv i hi hv hd hcd) pe_str (fun _ _ => rfl)) hs1 hfj)
    (pss_cons (ps_while hp (PW.pt (pw_and hc1 (pw_and1 (jtCmp oGt (jB cLen ml (jaCons (jOwn j hj hvj hdj hcdj) jaNil hst) hgl (by decide +kernel) (by decide) (by decide) hst hpl) jInt hmk))))
      (pss_one (ps_dput (by omega) (pv i hi hv hd hcd) pe_str (pe_bm0 PySem.F.plainAttrs_list PySem.F.slot_list_pop PySem.F.type_list_pop mt_pop (pv j hj hvj hdj hcdj) hbase hline) hs2))) hr)) fun Dn σ H h => by
  obtain ⟨B, ρ, A, ρ', o, R, e, q⟩ := h
  unfold sSeq sAl at e
  cases zi : ρ[i]? with
  | none => rw [zi] at e; cases e
  | some ci =>
    rw [zi] at e
    cases ci with
    | own fx oo =>
      cases oo with
      | src s0 =>
        cases zp : put j .un ρ with
        | none => rw [zp] at e; cases e
        | some ρ1 =>
          rw [zp] at e
          dsimp only at e
          by_cases hij : i ≠ j
          · rw [if_pos (decide_eq_true hij)] at e
            obtain ⟨v, ev, a, c, rfl, ea, k1, k2⟩ := R.at_own zi
            refine ⟨.ref a, ev, a, .ref c, rfl, DGet.k (k := .inr "cells") k1, ?_⟩
            obtain ⟨hlt, rfl, hno⟩ := put_inv zp
            have S0 : Step X.w X.K B ρ σ A H (ρ.set j .un) (σ.set j (some (.ref c))) (putA A j []) H := Step.put (as := []) R (Step.refl R) zp R.noB rfl fun x z => nomatch z
            have zi1 : (ρ.set j .un)[i]? = some (.own fx (.src s0)) := by rw [List.getElem?_set_ne (Ne.symm hij)]; exact zi
            have hlσ : j < σ.length := by rw [← R.len]; exact hlt
            have ej : (σ.set j (some (V.ref c)))[j]? = some (some (.ref c)) := List.getElem?_set_self hlσ
            have ei : (σ.set j (some (V.ref c)))[i]? = some (some (.ref a)) := by rw [List.getElem?_set_ne (Ne.symm hij)]; exact ev
            cases zw : sWhile (tLeft i t) (sSrcPop i "left") (ρ.set j .un) with
            | none => rw [zw] at e; cases e
            | some r =>
              obtain ⟨ρ2, o2⟩ := r
              rw [zw] at e
              obtain ⟨n, hn⟩ := while_of zw
              refine ⟨fun m σ1 H1 => ∃ ρ1 A1 f1 s1, Rel X.w X.K B ρ1 σ1 A1 H1 ∧ whileN (tLeft i t) (sSrcPop i "left") m ρ1 = some (ρ2, o2) ∧ ρ1[i]? = some (.own f1 (.src s1)) ∧ σ1[i]? = some (some (.ref a)) ∧ H1 a = some (.dK (srcK s1 c)) ∧ H1 c = some (.lst (s1.cells.map .int)) ∧ σ1[j]? = some (some (.ref c)) ∧ Step X.w X.K B ρ σ A H ρ1 σ1 A1 H1, ⟨n, _, _, fx, s0, S0.rel, hn, zi1, ei, k1, k2, ej, S0⟩, ?_⟩
              rintro m σ1 H1 ⟨ρ1, A1, f1, s1, R1, e1, y1, y2, y3, y4, y5, S1⟩
              cases m with
              | zero => cases e1
              | succ m =>
                rw [whileN] at e1
                have lt : tLeft i t ρ1 = match L3.tAnd t (tV (L3.p2 dGt (pN (l1 dLen) [pSrcC i]) (pC (.int 0)))) ρ1 with | some b => some (ρ1, b) | none => none := rfl
                have l2 : tV (L3.p2 dGt (pN (l1 dLen) [pSrcC i]) (pC (.int 0))) ρ1 = some (decide ((0 : Int) < ((s1.cells.map PyData.int).length : Nat))) := by
                  have : pSrcC i ρ1 = some (.list (s1.cells.map .int)) := by unfold pSrcC; rw [y1]
                  have h2 : evs [pSrcC i] ρ1 = some [.list (s1.cells.map .int)] := evs1 this
                  show (match (match (match evs [pSrcC i] ρ1 with | some xs => l1 dLen xs | none => none) with | some x => dGt x (.int 0) | none => none) with | some (.bool b) => some b | _ => none) = _
                  rw [h2]
                  rfl
                have l3 : tV (L3.p2 dGt (pN (l1 dLen) [pOwn j]) (pC (.int 0))) (rOne σ1.length j (s1.cells.map .int)) = some (decide ((0 : Int) < ((s1.cells.map PyData.int).length : Nat))) := by
                  have hl : j < σ1.length := (List.getElem?_eq_some_iff.mp y5).1
                  have : pOwn j (rOne σ1.length j (s1.cells.map .int)) = some (.list (s1.cells.map .int)) := by
                    unfold pOwn rOne
                    rw [List.getElem?_set_self (by rw [List.length_replicate]; exact hl)]
                  have h2 : evs [pOwn j] (rOne σ1.length j (s1.cells.map .int)) = some [.list (s1.cells.map .int)] := evs1 this
                  show (match (match (match evs [pOwn j] (rOne σ1.length j (s1.cells.map .int)) with | some xs => l1 dLen xs | none => none) with | some x => dGt x (.int 0) | none => none) with | some (.bool b) => some b | _ => none) = _
                  rw [h2]
                  rfl
                cases zt : t ρ1 with
                | none =>
                  rw [lt, L3.tAnd, zt] at e1
                  cases e1
                | some b1 =>
                  refine ⟨B, ρ1, A1, b1, R1, zt, fun H2 w1 => ?_⟩
                  have done1 : ∀ H3, Same H1 H3 → some (ρ1, Out.nx) = some (ρ2, o2) → RSm X.w X.K g Dn σ1 H3 := fun H3 w3 en => by
                    have e3 : ρ2 = ρ1 := by injection en with en; injection en with e3 _; exact e3.symm
                    have e4 : o2 = .nx := by injection en with en; injection en with _ e4; exact e4.symm
                    rw [e3, e4] at e
                    have S3 := S1.trans R (Step.same w3 R1)
                    exact ⟨B, ρ1, A1, ρ', o, R1.same w3, e, q.ahead R S3 ⟨fun _ => rfl, rfl, rfl, rfl⟩⟩
                  cases b1 with
                  | false =>
                    rw [lt, L3.tAnd, zt] at e1
                    show (if false = true then _ else _)
                    rw [if_neg (by decide)]
                    show (if false = true then _ else _)
                    rw [if_neg (by decide)]
                    exact done1 H2 w1 e1
                  | true =>
                    rw [lt, L3.tAnd, zt] at e1
                    dsimp only at e1
                    rw [l2] at e1
                    show (if true = true then _ else _)
                    rw [if_pos rfl]
                    refine ⟨fun _ => False, _, _, _, rel_one y5 (w1 _ _ y4), l3, fun H3 w3 => ?_⟩
                    have w13 : Same H1 H3 := w1.trans w3
                    by_cases zl : (0 : Int) < ((s1.cells.map PyData.int).length : Nat)
                    · rw [decide_eq_true zl] at e1 ⊢
                      show (if true = true then _ else _)
                      rw [if_pos rfl]
                      dsimp only at e1
                      unfold sSrcPop at e1
                      rw [y1] at e1
                      dsimp only at e1
                      cases zg : s1.cells.getLast? with
                      | none => rw [zg] at e1; cases e1
                      | some nn =>
                        rw [zg] at e1
                        dsimp only at e1
                        cases zq : ({ s1 with cells := s1.cells.dropLast } : Src).put "left" nn with
                        | none => rw [zq] at e1; cases e1
                        | some s' =>
                          rw [zq] at e1
                          dsimp only at e1
                          refine ⟨fun σ' H' => ∃ ρ1 A1 f1 s1, Rel X.w X.K B ρ1 σ' A1 H' ∧ whileN (tLeft i t) (sSrcPop i "left") m ρ1 = some (ρ2, o2) ∧ ρ1[i]? = some (.own f1 (.src s1)) ∧ σ'[i]? = some (some (.ref a)) ∧ H' a = some (.dK (srcK s1 c)) ∧ H' c = some (.lst (s1.cells.map .int)) ∧ σ'[j]? = some (some (.ref c)) ∧ Step X.w X.K B ρ σ A H ρ1 σ' A1 H', fun σ' H' h => ⟨m, Nat.lt_succ_self m, h⟩, ?_⟩
                          have R3 := R1.same w13
                          obtain ⟨v, ev', a', c', ee, ea', h1, h2⟩ := R3.at_own y1
                          rw [y2] at ev'
                          cases ev'
                          cases ee
                          have hcc : c' = c := by
                            have := w13 _ _ y3
                            rw [h1] at this
                            injection this with this
                            injection this with this
                            injection this with this _
                            injection this with _ this
                            injection this
                          subst hcc
                          have hca : c' ≠ a := fun e => by rw [e, h1] at h2; cases h2
                          refine ⟨.ref c', y5, .inl ⟨rfl, _, SqL.of h2⟩, c', _, .int nn, rfl, rfl, h2, ?_, ?_⟩
                          · rw [List.length_map, List.getElem?_map, ← List.getLast?_eq_getElem?, zg]; rfl
                          · have ex := upd_ext1 (o := .lst (s1.cells.map V.int).dropLast) h2 (fun _ z => by cases z) (fun _ _ z => by cases z)
                            have T1 := Step.chg (fx := f1) (o' := .src { s1 with cells := s1.cells.dropLast }) R3 y1 y2 (H' := upd H3 c' (.lst (s1.cells.map V.int).dropLast)) ⟨a, c', rfl, ea', by rw [upd_ne (Ne.symm hca)]; exact h1, by rw [upd_same, List.map_dropLast]⟩ (ex.into fun x e => by rw [ea', e]; simp)
                            have hil : i < ρ1.length := (List.getElem?_eq_some_iff.mp y1).1
                            obtain ⟨a0, c0, ee, h3, T2⟩ := src_put T1.rel (List.getElem?_set_self hil) y2 zq
                            cases ee
                            refine ⟨_, y2, a, _, rfl, DPut.k (k := .inr "left") h3 (by rw [sizeLine_eq]; exact (by decide : 4 < 16777216)), ?_⟩
                            have T3 := T1.trans R3 T2
                            rw [List.set_set] at T3
                            obtain ⟨v5, ev5, a5, c5, ee5, ea5, k5, k6⟩ := T3.rel.at_own (List.getElem?_set_self hil)
                            rw [y2] at ev5
                            cases ev5
                            cases ee5
                            have hc5 : c5 = c' := by
                              have e5 : A1 i = [a, c5] := ea5
                              rw [ea'] at e5
                              injection e5 with _ e5
                              injection e5 with e5 _
                              exact e5.symm
                            subst hc5
                            exact ⟨_, _, f1, s', T3.rel, e1, List.getElem?_set_self hil, y2, k5, k6, y5, S1.trans R ((Step.same w13 R1).trans R1 T3)⟩
                    · rw [decide_eq_false zl] at e1 ⊢
                      show (if false = true then _ else _)
                      rw [if_neg (by decide)]
                      exact done1 H3 w13 e1
          · rw [if_neg (by simpa using hij)] at e
            cases e
      | _ => cases e
    | _ => cases e
end
end L3
/-! xs.pop(e), xs[e] = v of an owned list; tuple * int; x is not True. -/
namespace L3
open PySem PySem.Spec PyProof.Rows L2
/-- xs.pop(e): xs is owned, e may change other things -/
def ePopI (i : Nat) (a : E) : E := fun ρ => if isLst ρ[i]? then (match a ρ with
  | some (ρ1, c) => (match c.toD, ρ1[i]? with
    | some (.int n), some (.own fx (.lst xs)) => if decide (0 ≤ n) && len24 xs.length then (match xs[n.toNat]? with
        | some x => some (ρ1.set i (.own fx (.lst (xs.eraseIdx n.toNat))), .val x)
        | none => none) else none
    | _, _ => none)
  | none => none) else none
/-- xs[e] = v -/
def sLSet (i : Nat) (k v : P) : Sm := fun ρ => match v ρ, k ρ, ρ[i]? with
  | some d, some (.int n), some (.own fx (.lst xs)) => if decide (0 ≤ n ∧ n < (xs.length : Int)) && len24 xs.length then some (ρ.set i (.own fx (.lst (xs.set n.toNat d))), .nx) else none
  | _, _, _ => none
/-- tuple * int -/
def dRepT : D → D → Option D
  | .tuple xs, .int k => if !xs.isEmpty && decide (k ≤ 1000) && decide (-1000 ≤ k) && decide (xs.length ≤ 1000) then some (.tuple (List.replicate k.toNat xs).flatten) else none
  | _, _ => none
/-- x is not True, the right side written -/
def dNotT : D → D → Option D
  | .bool a, .bool b => some (.bool (a != b))
  | _, _ => none
section
variable {w : World} {K : PySem.W.Frag} {M : Addr → Prop} {H : Hp}
theorem reps_erase : ∀ {xs : List D} {us : List V} (n : Nat), Reps w K M H xs us → Reps w K M H (xs.eraseIdx n) (us.eraseIdx n)
  | [], us, n, h => by
    cases us with
    | nil => exact h
    | cons u t => exact absurd h (by simp [Reps])
  | x :: xs, us, n, h => by
    obtain ⟨u, t, rfl, r1, r2⟩ := h
    cases n with
    | zero => exact r2
    | succ n => exact ⟨u, _, rfl, r1, reps_erase n r2⟩
theorem reps_set : ∀ {xs : List D} {us : List V} (n : Nat) {d : D} {v : V}, Reps w K M H xs us → Rep w K M H d v → Reps w K M H (xs.set n d) (us.set n v)
  | [], us, n, d, v, h, r => by
    cases us with
    | nil => exact h
    | cons u t => exact absurd h (by simp [Reps])
  | x :: xs, us, n, d, v, h, r => by
    obtain ⟨u, t, rfl, r1, r2⟩ := h
    cases n with
    | zero => exact ⟨v, t, rfl, r, r2⟩
    | succ n => exact ⟨u, _, rfl, r1, reps_set n r2 r⟩
theorem reps_repl {xs : List D} {us : List V} (h : Reps w K M H xs us) : ∀ n : Nat, Reps w K M H (List.replicate n xs).flatten (List.replicate n us).flatten
  | 0 => rfl
  | n + 1 => by
    rw [List.replicate_succ, List.replicate_succ, List.flatten_cons, List.flatten_cons]
    exact h.append (reps_repl h n)
end
section
variable {X : Cx}
theorem jPopI {i : Nat} {x : Str} {e : Expr} {f : E} {p ap cp : Pos} (he : J X e f) (hN : X.N[i]? = some x := by rfl) (hv : Vis X.env.scope x := by first | exact Or.inl rfl | exact Or.inr (Or.inl rfl) | exact Or.inr (Or.inr rfl)) (hd : (x == ("__debug__" : Str)) = false := by decide)
    (hcd : (x == ("__classdict__" : Str)) = false := by decide)
    (hbase : attributeBase (.Name x p) "pop" X.env (eval (.Name x p) X.env) = eval (.Name x p) X.env := by rfl)
    (hfew : ((backTo cp (starEach [e] X.env)).all (fun x => !x.1) && (backToKw cp (keywordEach [] X.env)).all (fun x => x.1.isSome)
      && decide (([e] : List Expr).length + ([] : List Keyword).length + (if ([] : List Keyword).isEmpty then 0 else 1) < 30)) = true := by rfl)
    (hline : (ap.endLine == cp.line) = true := by rfl) (hst : starEach [e] X.env = [(false, eval e X.env)] := by rfl) :
    J X (.Call (.Attribute (.Name x p) "pop" ap) [e] [] cp) (ePopI i f) :=
  peimp (pe_bm PySem.F.plainAttrs_list PySem.F.slot_list_pop PySem.F.type_list_pop mt_popAt (pv i hN hv hd hcd) (jaeCons he jaeNil hst) hbase hfew hline hst (by rfl)) fun σ H Q h => by
    obtain ⟨B, ρ, A, ρ', c', R, e1, q⟩ := h
    unfold ePopI at e1
    split at e1
    · rename_i hL
      obtain ⟨fx0, xs0, e0⟩ := isLst_inv hL
      obtain ⟨v0, ev0, a0, vs0, rfl, ea0, h0, _⟩ := R.at_own e0
      cases z : f ρ with
      | none => rw [z] at e1; cases e1
      | some r =>
        obtain ⟨ρ1, c⟩ := r
        rw [z] at e1
        dsimp only at e1
        split at e1
        · rename_i n fx xs zc zi
          split at e1
          · rename_i hl
            rw [Bool.and_eq_true, decide_eq_true_eq] at hl
            obtain ⟨hn, hl⟩ := hl
            have hl := len24_ok hl
            split at e1
            · rename_i d zd
              cases e1
              refine ⟨.ref a0, ev0, .inl ⟨rfl, vs0, SqL.of h0⟩, B, ρ, A, ρ1, [.int n], R, by rw [eevs, z]; dsimp only; rw [zc]; rfl, fun vs A1 H1 S r1 => ?_⟩
              obtain ⟨v1, ev1, a1, vs1, e2, ea1, h1, rp⟩ := S.rel.at_own zi
              rw [ev0] at ev1; cases ev1; cases e2
              obtain ⟨u, t, rfl, ru, rt⟩ := r1
              have ru : u = .int n := ru
              subst ru
              rw [show t = [] from rt]
              obtain ⟨u, eu, ru⟩ := rp.get zd
              have hlv := rp.length
              have hlt : n.toNat < vs1.length := (List.getElem?_eq_some_iff.mp eu).1
              have hsz : (16777216 : Nat) ≤ 2 ^ 63 := by decide
              have hl2 : vs1.length ≤ 16777216 := by rw [hlv]; rw [sizeLine_eq] at hl; exact hl
              refine ⟨a0, vs1, n, n.toNat, u, rfl, rfl, h1, by omega, by omega, ?_, eu, ?_⟩
              · exact seqIndex_of hn (by omega)
              · have ex := upd_ext1 (o := .lst (vs1.eraseIdx n.toNat)) h1 (fun _ z => by cases z) (fun _ _ z => by cases z)
                have hin : a0 ∈ A1 i := by rw [ea1]; simp
                have hM : ∀ x, x = a0 → mu B A1 x := fun x e => .inr ⟨i, e ▸ hin⟩
                refine q _ A1 _ (S.trans R (Step.chg S.rel zi ev0 ⟨a0, _, rfl, ea1, upd_same, ?_⟩ (ex.into fun x e => e ▸ hin))) (ru.ext ex hM fun _ _ m => m)
                exact (reps_erase _ rp).ext ex hM fun _ _ m => m
            · cases e1
          · cases e1
        · cases e1
    · cases e1
/-- xs[e] = v -/
theorem sLSetS {i : Nat} {x : Str} {p p3 pos : Pos} {e1 e2 : Expr} {ka va : P} (hv : JP X .c e2 va) (hk : JP X .r e1 ka) (hN : X.N[i]? = some x := by rfl) (hvs : Vis X.env.scope x := by first | exact Or.inl rfl | exact Or.inr (Or.inl rfl) | exact Or.inr (Or.inr rfl)) (hdb : (x == ("__debug__" : Str)) = false := by decide)
    (hcd : (x == ("__classdict__" : Str)) = false := by decide)
    (hs : swapsWithSole [.Subscript (.Name x p) e1 p3] e2 pos.line X.env = pure false := by rfl) (hw : swappedStores [.Subscript (.Name x p) e1 p3] e2 X.env = pure none := by rfl)
    (h1 : (assignEach [.Subscript (.Name x p) e1 p3] X.env).map (·.2) = [assign (.Subscript (.Name x p) e1 p3) X.env] := by rfl)
    (hsub : ∀ v, assign (.Subscript (.Name x p) e1 p3) X.env v = (do
      let o1 ← holding [v] (eval (.Name x p) X.env)
      let o2 ← holding [v, o1] (eval e1 X.env)
      standAt p3
      holding [v, o1, o2] (setItem o1 o2 v)
      release [v, o1, o2] []) := by intro _; rfl) :
    S1 X (.Assign [.Subscript (.Name x p) e1 p3] e2 pos) (sLSet i ka va) :=
  psimp (ps_asg hv (pg_sub (pv i hN hvs hdb hcd) hk set_list hsub) hs hw h1) fun Dn σ H h => by
    obtain ⟨B, ρ, A, ρ', o, R, e, q⟩ := h
    unfold sLSet at e
    split at e
    · rename_i d n fx xs zv zk zi
      split at e
      · rename_i hc
        cases e
        rw [Bool.and_eq_true, decide_eq_true_eq] at hc
        obtain ⟨hn, hl⟩ := hc
        obtain ⟨v0, ev, a, vs, rfl, ea, h0, hr⟩ := R.at_own zi
        refine ⟨B, ρ, A, _, R, zv, fun u H1 s1 r1 => ⟨.ref a, ev, B, ρ, A, _, R.same s1, zk, fun y H2 s2 r2 => ?_⟩⟩
        have ry : y = .int n := r2
        subst ry
        have hl2 := hr.length
        have h2 : H2 a = some (.lst vs) := s2 _ _ (s1 _ _ h0)
        refine ⟨a, vs, n, n.toNat, rfl, rfl, h2, by unfold ixN; rw [if_pos hn.1, if_pos (by omega)], ?_⟩
        have ex := upd_ext1 (o := .lst (vs.set n.toNat u)) h2 (fun _ z => by cases z) (fun _ _ z => by cases z)
        have hin : a ∈ A i := by rw [ea]; simp
        have hM : ∀ x, x = a → mu B A x := fun x e => .inr ⟨i, e ▸ hin⟩
        have R2 := (R.same s1).same s2
        have sm : Same H H2 := fun b o e => s2 _ _ (s1 _ _ e)
        exact q _ A _ ((Step.same sm R).trans R (Step.chg R2 zi ev ⟨a, _, rfl, ea, upd_same, (reps_set _ (hr.same sm) (r1.same s2)).ext ex hM fun _ _ m => m⟩ (ex.into fun x e => e ▸ hin)))
      · cases e
    · cases e
/-! tuple * int -/
theorem mulT_one (l : Addr) (items : Array Value) (n : Nat) (dd : Option Addr) (sl : Array (Option Value)) (u : Tok) :
    Meets (Builtin.«tuple.__mul__» ⟨[.ref l, .int 1 u], []⟩) (fun _ R s => s.heap.get? l = some { cls := .type "tuple", dict := dd, data := .seq items n, slots := sl } ∧ R (.ok (.ret (Value.ref l))) s) :=
  .of_wp fun prog w A R s h => by
    obtain ⟨hp, g, d, tk, os⟩ := s
    obtain ⟨hl, h⟩ := h
    have f1 := AutoSeq1.idx_int
    wp_walk using wpAny_loadPart' hl
    exact ⟨_, rfl, h⟩
theorem mulT_none (l : Addr) (items : Array Value) (n : Nat) (dd : Option Addr) (sl : Array (Option Value)) (x : Int) (u : Tok) (c0 : (decide (x < -(2 ^ 63)) || decide (x ≥ 2 ^ 63)) = false) (c1 : (items.isEmpty || x == 1) = false) (c2 : (decide (x ≤ 0) || items.isEmpty) = true) :
    Meets (Builtin.«tuple.__mul__» ⟨[.ref l, .int x u], []⟩) (fun _ R s => s.heap.get? l = some { cls := .type "tuple", dict := dd, data := .seq items n, slots := sl } ∧
      R (.ok (.ret (Value.ref s.heap.objs.size))) { s with heap := s.heap.push { cls := Value.type "tuple", data := Data.seq #[] }, toks := s.toks }) :=
  .of_wp fun prog w A R s h => by
    obtain ⟨hp, g, d, tk, os⟩ := s
    obtain ⟨hl, h⟩ := h
    have f1 := AutoSeq1.idx_int
    wp_walk using wpAny_loadPart' hl
    repeat (first
      | (refine wpAny_ite_false (decide_eq_false (by rw [c0]; exact Bool.false_ne_true)) ?_; wp_walk using wpAny_loadPart' hl)
      | (refine wpAny_ite_false (decide_eq_false (by rw [c1]; exact Bool.false_ne_true)) ?_; wp_walk using wpAny_loadPart' hl)
      | (refine wpAny_ite_true (decide_eq_true c2) ?_; wp_walk using wpAny_loadPart' hl))
    exact ⟨_, rfl, h⟩
def rRepA (K : PySem.W.Frag) : R2 := fun x y H Q => ∃ l k xs, x = .ref l ∧ y = .int k ∧ SqT K H l xs ∧ xs ≠ [] ∧ -1000 ≤ k ∧ k ≤ 1000 ∧ xs.length ≤ 1000 ∧ (k = 1 → Q (.ref l) H) ∧ (k ≠ 1 → ∀ p, H p = none → Q (.ref p) (upd H p (.tup (List.replicate k.toNat xs).flatten)))
theorem op_repA : OpR X (binaryOp .Mult) (rRepA X.K) := by
  intro pins s σ H x y v u Q I rx ry h
  obtain ⟨l, k, xs, rfl, rfl, hT, hne, h1, h2, hz, q1, q⟩ := h
  by_cases hk2 : 2 ≤ k
  · exact op_repT pins s σ H _ _ v u Q I rx ry ⟨l, k, xs, rfl, rfl, hT, hne, hk2, h2, hz, q (by omega)⟩
  cases rx
  obtain ⟨t, rfl⟩ := ry
  obtain ⟨its, r, ⟨⟨cls, dd, data, sl⟩, ho, hc, n, hd⟩, hs⟩ := I.tuple hT
  simp only at hc hd
  subst hc hd
  have hle : its.length = xs.length := r.length.symm
  have hn : its ≠ [] := fun e => hne (by
    rw [e] at hle
    exact List.eq_nil_of_length_eq_zero hle.symm)
  have hi : its.toArray.isEmpty = false := by
    cases its with
    | nil => exact absurd rfl hn
    | cons a b => rfl
  have c0 : (decide (k < -(2 ^ 63)) || decide (k ≥ 2 ^ 63)) = false := by
    rw [decide_eq_false (by omega), decide_eq_false (by omega)] <;> rfl
  by_cases hk : k = 1
  · subst hk
    exact wpAny_binaryOp_repeat_ref (T := "tuple") (U := "int") (by decide) ⟨_, ho, rfl⟩ (fun s' => typeIs_int s' 1 t) noFill_tuple_mul F.fills_int_mul F.slot_int_rmul repeat_tuple F.slot_int_index.lookup
      (call_meets F.slot_int_rmul (typeIs_int s 1 t) F.entry_int_rmul (F.args_int_rmul_2 _ _) (int_rmul_tuple 1 t l its.toArray n dd sl)
        ⟨ho, rfl, ⟨_, ho, rfl⟩, call_meets F.slot_tuple_mul ⟨_, ho, rfl⟩ F.entry_tuple_mul (F.args_tuple_mul_2 _ _) (mulT_one l its.toArray n dd sl t) ⟨ho, ⟨.ref l, H, I, rfl, q1 rfl⟩⟩⟩)
  · have c1 : (its.toArray.isEmpty || k == 1) = false := by
      rw [hi, Bool.false_or]
      exact beq_eq_false_iff_ne.mpr hk
    have c2 : (decide (k ≤ 0) || its.toArray.isEmpty) = true := by
      rw [hi, Bool.or_false]
      exact decide_eq_true (by omega)
    refine wpAny_binaryOp_repeat_ref (T := "tuple") (U := "int") (by decide) ⟨_, ho, rfl⟩ (fun s' => typeIs_int s' k t) noFill_tuple_mul F.fills_int_mul F.slot_int_rmul repeat_tuple F.slot_int_index.lookup
      (call_meets F.slot_int_rmul (typeIs_int s k t) F.entry_int_rmul (F.args_int_rmul_2 _ _) (int_rmul_tuple k t l its.toArray n dd sl)
        ⟨ho, rfl, ⟨_, ho, rfl⟩, call_meets F.slot_tuple_mul ⟨_, ho, rfl⟩ F.entry_tuple_mul (F.args_tuple_mul_2 _ _) (mulT_none l its.toArray n dd sl k t c0 c1 c2) ⟨ho, ?_⟩⟩)
    have q := q hk
    rw [show k.toNat = 0 by omega] at q
    refine ⟨.ref s.heap.objs.size, _, I.laid (t' := s.toks) (o := .tup []) (fun b ob q => Heap.get?_push_of_some _ q) (Nat.le_refl _) ?_, rfl, q _ (I.hok.fresh (Nat.le_refl _))⟩
    exact ⟨Nat.zero_le _, [], .nil, IsTup.new _ _⟩
theorem oRepT : OpR X (binaryOp .Mult) (rD X.w X.K .c dRepT) := oimp op_repA fun x y H Q h => by
  obtain ⟨M, dx, dy, d, al, hx, hy, e, q⟩ := h
  cases dx with
  | tuple xs =>
    cases dy with
    | int k =>
      simp only [dRepT] at e
      split at e
      · rename_i hc
        cases e
        simp only [Bool.and_eq_true, decide_eq_true_eq] at hc
        obtain ⟨⟨⟨h1, h2⟩, h3⟩, h4⟩ := hc
        have hx' : Rep X.w X.K M H (.tuple xs) x := hx
        have hy' : y = .int k := hy
        obtain ⟨a, us, rfl, ku, ru⟩ := id hx'
        have hl := ru.length
        refine ⟨a, k, us, rfl, hy', ku, fun z => ?_, h3, h2, by omega, fun z => ?_, fun z p hp => ?_⟩
        · rw [z] at hl
          cases xs with
          | nil => cases h1
          | cons _ _ => cases hl
        · subst z
          refine q _ _ (Same.refl H) ?_
          have e1 : (List.replicate (1 : Int).toNat xs).flatten = xs := by simp
          rw [e1]
          exact hx'
        · have s1 : Same H (L2.upd H p (.tup (List.replicate k.toNat us).flatten)) := same_new hp
          refine q _ _ s1 ?_
          exact ⟨p, _, rfl, SqT.of upd_same, reps_repl (ru.same s1) _⟩
      · cases e
    | _ => cases e
  | _ => cases e
/-- x is not True -/
theorem op_notT : OpR X (compareOp .IsNot) (fun x y H Q => ∃ a b, x = .bl a ∧ y = .bl b ∧ Q (.bl (a != b)) H) := by
  intro pins s σ H x y v u Q I rx ry h
  obtain ⟨a, b, rfl, rfl, q⟩ := h
  cases rx
  cases ry
  exact isnot_bool (fin_bl I q rfl)
theorem oNotT : OpR X (compareOp .IsNot) (rD X.w X.K .c dNotT) := oimp op_notT fun x y H Q h => by
  obtain ⟨M, dx, dy, d, al, hx, hy, e, q⟩ := h
  cases dx with
  | bool a =>
    cases dy with
    | bool b =>
      cases e
      exact ⟨a, b, hx, hy, q _ _ (Same.refl H) rfl⟩
    | _ => cases e
  | _ => cases e
end
end L3
/-! xs.extend(e), e a tuple. -/
namespace L3
open PySem PySem.Spec PyProof.Rows L2
def sExtT (i : Nat) (a : E) : Sm := fun ρ => if isLst ρ[i]? then (match a ρ with
  | some (ρ1, c) => (match c.toD, ρ1[i]? with
    | some (.tuple ys), some (.own fx (.lst xs)) => if len24 (xs.length + ys.length) then some (ρ1.set i (.own fx (.lst (xs ++ ys))), .nx) else none
    | _, _ => none)
  | none => none) else none
theorem ext_tup (l : Addr) (items : Array Value) (n : Nat) (b : Addr) (its2 : Array Value) (n2 : Nat) (dd : Option Addr) (sl : Array (Option Value)) (c0 : ¬(!items.isEmpty && Builtin.List.listTooLong (items.size + its2.size)) = true) (c1 : items.size ≤ sizeLine) (c2 : items.size + its2.size ≤ sizeLine + 1) :
    Meets (Builtin.«list.extend» ⟨[.ref l, .ref b], []⟩) (fun _ R s => s.heap.get? l = some { cls := .type "list", data := .seq items n } ∧ s.heap.get? b = some { cls := .type "tuple", dict := dd, data := .seq its2 n2, slots := sl } ∧
      R (.ok (.ret Value.none)) { s with heap := s.heap.update l (Obj.mapSeq fun x => x ++ its2), toks := s.toks }) :=
  .of_wp fun prog w A R s h => by
    obtain ⟨hp, g, d, tk, os⟩ := s
    obtain ⟨hl, hb, h⟩ := h
    have f1 := AutoSeq1.idx_int
    have f2 := AutoSeq1.sub_tuple_tuple
    have f3 := AutoSeq1.sub_list_list
    have f4 := AutoSeq1.sub_tuple_list
    have f5 := AutoSeq1.sub_list_tuple
    have c3 : (items ++ its2).size ≤ sizeLine + 1 := Nat.le_trans (Nat.le_of_eq Array.size_append) c2
    wp_walk using (wpAny_updateSeq hl rfl (hz := c1) (_hz' := c3)), wpAny_loadPart' hl, wpAny_loadPart' hb
    exact ⟨_, rfl, h⟩
def rExtT (K : PySem.W.Frag) : V → List V → Hp → VK → Prop := fun x vs H Q => ∃ l b xs zs, x = .ref l ∧ vs = [.ref b] ∧ H l = some (.lst xs) ∧ SqT K H b zs ∧ xs.length + zs.length ≤ sizeLine ∧ Q .non (L2.upd H l (.lst (xs ++ zs)))
section
variable {X : Cx}
theorem mt_extT : MtM X "list.extend" (rExtT X.K) := by
  intro pins s σ H x vs v us Q I rx rv h
  obtain ⟨l, b, xs, zs, rfl, rfl, hH, hB, hz, q⟩ := h
  cases rx
  obtain ⟨u, rfl, ru⟩ := rv.one
  cases ru
  obtain ⟨z, its, n, r, hl, e⟩ := I.lstM hH
  obtain ⟨its2, r2, ⟨⟨cls, dd, data, sl⟩, ho, hc, n2, hd⟩, hs⟩ := I.tuple hB
  simp only at hc hd
  subst hc hd
  have hl2 := r2.length
  have e1 : its.toArray.size + its2.toArray.size ≤ sizeLine := by simp only [List.size_toArray]; omega
  have e2 : ¬ (!its.toArray.isEmpty && Builtin.List.listTooLong (its.toArray.size + its2.toArray.size)) = true := by
    rw [notLongL e1, Bool.and_false]
    exact Bool.false_ne_true
  refine call_meets F.slot_list_extend ⟨_, e, rfl⟩ F.entry_list_extend (F.args_list_extend_2 _ _)
    (ext_tup l its.toArray n b its2.toArray n2 dd sl e2 (by rw [List.size_toArray]; omega) (by omega)) ⟨e, ho, ?_⟩
  exact ⟨.non, _, I.lset (its' := its ++ its2) hH e (by simp) (r.append r2) (Nat.le_trans (Nat.le_of_eq List.length_append) hz), rfl, q⟩
theorem sExtTS {i : Nat} {x : Str} {p ap cp pos : Pos} {e : Expr} {f : E} (he : J X e f) (hN : X.N[i]? = some x := by rfl) (hv : Vis X.env.scope x := by first | exact Or.inl rfl | exact Or.inr (Or.inl rfl) | exact Or.inr (Or.inr rfl)) (hd : (x == ("__debug__" : Str)) = false := by decide)
    (hcd : (x == ("__classdict__" : Str)) = false := by decide)
    (hbase : attributeBase (.Name x p) "extend" X.env (eval (.Name x p) X.env) = eval (.Name x p) X.env := by rfl)
    (hfew : ((backTo cp (starEach [e] X.env)).all (fun x => !x.1) && (backToKw cp (keywordEach [] X.env)).all (fun x => x.1.isSome)
      && decide (([e] : List Expr).length + ([] : List Keyword).length + (if ([] : List Keyword).isEmpty then 0 else 1) < 30)) = true := by rfl)
    (hline : (ap.endLine == cp.line) = true := by rfl) (hst : starEach [e] X.env = [(false, eval e X.env)] := by rfl) (hs : swapsWith (.Call (.Attribute (.Name x p) "extend" ap) [e] [] cp) none pos.line X.env = pure false := by rfl) :
    S1 X (.Expr (.Call (.Attribute (.Name x p) "extend" ap) [e] [] cp) pos) (sExtT i f) :=
  psimp (ps_expr (pe_bm PySem.F.plainAttrs_list PySem.F.slot_list_extend PySem.F.type_list_extend mt_extT (pv i hN hv hd hcd) (jaeCons he jaeNil hst) hbase hfew hline hst (by rfl)) hs) fun Dn σ H h => by
    obtain ⟨B, ρ, A, ρ', o, R, e1, q⟩ := h
    unfold sExtT at e1
    split at e1
    · rename_i hL
      obtain ⟨fx0, xs0, e0⟩ := isLst_inv hL
      obtain ⟨v0, ev0, a0, vs0, rfl, ea0, h0, _⟩ := R.at_own e0
      cases z : f ρ with
      | none => rw [z] at e1; cases e1
      | some r =>
        obtain ⟨ρ1, c⟩ := r
        rw [z] at e1
        dsimp only at e1
        split at e1
        · rename_i ys fx xs zc zi
          split at e1
          · rename_i hl
            cases e1
            have hl := len24_ok hl
            refine ⟨.ref a0, ev0, .inl ⟨rfl, vs0, SqL.of h0⟩, B, ρ, A, ρ1, [.tuple ys], R, by rw [eevs, z]; dsimp only; rw [zc]; rfl, fun vs A1 H1 S r1 => ?_⟩
            obtain ⟨v1, ev1, a1, vs1, e2, ea1, h1, rp⟩ := S.rel.at_own zi
            rw [ev0] at ev1; cases ev1; cases e2
            obtain ⟨u, t, rfl, ⟨b, us, rfl, hb, ru⟩, rt⟩ := r1
            rw [show t = [] from rt]
            refine ⟨a0, b, vs1, us, rfl, rfl, h1, hb, by rw [rp.length, ru.length]; exact hl, ?_⟩
            have ex := upd_ext1 (o := .lst (vs1 ++ us)) h1 (fun _ z => by cases z) (fun _ _ z => by cases z)
            have hin : a0 ∈ A1 i := by rw [ea1]; simp
            have hM : ∀ x, x = a0 → mu B A1 x := fun x e => .inr ⟨i, e ▸ hin⟩
            refine q _ _ _ (S.trans R (Step.chg S.rel zi ev0 ⟨a0, vs1 ++ us, rfl, ea1, upd_same, ?_⟩ (ex.into fun x e => e ▸ hin)))
            exact (rp.append ru).ext ex hM fun _ _ m => m
          · cases e1
        · cases e1
    · cases e1
end
end L3
namespace K09
open PySem PySem.Spec PyProof.Rows L2 L3
def G_NO_PART : D := .tuple [.int (0), .int (1)]
def G_HALF : D := .tuple [.int (1), .int (2)]
def N_common_divisor : List Str := ["a", "b"]
def g_common_divisor : Sm := sSeq (sPar [0, 1] [eP (pN (l1 dAbs) [pVar 0]), eP (pN (l1 dAbs) [pVar 1])])
      (sSeq (sWhile (tP (tV (p2 dGt (pVar 1) (pC (.int 0))))) (sPar [0, 1] [eP (pVar 1), eP (p2 dMod (pVar 0) (pVar 1))]))
      (sRet (eP (pVar 0))))
def F_common_divisor : Fn := mkFn 2 2 g_common_divisor
def N_fraction_of : List Str := ["p", "q", "by"]
def g_fraction_of : Sm := sSeq (sVal 2 (eP (pIf (tV (p2 dGt (pVar 1) (pC (.int 0)))) (pCall F_common_divisor [pVar 0, pVar 1]) (p1 dNeg (pCall F_common_divisor [pVar 0, pVar 1])))))
      (sRet (eP (pN dTup [p2 dFdiv (pVar 0) (pVar 2), p2 dFdiv (pVar 1) (pVar 2)])))
def F_fraction_of : Fn := mkFn 2 3 g_fraction_of
def N_fraction_sum : List Str := ["x", "y"]
def g_fraction_sum : Sm := sRet (eP (pCall F_fraction_of [p2 dAdd (p2 dMul (p2 dIx (pVar 0) (pC (.int 0))) (p2 dIx (pVar 1) (pC (.int 1)))) (p2 dMul (p2 dIx (pVar 1) (pC (.int 0))) (p2 dIx (pVar 0) (pC (.int 1)))), p2 dMul (p2 dIx (pVar 0) (pC (.int 1))) (p2 dIx (pVar 1) (pC (.int 1)))]))
def F_fraction_sum : Fn := mkFn 2 2 g_fraction_sum
def N_fraction_times : List Str := ["x", "y"]
def g_fraction_times : Sm := sRet (eP (pCall F_fraction_of [p2 dMul (p2 dIx (pVar 0) (pC (.int 0))) (p2 dIx (pVar 1) (pC (.int 0))), p2 dMul (p2 dIx (pVar 0) (pC (.int 1))) (p2 dIx (pVar 1) (pC (.int 1)))]))
def F_fraction_times : Fn := mkFn 2 2 g_fraction_times
def N_fraction_turned : List Str := ["x"]
def g_fraction_turned : Sm := sRet (eP (pN dTup [p1 dNeg (p2 dIx (pVar 0) (pC (.int 0))), p2 dIx (pVar 0) (pC (.int 1))]))
def F_fraction_turned : Fn := mkFn 1 1 g_fraction_turned
def N_part_of : List Str := ["p", "q", "top", "bottom"]
def g_part_of : Sm := sSeq (sPat (.tp [.nm 2, .nm 3]) (eP (pCall F_fraction_of [pVar 0, pVar 1])))
      (sRet (eP (pCall F_fraction_of [p2 dMod (pVar 2) (pVar 3), pVar 3])))
def F_part_of : Fn := mkFn 2 4 g_part_of
def N_part_sum : List Str := ["one", "other"]
def g_part_sum : Sm := sRet (eP (pCall F_part_of [p2 dAdd (p2 dMul (p2 dIx (pVar 0) (pC (.int 0))) (p2 dIx (pVar 1) (pC (.int 1)))) (p2 dMul (p2 dIx (pVar 1) (pC (.int 0))) (p2 dIx (pVar 0) (pC (.int 1)))), p2 dMul (p2 dIx (pVar 0) (pC (.int 1))) (p2 dIx (pVar 1) (pC (.int 1)))]))
def F_part_sum : Fn := mkFn 2 2 g_part_sum
def N_part_times : List Str := ["k", "part"]
def g_part_times : Sm := sRet (eP (pCall F_part_of [p2 dMul (pVar 0) (p2 dIx (pVar 1) (pC (.int 0))), p2 dIx (pVar 1) (pC (.int 1))]))
def F_part_times : Fn := mkFn 2 2 g_part_times
def N_part_turned : List Str := ["part"]
def g_part_turned : Sm := sRet (eP (pCall F_part_of [p1 dNeg (p2 dIx (pVar 0) (pC (.int 0))), p2 dIx (pVar 0) (pC (.int 1))]))
def F_part_turned : Fn := mkFn 1 1 g_part_turned
def N_half_of : List Str := ["part", "c"]
def g_half_of : Sm := sSeq (sIf (tP (tV (p2 dLt (p2 dMul (pC (.int 2)) (p2 dIx (pVar 0) (pC (.int 0)))) (p2 dIx (pVar 0) (pC (.int 1)))))) (sRet (eP (pN dTup [pVar 0, pVar 1]))) (sNx))
      (sRet (eP (pN dTup [pCall F_part_sum [pVar 0, pN dTup [pC (.int 1), pC (.int 2)]], pCall F_fraction_turned [pVar 1]])))
def F_half_of : Fn := mkFn 2 2 g_half_of
def N_row_sum : List Str := ["one", "other", "a", "b"]
def g_row_sum : Sm := sRet (eP (pN (l1 dTuple) [pComp [2, 3] (.tp [.nm 2, .nm 3]) (ipZ true (pVar 0) (pVar 1)) (tYesP) (p2 dAdd (pVar 2) (pVar 3))]))
def F_row_sum : Fn := mkFn 2 4 g_row_sum
def N_row_times : List Str := ["k", "row", "a"]
def g_row_times : Sm := sRet (eP (pN (l1 dTuple) [pComp [2] (.nm 2) (ipP (pVar 1)) (tYesP) (p2 dMul (pVar 0) (pVar 2))]))
def F_row_times : Fn := mkFn 2 3 g_row_times
def N_terms_merged : List Str := ["terms", "found", "row", "part", "c", "low", "signed"]
def g_terms_merged : Sm := sSeq (sOwn 1 (eF (pC (.dict []))))
      (sSeq (sFor (.tp [.nm 2, .nm 3, .nm 4]) (iP (pVar 0)) (sSeq (sPat (.tp [.nm 5, .nm 6]) (eP (pCall F_half_of [pVar 3, pVar 4])))
      (sDPut 1 (pN dTup [pVar 2, pVar 5]) (pCall F_fraction_sum [p3 dGet2 (pOwn 1) (pN dTup [pVar 2, pVar 5]) (pN dTup [pC (.int 0), pC (.int 1)]), pVar 6]))))
      (sRet (eP (pN (l1 dTuple) [pComp [2, 3] (.tp [.nm 2, .nm 3]) (ipP (pN (l1 dSorted) [pOwn 1])) (tV (p2 dNe (p2 dIxK (pOwn 1) (pN dTup [pVar 2, pVar 3])) (pN dTup [pC (.int 0), pC (.int 1)]))) (pN dTup [pVar 2, pVar 3, p2 dIxK (pOwn 1) (pN dTup [pVar 2, pVar 3])])]))))
def F_terms_merged : Fn := mkFn 1 7 g_terms_merged
def N_turn_sum : List Str := ["row", "part", "c"]
def g_turn_sum : Sm := sRet (eP (pCall F_terms_merged [pN dLst [pN dTup [pVar 0, pVar 1, pVar 2]]]))
def F_turn_sum : Fn := mkFn 3 3 g_turn_sum
def N_sums_added : List Str := ["one", "other"]
def g_sums_added : Sm := sRet (eP (pCall F_terms_merged [p2 dAdd (pVar 0) (pVar 1)]))
def F_sums_added : Fn := mkFn 2 2 g_sums_added
def N_sum_often : List Str := ["c", "one", "row", "part", "d"]
def g_sum_often : Sm := sRet (eP (pCall F_terms_merged [pComp [2, 3, 4] (.tp [.nm 2, .nm 3, .nm 4]) (ipP (pVar 1)) (tYesP) (pN dTup [pVar 2, pVar 3, pCall F_fraction_times [pVar 0, pVar 4]])]))
def F_sum_often : Fn := mkFn 2 5 g_sum_often
def N_sums_times : List Str := ["one", "other", "found", "row", "part", "c", "late", "more", "d"]
def g_sums_times : Sm := sSeq (sOwn 2 (eF (pN dLst [])))
      (sSeq (sFor (.tp [.nm 3, .nm 4, .nm 5]) (iP (pVar 0)) (sFor (.tp [.nm 6, .nm 7, .nm 8]) (iP (pVar 1)) (sApp 2 (eP (pN dTup [pCall F_row_sum [pVar 3, pVar 6], pCall F_part_sum [pVar 4, pVar 7], pCall F_fraction_times [pVar 5, pVar 8]])))))
      (sFrzs [2] (sRet (eP (pCall F_terms_merged [pVar 2])))))
def F_sums_times : Fn := mkFn 2 9 g_sums_times
def N_cos_turns : List Str := ["row", "part", "x"]
def g_cos_turns : Sm := sRet (eP (pCall F_terms_merged [pN dLst [pN dTup [pVar 0, pVar 1, pC G_HALF], pN dTup [pN (l1 dTuple) [pComp [2] (.nm 2) (ipP (pVar 0)) (tYesP) (p1 dNeg (pVar 2))], pCall F_part_turned [pVar 1], pC G_HALF]]]))
def F_cos_turns : Fn := mkFn 2 3 g_cos_turns
def N_sin_turns : List Str := ["row", "part"]
def g_sin_turns : Sm := sRet (eP (pCall F_cos_turns [pVar 0, pCall F_part_sum [pVar 1, pN dTup [pC (.int 3), pC (.int 4)]]]))
def F_sin_turns : Fn := mkFn 2 2 g_sin_turns
def N_told_turns : List Str := ["n", "c"]
def g_told_turns : Sm := sRet (eP (pCall F_turn_sum [p2 dRepT (pN dTup [pC (.int 0)]) (pVar 0), pC G_NO_PART, pVar 1]))
def F_told_turns : Fn := mkFn 2 2 g_told_turns
def N_mirrored_sum : List Str := ["one", "row", "part", "c", "x"]
def g_mirrored_sum : Sm := sRet (eP (pCall F_terms_merged [pComp [1, 2, 3] (.tp [.nm 1, .nm 2, .nm 3]) (ipP (pVar 0)) (tYesP) (pN dTup [pN (l1 dTuple) [pComp [4] (.nm 4) (ipP (pVar 1)) (tYesP) (p1 dNeg (pVar 4))], pCall F_part_turned [pVar 2], pVar 3])]))
def F_mirrored_sum : Fn := mkFn 1 5 g_mirrored_sum
def N_is_even_sum : List Str := ["one"]
def g_is_even_sum : Sm := sRet (eP (p2 dEq (pCall F_mirrored_sum [pVar 0]) (pVar 0)))
def F_is_even_sum : Fn := mkFn 1 1 g_is_even_sum
def N_is_head_row : List Str := ["row", "some", "x"]
def g_is_head_row : Sm := sSeq (sVal 1 (eP (pComp [2] (.nm 2) (ipP (pVar 0)) (tV (p2 dNe (pVar 2) (pC (.int 0)))) (pVar 2))))
      (sRet (eP (pT (L3.tAnd (tV (p2 dNe (pVar 1) (pN dLst []))) (tV (p2 dGt (p2 dIx (pVar 1) (pC (.int 0))) (pC (.int 0))))))))
def F_is_head_row : Fn := mkFn 1 3 g_is_head_row
def N_cosine_often : List Str := ["row", "part", "c"]
def g_cosine_often : Sm := sSeq (sIf (tP (tV (pCall F_is_head_row [pVar 0]))) (sRet (eP (pCall F_fraction_times [pN dTup [pC (.int 2), pC (.int 1)], pVar 2]))) (sNx))
      (sSeq (sIf (tP (L3.tOr (tV (pN (l1 dAny) [pVar 0])) (tV (p2 dGe (p2 dMul (pC (.int 4)) (p2 dIx (pVar 1) (pC (.int 0)))) (p2 dIx (pVar 1) (pC (.int 1))))))) (sRet (eP (pC .none))) (sNx))
      (sRet (eP (pIf (tV (p2 dEq (p2 dIx (pVar 1) (pC (.int 0))) (pC (.int 0)))) (pVar 2) (pCall F_fraction_times [pN dTup [pC (.int 2), pC (.int 1)], pVar 2])))))
def F_cosine_often : Fn := mkFn 3 3 g_cosine_often
def N_cosine_form : List Str := ["one", "found", "row", "part", "c", "often"]
def g_cosine_form : Sm := sSeq (sOwn 1 (eF (pN dLst [])))
      (sSeq (sFor (.tp [.nm 2, .nm 3, .nm 4]) (iP (pVar 0)) (sSeq (sVal 5 (eP (pCall F_cosine_often [pVar 2, pVar 3, pVar 4])))
      (sIf (tP (tV (p2 dNotN (pVar 5) (pC .none)))) (sApp 1 (eP (pN dTup [pVar 2, pVar 3, pVar 5]))) (sNx))))
      (sRet (eP (pN (l1 dTuple) [pOwn 1]))))
def F_cosine_form : Fn := mkFn 1 6 g_cosine_form
def N_turns_of_cosines : List Str := ["form", "found", "row", "part", "c"]
def g_turns_of_cosines : Sm := sSeq (sOwn 1 (eF (pN dLst [])))
      (sSeq (sFor (.tp [.nm 2, .nm 3, .nm 4]) (iP (pVar 0)) (sExtT 1 (eP (pCall F_sum_often [pVar 4, pCall F_cos_turns [pVar 2, pVar 3]]))))
      (sFrzs [1] (sRet (eP (pCall F_terms_merged [pVar 1])))))
def F_turns_of_cosines : Fn := mkFn 1 5 g_turns_of_cosines
def N_sum_power : List Str := ["n", "one", "k", "found", "turn"]
def g_sum_power : Sm := sSeq (sVal 3 (eP (pCall F_told_turns [pVar 0, pN dTup [pC (.int 1), pC (.int 1)]])))
      (sSeq (sFor (.nm 4) (iR (pC (.int 0)) (pVar 2)) (sVal 3 (eP (pCall F_sums_times [pVar 3, pVar 1]))))
      (sRet (eP (pVar 3))))
def F_sum_power : Fn := mkFn 3 5 g_sum_power
def N_two_cosines : List Str := ["row", "part"]
def g_two_cosines : Sm := sRet (eP (pCall F_sum_often [pN dTup [pC (.int 2), pC (.int 1)], pCall F_cos_turns [pVar 0, pVar 1]]))
def F_two_cosines : Fn := mkFn 2 2 g_two_cosines
def N_chosen_out_of : List Str := ["k", "i", "found", "step"]
def g_chosen_out_of : Sm := sSeq (sVal 2 (eP (pC (.int 1))))
      (sSeq (sFor (.nm 3) (iR (pC (.int 0)) (pVar 1)) (sVal 2 (eP (p2 dFdiv (p2 dMul (pVar 2) (p2 dSub (pVar 0) (pVar 3))) (p2 dAdd (pVar 3) (pC (.int 1)))))))
      (sRet (eP (pVar 2))))
def F_chosen_out_of : Fn := mkFn 2 4 g_chosen_out_of
def N_power_by_counts : List Str := ["row", "part", "k", "found", "i", "often"]
def g_power_by_counts : Sm := sSeq (sOwn 3 (eF (pN dLst [])))
      (sSeq (sFor (.nm 4) (iR (pC (.int 0)) (p2 dAdd (pVar 2) (pC (.int 1)))) (sSeq (sVal 5 (eP (p2 dSub (pVar 2) (p2 dMul (pC (.int 2)) (pVar 4)))))
      (sApp 3 (eP (pN dTup [pCall F_row_times [pVar 5, pVar 0], pCall F_part_times [pVar 5, pVar 1], pN dTup [pCall F_chosen_out_of [pVar 2, pVar 4], pC (.int 1)]])))))
      (sFrzs [3] (sRet (eP (pCall F_terms_merged [pVar 3])))))
def F_power_by_counts : Fn := mkFn 3 6 g_power_by_counts
def N_next_numbers : List Str := ["older", "here", "found", "x", "y"]
def g_next_numbers : Sm := sSeq (sVal 2 (eP (pNS dLst [(false, pC (.int 0)), (true, pVar 1)])))
      (sRet (eP (pComp [3, 4] (.tp [.nm 3, .nm 4]) (ipZ false (pVar 2) (p2 dAdd (pVar 0) (p2 dRep (pN dLst [pC (.int 0)]) (p2 dSub (pN (l1 dLen) [pVar 2]) (pN (l1 dLen) [pVar 0]))))) (tYesP) (p2 dSub (pVar 3) (pVar 4)))))
def F_next_numbers : Fn := mkFn 2 5 g_next_numbers
def N_multiple_numbers : List Str := ["k", "turn", "older", "here"]
def g_multiple_numbers : Sm := sSeq (sPar [2, 3] [eP (pN dLst [pC (.int 2)]), eP (pN dLst [pC (.int 0), pC (.int 1)])])
      (sSeq (sFor (.nm 1) (iR (pC (.int 0)) (pVar 0)) (sPar [2, 3] [eP (pVar 3), eP (pCall F_next_numbers [pVar 2, pVar 3])]))
      (sRet (eP (pN (l1 dTuple) [pVar 2]))))
def F_multiple_numbers : Fn := mkFn 1 4 g_multiple_numbers
def N_sum_at_polynomial : List Str := ["n", "numbers", "one", "found", "number"]
def g_sum_at_polynomial : Sm := sSeq (sVal 3 (eP (pN dTup [])))
      (sSeq (sFor (.nm 4) (iP (p1 dRevT (pVar 1))) (sVal 3 (eP (pCall F_sums_added [pCall F_sums_times [pVar 3, pVar 2], pCall F_told_turns [pVar 0, pN dTup [pVar 4, pC (.int 1)]]]))))
      (sRet (eP (pVar 3))))
def F_sum_at_polynomial : Fn := mkFn 3 5 g_sum_at_polynomial
def N__law_open_cells : List Str := ["script", "stirred", "cell", "cells"]
def g__law_open_cells : Sm := sSeq (sVal 1 (eP (pC (.int 11))))
      (sSeq (sFor (.nm 2) (iScr 0) (sVal 1 (eP (p2 dMod (pN (l1 dInt) [p2 dAdd (p2 dAdd (p2 dMul (pVar 1) (pC (.int 69069))) (p2 dMul (pVar 2) (pC (.int 31)))) (pC (.int 5))]) (pC (.int 2147483629))))))
      (sSeq (sVal 3 (eP (pComp [2] (.nm 2) (ipScr 0) (tYesP) (pN (l1 dAbs) [pVar 2]))))
      (sRet (eSrc (p1 dRevL (pVar 3)) (pC (.int 1)) (pVar 1) (pC (.int 0))))))
def F__law_open_cells : Fn := mkFn 1 4 g__law_open_cells
def N__law_pick : List Str := ["source", "most", "cells", "others", "lap", "stirred"]
def g__law_pick : Sm := sSeq (sIf (tP (tV (p2 dLt (pVar 1) (pC (.int 2))))) (sRet (eP (pC (.int 0)))) (sNx))
      (sSeq (sAl 0 2 (tV (p2 dLt (pSrc 0 "left") (pC (.int 2)))))
      (sSeq (sVal 3 (eP (pSrc 0 "left")))
      (sSeq (sIf (tP (tV (p2 dGt (pVar 3) (pC (.int 1))))) (sSeq (sSrcPut 0 "left" (p2 dFdiv (pVar 3) (pVar 1)))
      (sRet (eP (p2 dMod (pN (l1 dInt) [pVar 3]) (pVar 1))))) (sNx))
      (sSeq (sSrcPut 0 "turn" (p2 dAdd (pSrc 0 "turn") (pC (.int 1))))
      (sSeq (sVal 4 (eP (pSrc 0 "turn")))
      (sSeq (sVal 5 (eP (p2 dMod (pN (l1 dInt) [p2 dAdd (pSrc 0 "mixed") (p2 dMul (pVar 4) (pC (.int 104729)))]) (pC (.int 998244353)))))
      (sSeq (sVal 5 (eP (p2 dMod (pN (l1 dInt) [p2 dAdd (p2 dMul (pVar 5) (pVar 5)) (p2 dMul (pVar 4) (pC (.int 17)))]) (pC (.int 2147483647)))))
      (sRet (eP (p2 dMod (pN (l1 dInt) [p2 dFdiv (pVar 5) (pC (.int 16))]) (pVar 1)))))))))))
def F__law_pick : Fn := mkFn 2 6 g__law_pick
def N__law_any_order : List Str := ["source", "things", "others", "lap"]
def g__law_any_order : Sm := sSeq (sOwn 2 (eF (pN (l1 dList) [pVar 1])))
      (sRet (eComp [3] (.nm 3) (iR (pC (.int 0)) (pN (l1 dLen) [pOwn 2])) (tYesE) (ePopI 2 (eCallR F__law_pick 0 [eP (pN (l1 dLen) [pOwn 2])]))))
def F__law_any_order : Fn := mkFn 2 4 g__law_any_order
def N__law_of : List Str := ["source", "some"]
def g__law_of : Sm := sRet (e2 .c dIx (eP (pVar 1)) (eCallR F__law_pick 0 [eP (pN (l1 dLen) [pVar 1])]))
def F__law_of : Fn := mkFn 2 2 g__law_of
def N__law_low : List Str := ["p", "q", "a", "b"]
def g__law_low : Sm := sSeq (sPar [2, 3] [eP (pN (l1 dAbs) [pVar 0]), eP (pVar 1)])
      (sSeq (sWhile (tP (tV (p2 dGt (pVar 3) (pC (.int 0))))) (sPar [2, 3] [eP (pVar 3), eP (p2 dMod (pN (l1 dInt) [pVar 2]) (pVar 3))]))
      (sRet (eP (pN dTup [p2 dFdiv (pVar 0) (pVar 2), p2 dFdiv (pVar 1) (pVar 2)]))))
def F__law_low : Fn := mkFn 2 4 g__law_low
def N__law_plus : List Str := ["x", "y"]
def g__law_plus : Sm := sRet (eP (pCall F__law_low [p2 dAdd (p2 dMul (p2 dIx (pVar 0) (pC (.int 0))) (p2 dIx (pVar 1) (pC (.int 1)))) (p2 dMul (p2 dIx (pVar 1) (pC (.int 0))) (p2 dIx (pVar 0) (pC (.int 1)))), p2 dMul (p2 dIx (pVar 0) (pC (.int 1))) (p2 dIx (pVar 1) (pC (.int 1)))]))
def F__law_plus : Fn := mkFn 2 2 g__law_plus
def N__law_by : List Str := ["x", "y"]
def g__law_by : Sm := sRet (eP (pCall F__law_low [p2 dMul (p2 dIx (pVar 0) (pC (.int 0))) (p2 dIx (pVar 1) (pC (.int 0))), p2 dMul (p2 dIx (pVar 0) (pC (.int 1))) (p2 dIx (pVar 1) (pC (.int 1)))]))
def F__law_by : Fn := mkFn 2 2 g__law_by
def N__law_part : List Str := ["p", "q"]
def g__law_part : Sm := sRet (eP (pCall F__law_low [p2 dMod (pN (l1 dInt) [pVar 0]) (pVar 1), pVar 1]))
def F__law_part : Fn := mkFn 2 2 g__law_part
def N__law_made : List Str := ["terms", "found", "row", "c", "key", "p", "q"]
def g__law_made : Sm := sSeq (sOwn 1 (eF (pC (.dict []))))
      (sSeq (sFor (.tp [.nm 2, .tp [.nm 5, .nm 6], .nm 3]) (iP (pVar 0)) (sSeq (sIf (tP (tV (p2 dGe (p2 dMul (pC (.int 2)) (pVar 5)) (pVar 6)))) (sPar [5, 6, 3] [eP (p2 dSub (p2 dMul (pC (.int 2)) (pVar 5)) (pVar 6)), eP (p2 dMul (pC (.int 2)) (pVar 6)), eP (pN dTup [p2 dSub (pC (.int 0)) (p2 dIx (pVar 3) (pC (.int 0))), p2 dIx (pVar 3) (pC (.int 1))])]) (sNx))
      (sSeq (sVal 4 (eP (pN dTup [pVar 2, pCall F__law_low [pVar 5, pVar 6]])))
      (sDPut 1 (pVar 4) (pCall F__law_plus [p3 dGet2 (pOwn 1) (pVar 4) (pN dTup [pC (.int 0), pC (.int 1)]), pVar 3])))))
      (sRet (eP (pN (l1 dTuple) [pComp [4] (.nm 4) (ipP (pN (l1 dSorted) [pOwn 1])) (tV (p2 dNe (p2 dIx (p2 dIxK (pOwn 1) (pVar 4)) (pC (.int 0))) (pC (.int 0)))) (p2 dAdd (pVar 4) (pN dTup [p2 dIxK (pOwn 1) (pVar 4)]))]))))
def F__law_made : Fn := mkFn 1 7 g__law_made
def N__law_product : List Str := ["one", "other", "found", "row", "part", "c", "late", "more", "d", "p", "q", "x", "y"]
def g__law_product : Sm := sSeq (sOwn 2 (eF (pN dLst [])))
      (sSeq (sFor (.tp [.nm 3, .nm 4, .nm 5]) (iP (pVar 0)) (sFor (.tp [.nm 6, .nm 7, .nm 8]) (iP (pVar 1)) (sSeq (sPat (.tp [.nm 9, .nm 10]) (eP (pCall F__law_plus [pVar 4, pVar 7])))
      (sApp 2 (eP (pN dTup [pN (l1 dTuple) [pComp [11, 12] (.tp [.nm 11, .nm 12]) (ipZ false (pVar 3) (pVar 6)) (tYesP) (p2 dAdd (pVar 11) (pVar 12))], pCall F__law_part [pVar 9, pVar 10], pCall F__law_by [pVar 5, pVar 8]]))))))
      (sFrzs [2] (sRet (eP (pCall F__law_made [pVar 2])))))
def F__law_product : Fn := mkFn 2 13 g__law_product
def N__law_often : List Str := ["c", "one", "row", "part", "d"]
def g__law_often : Sm := sRet (eP (pCall F__law_made [pComp [2, 3, 4] (.tp [.nm 2, .nm 3, .nm 4]) (ipP (pVar 1)) (tYesP) (pN dTup [pVar 2, pVar 3, pCall F__law_by [pVar 0, pVar 4]])]))
def F__law_often : Fn := mkFn 2 5 g__law_often
def N__law_mirrored : List Str := ["one", "row", "c", "p", "q", "x"]
def g__law_mirrored : Sm := sRet (eP (pCall F__law_made [pComp [1, 2, 3, 4] (.tp [.nm 1, .tp [.nm 3, .nm 4], .nm 2]) (ipP (pVar 0)) (tYesP) (pN dTup [pN (l1 dTuple) [pComp [5] (.nm 5) (ipP (pVar 1)) (tYesP) (p2 dSub (pC (.int 0)) (pVar 5))], pCall F__law_part [p2 dSub (pC (.int 0)) (pVar 3), pVar 4], pVar 2])]))
def F__law_mirrored : Fn := mkFn 1 6 g__law_mirrored
def N__law_cos : List Str := ["row", "part", "x"]
def g__law_cos : Sm := sRet (eP (pCall F__law_made [pN dLst [pN dTup [pVar 0, pVar 1, pN dTup [pC (.int 1), pC (.int 2)]], pN dTup [pN (l1 dTuple) [pComp [2] (.nm 2) (ipP (pVar 0)) (tYesP) (p2 dSub (pC (.int 0)) (pVar 2))], pCall F__law_part [p2 dSub (pC (.int 0)) (p2 dIx (pVar 1) (pC (.int 0))), p2 dIx (pVar 1) (pC (.int 1))], pN dTup [pC (.int 1), pC (.int 2)]]]]))
def F__law_cos : Fn := mkFn 2 3 g__law_cos
def N__law_sin : List Str := ["row", "part", "p", "q"]
def g__law_sin : Sm := sSeq (sPat (.tp [.nm 2, .nm 3]) (eP (pCall F__law_plus [pVar 1, pN dTup [pC (.int 3), pC (.int 4)]])))
      (sRet (eP (pCall F__law_cos [pVar 0, pCall F__law_part [pVar 2, pVar 3]])))
def F__law_sin : Fn := mkFn 2 4 g__law_sin
def N__law_drawn_part : List Str := ["source", "q"]
def g__law_drawn_part : Sm := sSeq (sVal 1 (eCallR F__law_of 0 [eP (pN dLst [pC (.int 1), pC (.int 2), pC (.int 3), pC (.int 4), pC (.int 5), pC (.int 6), pC (.int 8), pC (.int 9), pC (.int 12), pC (.int 24), pC (.int 7)])]))
      (sRet (eCallV F__law_part [eCallR F__law_pick 0 [eP (pVar 1)], eP (pVar 1)]))
def F__law_drawn_part : Fn := mkFn 1 2 g__law_drawn_part
def N__law_drawn_fraction : List Str := ["source"]
def g__law_drawn_fraction : Sm := sRet (eCallV F__law_low [eCallR F__law_of 0 [eP (pN dLst [pC (.int 1), p1 dNeg (pC (.int 1)), pC (.int 2), p1 dNeg (pC (.int 2)), pC (.int 3), p1 dNeg (pC (.int 5))])], eCallR F__law_of 0 [eP (pN dLst [pC (.int 1), pC (.int 1), pC (.int 2), pC (.int 3)])]])
def F__law_drawn_fraction : Fn := mkFn 1 1 g__law_drawn_fraction
def N__law_drawn_row : List Str := ["source", "n", "place"]
def g__law_drawn_row : Sm := sRet (eN .c (l1 dTuple) [eComp [2] (.nm 2) (iR (pC (.int 0)) (pVar 1)) (tYesE) (e2 .c dSub (eCallR F__law_pick 0 [eP (pC (.int 5))]) (eP (pC (.int 2))))])
def F__law_drawn_row : Fn := mkFn 2 3 g__law_drawn_row
def N__law_drawn_terms : List Str := ["source", "n", "most", "rows", "found", "turn"]
def g__law_drawn_terms : Sm := sSeq (sVal 3 (eComp [5] (.nm 5) (iR (pC (.int 0)) (pC (.int 2))) (tYesE) (eCallR F__law_drawn_row 0 [eP (pVar 1)])))
      (sSeq (sOwn 4 (eF (pN dLst [])))
      (sSeq (sFor (.nm 5) (iRE [eCallR F__law_pick 0 [eP (p2 dAdd (pVar 2) (pC (.int 1)))]]) (sApp 4 (eN .c dTup [eCallR F__law_of 0 [eP (pVar 3)], eCallR F__law_drawn_part 0 [], eCallR F__law_drawn_fraction 0 []])))
      (sRet (eMv 4))))
def F__law_drawn_terms : Fn := mkFn 3 6 g__law_drawn_terms
def N__law_form : List Str := ["even", "found", "row", "part", "c", "some", "x"]
def g__law_form : Sm := sSeq (sOwn 1 (eF (pN dLst [])))
      (sSeq (sFor (.tp [.nm 2, .nm 3, .nm 4]) (iP (pVar 0)) (sSeq (sVal 5 (eP (pComp [6] (.nm 6) (ipP (pVar 2)) (tV (p2 dNe (pVar 6) (pC (.int 0)))) (pVar 6))))
      (sIf (tP (L3.tOr (L3.tAnd (tV (p2 dNe (pVar 5) (pN dLst []))) (tV (p2 dGt (p2 dIx (pVar 5) (pC (.int 0))) (pC (.int 0))))) (L3.tAnd (tV (p2 dEq (pVar 5) (pN dLst []))) (tV (pChain dLt dLt (pC (.int 0)) (p2 dMul (pC (.int 4)) (p2 dIx (pVar 3) (pC (.int 0)))) (p2 dIx (pVar 3) (pC (.int 1)))))))) (sApp 1 (eP (pN dTup [pVar 2, pVar 3, pCall F__law_by [pN dTup [pC (.int 2), pC (.int 1)], pVar 4]]))) (sIf (tP (L3.tAnd (tV (p2 dEq (pVar 5) (pN dLst []))) (tV (p2 dEq (pVar 3) (pN dTup [pC (.int 0), pC (.int 1)]))))) (sApp 1 (eP (pN dTup [pVar 2, pVar 3, pVar 4]))) (sNx)))))
      (sRet (eP (pN (l1 dTuple) [pOwn 1]))))
def F__law_form : Fn := mkFn 1 7 g__law_form
def N__law_ring_right : List Str := ["source", "n", "drawn", "c", "told", "due", "whole", "one", "other", "third", "lap", "terms"]
def g__law_ring_right : Sm := sSeq (sVal 2 (eComp [10] (.nm 10) (iR (pC (.int 0)) (pC (.int 3))) (tYesE) (eCallR F__law_drawn_terms 0 [eP (pVar 1), eP (pC (.int 4))])))
      (sSeq (sPat (.tl [.nm 7, .nm 8, .nm 9]) (eP (pComp [11] (.nm 11) (ipP (pVar 2)) (tYesP) (pCall F__law_made [pVar 11]))))
      (sSeq (sIf (tP (tV (p2 dNe (pN (l1 dRepr) [pComp [11] (.nm 11) (ipP (pVar 2)) (tYesP) (pCall F_terms_merged [pVar 11])]) (pN (l1 dRepr) [pN dLst [pVar 7, pVar 8, pVar 9]])))) (sRet (eP (pC (.bool false)))) (sNx))
      (sSeq (sIf (tVE (e2 .c dNe (eN .c (l1 dRepr) [eCallV F_terms_merged [eN .c (l1 dTuple) [eCallR F__law_any_order 0 [eP (p2 dAdd (p2 dIx (pVar 2) (pC (.int 0))) (p2 dIx (pVar 2) (pC (.int 0))))]]]]) (eP (pN (l1 dRepr) [pCall F__law_often [pN dTup [pC (.int 2), pC (.int 1)], pVar 7]])))) (sRet (eP (pC (.bool false)))) (sNx))
      (sSeq (sVal 3 (eCallR F__law_drawn_fraction 0 []))
      (sSeq (sVal 4 (eP (pN dLst [pCall F_sums_added [pVar 7, pVar 8], pCall F_sum_often [pVar 3, pVar 7], pCall F_sum_often [pN dTup [pC (.int 0), pC (.int 1)], pVar 7], pCall F_sums_times [pVar 7, pVar 8]])))
      (sSeq (sVal 5 (eP (pN dLst [pCall F__law_made [p2 dAdd (pVar 7) (pVar 8)], pCall F__law_often [pVar 3, pVar 7], pN dTup [], pCall F__law_product [pVar 7, pVar 8]])))
      (sSeq (sIf (tP (tV (p2 dNe (pN (l1 dRepr) [pVar 4]) (pN (l1 dRepr) [pVar 5])))) (sRet (eP (pC (.bool false)))) (sNx))
      (sSeq (sIf (tP (L3.tOr (tV (p2 dNe (pCall F_sums_times [pVar 8, pVar 7]) (p2 dIx (pVar 5) (pC (.int 3))))) (tV (p2 dNe (pCall F_sums_times [p2 dIx (pVar 5) (pC (.int 3)), pVar 9]) (pCall F_sums_times [pVar 7, pCall F_sums_times [pVar 8, pVar 9]]))))) (sRet (eP (pC (.bool false)))) (sNx))
      (sSeq (sVal 6 (eP (pCall F_told_turns [pVar 1, pN dTup [pC (.int 1), pC (.int 1)]])))
      (sSeq (sIf (tP (L3.tOr (tV (p2 dNe (pVar 6) (pN dTup [pN dTup [p2 dRepT (pN dTup [pC (.int 0)]) (pVar 1), pN dTup [pC (.int 0), pC (.int 1)], pN dTup [pC (.int 1), pC (.int 1)]]]))) (L3.tOr (tV (p2 dNe (pCall F_sums_times [pVar 6, pVar 7]) (pVar 7))) (tV (p2 dNe (pCall F_told_turns [pVar 1, pN dTup [pC (.int 0), pC (.int 1)]]) (pN dTup [])))))) (sRet (eP (pC (.bool false)))) (sNx))
      (sRet (eP (p2 dEq (pCall F_sums_times [pVar 7, pCall F_sums_added [pVar 8, pVar 9]]) (pCall F_sums_added [p2 dIx (pVar 5) (pC (.int 3)), pCall F_sums_times [pVar 7, pVar 9]]))))))))))))))
def F__law_ring_right : Fn := mkFn 2 12 g__law_ring_right
def N__law_mirrors_right : List Str := ["source", "n", "back", "some", "turn", "each", "one", "other", "even", "form", "lap", "row", "part"]
def g__law_mirrors_right : Sm := sSeq (sPat (.tl [.nm 6, .nm 7]) (eComp [10] (.nm 10) (iR (pC (.int 0)) (pC (.int 2))) (tYesE) (eCallV F__law_made [eCallR F__law_drawn_terms 0 [eP (pVar 1), eP (pC (.int 4))]])))
      (sSeq (sVal 2 (eP (pCall F__law_mirrored [pVar 6])))
      (sSeq (sIf (tP (tV (p2 dNe (pN (l1 dRepr) [pN dLst [pCall F_mirrored_sum [pVar 6], pCall F_mirrored_sum [pVar 2]]]) (pN (l1 dRepr) [pN dLst [pVar 2, pVar 6]])))) (sRet (eP (pC (.bool false)))) (sNx))
      (sSeq (sIf (tP (tV (p2 dNe (pCall F_mirrored_sum [pCall F__law_product [pVar 6, pVar 7]]) (pCall F__law_product [pVar 2, pCall F__law_mirrored [pVar 7]])))) (sRet (eP (pC (.bool false)))) (sNx))
      (sSeq (sOwn 3 (eF (pN dLst [pVar 6, pCall F__law_product [pVar 6, pVar 2], pCall F__law_made [p2 dAdd (pVar 6) (pVar 2)], pN dTup []])))
      (sSeq (sFor (.nm 4) (iR (pC (.int 0)) (pC (.int 3))) (sSeq (sPar [11, 12] [eCallR F__law_drawn_row 0 [eP (pVar 1)], eCallR F__law_drawn_part 0 []])
      (sSeq (sApp 3 (eCallV F__law_made [e2 .f dAdd (eP (p2 dIx (pOwn 3) (p1 dNeg (pC (.int 1))))) (eCallV F__law_often [eCallR F__law_drawn_fraction 0 [], eP (pCall F__law_cos [pVar 11, pVar 12])])]))
      (sIf (tP (tV (p2 dNe (pN (l1 dRepr) [pN dLst [pCall F_cos_turns [pVar 11, pVar 12], pCall F_sin_turns [pVar 11, pVar 12]]]) (pN (l1 dRepr) [pN dLst [pCall F__law_cos [pVar 11, pVar 12], pCall F__law_sin [pVar 11, pVar 12]]])))) (sRet (eP (pC (.bool false)))) (sNx)))))
      (sSeq (sFrzs [3] (sFor (.nm 5) (iP (pVar 3)) (sSeq (sVal 8 (eP (p2 dEq (pCall F__law_mirrored [pVar 5]) (pVar 5))))
      (sSeq (sIf (tP (tV (p2 dNe (pN (l1 dRepr) [pCall F_is_even_sum [pVar 5]]) (pN (l1 dRepr) [pVar 8])))) (sRet (eP (pC (.bool false)))) (sNx))
      (sSeq (sVal 9 (eP (pCall F__law_form [pVar 5])))
      (sIf (tP (L3.tAnd (tV (pVar 8)) (L3.tOr (tV (p2 dNe (pN (l1 dRepr) [pCall F_cosine_form [pVar 5]]) (pN (l1 dRepr) [pVar 9]))) (tV (p2 dNe (pN (l1 dRepr) [pCall F_turns_of_cosines [pVar 9]]) (pN (l1 dRepr) [pVar 5])))))) (sRet (eP (pC (.bool false)))) (sNx)))))))
      (sRet (eP (p2 dEq (pComp [5] (.nm 5) (ipP (pCut (pOwn 3) (some (pC (.int 1))) none)) (tV (p2 dNotT (pCall F_is_even_sum [pVar 5]) (pC (.bool true)))) (pVar 5)) (pN dLst []))))))))))
def F__law_mirrors_right : Fn := mkFn 2 13 g__law_mirrors_right
def N__law_powers_right : List Str := ["source", "n", "turn", "numbers", "i", "late", "number", "row", "part", "k", "double", "found", "many", "step", "one", "drawn", "due", "power", "place", "x"]
def g__law_powers_right : Sm := sSeq (sPat (.tp [.nm 7, .nm 8, .nm 9]) (eN .c dTup [eCallR F__law_drawn_row 0 [eP (pVar 1)], eCallR F__law_drawn_part 0 [], eCallR F__law_pick 0 [eP (pC (.int 9))]]))
      (sSeq (sPar [10, 11] [eP (pCall F__law_often [pN dTup [pC (.int 2), pC (.int 1)], pCall F__law_cos [pVar 7, pVar 8]]), eP (pCall F__law_made [pN dLst [pN dTup [p2 dRepT (pN dTup [pC (.int 0)]) (pVar 1), pN dTup [pC (.int 0), pC (.int 1)], pN dTup [pC (.int 1), pC (.int 1)]]]])])
      (sSeq (sFor (.nm 2) (iR (pC (.int 0)) (pVar 9)) (sVal 11 (eP (pCall F__law_product [pVar 11, pVar 10]))))
      (sSeq (sIf (tP (tV (p2 dNe (pN (l1 dRepr) [pN dLst [pCall F_two_cosines [pVar 7, pVar 8], pCall F_sum_power [pVar 1, pVar 10, pVar 9]]]) (pN (l1 dRepr) [pN dLst [pVar 10, pVar 11]])))) (sRet (eP (pC (.bool false)))) (sNx))
      (sSeq (sIf (tP (tV (p2 dNe (pN (l1 dRepr) [pCall F_power_by_counts [pVar 7, pVar 8, pVar 9]]) (pN (l1 dRepr) [pVar 11])))) (sRet (eP (pC (.bool false)))) (sNx))
      (sSeq (sOwn 3 (eF (p2 dRep (pN dLst [pC (.int 0)]) (p2 dAdd (pVar 9) (pC (.int 1))))))
      (sSeq (sFor (.nm 4) (iR (pC (.int 0)) (p2 dAdd (p2 dFdiv (pVar 9) (pC (.int 2))) (pC (.int 1)))) (sSeq (sVal 12 (eP (pC (.int 1))))
      (sSeq (sFor (.nm 13) (iR (pC (.int 0)) (pVar 4)) (sVal 12 (eP (p2 dFdiv (p2 dMul (pVar 12) (p2 dSub (p2 dSub (pVar 9) (pVar 4)) (pVar 13))) (p2 dAdd (pVar 13) (pC (.int 1)))))))
      (sLSet 3 (p2 dSub (pVar 9) (p2 dMul (pC (.int 2)) (pVar 4))) (p2 dMul (pIf (tV (p2 dGt (pVar 9) (pC (.int 0)))) (p2 dFdiv (p2 dMul (pVar 12) (pVar 9)) (p2 dSub (pVar 9) (pVar 4))) (pC (.int 2))) (pIf (tV (p2 dEq (p2 dMod (pN (l1 dInt) [pVar 4]) (pC (.int 2))) (pC (.int 0)))) (pC (.int 1)) (p1 dNeg (pC (.int 1)))))))))
      (sSeq (sIf (tP (tV (p2 dNe (pN (l1 dRepr) [pCall F_multiple_numbers [pVar 9]]) (pN (l1 dRepr) [pN (l1 dTuple) [pOwn 3]])))) (sRet (eP (pC (.bool false)))) (sNx))
      (sSeq (sVal 5 (eP (pCall F__law_cos [pN (l1 dTuple) [pComp [19] (.nm 19) (ipP (pVar 7)) (tYesP) (p2 dMul (pVar 9) (pVar 19))], pCall F__law_part [p2 dMul (pVar 9) (p2 dIx (pVar 8) (pC (.int 0))), p2 dIx (pVar 8) (pC (.int 1))]])))
      (sSeq (sIf (tP (tV (p2 dNe (pN (l1 dRepr) [pCall F_sum_at_polynomial [pVar 1, pN (l1 dTuple) [pOwn 3], pVar 10]]) (pN (l1 dRepr) [pCall F__law_often [pN dTup [pC (.int 2), pC (.int 1)], pVar 5]])))) (sRet (eP (pC (.bool false)))) (sNx))
      (sSeq (sPar [14, 15] [eCallV F__law_made [eCallR F__law_drawn_terms 0 [eP (pVar 1), eP (pC (.int 2))]], eComp [18] (.nm 18) (iR (pC (.int 0)) (pC (.int 4))) (tYesE) (e2 .c dSub (eCallR F__law_pick 0 [eP (pC (.int 7))]) (eP (pC (.int 3))))])
      (sSeq (sPar [16, 17] [eP (pN dTup []), eP (pCall F__law_made [pN dLst [pN dTup [p2 dRepT (pN dTup [pC (.int 0)]) (pVar 1), pN dTup [pC (.int 0), pC (.int 1)], pN dTup [pC (.int 1), pC (.int 1)]]]])])
      (sSeq (sFrzs [15] (sFor (.nm 6) (iP (pVar 15)) (sSeq (sVal 16 (eP (pCall F__law_made [p2 dAdd (pVar 16) (pCall F__law_often [pN dTup [pVar 6, pC (.int 1)], pVar 17])])))
      (sVal 17 (eP (pCall F__law_product [pVar 17, pVar 14]))))))
      (sRet (eP (p2 dEq (pN (l1 dRepr) [pCall F_sum_at_polynomial [pVar 1, pN (l1 dTuple) [pOwn 15], pVar 14]]) (pN (l1 dRepr) [pVar 16]))))))))))))))))
def F__law_powers_right : Fn := mkFn 2 20 g__law_powers_right
def N_law : List Str := ["script", "source", "lap", "n", "row", "part", "c"]
def g_law : Sm := sSeq (sOwn 1 (eCallS F__law_open_cells 0))
      (sSeq (sFor (.nm 2) (iR (pC (.int 0)) (pC (.int 3))) (sSeq (sVal 3 (eCallR F__law_of 1 [eP (pN dLst [pC (.int 0), pC (.int 1), pC (.int 2), pC (.int 3), pC (.int 4)])]))
      (sSeq (sIf (tOrE (tNotE (tVE (eCallR F__law_ring_right 1 [eP (pVar 3)]))) (tOrE (tNotE (tVE (eCallR F__law_mirrors_right 1 [eP (pVar 3)]))) (tNotE (tVE (eCallR F__law_powers_right 1 [eP (pVar 3)]))))) (sRet (eP (pC (.bool false)))) (sNx))
      (sSeq (sPar [4, 5, 6] [eCallR F__law_drawn_row 1 [eP (pVar 3)], eCallR F__law_drawn_part 1 [], eCallR F__law_drawn_fraction 1 []])
      (sIf (tP (tV (p2 dNe (pN (l1 dRepr) [pCall F_turn_sum [pVar 4, pVar 5, pVar 6]]) (pN (l1 dRepr) [pCall F__law_made [pN dLst [pN dTup [pVar 4, pVar 5, pVar 6]]]])))) (sRet (eP (pC (.bool false)))) (sNx))))))
      (sRet (eP (p2 dEq (pCall F_cos_turns [pN dTup [pC (.int 1)], pN dTup [pC (.int 0), pC (.int 1)]]) (pN dTup [pN dTup [pN dTup [p1 dNeg (pC (.int 1))], pN dTup [pC (.int 0), pC (.int 1)], pN dTup [pC (.int 1), pC (.int 2)]], pN dTup [pN dTup [pC (.int 1)], pN dTup [pC (.int 0), pC (.int 1)], pN dTup [pC (.int 1), pC (.int 2)]]])))))
def F_law : Fn := mkFn 1 7 g_law
end K09
/-! Running the pure side: what each piece does, for simp. -/
namespace L3
open PySem
variable (ρ : Env) (i : Nat) (d : D) (a b c : P) (f g : D → D → Option D) (h : D → Option D) (t u : T)
@[simp] theorem ev_pVar : pVar i ρ = match ρ[i]? with | some (.val d) => some d | _ => none := rfl
@[simp] theorem ev_pOwn : pOwn i ρ = match ρ[i]? with | some (.val d) => some d | some (.own _ (.lst xs)) => some (.list xs) | some (.own _ (.dic kvs)) => some (.dict kvs) | _ => none := rfl
@[simp] theorem ev_pC : pC d ρ = some d := rfl
@[simp] theorem ev_p1 : p1 h a ρ = match a ρ with | some x => h x | none => none := rfl
@[simp] theorem ev_p2 : p2 f a b ρ = match a ρ with | some x => (match b ρ with | some y => f x y | none => none) | none => none := rfl
@[simp] theorem ev_evs0 : evs [] ρ = some [] := rfl
@[simp] theorem ev_evs1 (r : List P) : evs (a :: r) ρ = match a ρ with | some x => (match evs r ρ with | some xs => some (x :: xs) | none => none) | none => none := rfl
@[simp] theorem ev_evsS0 : evsS [] ρ = some [] := rfl
@[simp] theorem ev_evsS1 (r : List (Bool × P)) : evsS ((false, a) :: r) ρ = match a ρ with | some x => (match evsS r ρ with | some xs => some (x :: xs) | none => none) | none => none := rfl
@[simp] theorem ev_evsS2 (r : List (Bool × P)) : evsS ((true, a) :: r) ρ = match a ρ with | some x => (match seqOf x with | some ys => (match evsS r ρ with | some xs => some (ys ++ xs) | none => none) | none => none) | none => none := rfl
@[simp] theorem ev_pN (k : List D → Option D) (as : List P) : pN k as ρ = match evs as ρ with | some xs => k xs | none => none := rfl
@[simp] theorem ev_pNS (k : List D → Option D) (as : List (Bool × P)) : pNS k as ρ = match evsS as ρ with | some xs => k xs | none => none := rfl
@[simp] theorem ev_pChain : pChain f g a b c ρ = match a ρ with
  | some x => (match b ρ with
    | some y => (match f x y with
      | some (.bool true) => (match c ρ with | some z => g y z | none => none)
      | some (.bool false) => some (.bool false)
      | _ => none)
    | none => none)
  | none => none := rfl
@[simp] theorem ev_pIf : pIf t a b ρ = match t ρ with | some true => a ρ | some false => b ρ | none => none := rfl
@[simp] theorem ev_tV : tV a ρ = match a ρ with | some (.bool b) => some b | _ => none := rfl
@[simp] theorem ev_tNot : tNot t ρ = match t ρ with | some b => some (!b) | none => none := rfl
@[simp] theorem ev_tAnd : tAnd t u ρ = match t ρ with | some true => u ρ | some false => some false | none => none := rfl
@[simp] theorem ev_tOr : tOr t u ρ = match t ρ with | some true => some true | some false => u ρ | none => none := rfl
@[simp] theorem ev_pT : pT t ρ = match t ρ with | some b => some (.bool b) | none => none := rfl
@[simp] theorem ev_pO0 : pO none ρ = some none := rfl
@[simp] theorem ev_pO1 : pO (some a) ρ = match a ρ with | some (.int i) => some (some i) | _ => none := rfl
@[simp] theorem ev_pCut (lo hi : Option P) : pCut a lo hi ρ = match a ρ with
  | some x => (match pO lo ρ with | some l => (match pO hi ρ with | some h => dCut l h x | none => none) | none => none)
  | none => none := rfl
@[simp] theorem ev_pCall (F : Fn) (as : List P) : pCall F as ρ = match evs as ρ with | some xs => (match F (xs.map .val) with | some (_, c) => c.toD | none => none) | none => none := rfl
@[simp] theorem ev_pCallB (F : Fn) (as : List P) : pCallB F as ρ = match pCall F as ρ with | some d => if noref d then some d else none | none => none := rfl
@[simp] theorem ev_eP : eP a ρ = match a ρ with | some d => some (ρ, .val d) | none => none := rfl
@[simp] theorem ev_eF : eF a ρ = match a ρ with | some (.list xs) => some (ρ, .own false (.lst xs)) | some (.dict kvs) => some (ρ, .own false (.dic kvs)) | _ => none := rfl
@[simp] theorem ev_eMv : eMv i ρ = match ρ[i]? with | some (.own false o) => some (ρ.set i .un, .own false o) | _ => none := rfl
variable (e e' : E) (k : Kind) (te te' : TE') (m n : Sm)
@[simp] theorem ev_cellOf_c : cellOf .c d = .val d := by cases d <;> rfl
@[simp] theorem ev_cellOf_r : cellOf .r d = .val d := by cases d <;> rfl
@[simp] theorem ev_cellOf_fl (xs : List D) : cellOf .f (.list xs) = .own false (.lst xs) := rfl
@[simp] theorem ev_cellOf_ft (xs : List D) : cellOf .f (.tuple xs) = .val (.tuple xs) := rfl
@[simp] theorem ev_cellOf_fi (x : Int) : cellOf .f (.int x) = .val (.int x) := rfl
@[simp] theorem ev_cellOf_fs (x : Str) : cellOf .f (.str x) = .val (.str x) := rfl
@[simp] theorem ev_e1 : e1 k h e ρ = match e ρ with
  | some (ρ1, c) => (match c.toD with | some x => (match h x with | some d => some (ρ1, cellOf k d) | none => none) | none => none)
  | none => none := rfl
@[simp] theorem ev_e2 : e2 k f e e' ρ = match e ρ with
  | some (ρ1, c) => (match c.toD with
    | some x => (match e' ρ1 with
      | some (ρ2, c2) => (match c2.toD with | some y => (match f x y with | some d => some (ρ2, cellOf k d) | none => none) | none => none)
      | none => none)
    | none => none)
  | none => none := rfl
@[simp] theorem ev_eevs0 : eevs [] ρ = some (ρ, []) := rfl
@[simp] theorem ev_eevs1 (r : List E) : eevs (e :: r) ρ = match e ρ with
    | some (ρ1, c) => (match c.toD with
      | some x => (match eevs r ρ1 with | some (ρ2, xs) => some (ρ2, x :: xs) | none => none)
      | none => none)
    | none => none := rfl
@[simp] theorem ev_eN (q : List D → Option D) (as : List E) : eN k q as ρ = match eevs as ρ with
  | some (ρ1, xs) => (match q xs with | some d => some (ρ1, cellOf k d) | none => none)
  | none => none := rfl
@[simp] theorem ev_eIf : eIf te e e' ρ = match te ρ with | some (ρ1, true) => e ρ1 | some (ρ1, false) => e' ρ1 | none => none := rfl
@[simp] theorem ev_tP : tP t ρ = match t ρ with | some b => some (ρ, b) | none => none := rfl
@[simp] theorem ev_tVE : tVE e ρ = match e ρ with | some (ρ1, .val (.bool b)) => some (ρ1, b) | _ => none := rfl
@[simp] theorem ev_tNotE : tNotE te ρ = match te ρ with | some (ρ1, b) => some (ρ1, !b) | none => none := rfl
@[simp] theorem ev_tAndE : tAndE te te' ρ = match te ρ with | some (ρ1, true) => te' ρ1 | r => r := rfl
@[simp] theorem ev_tOrE : tOrE te te' ρ = match te ρ with | some (ρ1, false) => te' ρ1 | r => r := rfl
@[simp] theorem ev_put (x : Cell) : put i x ρ = match ρ[i]? with | some (.own true _) => none | some _ => some (ρ.set i x) | none => none := rfl
@[simp] theorem ev_bind0 : bind (.nm i) d ρ = put i (.val d) ρ := by rw [bind]
@[simp] theorem ev_bind1 (ps : List Pat) (xs : List D) : bind (.tp ps) (.tuple xs) ρ = binds ps xs ρ := by rw [bind]
@[simp] theorem ev_bind2 (ps : List Pat) (xs : List D) : bind (.tl ps) (.list xs) ρ = binds ps xs ρ := by rw [bind]
@[simp] theorem ev_binds0 : binds [] [] ρ = some ρ := by rw [binds]
@[simp] theorem ev_binds1 (p : Pat) (ps : List Pat) (x : D) (xs : List D) : binds (p :: ps) (x :: xs) ρ = match bind p x ρ with | some ρ1 => binds ps xs ρ1 | none => none := by rw [binds]; first | done | (cases bind p x ρ <;> rfl)
@[simp] theorem ev_sNx : sNx ρ = some (ρ, .nx) := rfl
@[simp] theorem ev_sSeq : sSeq m n ρ = match m ρ with | some (ρ1, .nx) => n ρ1 | r => r := rfl
@[simp] theorem ev_sVal : sVal i e ρ = match e ρ with
  | some (ρ1, c) => (match c.toD with | some d => (match put i (.val d) ρ1 with | some ρ2 => some (ρ2, .nx) | none => none) | none => none)
  | none => none := rfl
@[simp] theorem ev_sOwn : sOwn i e ρ = match e ρ with
  | some (ρ1, .own false o) => (match put i (.own false o) ρ1 with | some ρ2 => some (ρ2, .nx) | none => none)
  | _ => none := rfl
@[simp] theorem ev_sPat (p : Pat) : sPat p e ρ = match e ρ with
  | some (ρ1, c) => (match c.toD with | some d => (match bind p d ρ1 with | some ρ2 => some (ρ2, .nx) | none => none) | none => none)
  | none => none := rfl
@[simp] theorem ev_sEx : sEx e ρ = match e ρ with | some (ρ1, _) => some (ρ1, .nx) | none => none := rfl
@[simp] theorem ev_sRet : sRet e ρ = match e ρ with | some (ρ1, c) => some (ρ1, .rt c) | none => none := rfl
@[simp] theorem ev_sIf : sIf te m n ρ = match te ρ with | some (ρ1, true) => m ρ1 | some (ρ1, false) => n ρ1 | none => none := rfl
@[simp] theorem ev_sApp : sApp i e ρ = if isLst ρ[i]? then (match e ρ with
  | some (ρ1, c) => (match c.toD, ρ1[i]? with
    | some d, some (.own fx (.lst xs)) => if decide (xs.length < 16777216) then some (ρ1.set i (.own fx (.lst (xs ++ [d]))), .nx) else none
    | _, _ => none)
  | none => none) else none := rfl
@[simp] theorem ev_isLst (fx : Bool) (xs : List D) : isLst (some (.own fx (.lst xs))) = true := rfl
@[simp] theorem ev_iP : iP a ρ = match a ρ with | some d => (match seqOf d with | some xs => some (ρ, xs) | none => none) | none => none := rfl
@[simp] theorem ev_iE : iE e ρ = match e ρ with | some (ρ1, c) => (match c.toD with | some d => (match seqOf d with | some xs => some (ρ1, xs) | none => none) | none => none) | none => none := rfl
@[simp] theorem ev_iR : iR a b ρ = match a ρ, b ρ with
  | some (.int i), some (.int j) => if r62 i && r62 j then some (ρ, rangeD i j) else none
  | _, _ => none := rfl
@[simp] theorem ev_ipP : ipP a ρ = match a ρ with | some d => seqOf d | none => none := rfl
@[simp] theorem ev_ipR : ipR a b ρ = match a ρ, b ρ with
  | some (.int i), some (.int j) => if r62 i && r62 j then some (rangeD i j) else none
  | _, _ => none := rfl
@[simp] theorem ev_sFor (p : Pat) (s : Ie) : sFor p s m ρ = match s ρ with | some (ρ1, xs) => forL p m xs ρ1 | none => none := rfl
@[simp] theorem ev_tYesP : tYesP ρ = some true := rfl
@[simp] theorem ev_tYesE : tYesE ρ = some (ρ, true) := rfl
@[simp] theorem ev_ecells0 : ecells [] ρ = some (ρ, []) := rfl
@[simp] theorem ev_ecells1 (r : List E) : ecells (e :: r) ρ = match e ρ with
    | some (ρ1, c) => (match ecells r ρ1 with | some (ρ2, cs) => some (ρ2, c :: cs) | none => none)
    | none => none := rfl
@[simp] theorem ev_puts0 : puts [] [] ρ = some ρ := rfl
@[simp] theorem ev_puts1 (is : List Nat) (x : Cell) (cs : List Cell) : puts (i :: is) (x :: cs) ρ = match put i x ρ with | some ρ1 => puts is cs ρ1 | none => none := rfl
@[simp] theorem ev_sPar (is : List Nat) (es : List E) : sPar is es ρ = match ecells es ρ with
  | some (ρ1, cs) => (match puts is cs ρ1 with | some ρ2 => some (ρ2, .nx) | none => none)
  | none => none := rfl
@[simp] theorem ev_mkFn (np nn : Nat) (cs : List Cell) : mkFn np nn m cs = if cs.length = np then (match m (cs ++ List.replicate (nn - np) .un) with
  | some (ρ, .nx) => some (backs cs ρ, .val .none)
  | some (ρ, .rt c) => some (backs cs ρ, c)
  | _ => none) else none := rfl
@[simp] theorem ev_backs0 : backs [] ρ = [] := by rw [backs]
@[simp] theorem ev_backs1 (o : Own) (r : List Cell) (x : Cell) : backs (.own true o :: r) (x :: ρ) = x :: backs r ρ := by rw [backs]
@[simp] theorem ev_backs2 (d : D) (r : List Cell) (x : Cell) : backs (.val d :: r) (x :: ρ) = .un :: backs r ρ := by rw [backs.eq_3 _ _ _ (by simp)]; rfl
@[simp] theorem ev_backs3 (d : List Int) (r : List Cell) (x : Cell) : backs (.scr d :: r) (x :: ρ) = .un :: backs r ρ := by rw [backs.eq_3 _ _ _ (by simp)]; rfl
@[simp] theorem ev_eCallV (F : Fn) (as : List E) : eCallV F as ρ = match eevs as ρ with
  | some (ρ1, ds) => (match F (ds.map .val) with | some (_, c) => some (ρ1, c) | none => none)
  | none => none := rfl
@[simp] theorem ev_isOwnO (fx : Bool) (o : Own) : isOwnO (some (.own fx o)) = true := rfl
@[simp] theorem ev_eCallR (F : Fn) (as : List E) : eCallR F i as ρ = if isOwnO ρ[i]? then (match eevs as ρ with
  | some (ρ1, ds) => (match ρ1[i]? with
    | some (.own fx o) => (match F (.own true o :: ds.map .val) with
      | some (.own _ o' :: _, c) => some (ρ1.set i (.own fx o'), c)
      | _ => none)
    | _ => none)
  | none => none) else none := rfl
@[simp] theorem ev_toD_val : (Cell.val d).toD = some d := rfl
@[simp] theorem ev_toD_own (fx : Bool) (xs : List D) : (Cell.own fx (.lst xs)).toD = some (.list xs) := rfl
@[simp] theorem ev_toD_dic (fx : Bool) (xs : List (D × D)) : (Cell.own fx (.dic xs)).toD = some (.dict xs) := rfl
@[simp] theorem ev_l1 (x : D) : l1 h [x] = h x := rfl
@[simp] theorem ev_l2 (x y : D) : l2 f [x, y] = f x y := rfl
/-! operations on written kinds -/
variable (x y : Int)
@[simp] theorem od_add : dAdd (.int x) (.int y) = some (.int (x + y)) := rfl
@[simp] theorem od_sub : dSub (.int x) (.int y) = some (.int (x - y)) := rfl
@[simp] theorem od_mul : dMul (.int x) (.int y) = if mulOk x y then some (.int (x * y)) else none := rfl
@[simp] theorem od_fdiv : dFdiv (.int x) (.int y) = if divOk y then some (.int (x.fdiv y)) else none := rfl
@[simp] theorem od_mod : dMod (.int x) (.int y) = if y = 0 then none else some (.int (x.fmod y)) := rfl
@[simp] theorem od_neg : dNeg (.int x) = some (.int (-x)) := rfl
@[simp] theorem od_lt : dLt (.int x) (.int y) = some (.bool (decide (x < y))) := rfl
@[simp] theorem od_le : dLe (.int x) (.int y) = some (.bool (decide (x ≤ y))) := rfl
@[simp] theorem od_gt : dGt (.int x) (.int y) = some (.bool (decide (y < x))) := rfl
@[simp] theorem od_ge : dGe (.int x) (.int y) = some (.bool (decide (y ≤ x))) := rfl
@[simp] theorem od_abs : dAbs (.int x) = some (.int (if x < 0 then -x else x)) := rfl
@[simp] theorem od_int : dInt (.int x) = some (.int x) := rfl
@[simp] theorem od_intb (b : Bool) : dInt (.bool b) = some (.int (if b then 1 else 0)) := rfl
@[simp] theorem od_eqi : dEq (.int x) (.int y) = some (.bool (decide (x = y))) := by
  unfold dEq okD
  rw [show PyData.eqv (.int x) (.int y) = decide (x = y) by simp [PyData.eqv, BEq.beq]]
  rfl
@[simp] theorem od_nei : dNe (.int x) (.int y) = some (.bool (!decide (x = y))) := by
  unfold dNe okD
  rw [show PyData.eqv (.int x) (.int y) = decide (x = y) by simp [PyData.eqv, BEq.beq]]
  rfl
@[simp] theorem od_tup (xs : List D) : dTup xs = if len24 xs.length then some (.tuple xs) else none := rfl
@[simp] theorem od_lst (xs : List D) : dLst xs = if len24 xs.length then some (.list xs) else none := rfl
@[simp] theorem od_seql (xs : List D) : seqOf (.list xs) = some xs := rfl
@[simp] theorem od_seqt (xs : List D) : seqOf (.tuple xs) = some xs := rfl
@[simp] theorem od_ixt (xs : List D) : dIx (.tuple xs) (.int x) = L2.atI xs x := rfl
@[simp] theorem od_ixl (xs : List D) : dIx (.list xs) (.int x) = L2.atI xs x := rfl
@[simp] theorem od_lent (xs : List D) : dLen (.tuple xs) = some (.int xs.length) := rfl
@[simp] theorem od_lenl (xs : List D) : dLen (.list xs) = some (.int xs.length) := rfl
@[simp] theorem od_tupl (xs : List D) : dTuple (.list xs) = some (.tuple xs) := rfl
@[simp] theorem od_tupt (xs : List D) : dTuple (.tuple xs) = some (.tuple xs) := rfl
theorem whileF_eq : whileF te m ρ = match te ρ with
  | some (ρ1, true) => (match m ρ1 with
    | some (ρ2, .nx) => whileF te m ρ2
    | some (ρ2, .ct) => whileF te m ρ2
    | some (ρ2, .bk) => some (ρ2, .nx)
    | some (ρ2, .rt c) => some (ρ2, .rt c)
    | none => none)
  | some (ρ1, false) => some (ρ1, .nx)
  | none => none := by
  rw [whileF]
  first
  | done
  | (rcases te ρ with _ | ⟨ρ1, _ | _⟩
     · rfl
     · rfl
     · dsimp only
       rcases m ρ1 with _ | ⟨ρ2, _ | _ | _ | _⟩ <;> rfl)
theorem sWhile_eq : sWhile te m ρ = match te ρ with
  | some (ρ1, true) => (match m ρ1 with
    | some (ρ2, .nx) => sWhile te m ρ2
    | some (ρ2, .ct) => sWhile te m ρ2
    | some (ρ2, .bk) => some (ρ2, .nx)
    | some (ρ2, .rt c) => some (ρ2, .rt c)
    | none => none)
  | some (ρ1, false) => some (ρ1, .nx)
  | none => none := whileF_eq ρ te m
@[simp] theorem at_nn (xs : List D) (n : Nat) (h : n < xs.length) : L2.atI xs (n : Int) = xs[n]? := by
  unfold L2.atI L2.ixN
  simp [h]
@[simp] theorem at0 (x : D) (xs : List D) : L2.atI (x :: xs) 0 = some x := by
  have := at_nn (x :: xs) 0 (by simp)
  simpa using this
@[simp] theorem at1 (x y : D) (xs : List D) : L2.atI (x :: y :: xs) 1 = some y := by
  have := at_nn (x :: y :: xs) 1 (by simp)
  simpa using this
end L3
/-! Running the pure side: drawings, loops. -/
namespace L3
open PySem
variable (ρ : Env) (i : Nat) (a b c d : P) (s : Src) (n : Int) (k : Str) (fx : Bool)
@[simp] theorem src_getl : s.get "left" = some s.left := rfl
@[simp] theorem src_getm : s.get "mixed" = some s.mixed := rfl
@[simp] theorem src_gett : s.get "turn" = some s.turn := rfl
@[simp] theorem src_putl : s.put "left" n = some { s with left := n } := rfl
@[simp] theorem src_putm : s.put "mixed" n = some { s with mixed := n } := rfl
@[simp] theorem src_putt : s.put "turn" n = some { s with turn := n } := rfl
@[simp] theorem ev_pSrc : pSrc i k ρ = match ρ[i]? with
  | some (.own _ (.src s)) => (match s.get k with | some n => some (.int n) | none => none)
  | _ => none := rfl
@[simp] theorem ev_pSrcC : pSrcC i ρ = match ρ[i]? with
  | some (.own _ (.src s)) => some (.list (s.cells.map .int))
  | _ => none := rfl
@[simp] theorem ev_sSrcPut : sSrcPut i k a ρ = match a ρ, ρ[i]? with
  | some (.int n), some (.own fx (.src s)) => (match s.put k n with | some s' => some (ρ.set i (.own fx (.src s')), .nx) | none => none)
  | _, _ => none := rfl
@[simp] theorem ev_sSrcPop : sSrcPop i k ρ = match ρ[i]? with
  | some (.own fx (.src s)) => (match s.cells.getLast? with
    | some n => (match ({ s with cells := s.cells.dropLast } : Src).put k n with | some s' => some (ρ.set i (.own fx (.src s')), .nx) | none => none)
    | none => none)
  | _ => none := rfl
@[simp] theorem ev_eSrc : eSrc a b c d ρ = match a ρ, b ρ, c ρ, d ρ with
  | some (.list xs), some (.int l), some (.int m), some (.int t) => (match intsOf xs with | some ns => some (ρ, .own false (.src ⟨ns, l, m, t⟩)) | none => none)
  | _, _, _, _ => none := rfl
@[simp] theorem ev_iScr : iScr i ρ = match ρ[i]? with | some (.scr ns) => some (ρ, ns.map .int) | _ => none := rfl
@[simp] theorem ev_ipScr : ipScr i ρ = match ρ[i]? with | some (.scr ns) => some (ns.map .int) | _ => none := rfl
@[simp] theorem ev_eCallS (F : Fn) : eCallS F i ρ = match ρ[i]? with
  | some (.scr ns) => (match F [.scr ns] with | some (_, c) => some (ρ, c) | none => none)
  | _ => none := rfl
@[simp] theorem od_max (x y : Int) : dMax2 (.int x) (.int y) = some (.int (if y > x then y else x)) := rfl
@[simp] theorem od_min (x y : Int) : dMin2 (.int x) (.int y) = some (.int (if y < x then y else x)) := rfl
@[simp] theorem intsOf_map (ns : List Int) : intsOf (ns.map .int) = some ns := by
  induction ns with
  | nil => rfl
  | cons n r ih => simp [intsOf, ih]
end L3
/-! How long a value's text is. -/
namespace L3
open PySem
mutual
/-- a bound of the text's length -/
def wt : D → Nat
  | .none => 4
  | .bool _ => 5
  | .int _ => 1921
  | .str x => (reprText x).length
  | .list xs => wts xs + 2
  | .tuple xs => wts xs + 3
  | .dict kvs => (dictText (PyData.shownKv kvs)).length
def wts : List D → Nat
  | [] => 0
  | x :: r => wt x + 2 + wts r
end
theorem textFrom_le : ∀ (ts : List Str) (k : Nat) (acc : Str), (textFrom k acc ts).length ≤ acc.length + (ts.map fun t => t.length + 2).sum
  | [], k, acc => by show acc.length ≤ _; simp
  | t :: r, k, acc => by
    have h1 := textFrom_le r (k + 1) (acc ++ (if k > 0 then ", " else "" : String) ++ t)
    have e : (acc ++ (if k > 0 then ", " else "" : String) ++ t).length = acc.length + (if k > 0 then 2 else 0) + t.length := by
      rw [strLen_append, strLen_append]
      split <;> rfl
    have h2 : (if k > 0 then 2 else 0 : Nat) ≤ 2 := by split <;> omega
    show (textFrom (k + 1) _ r).length ≤ _
    rw [e] at h1
    simp only [List.map_cons, List.sum_cons]
    omega
theorem tupleText_le (ts : List Str) : (tupleText ts).length ≤ (ts.map fun t => t.length + 2).sum + 3 := by
  unfold tupleText
  rw [strLen_append, strLen_append]
  have e1 : ((("(" : String) : Str)).length = 1 := rfl
  have e3 : (((if ts.length == 1 then ",)" else ")" : String) : Str)).length ≤ 2 := by split <;> decide
  by_cases h : ts = []
  · subst h
    show 1 + 0 + _ ≤ _
    omega
  · have := join_length_add ts h
    unfold piled at this
    omega
theorem listText_le (ts : List Str) : (listText ts).length ≤ (ts.map fun t => t.length + 2).sum + 2 := by
  unfold listText
  rw [strLen_append]
  have := textFrom_le ts 0 "["
  have e1 : ((("[" : String) : Str)).length = 1 := rfl
  have e2 : ((("]" : String) : Str)).length = 1 := rfl
  omega
mutual
theorem shown_le : ∀ d : D, d.showable = true → d.shown.length ≤ wt d
  | .none, _ => by decide
  | .bool b, _ => by cases b <;> decide
  | .int i, h => by
    have h : i.natAbs.log2 < 1920 := by simpa [PyData.showable] using h
    exact PyProof.Rows.int_text_len_1921 h
  | .str x, _ => Nat.le_refl _
  | .list xs, h => by
    have := shownAll_le xs (by simpa [PyData.showable] using h)
    have := listText_le (PyData.shownAll xs)
    show (listText (PyData.shownAll xs)).length ≤ wts xs + 2
    omega
  | .tuple xs, h => by
    have := shownAll_le xs (by simpa [PyData.showable] using h)
    have := tupleText_le (PyData.shownAll xs)
    show (tupleText (PyData.shownAll xs)).length ≤ wts xs + 3
    omega
  | .dict kvs, _ => Nat.le_refl _
theorem shownAll_le : ∀ xs : List D, PyData.showableAll xs = true → ((PyData.shownAll xs).map fun t => t.length + 2).sum ≤ wts xs
  | [], _ => by simp [PyData.shownAll, wts]
  | x :: r, h => by
    simp only [PyData.showableAll, Bool.and_eq_true] at h
    have h1 := shown_le x h.1
    have h2 := shownAll_le r h.2
    simp only [PyData.shownAll, List.map_cons, List.sum_cons, wts]
    omega
end
theorem dRepr_some {d : D} (h1 : d.showable = true) (h2 : d.depth ≤ 50) (h3 : d.hasDict = false ∨ noList d = true) (h4 : wt d ≤ 16777216) : dRepr d = some (.str d.shown) := by
  have := shown_le d h1
  unfold dRepr
  rw [if_pos]
  simp only [Bool.and_eq_true, Bool.or_eq_true, Bool.not_eq_true', decide_eq_true_eq]
  exact ⟨⟨⟨h1, h2⟩, h3⟩, decide_eq_true (by omega)⟩
theorem showableAll_of : ∀ {xs : List D}, (∀ x ∈ xs, x.showable = true) → PyData.showableAll xs = true
  | [], _ => rfl
  | x :: r, h => by
    rw [PyData.showableAll, h x (List.mem_cons_self ..), showableAll_of fun y hy => h y (List.mem_cons_of_mem _ hy)]; rfl
theorem depthAll_le {n : Nat} : ∀ {xs : List D}, (∀ x ∈ xs, x.depth ≤ n) → PyData.depthAll xs ≤ n
  | [], _ => Nat.zero_le _
  | x :: r, h => by
    have h1 := h x (List.mem_cons_self ..)
    have h2 := depthAll_le fun y hy => h y (List.mem_cons_of_mem _ hy)
    rw [PyData.depthAll]
    omega
theorem hasDictAll_of : ∀ {xs : List D}, (∀ x ∈ xs, x.hasDict = false) → PyData.hasDictAll xs = false
  | [], _ => rfl
  | x :: r, h => by
    rw [PyData.hasDictAll, h x (List.mem_cons_self ..), hasDictAll_of fun y hy => h y (List.mem_cons_of_mem _ hy)]; rfl
theorem noLists_of : ∀ {xs : List D}, (∀ x ∈ xs, noList x = true) → noLists xs = true
  | [], _ => rfl
  | x :: r, h => by
    rw [noLists, h x (List.mem_cons_self ..), noLists_of fun y hy => h y (List.mem_cons_of_mem _ hy)]; rfl
theorem wts_le {n : Nat} : ∀ {xs : List D}, (∀ x ∈ xs, wt x ≤ n) → wts xs ≤ xs.length * (n + 2)
  | [], _ => Nat.zero_le _
  | x :: r, h => by
    have h1 := h x (List.mem_cons_self ..)
    have h2 := wts_le fun y hy => h y (List.mem_cons_of_mem _ hy)
    rw [wts, List.length_cons, Nat.succ_mul]
    omega
/-- of small parts -/
structure Part (x : D) : Prop where
  sh : x.showable = true
  dp : x.depth ≤ 20
  wt : wt x ≤ 10000
theorem repr_tuple {xs : List D} (h : ∀ x ∈ xs, Part x) (hd : (∀ x ∈ xs, x.hasDict = false) ∨ ∀ x ∈ xs, noList x = true) (hl : xs.length ≤ 1000) : ∃ t, dRepr (.tuple xs) = some (.str t) := by
  refine ⟨_, dRepr_some ?_ ?_ ?_ ?_⟩
  · show PyData.showableAll xs = true
    exact showableAll_of fun x hx => (h x hx).sh
  · have := depthAll_le fun x hx => (h x hx).dp
    simp only [PyData.depth]
    omega
  · rcases hd with hd | hd
    · exact .inl (hasDictAll_of hd)
    · exact .inr (noLists_of hd)
  · have := wts_le fun x hx => (h x hx).wt
    have : xs.length * (10000 + 2) ≤ 1000 * (10000 + 2) := Nat.mul_le_mul_right _ hl
    show wts xs + 3 ≤ _
    omega
theorem repr_list {xs : List D} (h : ∀ x ∈ xs, Part x) (hd : ∀ x ∈ xs, x.hasDict = false) (hl : xs.length ≤ 1000) : ∃ t, dRepr (.list xs) = some (.str t) := by
  refine ⟨_, dRepr_some ?_ ?_ ?_ ?_⟩
  · show PyData.showableAll xs = true
    exact showableAll_of fun x hx => (h x hx).sh
  · have := depthAll_le fun x hx => (h x hx).dp
    simp only [PyData.depth]
    omega
  · exact .inl (hasDictAll_of hd)
  · have := wts_le fun x hx => (h x hx).wt
    have : xs.length * (10000 + 2) ≤ 1000 * (10000 + 2) := Nat.mul_le_mul_right _ hl
    show wts xs + 2 ≤ _
    omega
theorem part_int {i : Int} (h : i.natAbs.log2 < 1920) : Part (.int i) := ⟨decide_eq_true h, Nat.zero_le _, by show 1921 ≤ _; omega⟩
theorem part_bool {b : Bool} : Part (.bool b) := ⟨rfl, Nat.zero_le _, by show 5 ≤ _; omega⟩
end L3
/-! Running a law's body: an environment by what is known of it. -/
namespace L3
open PySem
/-- n places; the drawing's source at 1; nothing else is owned -/
structure G (n : Nat) (ρ : L3.Env) (s : Src) : Prop where
  len : ρ.length = n
  src : ρ[1]? = some (.own false (.src s))
  free : ∀ i, i ≠ 1 → ∀ fx o, ρ[i]? ≠ some (.own fx o)
def Fr (L : List Nat) (ρ ρ' : L3.Env) : Prop := ∀ j, j ∉ L → ρ'[j]? = ρ[j]?
section
variable {n : Nat} {ρ ρ' : L3.Env} {s s' : Src} {i j : Nat} {x : Cell}
theorem G.put (g : G n ρ s) (h1 : i ≠ 1) (hi : i < n) : put i x ρ = some (ρ.set i x) := by
  unfold L3.put
  cases e : ρ[i]? with
  | none => rw [List.getElem?_eq_none_iff, g.len] at e; omega
  | some c =>
    cases c with
    | own fx o => exact absurd e (g.free i h1 fx o)
    | _ => rfl
theorem G.set (g : G n ρ s) (h1 : i ≠ 1) (hx : isOwn x = false) : G n (ρ.set i x) s := by
  refine ⟨by rw [List.length_set]; exact g.len, by rw [List.getElem?_set_ne h1]; exact g.src, fun j hj fx o e => ?_⟩
  by_cases h : i = j
  · subst h
    rw [List.getElem?_set] at e
    split at e
    · split at e
      · cases e; cases hx
      · cases e
    · rename_i z; exact z rfl
  · rw [List.getElem?_set_ne h] at e
    exact g.free j hj fx o e
theorem G.one (g : G n ρ s) (hn : 1 < n) : G n (ρ.set 1 (.own false (.src s'))) s' := by
  refine ⟨by rw [List.length_set]; exact g.len, List.getElem?_set_self (by rw [g.len]; exact hn), fun j hj fx o e => ?_⟩
  rw [List.getElem?_set_ne (Ne.symm hj)] at e
  exact g.free j hj fx o e
theorem G.got (g : G n ρ s) (hi : i < n) : (ρ.set i x)[i]? = some x := List.getElem?_set_self (by rw [g.len]; exact hi)
theorem Fr.refl (L : List Nat) : Fr L ρ ρ := fun _ _ => rfl
theorem Fr.set (h : i ∈ L) : Fr L ρ (ρ.set i x) := fun j hj => List.getElem?_set_ne (by rintro rfl; exact hj h)
theorem Fr.trans {ρ2 : L3.Env} {L : List Nat} (a : Fr L ρ ρ') (b : Fr L ρ' ρ2) : Fr L ρ ρ2 := fun j hj => (b j hj).trans (a j hj)
theorem Fr.more {L M : List Nat} (a : Fr L ρ ρ') (h : ∀ x ∈ L, x ∈ M) : Fr M ρ ρ' := fun j hj => a j fun z => hj (h j z)
/-- a statement runs on, with what is known then -/
def Ok (b : Sm) (ρ : L3.Env) (Q : L3.Env → Out → Prop) : Prop := ∃ ρ' o, b ρ = some (ρ', o) ∧ Q ρ' o
theorem Ok.seq {a b : Sm} {Q : L3.Env → Out → Prop} (h : Ok a ρ fun ρ1 o => o = .nx ∧ Ok b ρ1 Q) : Ok (sSeq a b) ρ Q := by
  obtain ⟨ρ1, o, e, rfl, ρ2, o2, e2, q⟩ := h
  exact ⟨ρ2, o2, by rw [ev_sSeq, e]; exact e2, q⟩
theorem Ok.val {p : P} {d : D} {Q : L3.Env → Out → Prop} (g : G n ρ s) (e : p ρ = some d) (h1 : i ≠ 1) (hi : i < n) (q : Q (ρ.set i (.val d)) .nx) : Ok (sVal i (eP p)) ρ Q :=
  ⟨_, _, by rw [ev_sVal, ev_eP, e]; dsimp only; rw [ev_toD_val]; dsimp only; rw [g.put h1 hi], q⟩
theorem Ok.ifF {t : T} {a : Sm} {Q : L3.Env → Out → Prop} (e : t ρ = some false) (q : Q ρ .nx) : Ok (sIf (tP t) a sNx) ρ Q := ⟨_, _, by rw [ev_sIf, ev_tP, e]; rfl, q⟩
/-- over the items of a loop, an invariant by their number -/
theorem Ok.for {p : Pat} {a : Ie} {b : Sm} {Q : L3.Env → Out → Prop} {xs : List D} {ρ1 : L3.Env} (e : a ρ = some (ρ1, xs)) (I : Nat → L3.Env → Prop) (h0 : I 0 ρ1)
    (hs : ∀ k ρ (hk : k < xs.length), I k ρ → ∃ ρ2, bind p xs[k] ρ = some ρ2 ∧ Ok b ρ2 fun ρ3 o => o = .nx ∧ I (k + 1) ρ3) (q : ∀ ρ, I xs.length ρ → Q ρ .nx) : Ok (sFor p a b) ρ Q := by
  have go : ∀ (m k : Nat), k + m = xs.length → ∀ ρ, I k ρ → ∃ ρ', forL p b (xs.drop k) ρ = some (ρ', .nx) ∧ I xs.length ρ' := fun m => by
    induction m with
    | zero =>
      intro k hk ρ hi
      rw [List.drop_eq_nil_of_le (by omega), forL]
      exact ⟨ρ, rfl, by rw [← hk]; exact hi⟩
    | succ m ih =>
      intro k hk ρ hi
      have hlt : k < xs.length := by omega
      obtain ⟨ρ2, e1, ρ3, o, e2, rfl, i2⟩ := hs k ρ hlt hi
      obtain ⟨ρ4, e3, i3⟩ := ih (k + 1) (by omega) ρ3 i2
      refine ⟨ρ4, ?_, i3⟩
      rw [List.drop_eq_getElem_cons hlt, forL, e1]
      dsimp only
      rw [e2]
      exact e3
  obtain ⟨ρ', e2, i2⟩ := go xs.length 0 (by omega) ρ1 h0
  rw [List.drop_zero] at e2
  exact ⟨ρ', .nx, by rw [ev_sFor, e]; exact e2, q ρ' i2⟩
end
end L3
/-! k09, the plain law: fractions. -/
namespace K09
open PySem PySem.Spec PyProof.Rows L2 L3
theorem fmod_nn (a b : Nat) : Int.fmod (a : Int) (b : Int) = ((a % b : Nat) : Int) := by
  rw [Int.fmod_eq_emod_of_nonneg _ (Int.natCast_nonneg b)]; rfl
theorem gcd_step (a b : Nat) : Nat.gcd b (a % b) = Nat.gcd a b := by
  rw [Nat.gcd_comm b, ← Nat.gcd_rec, Nat.gcd_comm]
theorem loop_cd : ∀ (b a : Nat), sWhile (tP (tV (p2 dGt (pVar 1) (pC (.int 0))))) (sPar [0, 1] [eP (pVar 1), eP (p2 dMod (pVar 0) (pVar 1))]) [.val (.int a), .val (.int b)] = some ([.val (.int (Nat.gcd a b : Nat)), .val (.int 0)], .nx) := by
  intro b
  induction b using Nat.strongRecOn with
  | _ b ih =>
    intro a
    rw [sWhile_eq]
    by_cases h : b = 0
    · subst h; simp
    · have h0 : 0 < b := Nat.pos_of_ne_zero h
      have h1 : (0 : Int) < (b : Int) := by omega
      have h2 : (b : Int) ≠ 0 := by omega
      have z := ih (a % b) (Nat.mod_lt _ h0) b
      rw [gcd_step] at z
      simp [h0, h, h1, h2, fmod_nn]
      simpa using z
theorem abs_nat (x : Int) : (if x < 0 then -x else x) = (x.natAbs : Int) := by
  split <;> omega
theorem common_divisor (a b : Int) : F_common_divisor [.val (.int a), .val (.int b)] = some ([.un, .un], .val (.int (Int.gcd a b : Nat))) := by
  unfold F_common_divisor g_common_divisor
  have z := loop_cd b.natAbs a.natAbs
  simp only [ev_mkFn, ev_sSeq, ev_sPar, ev_ecells1, ev_ecells0]
  simp [abs_nat, z, Int.gcd]
def norm (p q : Int) : Int × Int := if 0 < q then (p / (Int.gcd p q : Nat), q / (Int.gcd p q : Nat)) else (-p / (Int.gcd p q : Nat), -q / (Int.gcd p q : Nat))
def frD (x : Int × Int) : D := .tuple [.int x.1, .int x.2]
def Sm9 (q : Int) : Prop := q.natAbs.log2 < 9000
theorem divOk_of {q : Int} (h : q ≠ 0) (s : q.natAbs.log2 < 9000) : divOk q = true := decide_eq_true ⟨h, s⟩
theorem log2_mono {a b : Nat} (h : a ≤ b) : a.log2 ≤ b.log2 := by
  by_cases ha : a = 0
  · subst ha; simp
  · exact (Nat.le_log2 (by omega)).mpr (Nat.le_trans (Nat.log2_self_le ha) h)
theorem gcd_ok {p q : Int} (h : q ≠ 0) (s : q.natAbs.log2 < 9000) : divOk ((Int.gcd p q : Nat) : Int) = true ∧ divOk (-((Int.gcd p q : Nat) : Int)) = true := by
  have hg : Int.gcd p q ≤ q.natAbs := Nat.le_of_dvd (by omega) (Nat.gcd_dvd_right _ _)
  have h0 : 0 < Int.gcd p q := Nat.pos_of_ne_zero fun z => h (Int.gcd_eq_zero_iff.mp z).2
  have hl := log2_mono hg
  refine ⟨divOk_of (by omega) ?_, divOk_of (by omega) ?_⟩
  · rw [Int.natAbs_natCast]; omega
  · rw [Int.natAbs_neg, Int.natAbs_natCast]; omega
theorem fdiv_pos (p : Int) {g : Nat} : p.fdiv (g : Int) = p / (g : Int) := Int.fdiv_eq_ediv_of_nonneg p (Int.natCast_nonneg g)
theorem fdiv_negd {p : Int} {g : Nat} (h : (g : Int) ∣ p) : p.fdiv (-(g : Int)) = -p / (g : Int) := by
  obtain ⟨k, rfl⟩ := h
  by_cases hg : (g : Int) = 0
  · rw [hg]; simp
  · rw [Int.fdiv_eq_ediv_of_dvd ⟨-k, by rw [Int.mul_neg, Int.neg_mul, Int.neg_neg]⟩, show (g : Int) * k = -(g : Int) * (-k) by rw [Int.mul_neg, Int.neg_mul, Int.neg_neg], Int.mul_ediv_cancel_left _ (by omega)]
    rw [show -(-(g : Int) * -k) = (g : Int) * (-k) by rw [Int.neg_mul, Int.neg_neg], Int.mul_ediv_cancel_left _ hg]
theorem fraction_of (p q : Int) (h : q ≠ 0) (s : q.natAbs.log2 < 9000) : F_fraction_of [.val (.int p), .val (.int q)] = some ([.un, .un], .val (frD (norm p q))) := by
  obtain ⟨g1, g2⟩ := gcd_ok (p := p) h s
  have d1 : ((Int.gcd p q : Nat) : Int) ∣ p := Int.gcd_dvd_left ..
  have d2 : ((Int.gcd p q : Nat) : Int) ∣ q := Int.gcd_dvd_right ..
  unfold F_fraction_of g_fraction_of
  by_cases hq : 0 < q
  · simp [common_divisor, hq, g1, fdiv_pos, norm, frD, len24]
  · simp [common_divisor, hq, g2, fdiv_negd d1, fdiv_negd d2, norm, frD, len24]
def normP (p q : Int) : Int × Int := norm ((norm p q).1 % (norm p q).2) (norm p q).2
theorem gcd_pos {p q : Int} (h : q ≠ 0) : 0 < Int.gcd p q := Nat.pos_of_ne_zero fun z => h (Int.gcd_eq_zero_iff.mp z).2
theorem natAbs_ediv_le (a : Int) (g : Nat) : (g : Int) ∣ a → (a / (g : Int)).natAbs ≤ a.natAbs := fun ⟨k, e⟩ => by
  by_cases hg : g = 0
  · subst hg; simp
  · rw [e, Int.mul_ediv_cancel_left _ (by omega), Int.natAbs_mul]
    exact Nat.le_mul_of_pos_left _ (by rw [Int.natAbs_natCast]; omega)
theorem norm_pos {p q : Int} (h : q ≠ 0) : 0 < (norm p q).2 ∧ (norm p q).2.natAbs ≤ q.natAbs ∧ (norm p q).1.natAbs ≤ p.natAbs := by
  have h0 : (0 : Int) < ((Int.gcd p q : Nat) : Int) := by have := gcd_pos (p := p) h; omega
  have d1 : ((Int.gcd p q : Nat) : Int) ∣ p := Int.gcd_dvd_left ..
  have d2 : ((Int.gcd p q : Nat) : Int) ∣ q := Int.gcd_dvd_right ..
  unfold norm
  split
  · rename_i hq
    refine ⟨Int.ediv_pos_of_pos_of_dvd hq (by omega) d2, natAbs_ediv_le _ _ d2, natAbs_ediv_le _ _ d1⟩
  · rename_i hq
    refine ⟨Int.ediv_pos_of_pos_of_dvd (by omega) (by omega) (Int.dvd_neg.mpr d2), ?_, ?_⟩
    · have := natAbs_ediv_le _ _ (Int.dvd_neg.mpr d2); rwa [Int.natAbs_neg] at this
    · have := natAbs_ediv_le _ _ (Int.dvd_neg.mpr d1); rwa [Int.natAbs_neg] at this
theorem log2_le {a b : Int} (h : a.natAbs ≤ b.natAbs) (s : b.natAbs.log2 < 9000) : a.natAbs.log2 < 9000 := Nat.lt_of_le_of_lt (log2_mono h) s
theorem fmod_pos {a b : Int} (h : 0 < b) : a.fmod b = a % b := Int.fmod_eq_emod_of_nonneg a (by omega)
theorem part_of (p q : Int) (h : q ≠ 0) (s : q.natAbs.log2 < 9000) : F_part_of [.val (.int p), .val (.int q)] = some ([.un, .un], .val (frD (normP p q))) := by
  obtain ⟨n1, n2, n3⟩ := norm_pos (p := p) h
  have z := fraction_of ((norm p q).1 % (norm p q).2) (norm p q).2 (by omega) (log2_le n2 s)
  have hn : (norm p q).2 ≠ 0 := by omega
  unfold F_part_of g_part_of
  simp [fraction_of p q h s, frD, hn, fmod_pos n1, z, normP]
def S31 (x : Int) : Prop := x.natAbs < 2147483648
theorem mulOk31 {a b : Int} (h : S31 a) : mulOk a b = true := decide_eq_true (.inr (.inl (by unfold S31 at h; omega)))
theorem mulOk31' {a b : Int} (h : S31 b) : mulOk a b = true := decide_eq_true (.inr (.inr (by unfold S31 at h; omega)))
theorem mul31 {a b : Int} (h : S31 a) (k : S31 b) : (a * b).natAbs < 4611686018427387904 := by
  rw [Int.natAbs_mul]
  exact Nat.lt_of_lt_of_le (Nat.mul_lt_mul'' h k) (by decide)
theorem log2_64 {a : Nat} (h : a < 18446744073709551616) : a.log2 < 9000 := by
  by_cases ha : a = 0
  · subst ha; decide
  · have := (Nat.log2_lt ha).mpr (show a < 2 ^ 64 from h)
    omega
theorem mul_ne {a b : Int} (h : a ≠ 0) (k : b ≠ 0) : a * b ≠ 0 := Int.mul_ne_zero h k
theorem pair_ix0 (x : Int × Int) : dIx (frD x) (.int 0) = some (.int x.1) := by simp [frD]
theorem pair_ix1 (x : Int × Int) : dIx (frD x) (.int 1) = some (.int x.2) := by simp [frD]
theorem fraction_sum (x y : Int × Int) (h1 : S31 x.1) (h2 : S31 x.2) (h3 : S31 y.1) (h4 : S31 y.2) (n1 : x.2 ≠ 0) (n2 : y.2 ≠ 0) :
    F_fraction_sum [.val (frD x), .val (frD y)] = some ([.un, .un], .val (frD (norm (x.1 * y.2 + y.1 * x.2) (x.2 * y.2)))) := by
  have z := fraction_of (x.1 * y.2 + y.1 * x.2) (x.2 * y.2) (mul_ne n1 n2) (log2_64 (Nat.lt_trans (mul31 h2 h4) (by decide)))
  unfold F_fraction_sum g_fraction_sum
  simp [pair_ix0, pair_ix1, mulOk31 h1, mulOk31 h2, mulOk31 h3, z]
theorem fraction_times (x y : Int × Int) (h1 : S31 x.1) (h2 : S31 x.2) (h4 : S31 y.2) (n1 : x.2 ≠ 0) (n2 : y.2 ≠ 0) :
    F_fraction_times [.val (frD x), .val (frD y)] = some ([.un, .un], .val (frD (norm (x.1 * y.1) (x.2 * y.2)))) := by
  have z := fraction_of (x.1 * y.1) (x.2 * y.2) (mul_ne n1 n2) (log2_64 (Nat.lt_trans (mul31 h2 h4) (by decide)))
  unfold F_fraction_times g_fraction_times
  simp [pair_ix0, pair_ix1, mulOk31 h1, mulOk31 h2, z]
theorem fraction_turned (x : Int × Int) : F_fraction_turned [.val (frD x)] = some ([.un], .val (frD (-x.1, x.2))) := by
  unfold F_fraction_turned g_fraction_turned
  simp [pair_ix0, pair_ix1, len24]
  rfl
theorem part_sum (x y : Int × Int) (h1 : S31 x.1) (h2 : S31 x.2) (h3 : S31 y.1) (h4 : S31 y.2) (n1 : x.2 ≠ 0) (n2 : y.2 ≠ 0) :
    F_part_sum [.val (frD x), .val (frD y)] = some ([.un, .un], .val (frD (normP (x.1 * y.2 + y.1 * x.2) (x.2 * y.2)))) := by
  have z := part_of (x.1 * y.2 + y.1 * x.2) (x.2 * y.2) (mul_ne n1 n2) (log2_64 (Nat.lt_trans (mul31 h2 h4) (by decide)))
  unfold F_part_sum g_part_sum
  simp [pair_ix0, pair_ix1, mulOk31 h1, mulOk31 h2, mulOk31 h3, z]
theorem part_turned (x : Int × Int) (h2 : S31 x.2) (n1 : x.2 ≠ 0) :
    F_part_turned [.val (frD x)] = some ([.un], .val (frD (normP (-x.1) x.2))) := by
  have z := part_of (-x.1) x.2 n1 (log2_64 (Nat.lt_trans h2 (by decide)))
  unfold F_part_turned g_part_turned
  simp [pair_ix0, pair_ix1, z]
theorem norm_add (p q : Int) (h : 0 < q) : norm (p + q) q = ((norm p q).1 + (norm p q).2, (norm p q).2) := by
  have e : Int.gcd (p + q) q = Int.gcd p q := by simp
  have d2 : ((Int.gcd p q : Nat) : Int) ∣ q := Int.gcd_dvd_right ..
  unfold norm
  rw [if_pos h, if_pos h, e]
  rw [Int.add_ediv_of_dvd_right d2]
theorem normP_add (p q : Int) (h : 0 < q) : normP (p + q) q = normP p q := by
  unfold normP
  rw [norm_add p q h]
  simp
theorem norm_scale (x q k : Int) (hq : 0 < q) (hk : 0 < k) : norm (x * k) (q * k) = norm x q := by
  have e : ((Int.gcd (x * k) (q * k) : Nat) : Int) = ((Int.gcd x q : Nat) : Int) * k := by
    rw [Int.gcd_mul_right, Int.natCast_mul, Int.natAbs_of_nonneg (by omega)]
  unfold norm
  rw [if_pos hq, if_pos (Int.mul_pos hq hk), e, Int.mul_ediv_mul_of_pos_left _ _ hk, Int.mul_ediv_mul_of_pos_left _ _ hk]
theorem norm_cross {x q x' q' : Int} (hq : 0 < q) (hq' : 0 < q') (h : x * q' = x' * q) : norm x q = norm x' q' := by
  rw [← norm_scale x q q' hq hq', ← norm_scale x' q' q hq' hq, h, Int.mul_comm q q']
theorem norm_q {x q : Int} (hq : 0 < q) : norm x q = (x / (Int.gcd x q : Nat), q / (Int.gcd x q : Nat)) := by unfold norm; rw [if_pos hq]
theorem normP_eq (x q : Int) (hq : 0 < q) : normP x q = norm (x % q) q := by
  have h0 : (0 : Int) < ((Int.gcd x q : Nat) : Int) := by have := gcd_pos (p := x) (show q ≠ 0 by omega); omega
  obtain ⟨n1, _, _⟩ := norm_pos (p := x) (show q ≠ 0 by omega)
  unfold normP
  rw [norm_q hq] at n1 ⊢
  dsimp only at n1 ⊢
  generalize hg : ((Int.gcd x q : Nat) : Int) = g at *
  have dx : g ∣ x := by rw [← hg]; exact Int.gcd_dvd_left ..
  have dq : g ∣ q := by rw [← hg]; exact Int.gcd_dvd_right ..
  have ex : x = g * (x / g) := (Int.mul_ediv_cancel' dx).symm
  have eq : q = g * (q / g) := (Int.mul_ediv_cancel' dq).symm
  refine norm_cross n1 hq ?_
  have e : x % q = g * (x / g % (q / g)) := by
    have := Int.mul_emod_mul_of_pos (x / g) (q / g) h0
    rw [← ex, ← eq] at this
    exact this
  rw [e]
  generalize x / g % (q / g) = t
  rw [Int.mul_comm g t, Int.mul_assoc, Int.mul_ediv_cancel' dq]
theorem norm_val {x q : Int} (hq : 0 < q) : (norm x q).1 * q = x * (norm x q).2 ∧ 0 < (norm x q).2 := by
  refine ⟨?_, (norm_pos (p := x) (show q ≠ 0 by omega)).1⟩
  rw [norm_q hq]
  dsimp only
  generalize hg : ((Int.gcd x q : Nat) : Int) = g
  have dx : g ∣ x := by rw [← hg]; exact Int.gcd_dvd_left ..
  have dq : g ∣ q := by rw [← hg]; exact Int.gcd_dvd_right ..
  have ex : x = g * (x / g) := (Int.mul_ediv_cancel' dx).symm
  have eq : q = g * (q / g) := (Int.mul_ediv_cancel' dq).symm
  generalize x / g = X at *
  generalize q / g = Q at *
  subst ex eq
  rw [Int.mul_comm g Q, ← Int.mul_assoc, Int.mul_comm (X * Q) g, ← Int.mul_assoc]
theorem normP_cross {x q x' q' : Int} (hq : 0 < q) (hq' : 0 < q') (h : x * q' = x' * q) : normP x q = normP x' q' := by
  unfold normP; rw [norm_cross hq hq' h]
theorem normP_mod {x x' q : Int} (hq : 0 < q) (h : x % q = x' % q) : normP x q = normP x' q := by
  rw [normP_eq x q hq, normP_eq x' q hq, h]
theorem normP_val {x q : Int} (hq : 0 < q) : (normP x q).1 * q = (x % q) * (normP x q).2 ∧ 0 < (normP x q).2 := by
  rw [normP_eq x q hq]; exact norm_val hq
theorem emod_right (T w r : Int) (hr : 0 < r) : (T % w * r) % (w * r) = (T * r) % (w * r) := by
  rw [Int.mul_comm _ r, Int.mul_comm w r, Int.mul_comm T r, Int.mul_emod_mul_of_pos _ _ hr, Int.mul_emod_mul_of_pos _ _ hr, Int.emod_emod]
theorem normP_sum (S T r w A : Int) (hr : 0 < r) (hw : 0 < w) (hA : r * w = A) :
    normP ((normP S A).1 * (normP T w).2 + (normP T w).1 * (normP S A).2) ((normP S A).2 * (normP T w).2) = normP (S + T * r) A := by
  have hA0 : 0 < A := by rw [← hA]; exact Int.mul_pos hr hw
  obtain ⟨e1, p1⟩ := normP_val (x := S) hA0
  obtain ⟨e2, p2⟩ := normP_val (x := T) hw
  generalize normP S A = W at *
  generalize normP T w = o at *
  obtain ⟨W1, W2⟩ := W
  obtain ⟨o1, o2⟩ := o
  dsimp only at *
  rw [normP_cross (x' := S % A + T % w * r) (q' := A) (Int.mul_pos p1 p2) hA0 ?_]
  · refine normP_mod hA0 ?_
    have h1 : (T % w * r) % A = (T * r) % A := by
      rw [← hA, Int.mul_comm r w, emod_right T w r hr]
    rw [Int.add_emod, h1, Int.emod_emod, ← Int.add_emod]
  · have e3 : o1 * W2 * A = (T % w * r) * (W2 * o2) := by
      rw [← hA]
      calc o1 * W2 * (r * w) = (o1 * w) * (W2 * r) := by simp only [Int.mul_assoc, Int.mul_left_comm, Int.mul_comm]
        _ = (T % w * o2) * (W2 * r) := by rw [e2]
        _ = _ := by simp only [Int.mul_assoc, Int.mul_left_comm, Int.mul_comm]
    have e4 : W1 * o2 * A = (S % A) * (W2 * o2) := by
      calc W1 * o2 * A = (W1 * A) * o2 := by simp only [Int.mul_assoc, Int.mul_left_comm, Int.mul_comm]
        _ = (S % A * W2) * o2 := by rw [e1]
        _ = _ := by simp only [Int.mul_assoc]
    rw [Int.add_mul, e3, e4, Int.add_mul]
theorem run_fn {np n : Nat} {g : Sm} {cs bs : List Cell} {ρ0 ρ : L3.Env} {c : Cell} (h0 : cs.length = np) (he : cs ++ List.replicate (n - np) .un = ρ0) (h : g ρ0 = some (ρ, .rt c)) (hb : backs cs ρ = bs) : mkFn np n g cs = some (bs, c) := by
  unfold mkFn
  rw [if_pos h0, he, h]
  dsimp only
  rw [hb]
theorem run_seq {a b : Sm} {ρ ρ1 : L3.Env} (h : a ρ = some (ρ1, .nx)) : sSeq a b ρ = b ρ1 := by rw [ev_sSeq, h]
theorem run_ret {p : P} {ρ : L3.Env} {d : D} (h : p ρ = some d) : sRet (eP p) ρ = some (ρ, .rt (.val d)) := by rw [ev_sRet, ev_eP, h]
theorem run_mv {i : Nat} {o : Own} {ρ : L3.Env} (h : ρ[i]? = some (.own false o)) : sRet (eMv i) ρ = some (ρ.set i .un, .rt (.own false o)) := by
  unfold sRet eMv
  rw [h]
def notT : Cell → Bool
  | .own true _ => false
  | _ => true
theorem put_ok {i : Nat} {x c : Cell} {ρ : L3.Env} (e : ρ[i]? = some c) (h : notT c = true) : put i x ρ = some (ρ.set i x) := by
  unfold L3.put
  rw [e]
  cases c with
  | own fx o => cases fx with | true => cases h | false => rfl
  | _ => rfl
theorem put_no {i : Nat} {x c : Cell} {ρ : L3.Env} (e : ρ[i]? = some c) (h : isOwn c = false) : put i x ρ = some (ρ.set i x) := put_ok e (by cases c <;> first | rfl | cases h)
theorem bind_two {i j : Nat} {a b : D} {ci cj : Cell} {ρ : L3.Env} (hij : i ≠ j) (hi : ρ[i]? = some ci) (h1 : isOwn ci = false) (hj : ρ[j]? = some cj) (h2 : isOwn cj = false) :
    bind (.tp [.nm i, .nm j]) (.tuple [a, b]) ρ = some ((ρ.set i (.val a)).set j (.val b)) := by
  rw [ev_bind1, ev_binds1, ev_bind0, put_no hi h1]
  dsimp only
  rw [ev_binds1, ev_bind0, put_no (c := cj) (by rw [List.getElem?_set_ne hij]; exact hj) h2]
  rfl
def Told (d : D) : Prop := ∃ t, dRepr d = some (.str t)
theorem told_of {d : D} (h1 : d.showable = true) (h2 : d.depth ≤ 50) (h3 : d.hasDict = false ∨ noList d = true) (h4 : wt d ≤ 16777216) : Told d := ⟨_, dRepr_some h1 h2 h3 h4⟩
theorem loop_lw (P Q : Cell) : ∀ (b a : Nat), sWhile (tP (tV (p2 dGt (pVar 3) (pC (.int 0))))) (sPar [2, 3] [eP (pVar 3), eP (p2 dMod (pN (l1 dInt) [pVar 2]) (pVar 3))]) [P, Q, .val (.int a), .val (.int b)] = some ([P, Q, .val (.int (Nat.gcd a b : Nat)), .val (.int 0)], .nx) := by
  intro b
  induction b using Nat.strongRecOn with
  | _ b ih =>
    intro a
    rw [sWhile_eq]
    by_cases h : b = 0
    · subst h; simp
    · have h0 : 0 < b := Nat.pos_of_ne_zero h
      have h1 : (0 : Int) < (b : Int) := by omega
      have h2 : (b : Int) ≠ 0 := by omega
      have z := ih (a % b) (Nat.mod_lt _ h0) b
      rw [gcd_step] at z
      simp [h0, h, h1, h2, fmod_nn]
      simpa using z
theorem law_low (p q : Int) (h : 0 < q) (s : q.natAbs.log2 < 9000) : F__law_low [.val (.int p), .val (.int q)] = some ([.un, .un], .val (frD (norm p q))) := by
  obtain ⟨g1, g2⟩ := gcd_ok (p := p) (show q ≠ 0 by omega) s
  unfold F__law_low g__law_low
  have z := loop_lw (.val (.int p)) (.val (.int q)) q.natAbs p.natAbs
  obtain ⟨n, rfl⟩ := Int.eq_ofNat_of_zero_le (show 0 ≤ q by omega)
  rw [show Nat.gcd p.natAbs (n : Int).natAbs = Int.gcd p n from rfl, Int.natAbs_natCast] at z
  simp only [ev_mkFn, ev_sSeq, ev_sPar, ev_ecells1, ev_ecells0]
  have h' : 0 < n := by omega
  simp [abs_nat, z, h', g1, fdiv_pos, norm, frD, len24]
theorem law_part (p q : Int) (h : 0 < q) (s : q.natAbs.log2 < 9000) : F__law_part [.val (.int p), .val (.int q)] = some ([.un, .un], .val (frD (normP p q))) := by
  have z := law_low (p % q) q h s
  have hn : q ≠ 0 := by omega
  unfold F__law_part g__law_part
  simp [hn, fmod_pos h, z, normP_eq p q h]
theorem law_plus (x y : Int × Int) (h1 : S31 x.1) (h2 : S31 x.2) (h3 : S31 y.1) (h4 : S31 y.2) (n1 : 0 < x.2) (n2 : 0 < y.2) :
    F__law_plus [.val (frD x), .val (frD y)] = some ([.un, .un], .val (frD (norm (x.1 * y.2 + y.1 * x.2) (x.2 * y.2)))) := by
  have z := law_low (x.1 * y.2 + y.1 * x.2) (x.2 * y.2) (Int.mul_pos n1 n2) (log2_64 (Nat.lt_trans (mul31 h2 h4) (by decide)))
  unfold F__law_plus g__law_plus
  simp [pair_ix0, pair_ix1, mulOk31 h1, mulOk31 h2, mulOk31 h3, z]
theorem law_by (x y : Int × Int) (h1 : S31 x.1) (h2 : S31 x.2) (h4 : S31 y.2) (n1 : 0 < x.2) (n2 : 0 < y.2) :
    F__law_by [.val (frD x), .val (frD y)] = some ([.un, .un], .val (frD (norm (x.1 * y.1) (x.2 * y.2)))) := by
  have z := law_low (x.1 * y.1) (x.2 * y.2) (Int.mul_pos n1 n2) (log2_64 (Nat.lt_trans (mul31 h2 h4) (by decide)))
  unfold F__law_by g__law_by
  simp [pair_ix0, pair_ix1, mulOk31 h1, mulOk31 h2, z]
theorem part_times (k : Int) (x : Int × Int) (h1 : S31 x.1) (h2 : S31 x.2) (n1 : x.2 ≠ 0) :
    F_part_times [.val (.int k), .val (frD x)] = some ([.un, .un], .val (frD (normP (k * x.1) x.2))) := by
  have z := part_of (k * x.1) x.2 n1 (log2_64 (Nat.lt_trans h2 (by decide)))
  unfold F_part_times g_part_times
  simp [pair_ix0, pair_ix1, mulOk31' h1, z]
end K09
/-! k09, the plain law: parts by whole numbers of 2520ths, fractions by whole numbers of a level's parts. -/
namespace K09
open PySem PySem.Spec PyProof.Rows L2 L3
def pt (t : Int) : Int × Int := normP t 2520
theorem pt_val (t : Int) : (pt t).1 * 2520 = (t % 2520) * (pt t).2 ∧ 0 < (pt t).2 := normP_val (by decide)
theorem pt_small (t : Int) : S31 (pt t).1 ∧ S31 (pt t).2 ∧ (pt t).2 ≤ 2520 := by
  have h := norm_pos (p := t % 2520) (q := 2520) (by decide)
  have e : pt t = norm (t % 2520) 2520 := normP_eq _ _ (by decide)
  rw [e]
  have h1 := Int.emod_nonneg t (b := 2520) (by decide)
  have h2 := Int.emod_lt_of_pos t (b := 2520) (by decide)
  have e8 : (2520 : Int).natAbs = 2520 := rfl
  unfold S31
  omega
theorem pt_mod {s t : Int} (h : s % 2520 = t % 2520) : pt s = pt t := normP_mod (by decide) h
theorem pt_inj {s t : Int} (h : pt s = pt t) : s % 2520 = t % 2520 := by
  have h1 := pt_val s
  have h2 := pt_val t
  rw [h] at h1
  have h3 : (s % 2520) * (pt t).2 = (t % 2520) * (pt t).2 := h1.1.symm.trans h2.1
  exact Int.eq_of_mul_eq_mul_right (by omega) h3
theorem pt_cross {x q : Int} (t : Int) (hq : 0 < q) (h : x * 2520 = t * q) : normP x q = pt t := normP_cross hq (by decide) h
theorem pt_of {x q k : Int} (hq : 0 < q) (h : q * k = 2520) : normP x q = pt (x * k) := pt_cross _ hq (by rw [← h, Int.mul_assoc, Int.mul_comm k q])
theorem pt_sum (s t : Int) : F_part_sum [.val (frD (pt s)), .val (frD (pt t))] = some ([.un, .un], .val (frD (pt (s + t)))) := by
  obtain ⟨a1, a2, _⟩ := pt_small s
  obtain ⟨b1, b2, _⟩ := pt_small t
  have c1 := (pt_val s).2
  have c2 := (pt_val t).2
  rw [part_sum (pt s) (pt t) a1 a2 b1 b2 (by omega) (by omega)]
  have := normP_sum s t 1 2520 2520 (by decide) (by decide) (by decide)
  rw [Int.mul_one] at this
  unfold pt
  rw [this]
theorem pt_turned (t : Int) : F_part_turned [.val (frD (pt t))] = some ([.un], .val (frD (pt (-t)))) := by
  obtain ⟨a1, a2, _⟩ := pt_small t
  obtain ⟨c1, c2⟩ := pt_val t
  rw [part_turned (pt t) a2 (by omega)]
  have e : normP (-(pt t).1) (pt t).2 = pt (-(t % 2520)) := pt_cross _ c2 (by rw [Int.neg_mul, Int.neg_mul, c1])
  rw [e, pt_mod (show (-(t % 2520)) % 2520 = (-t) % 2520 by omega)]
theorem keyOk_fr (x : Int × Int) : keyOk (frD x) = true := rfl
theorem beq_fr (x y : Int × Int) : D.beq (frD x) (frD y) = decide (x = y) := by
  obtain ⟨a, b⟩ := x
  obtain ⟨c, d⟩ := y
  simp [frD, D.beq, D.beqs]
  by_cases h : a = c <;> by_cases k : b = d <;> simp [h, k]
theorem pt_times (k t : Int) : F_part_times [.val (.int k), .val (frD (pt t))] = some ([.un, .un], .val (frD (pt (k * t)))) := by
  obtain ⟨a1, a2, _⟩ := pt_small t
  obtain ⟨c1, c2⟩ := pt_val t
  rw [part_times k (pt t) a1 a2 (by omega)]
  have e : normP (k * (pt t).1) (pt t).2 = pt (k * (t % 2520)) := pt_cross _ c2 (by rw [Int.mul_assoc, Int.mul_assoc, c1])
  rw [e, pt_mod (show (k * (t % 2520)) % 2520 = (k * t) % 2520 by rw [Int.mul_emod, Int.emod_emod, ← Int.mul_emod])]
theorem pt_low {t : Int} (h : 2 * (pt t).1 < (pt t).2) : t % 2520 < 1260 := by
  obtain ⟨c1, c2⟩ := pt_val t
  by_cases z : t % 2520 < 1260
  · exact z
  · exfalso
    have e1 : 1260 * (pt t).2 ≤ (t % 2520) * (pt t).2 := Int.mul_le_mul_of_nonneg_right (by omega) (by omega)
    omega
theorem pt_high {t : Int} (h : ¬ 2 * (pt t).1 < (pt t).2) : ¬ t % 2520 < 1260 := by
  obtain ⟨c1, c2⟩ := pt_val t
  intro z
  have e1 : (t % 2520) * (pt t).2 ≤ 1259 * (pt t).2 := Int.mul_le_mul_of_nonneg_right (by omega) (by omega)
  omega
theorem pt_half {t : Int} (h : ¬ t % 2520 < 1260) : norm (2 * (pt t).1 - (pt t).2) (2 * (pt t).2) = pt (t % 1260) := by
  obtain ⟨c1, c2⟩ := pt_val t
  have e0 : pt (t % 1260) = norm (t % 1260) 2520 := by
    unfold pt
    rw [normP_eq _ _ (by decide), Int.emod_eq_of_lt (by omega) (by omega)]
  rw [e0]
  refine norm_cross (by omega) (by decide) ?_
  have e2 : t % 2520 = t % 1260 + 1260 := by omega
  rw [e2, Int.add_mul] at c1
  rw [Int.sub_mul, show t % 1260 * (2 * (pt t).2) = 2 * (t % 1260 * (pt t).2) by rw [Int.mul_left_comm]]
  omega
theorem pt_whole (t : Int) : norm (pt t).1 (pt t).2 = pt t := by
  obtain ⟨c1, c2⟩ := pt_val t
  have e0 : pt t = norm (t % 2520) 2520 := by
    unfold pt
    rw [normP_eq _ _ (by decide)]
  conv => rhs; rw [e0]
  exact norm_cross c2 (by decide) c1
theorem pt_lo {t : Int} (h : t % 2520 < 1260) : pt t = pt (t % 1260) := pt_mod (by omega)
/-- the law's way to add parts -/
theorem law_pt (s t : Int) : ∃ w : Int × Int, F__law_plus [.val (frD (pt s)), .val (frD (pt t))] = some ([.un, .un], .val (frD w)) ∧ F__law_part [.val (.int w.1), .val (.int w.2)] = some ([.un, .un], .val (frD (pt (s + t)))) := by
  obtain ⟨a1, a2, a3⟩ := pt_small s
  obtain ⟨b1, b2, b3⟩ := pt_small t
  have c1 := (pt_val s).2
  have c2 := (pt_val t).2
  have hq : 0 < (pt s).2 * (pt t).2 := Int.mul_pos c1 c2
  have hv := norm_val (x := (pt s).1 * (pt t).2 + (pt t).1 * (pt s).2) hq
  have hp := norm_pos (p := (pt s).1 * (pt t).2 + (pt t).1 * (pt s).2) (q := (pt s).2 * (pt t).2) (by omega)
  refine ⟨_, law_plus (pt s) (pt t) a1 a2 b1 b2 c1 c2, ?_⟩
  rw [law_part _ _ hv.2 (log2_64 (Nat.lt_of_le_of_lt hp.2.1 (Nat.lt_trans (mul31 a2 b2) (by decide))))]
  have := normP_sum s t 1 2520 2520 (by decide) (by decide) (by decide)
  rw [Int.mul_one] at this
  rw [normP_cross hv.2 hq hv.1]
  unfold pt
  rw [this]
theorem law_pt_turned (t : Int) : F__law_part [.val (.int (0 - (pt t).1)), .val (.int (pt t).2)] = some ([.un, .un], .val (frD (pt (-t)))) := by
  obtain ⟨a1, a2, _⟩ := pt_small t
  obtain ⟨c1, c2⟩ := pt_val t
  rw [law_part _ _ c2 (log2_64 (Nat.lt_trans a2 (by decide)))]
  have e : normP (0 - (pt t).1) (pt t).2 = pt (-(t % 2520)) := pt_cross _ c2 (by rw [Int.zero_sub, Int.neg_mul, Int.neg_mul, c1])
  rw [e, pt_mod (show (-(t % 2520)) % 2520 = (-t) % 2520 by omega)]
theorem law_pt_times (k t : Int) : F__law_part [.val (.int (k * (pt t).1)), .val (.int (pt t).2)] = some ([.un, .un], .val (frD (pt (k * t)))) := by
  obtain ⟨a1, a2, _⟩ := pt_small t
  obtain ⟨c1, c2⟩ := pt_val t
  rw [law_part _ _ c2 (log2_64 (Nat.lt_trans a2 (by decide)))]
  have e : normP (k * (pt t).1) (pt t).2 = pt (k * (t % 2520)) := pt_cross _ c2 (by rw [Int.mul_assoc, Int.mul_assoc, c1])
  rw [e, pt_mod (show (k * (t % 2520)) % 2520 = (k * t) % 2520 by rw [Int.mul_emod, Int.emod_emod, ← Int.mul_emod])]
/-! ### fractions of a level -/
def nf (M n : Int) : Int × Int := norm n M
/-- a level -/
def Lv (M : Int) : Prop := 0 < M ∧ S31 M
theorem nf_val {M : Int} (h : Lv M) (n : Int) : (nf M n).1 * M = n * (nf M n).2 ∧ 0 < (nf M n).2 := norm_val h.1
theorem nf_small {M n : Int} (hM : Lv M) (h : S31 n) : S31 (nf M n).1 ∧ S31 (nf M n).2 := by
  have h1 := norm_pos (p := n) (q := M) (by have := hM.1; omega)
  obtain ⟨_, h2⟩ := hM
  unfold nf
  unfold S31 at *
  omega
theorem nf_zero {M n : Int} (hM : Lv M) : (nf M n).1 = 0 ↔ n = 0 := by
  obtain ⟨c1, c2⟩ := nf_val hM n
  have h0 := hM.1
  constructor
  · intro h
    rw [h, Int.zero_mul] at c1
    rcases Int.mul_eq_zero.mp c1.symm with h | h
    · exact h
    · omega
  · intro h
    subst h
    rw [Int.zero_mul] at c1
    rcases Int.mul_eq_zero.mp c1 with h | h
    · exact h
    · omega
theorem nf_nil {M : Int} (hM : 0 < M) : nf M 0 = (0, 1) := by
  unfold nf
  rw [norm_q hM, Int.zero_gcd, Int.zero_ediv, Int.natAbs_of_nonneg (by omega), Int.ediv_self (by omega)]
theorem nf_zero2 {M n : Int} (hM : Lv M) : nf M n = (0, 1) ↔ n = 0 :=
  ⟨fun h => (nf_zero hM).mp (by rw [h]), fun h => by rw [h, nf_nil hM.1]⟩
theorem nf_cross {M x q : Int} (hM : Lv M) (n : Int) (hq : 0 < q) (h : x * M = n * q) : norm x q = nf M n := norm_cross hq hM.1 h
theorem nf_inj {M m n : Int} (hM : Lv M) (h : nf M m = nf M n) : m = n := by
  have h1 := nf_val hM m
  have h2 := nf_val hM n
  rw [h] at h1
  exact Int.eq_of_mul_eq_mul_right (by omega) (h1.1.symm.trans h2.1)
theorem nf_scale {M k : Int} (n : Int) (hM : 0 < M) (hk : 0 < k) : nf (M * k) (n * k) = nf M n := norm_scale n M k hM hk
theorem sum_eq {M m n : Int} (hM : Lv M) : norm ((nf M m).1 * (nf M n).2 + (nf M n).1 * (nf M m).2) ((nf M m).2 * (nf M n).2) = nf M (m + n) := by
  obtain ⟨c1, c2⟩ := nf_val hM m
  obtain ⟨d1, d2⟩ := nf_val hM n
  generalize nf M m = x at *
  generalize nf M n = y at *
  obtain ⟨x1, x2⟩ := x
  obtain ⟨y1, y2⟩ := y
  dsimp only at *
  refine nf_cross hM (m + n) (Int.mul_pos c2 d2) ?_
  calc (x1 * y2 + y1 * x2) * M = (x1 * M) * y2 + (y1 * M) * x2 := by grind
    _ = (m * x2) * y2 + (n * y2) * x2 := by rw [c1, d1]
    _ = _ := by rw [Int.add_mul, Int.mul_assoc, Int.mul_assoc, Int.mul_comm y2 x2]
theorem nf_sum {M m n : Int} (hM : Lv M) (h1 : S31 m) (h2 : S31 n) : F_fraction_sum [.val (frD (nf M m)), .val (frD (nf M n))] = some ([.un, .un], .val (frD (nf M (m + n)))) := by
  obtain ⟨a1, a2⟩ := nf_small hM h1
  obtain ⟨b1, b2⟩ := nf_small hM h2
  rw [fraction_sum _ _ a1 a2 b1 b2 (Int.ne_of_gt (nf_val hM m).2) (Int.ne_of_gt (nf_val hM n).2), sum_eq hM]
theorem law_sum {M m n : Int} (hM : Lv M) (h1 : S31 m) (h2 : S31 n) : F__law_plus [.val (frD (nf M m)), .val (frD (nf M n))] = some ([.un, .un], .val (frD (nf M (m + n)))) := by
  obtain ⟨a1, a2⟩ := nf_small hM h1
  obtain ⟨b1, b2⟩ := nf_small hM h2
  rw [law_plus _ _ a1 a2 b1 b2 (nf_val hM m).2 (nf_val hM n).2, sum_eq hM]
theorem times_eq {M N m n : Int} (hM : Lv M) (hN : Lv N) : norm ((nf M m).1 * (nf N n).1) ((nf M m).2 * (nf N n).2) = nf (M * N) (m * n) := by
  obtain ⟨c1, c2⟩ := nf_val hM m
  obtain ⟨d1, d2⟩ := nf_val hN n
  generalize nf M m = x at *
  generalize nf N n = y at *
  obtain ⟨x1, x2⟩ := x
  obtain ⟨y1, y2⟩ := y
  dsimp only at *
  refine norm_cross (Int.mul_pos c2 d2) (Int.mul_pos hM.1 hN.1) ?_
  calc (x1 * y1) * (M * N) = (x1 * M) * (y1 * N) := by simp only [Int.mul_assoc, Int.mul_comm, Int.mul_left_comm]
    _ = (m * x2) * (n * y2) := by rw [c1, d1]
    _ = _ := by simp only [Int.mul_assoc, Int.mul_comm, Int.mul_left_comm]
theorem nf_times {M N m n : Int} (hM : Lv M) (hN : Lv N) (h1 : S31 m) (h2 : S31 n) : F_fraction_times [.val (frD (nf M m)), .val (frD (nf N n))] = some ([.un, .un], .val (frD (nf (M * N) (m * n)))) := by
  obtain ⟨a1, a2⟩ := nf_small hM h1
  obtain ⟨b1, b2⟩ := nf_small hN h2
  rw [fraction_times _ _ a1 a2 b2 (Int.ne_of_gt (nf_val hM m).2) (Int.ne_of_gt (nf_val hN n).2), times_eq hM hN]
theorem law_times {M N m n : Int} (hM : Lv M) (hN : Lv N) (h1 : S31 m) (h2 : S31 n) : F__law_by [.val (frD (nf M m)), .val (frD (nf N n))] = some ([.un, .un], .val (frD (nf (M * N) (m * n)))) := by
  obtain ⟨a1, a2⟩ := nf_small hM h1
  obtain ⟨b1, b2⟩ := nf_small hN h2
  rw [law_by _ _ a1 a2 b2 (nf_val hM m).2 (nf_val hN n).2, times_eq hM hN]
theorem nf_neg {M : Int} (hM : Lv M) (n : Int) : nf M (-n) = (-(nf M n).1, (nf M n).2) := by
  unfold nf
  rw [norm_q hM.1, norm_q hM.1, Int.neg_gcd]
  have d : ((Int.gcd n M : Nat) : Int) ∣ n := Int.gcd_dvd_left ..
  rw [Int.neg_ediv_of_dvd d]
theorem nf_turned {M : Int} (hM : Lv M) (n : Int) : F_fraction_turned [.val (frD (nf M n))] = some ([.un], .val (frD (nf M (-n)))) := by
  rw [fraction_turned, nf_neg hM]
end K09
/-! k09, the plain law: keys and their order. -/
namespace K09
open PySem PySem.Spec PyProof.Rows L2 L3
def rowD (r : List Int) : D := .tuple (r.map .int)
/-- a row, and a part below a half as so many 2520ths -/
abbrev Ky := List Int × Fin 1260
def kD (k : Ky) : D := .tuple [rowD k.1, frD (pt (k.2.val : Int))]
theorem rowD_inj {r s : List Int} (h : rowD r = rowD s) : r = s := by
  unfold rowD at h
  injection h with h
  exact (List.map_inj_right (fun a b e => by injection e)).mp h
theorem frD_inj {x y : Int × Int} (h : frD x = frD y) : x = y := by
  obtain ⟨a, b⟩ := x
  obtain ⟨c, d⟩ := y
  unfold frD at h
  injection h with h
  injection h with h1 h
  injection h with h2 h
  injection h1 with h1
  injection h2 with h2
  exact Prod.ext h1 h2
theorem kD_inj {a b : Ky} (h : kD a = kD b) : a = b := by
  obtain ⟨r, m⟩ := a
  obtain ⟨s, n⟩ := b
  unfold kD at h
  injection h with h
  injection h with h1 h
  injection h with h2 h
  have e1 := rowD_inj h1
  have e2 := pt_inj (frD_inj h2)
  have hm := m.isLt
  have hn := n.isLt
  dsimp only at e1 e2
  have e3 : m = n := Fin.ext (by omega)
  rw [e1, e3]
theorem beq_D (a b : D) : D.beq a b = decide (a = b) := by
  by_cases h : a = b
  · subst h; rw [D.beq_refl]; simp
  · have : D.beq a b ≠ true := fun q => h (D.of_beq _ _ q)
    simp [h, this]
theorem beq_kD (a b : Ky) : D.beq (kD a) (kD b) = decide (a = b) := by
  rw [beq_D]
  exact decide_eq_decide.mpr ⟨kD_inj, fun h => by rw [h]⟩
theorem keys_ints : ∀ r : List Int, ∃ ks, keysOf (r.map .int) = some ks ∧ NestedKey.depthAll ks = 0
  | [] => ⟨[], rfl, rfl⟩
  | n :: r => by
    obtain ⟨ks, h1, h2⟩ := keys_ints r
    refine ⟨.num n :: ks, ?_, ?_⟩
    · rw [List.map_cons, keysOf, h1]; rfl
    · rw [NestedKey.depthAll, h2]; rfl
theorem keyOk_kD (k : Ky) : keyOk (kD k) = true := by
  obtain ⟨ks, h1, h2⟩ := keys_ints k.1
  have h3 : keyOf (rowD k.1) = some (.tup ks) := by unfold rowD; rw [keyOf, h1]; rfl
  have h4 : keyOf (kD k) = some (.tup [.tup ks, .tup [.num (pt (k.2.val : Int)).1, .num (pt (k.2.val : Int)).2]]) := by
    unfold kD
    rw [keyOf, keysOf, h3]
    rfl
  unfold keyOk
  have h5 : NestedKey.depth (.tup [.tup ks, .tup [.num (pt (k.2.val : Int)).1, .num (pt (k.2.val : Int)).2]]) = 2 := by
    simp [NestedKey.depth, NestedKey.depthAll, h2]
  rw [show kD k = .tuple [rowD k.1, frD (pt (k.2.val : Int))] from rfl] at h4 ⊢
  dsimp only
  rw [h4]
  dsimp only
  rw [h5]
  rfl
/-! ### the order -/
theorem toks_row : ∀ r s : List Int, ∀ x y, PySem.W.keyToksAll (r.map .int) ++ x = PySem.W.keyToksAll (s.map .int) ++ y → r = s ∧ x = y
  | [], [], x, y, h => ⟨rfl, by simpa [PySem.W.keyToksAll] using h⟩
  | [], n :: s, x, y, h => by simp [PySem.W.keyToksAll] at h
  | n :: r, [], x, y, h => by simp [PySem.W.keyToksAll] at h
  | m :: r, n :: s, x, y, h => by
    simp only [List.map_cons, PySem.W.keyToksAll, PySem.W.keyToks, List.cons_append, List.nil_append, List.cons.injEq, Sum.inl.injEq, true_and] at h
    obtain ⟨h1, h2⟩ := h
    obtain ⟨h3, h4⟩ := toks_row r s x y h2
    exact ⟨by rw [h1, h3], h4⟩
theorem toks_kD {a b : Ky} (h : PySem.W.keyToks (kD a) = PySem.W.keyToks (kD b)) : a = b := by
  refine kD_inj ?_
  unfold kD at h ⊢
  simp only [PySem.W.keyToks, PySem.W.keyToksAll, rowD, List.cons.injEq, true_and] at h
  obtain ⟨h1, h2⟩ := toks_row _ _ _ _ h
  have h3 : frD (pt (a.2.val : Int)) = frD (pt (b.2.val : Int)) := by
    unfold frD at h2 ⊢
    simp [PySem.W.keyToks, PySem.W.keyToksAll] at h2
    rw [h2.1, h2.2]
  rw [h1, h3]
def le (a b : Ky) : Bool := PySem.W.dataLe false id (kD a) (kD b)
theorem le_iff (a b : Ky) : le a b = !PyProof.Rows.lexLt itemOrd (PySem.W.keyToks (kD b)) (PySem.W.keyToks (kD a)) := rfl
theorem le_total (a b : Ky) : (le a b || le b a) = true := by
  rw [le_iff, le_iff]
  cases h1 : PyProof.Rows.lexLt itemOrd (PySem.W.keyToks (kD b)) (PySem.W.keyToks (kD a)) with
  | false => rfl
  | true =>
    cases h2 : PyProof.Rows.lexLt itemOrd (PySem.W.keyToks (kD a)) (PySem.W.keyToks (kD b)) with
    | false => rfl
    | true =>
      have := lex_trans _ _ _ h1 h2
      rw [lex_irrefl] at this
      cases this
theorem le_trans (a b c : Ky) (h1 : le a b = true) (h2 : le b c = true) : le a c = true := by
  rw [le_iff, Bool.not_eq_true'] at h1 h2 ⊢
  cases h3 : PyProof.Rows.lexLt itemOrd (PySem.W.keyToks (kD c)) (PySem.W.keyToks (kD a)) with
  | false => rfl
  | true =>
    rcases lex_negTrans _ (PySem.W.keyToks (kD b)) _ h3 with h | h
    · rw [h2] at h; cases h
    · rw [h1] at h; cases h
theorem le_anti {a b : Ky} (h1 : le a b = true) (h2 : le b a = true) : a = b := by
  rw [le_iff, Bool.not_eq_true'] at h1 h2
  exact toks_kD (lex_total _ _ h2 h1)
def ordK (l : List Ky) : List Ky := l.mergeSort le
theorem ordK_perm (l : List Ky) : (ordK l).Perm l := List.mergeSort_perm ..
theorem ordK_sorted (l : List Ky) : (ordK l).Pairwise fun a b => le a b = true := List.pairwise_mergeSort (fun a b c => le_trans a b c) le_total l
theorem sortD_kD (l : List Ky) : sortD (l.map kD) = (ordK l).map kD := by
  unfold sortD ordK
  exact (List.map_mergeSort (f := kD) (r := le) (s := PySem.W.dataLe false id) fun a _ b _ => rfl).symm
theorem alike_kD (a b : Ky) : PySem.W.alike (kD a) (kD b) = true := by
  unfold kD frD rowD
  simp [PySem.W.alike, PySem.W.alikeAll, PySem.W.alike_ints]
theorem depth_row (r : List Int) : PyData.depth (rowD r) = 1 := by
  unfold rowD
  rw [PyData.depth, PySem.W.depth_ints]
theorem depth_kD1 (k : Ky) : PyData.depth (kD k) = 2 := by
  unfold kD
  simp [PyData.depth, PyData.depthAll, depth_row, frD]
theorem depth_kD : ∀ l : List Ky, PyData.depthAll (l.map kD) ≤ 2
  | [] => by simp [PyData.depthAll]
  | t :: r => by
    have := depth_kD r
    rw [List.map_cons, PyData.depthAll, depth_kD1]
    omega
theorem sortOk_kD (l : List Ky) (h : l.length ≤ 16777216) : sortOk (l.map kD) = true := by
  unfold sortOk
  rw [Bool.and_eq_true, Bool.and_eq_true, Bool.and_eq_true, decide_eq_true_eq, Bool.or_eq_true]
  refine ⟨⟨⟨?_, .inl ?_⟩, ?_⟩, ?_⟩
  · unfold alikes
    rw [List.all_eq_true]
    intro x hx
    rw [List.all_eq_true]
    intro y hy
    obtain ⟨a, _, rfl⟩ := List.mem_map.mp hx
    obtain ⟨b, _, rfl⟩ := List.mem_map.mp hy
    exact alike_kD a b
  · rw [List.all_eq_true]
    intro x hx
    obtain ⟨a, _, rfl⟩ := List.mem_map.mp hx
    rfl
  · have := depth_kD l; omega
  · rw [List.length_map]; exact decide_eq_true h
end K09
/-! k09, the plain law: what stands under keys; sums merged. -/
namespace K09
open PySem PySem.Spec PyProof.Rows L2 L3
abbrev Nm := List (Ky × Int)
def look (t : Ky) : Nm → Option Int
  | [] => none
  | x :: r => if x.1 = t then some x.2 else look t r
def upd (t : Ky) (v : Int) : Nm → Nm
  | [] => [(t, v)]
  | x :: r => if x.1 = t then (x.1, v) :: r else x :: upd t v r
def coef (t : Ky) : Nm → Int
  | [] => 0
  | x :: r => (if x.1 = t then x.2 else 0) + coef t r
def l1n : Nm → Nat
  | [] => 0
  | x :: r => x.2.natAbs + l1n r
def dst (m : Nm) : Prop := m.Pairwise fun a b => a.1 ≠ b.1
section
variable (e : Int → D)
def enc (x : Ky × Int) : D × D := (kD x.1, e x.2)
theorem allK_enc (m : Nm) : allK (m.map (enc e)) = true := by
  unfold allK
  rw [List.all_eq_true]
  intro p hp
  obtain ⟨x, _, rfl⟩ := List.mem_map.mp hp
  exact keyOk_kD x.1
theorem getK_enc (t : Ky) : ∀ m : Nm, getK (m.map (enc e)) (kD t) = (look t m).map e
  | [] => rfl
  | x :: r => by
    rw [List.map_cons, getK, look]
    show (if D.beq (kD x.1) (kD t) = true then some (e x.2) else _) = _
    rw [beq_kD, getK_enc t r]
    by_cases h : x.1 = t
    · simp [h]
    · simp [h]
theorem setK_none (t : Ky) (v : Int) : ∀ m : Nm, look t m = none → setK (m.map (enc e)) (kD t) (e v) = m.map (enc e)
  | [], _ => rfl
  | x :: r, h => by
    rw [look] at h
    by_cases z : x.1 = t
    · rw [if_pos z] at h; cases h
    · rw [if_neg z] at h
      rw [List.map_cons, setK, setK_none t v r h]
      show (if D.beq (kD x.1) (kD t) = true then _ else _) :: _ = _
      rw [beq_kD]
      simp [z]
theorem look_dst {x : Ky × Int} {r : Nm} (h : dst (x :: r)) {t : Ky} (z : x.1 = t) : look t r = none := by
  have hx := (List.pairwise_cons.mp h).1
  clear h
  induction r with
  | nil => rfl
  | cons y r ih =>
    rw [look, if_neg (fun q => hx y (List.mem_cons_self ..) (z.trans q.symm))]
    exact ih fun y hy => hx y (List.mem_cons_of_mem _ hy)
theorem putD_enc (t : Ky) (v : Int) : ∀ m : Nm, dst m → putD (m.map (enc e)) (kD t) (e v) = (upd t v m).map (enc e)
  | [], _ => rfl
  | x :: r, h => by
    have ih := putD_enc t v r (List.pairwise_cons.mp h).2
    unfold putD at ih ⊢
    rw [getK_enc] at ih ⊢
    rw [look, upd]
    by_cases z : x.1 = t
    · rw [if_pos z, if_pos z]
      rw [if_pos (by rfl), List.map_cons, setK, setK_none e t v r (look_dst h z)]
      show (if D.beq (kD x.1) (kD t) = true then (kD x.1, e v) else _) :: _ = _
      rw [beq_kD]
      simp [z, enc]
    · rw [if_neg z, if_neg z]
      cases hl : look t r with
      | none =>
        rw [hl] at ih
        simpa using ih
      | some n =>
        rw [hl] at ih
        simp only [Option.map_some, Option.isSome_some, if_true] at ih ⊢
        rw [List.map_cons, setK, ih]
        show (if D.beq (kD x.1) (kD t) = true then _ else _) :: _ = _
        rw [beq_kD]
        simp [z]
theorem dIxK_enc (m : Nm) (t : Ky) : dIxK (.dict (m.map (enc e))) (kD t) = (look t m).map e := by
  rw [dIxK, allK_enc, keyOk_kD]
  exact getK_enc e t m
theorem dGet2_enc (m : Nm) (t : Ky) (x : D) : dGet2 (.dict (m.map (enc e))) (kD t) x = some (((look t m).map e).getD x) := by
  rw [dGet2, allK_enc, keyOk_kD, getK_enc]
  rfl
theorem keys_enc (m : Nm) : (m.map (enc e)).map (·.1) = (m.map (·.1)).map kD := by
  rw [List.map_map, List.map_map]; rfl
theorem dSorted_enc (m : Nm) (h : m.length ≤ 16777216) : dSorted (.dict (m.map (enc e))) = some (.list ((ordK (m.map (·.1))).map kD)) := by
  rw [dSorted, keys_enc, sortOk_kD _ (by rw [List.length_map]; exact h), if_pos rfl, sortD_kD]
end
theorem coef_none {t : Ky} : ∀ {m : Nm}, look t m = none → coef t m = 0
  | [], _ => rfl
  | x :: r, h => by
    rw [look] at h
    by_cases z : x.1 = t
    · rw [if_pos z] at h; cases h
    · rw [if_neg z] at h
      rw [coef, if_neg z, coef_none h]; rfl
theorem coef_look {t : Ky} : ∀ {m : Nm}, dst m → coef t m = (look t m).getD 0
  | [], _ => rfl
  | x :: r, h => by
    rw [coef, look]
    by_cases z : x.1 = t
    · rw [if_pos z, if_pos z, coef_none (look_dst h z)]; simp
    · rw [if_neg z, if_neg z, coef_look (List.pairwise_cons.mp h).2]; simp
theorem coef_upd (s t : Ky) (v : Int) : ∀ m : Nm, dst m → coef s (upd t v m) = if s = t then v else coef s m
  | [], _ => by
    rw [upd, coef, coef]
    by_cases z : t = s
    · rw [if_pos z, if_pos z.symm]; simp [coef]
    · rw [if_neg z, if_neg (fun q => z q.symm)]; rfl
  | x :: r, h => by
    rw [upd]
    by_cases z : x.1 = t
    · rw [if_pos z, coef]
      by_cases q : s = t
      · rw [if_pos q, if_pos (z.trans q.symm), coef_none (look_dst h (z.trans q.symm))]; simp
      · rw [if_neg q, coef]
        have : x.1 ≠ s := fun w => q (w.symm.trans z)
        rw [if_neg this, if_neg this]
    · rw [if_neg z, coef, coef_upd s t v r (List.pairwise_cons.mp h).2]
      by_cases q : s = t
      · have : x.1 ≠ s := fun w => z (w.trans q)
        rw [if_pos q, if_pos q, if_neg this]; simp
      · rw [if_neg q, if_neg q, coef]
theorem upd_keys (t : Ky) (v : Int) : ∀ m : Nm, ∀ x ∈ upd t v m, x.1 = t ∨ ∃ y ∈ m, y.1 = x.1
  | [], x, h => by rw [upd] at h; rw [List.mem_singleton.mp h]; exact .inl rfl
  | y :: r, x, h => by
    rw [upd] at h
    split at h
    · rcases List.mem_cons.mp h with rfl | h
      · exact .inr ⟨y, List.mem_cons_self .., rfl⟩
      · exact .inr ⟨x, List.mem_cons_of_mem _ h, rfl⟩
    · rcases List.mem_cons.mp h with rfl | h
      · exact .inr ⟨x, List.mem_cons_self .., rfl⟩
      · exact (upd_keys t v r x h).imp id fun ⟨z, h1, h2⟩ => ⟨z, List.mem_cons_of_mem _ h1, h2⟩
theorem upd_dst (t : Ky) (v : Int) : ∀ m : Nm, dst m → dst (upd t v m)
  | [], _ => List.pairwise_singleton _ _
  | y :: r, h => by
    obtain ⟨h1, h2⟩ := List.pairwise_cons.mp h
    rw [upd]
    split
    · exact List.pairwise_cons.mpr ⟨h1, h2⟩
    · rename_i z
      refine List.pairwise_cons.mpr ⟨fun x hx => ?_, upd_dst t v r h2⟩
      rcases upd_keys t v r x hx with q | ⟨w, hw, q⟩
      · rw [q]; exact z
      · rw [← q]; exact h1 w hw
theorem upd_len (t : Ky) (v : Int) : ∀ m : Nm, (upd t v m).length ≤ m.length + 1
  | [] => by simp [upd]
  | y :: r => by
    rw [upd]
    split
    · simp
    · have := upd_len t v r; simp; omega
theorem upd_l1 (t : Ky) (n : Int) : ∀ m : Nm, dst m → l1n (upd t (coef t m + n) m) ≤ l1n m + n.natAbs
  | [], _ => by simp [upd, l1n, coef]
  | y :: r, h => by
    rw [upd]
    by_cases z : y.1 = t
    · rw [if_pos z, coef, if_pos z, coef_none (look_dst h z), l1n, l1n]
      omega
    · rw [if_neg z, coef, if_neg z, l1n, l1n]
      have := upd_l1 t n r (List.pairwise_cons.mp h).2
      rw [Int.zero_add]
      omega
theorem coef_abs (t : Ky) : ∀ m : Nm, (coef t m).natAbs ≤ l1n m
  | [] => by simp [coef, l1n]
  | x :: r => by
    have := coef_abs t r
    rw [coef, l1n]
    split <;> omega
theorem look_mem {m : Nm} (h : dst m) : ∀ x ∈ m, look x.1 m = some x.2 := by
  induction m with
  | nil => intro x hx; cases hx
  | cons y r ih =>
    obtain ⟨h1, h2⟩ := List.pairwise_cons.mp h
    intro x hx
    rw [look]
    rcases List.mem_cons.mp hx with rfl | hx
    · rw [if_pos rfl]
    · rw [if_neg (h1 x hx)]; exact ih h2 x hx
/-- a functional of keys -/
def linK (h : Ky → Int) : Nm → Int
  | [] => 0
  | x :: r => x.2 * h x.1 + linK h r
theorem linK_perm (h : Ky → Int) {a b : Nm} (p : a.Perm b) : linK h a = linK h b := by
  induction p with
  | nil => rfl
  | cons x _ ih => rw [linK, linK, ih]
  | swap x y l => rw [linK, linK, linK, linK]; omega
  | trans _ _ h1 h2 => exact h1.trans h2
theorem l1_perm {a b : Nm} (h : a.Perm b) : l1n a = l1n b := by
  induction h with
  | nil => rfl
  | cons x _ ih => rw [l1n, l1n, ih]
  | swap x y l => rw [l1n, l1n, l1n, l1n]; omega
  | trans _ _ h1 h2 => exact h1.trans h2
theorem linK_none (h : Ky → Int) {t : Ky} {v : Int} : ∀ {m : Nm}, look t m = none → linK h (upd t v m) = linK h m + v * h t
  | [], _ => by simp [upd, linK]
  | x :: r, z => by
    rw [look] at z
    by_cases q : x.1 = t
    · rw [if_pos q] at z; cases z
    · rw [if_neg q] at z
      rw [upd, if_neg q, linK, linK, linK_none h z]; omega
theorem linK_upd (h : Ky → Int) (t : Ky) (n : Int) : ∀ m : Nm, dst m → linK h (upd t (coef t m + n) m) = linK h m + n * h t
  | [], _ => by simp [upd, linK, coef]
  | y :: r, hd => by
    rw [upd]
    by_cases z : y.1 = t
    · rw [if_pos z, coef, if_pos z, coef_none (look_dst hd z), linK, linK, z]
      dsimp only
      rw [Int.add_zero, Int.add_mul]; omega
    · rw [if_neg z, coef, if_neg z, linK, linK, Int.zero_add, linK_upd h t n r (List.pairwise_cons.mp hd).2]
      omega
theorem coef_lin (t : Ky) : ∀ m : Nm, coef t m = linK (fun k => if k = t then 1 else 0) m
  | [] => rfl
  | x :: r => by
    rw [coef, linK, coef_lin t r]
    split <;> simp
def nzs (m : Nm) : Nm := m.filter fun x => decide (x.2 ≠ 0)
theorem linK_nzs (h : Ky → Int) : ∀ m : Nm, linK h (nzs m) = linK h m
  | [] => rfl
  | x :: r => by
    unfold nzs
    rw [List.filter_cons]
    have ih := linK_nzs h r
    unfold nzs at ih
    by_cases z : x.2 = 0
    · simpa [z, linK] using ih
    · simpa [z, linK] using ih
theorem l1_nzs : ∀ m : Nm, l1n (nzs m) = l1n m
  | [] => rfl
  | x :: r => by
    unfold nzs
    rw [List.filter_cons]
    have ih := l1_nzs r
    unfold nzs at ih
    by_cases z : x.2 = 0
    · simpa [z, l1n] using ih
    · simpa [z, l1n] using ih
theorem self_map {m : Nm} (h : dst m) : (m.map (·.1)).map (fun t => (t, coef t m)) = m := by
  rw [List.map_map]
  have : ∀ x ∈ m, ((fun t => (t, coef t m)) ∘ fun x : Ky × Int => x.1) x = id x := fun x hx => by
    show (x.1, coef x.1 m) = x
    rw [coef_look h, look_mem h x hx]
    rfl
  rw [List.map_congr_left this, List.map_id]
/-- what is handed on, in order -/
def outs (m : Nm) : Nm := ((ordK (m.map (·.1))).filter fun t => decide (coef t m ≠ 0)).map fun t => (t, coef t m)
theorem outs_perm {m : Nm} (h : dst m) : (outs m).Perm (nzs m) := by
  have h1 : ((ordK (m.map (·.1))).map fun t => (t, coef t m)).Perm m := by
    have := (ordK_perm (m.map (·.1))).map fun t => (t, coef t m)
    rwa [self_map h] at this
  have h2 := h1.filter fun x : Ky × Int => decide (x.2 ≠ 0)
  unfold outs nzs
  rw [List.filter_map] at h2
  exact h2
theorem ord_look {m : Nm} (h : dst m) : ∀ t ∈ ordK (m.map (·.1)), look t m = some (coef t m) := by
  intro t ht
  obtain ⟨x, hx, rfl⟩ := List.mem_map.mp ((ordK_perm _).mem_iff.mp ht)
  rw [coef_look h, look_mem h x hx]
  rfl
/-- one after another -/
def acc : Nm → Nm → Nm
  | [], m => m
  | x :: l, m => acc l (upd x.1 (coef x.1 m + x.2) m)
theorem acc_dst : ∀ (l m : Nm), dst m → dst (acc l m)
  | [], _, h => h
  | _ :: l, _, h => acc_dst l _ (upd_dst _ _ _ h)
theorem acc_lin (h : Ky → Int) : ∀ (l m : Nm), dst m → linK h (acc l m) = linK h m + linK h l
  | [], _, _ => by simp [acc, linK]
  | x :: l, m, hd => by
    rw [acc, acc_lin h l _ (upd_dst _ _ _ hd), linK_upd h _ _ _ hd, linK]; omega
theorem acc_l1 : ∀ (l m : Nm), dst m → l1n (acc l m) ≤ l1n m + l1n l
  | [], _, _ => by simp [acc, l1n]
  | x :: l, m, hd => by
    have h1 := acc_l1 l _ (upd_dst x.1 (coef x.1 m + x.2) _ hd)
    have h2 := upd_l1 x.1 x.2 m hd
    rw [acc, l1n]; omega
theorem acc_len : ∀ (l m : Nm), (acc l m).length ≤ m.length + l.length
  | [], _ => by simp [acc]
  | x :: l, m => by
    have h1 := acc_len l (upd x.1 (coef x.1 m + x.2) m)
    have h2 := upd_len x.1 (coef x.1 m + x.2) m
    rw [acc, List.length_cons]; omega
theorem acc_keys : ∀ (l m : Nm), ∀ x ∈ acc l m, (∃ y ∈ m, y.1 = x.1) ∨ ∃ y ∈ l, y.1 = x.1
  | [], m, x, h => .inl ⟨x, h, rfl⟩
  | y :: l, m, x, h => by
    rcases acc_keys l _ x h with ⟨z, hz, e⟩ | ⟨z, hz, e⟩
    · rcases upd_keys _ _ _ z hz with q | ⟨u, hu, q⟩
      · exact .inr ⟨y, List.mem_cons_self .., by rw [← e, q]⟩
      · exact .inl ⟨u, hu, by rw [q, e]⟩
    · exact .inr ⟨z, List.mem_cons_of_mem _ hz, e⟩
/-- merged -/
def mg (l : Nm) : Nm := outs (acc l [])
theorem mg_lin (h : Ky → Int) (l : Nm) : linK h (mg l) = linK h l := by
  have hd := acc_dst l [] List.Pairwise.nil
  unfold mg
  rw [linK_perm h (outs_perm hd), linK_nzs, acc_lin h l [] List.Pairwise.nil]
  simp [linK]
theorem mg_l1 (l : Nm) : l1n (mg l) ≤ l1n l := by
  have hd := acc_dst l [] List.Pairwise.nil
  have := acc_l1 l [] List.Pairwise.nil
  unfold mg
  rw [l1_perm (outs_perm hd), l1_nzs]
  simpa [l1n] using this
theorem mg_len (l : Nm) : (mg l).length ≤ l.length := by
  have hd := acc_dst l [] List.Pairwise.nil
  have := acc_len l []
  unfold mg
  rw [(outs_perm hd).length_eq]
  exact Nat.le_trans (List.length_filter_le _ _) (by simpa using this)
theorem mg_mem (l : Nm) : ∀ x ∈ mg l, x.2 ≠ 0 ∧ ∃ y ∈ l, y.1 = x.1 := by
  intro x hx
  have hd := acc_dst l [] List.Pairwise.nil
  have h1 := (outs_perm hd).mem_iff.mp hx
  obtain ⟨h2, h3⟩ := List.mem_filter.mp h1
  refine ⟨of_decide_eq_true h3, ?_⟩
  rcases acc_keys l [] x h2 with ⟨y, hy, _⟩ | h
  · cases hy
  · exact h
/-- strictly upwards -/
def Up (m : Nm) : Prop := m.Pairwise fun a b => le a.1 b.1 = true ∧ a.1 ≠ b.1
theorem mg_up (l : Nm) : Up (mg l) := by
  have hd := acc_dst l [] List.Pairwise.nil
  have h1 : ((ordK ((acc l []).map (·.1))).filter fun t => decide (coef t (acc l []) ≠ 0)).Pairwise fun a b => le a b = true ∧ a ≠ b := by
    refine List.Pairwise.filter _ (List.Pairwise.and (ordK_sorted _) ?_)
    have hn : ((acc l []).map (·.1)).Pairwise (· ≠ ·) := List.pairwise_map.mpr hd
    exact ((ordK_perm _).pairwise_iff (fun {_ _} h => Ne.symm h)).mpr hn
  unfold Up mg outs
  exact List.pairwise_map.mpr h1
theorem up_coef {m : Nm} (h : Up m) : dst m := h.imp fun h => h.2
theorem up_ext : ∀ {a b : Nm}, Up a → Up b → (∀ x ∈ a, x.2 ≠ 0) → (∀ x ∈ b, x.2 ≠ 0) → (∀ k, coef k a = coef k b) → a = b
  | [], [], _, _, _, _, _ => rfl
  | [], y :: b, _, hb, _, nb, h => by
    have h1 := h y.1
    have hd := up_coef hb
    rw [coef_look hd, look_mem hd y (List.mem_cons_self ..)] at h1
    exact absurd h1.symm (nb y (List.mem_cons_self ..))
  | x :: a, [], ha, _, na, _, h => by
    have h1 := h x.1
    have hd := up_coef ha
    rw [coef_look hd, look_mem hd x (List.mem_cons_self ..)] at h1
    exact absurd h1 (na x (List.mem_cons_self ..))
  | x :: a, y :: b, ha, hb, na, nb, h => by
    have da := up_coef ha
    have db := up_coef hb
    have hx : coef x.1 (x :: a) = x.2 := by rw [coef_look da, look_mem da x (List.mem_cons_self ..)]; rfl
    have hy : coef y.1 (y :: b) = y.2 := by rw [coef_look db, look_mem db y (List.mem_cons_self ..)]; rfl
    have nx := na x (List.mem_cons_self ..)
    have ny := nb y (List.mem_cons_self ..)
    have mem : ∀ {m : Nm} {k : Ky}, coef k m ≠ 0 → ∃ z ∈ m, z.1 = k := by
      intro m k
      induction m with
      | nil => intro q; exact absurd rfl q
      | cons z m ih =>
        intro q
        rw [coef] at q
        by_cases e : z.1 = k
        · exact ⟨z, List.mem_cons_self .., e⟩
        · rw [if_neg e, Int.zero_add] at q
          obtain ⟨u, hu, e⟩ := ih q
          exact ⟨u, List.mem_cons_of_mem _ hu, e⟩
    have k1 : x.1 = y.1 := by
      by_cases e : x.1 = y.1
      · exact e
      · exfalso
        obtain ⟨u, hu, eu⟩ := mem (m := y :: b) (k := x.1) (by rw [← h, hx]; exact nx)
        obtain ⟨v, hv, ev⟩ := mem (m := x :: a) (k := y.1) (by rw [h, hy]; exact ny)
        rcases List.mem_cons.mp hu with rfl | hu
        · exact e eu.symm
        · rcases List.mem_cons.mp hv with rfl | hv
          · exact e ev
          · have h1 := (List.pairwise_cons.mp hb).1 u hu
            have h2 := (List.pairwise_cons.mp ha).1 v hv
            rw [eu] at h1
            rw [ev] at h2
            exact e (le_anti h2.1 h1.1)
    have k2 : x.2 = y.2 := by rw [← hx, ← hy, h, k1]
    have k3 : x = y := Prod.ext k1 k2
    subst k3
    rw [up_ext (List.pairwise_cons.mp ha).2 (List.pairwise_cons.mp hb).2 (fun z hz => na z (List.mem_cons_of_mem _ hz)) (fun z hz => nb z (List.mem_cons_of_mem _ hz)) fun k => by
      have := h k
      rw [coef, coef] at this
      omega]
theorem mg_ext {a b : Nm} (h : ∀ k, coef k a = coef k b) : mg a = mg b :=
  up_ext (mg_up a) (mg_up b) (fun x hx => (mg_mem a x hx).1) (fun x hx => (mg_mem b x hx).1) fun k => by
    rw [coef_lin, coef_lin, mg_lin, mg_lin, ← coef_lin, ← coef_lin, h]
def scl (c : Int) (m : Nm) : Nm := m.map fun x => (x.1, x.2 * c)
theorem coef_scl (c : Int) (k : Ky) : ∀ m : Nm, coef k (scl c m) = coef k m * c
  | [] => by simp [scl, coef]
  | x :: r => by
    have ih := coef_scl c k r
    unfold scl at ih ⊢
    rw [List.map_cons, coef, coef, ih]
    split <;> simp [Int.add_mul]
theorem mg_scl {a b : Nm} {c : Int} (hc : c ≠ 0) (h : ∀ k, coef k a = coef k b * c) : mg a = scl c (mg b) := by
  refine up_ext (mg_up a) ?_ (fun x hx => (mg_mem a x hx).1) ?_ fun k => ?_
  · exact List.pairwise_map.mpr (mg_up b)
  · intro x hx
    obtain ⟨y, hy, rfl⟩ := List.mem_map.mp hx
    exact Int.mul_ne_zero (mg_mem b y hy).1 hc
  · rw [coef_scl, coef_lin k (mg a), coef_lin k (mg b), mg_lin, mg_lin, ← coef_lin, ← coef_lin, h]
end K09
/-! k09, the plain law: terms, and how they are merged. -/
namespace K09
open PySem PySem.Spec PyProof.Rows L2 L3
/-- a row, a part in 2520ths, a fraction in a level's parts -/
abbrev Tm := List Int × Int × Int
def tmD (M : Int) (x : Tm) : D := .tuple [rowD x.1, frD (pt x.2.1), frD (nf M x.2.2)]
def kk (r : List Int) (t : Int) : Ky := (r, ⟨(t % 1260).toNat, by omega⟩)
def sg (t : Int) : Int := if t % 2520 < 1260 then 1 else -1
def nz (x : Tm) : Ky × Int := (kk x.1 x.2.1, sg x.2.1 * x.2.2)
def bk (x : Ky × Int) : Tm := (x.1.1, (x.1.2.val : Int), x.2)
def smD (M : Int) (m : Nm) : D := .tuple (m.map fun x => tmD M (bk x))
def eF (M n : Int) : D := frD (nf M n)
theorem kk_val (r : List Int) (t : Int) : (((kk r t).2.val : Nat) : Int) = t % 1260 := by
  show (((t % 1260).toNat : Nat) : Int) = _
  omega
theorem kD_kk (r : List Int) (t : Int) : kD (kk r t) = .tuple [rowD r, frD (pt (t % 1260))] := by
  unfold kD
  rw [kk_val]
  rfl
theorem half_of {M : Int} (hM : Lv M) (t a : Int) : F_half_of [.val (frD (pt t)), .val (frD (nf M a))] = some ([.un, .un], .val (.tuple [frD (pt (t % 1260)), frD (nf M (sg t * a))])) := by
  obtain ⟨a1, a2, a3⟩ := pt_small t
  have hm : mulOk 2 (pt t).1 = true := mulOk31 (by unfold S31; decide)
  have e12 : (PyData.tuple [.int 1, .int 2]) = frD (pt 1260) := rfl
  have hp := pt_sum t 1260
  have hf := nf_turned hM a
  unfold F_half_of g_half_of sg
  by_cases h : 2 * (pt t).1 < (pt t).2
  · have h1 := pt_low h
    have h2 := pt_lo h1
    simp [pair_ix0, pair_ix1, hm, h, h1, len24, ← h2]
  · have h1 := pt_high h
    have h3 : pt (t + 1260) = pt (t % 1260) := pt_mod (by omega)
    simp [pair_ix0, pair_ix1, hm, h, h1, len24, e12, hp, hf, h3]
theorem dNe_fr (x y : Int × Int) : dNe (frD x) (frD y) = some (.bool (!decide (x = y))) := by
  obtain ⟨a, b⟩ := x
  obtain ⟨c, d⟩ := y
  have h1 : okD (frD (a, b)) = true := rfl
  have h2 : okD (frD (c, d)) = true := rfl
  unfold dNe
  rw [h1, h2]
  simp only [Bool.and_self, Bool.true_or, if_true, frD, PyData.eqv, PyData.eqvAll, Bool.and_true, Prod.mk.injEq]
  by_cases z1 : a = c <;> by_cases z2 : b = d <;> simp [z1, z2]
theorem bind_three {i j k : Nat} {a b c : D} {ci cj ck : Cell} {ρ : L3.Env} (hij : i ≠ j) (hik : i ≠ k) (hjk : j ≠ k) (hi : ρ[i]? = some ci) (h1 : isOwn ci = false) (hj : ρ[j]? = some cj) (h2 : isOwn cj = false) (hk : ρ[k]? = some ck) (h3 : isOwn ck = false) :
    bind (.tp [.nm i, .nm j, .nm k]) (.tuple [a, b, c]) ρ = some (((ρ.set i (.val a)).set j (.val b)).set k (.val c)) := by
  rw [ev_bind1, ev_binds1, ev_bind0, put_no hi h1]
  dsimp only
  rw [ev_binds1, ev_bind0, put_no (c := cj) (by rw [List.getElem?_set_ne hij]; exact hj) h2]
  dsimp only
  rw [ev_binds1, ev_bind0, put_no (c := ck) (by rw [List.getElem?_set_ne hjk, List.getElem?_set_ne hik]; exact hk) h3]
  rfl
theorem get_eF {M : Int} (hM : Lv M) {m : Nm} (hd : dst m) (k : Ky) : ((look k m).map (eF M)).getD (.tuple [.int 0, .int 1]) = eF M (coef k m) := by
  have e0 : (PyData.tuple [.int 0, .int 1]) = eF M 0 := by unfold eF; rw [nf_nil hM.1]; rfl
  rw [coef_look hd, e0]
  cases look k m <;> rfl
abbrev bTm : Sm := sSeq (sPat (.tp [.nm 5, .nm 6]) (eP (pCall F_half_of [pVar 3, pVar 4])))
      (sDPut 1 (pN dTup [pVar 2, pVar 5]) (pCall F_fraction_sum [p3 dGet2 (pOwn 1) (pN dTup [pVar 2, pVar 5]) (pN dTup [pC (.int 0), pC (.int 1)]), pVar 6]))
theorem loop_tm {M : Int} (hM : Lv M) (X0 : Cell) : ∀ (S : List Tm) (m : Nm) (c2 c3 c4 c5 c6 : Cell), isOwn c2 = false → isOwn c3 = false → isOwn c4 = false → isOwn c5 = false → isOwn c6 = false → dst m → l1n m + l1n (S.map nz) < 2147483648 → m.length + S.length < 16777216 →
    ∃ d2 d3 d4 d5 d6, forL (.tp [.nm 2, .nm 3, .nm 4]) bTm (S.map (tmD M)) [X0, .own false (.dic (m.map (enc (eF M)))), c2, c3, c4, c5, c6] =
      some ([X0, .own false (.dic ((acc (S.map nz) m).map (enc (eF M)))), d2, d3, d4, d5, d6], .nx) ∧ isOwn d2 = false ∧ isOwn d3 = false
  | [], m, c2, c3, c4, c5, c6, h2, h3, _, _, _, _, _, _ => ⟨c2, c3, c4, c5, c6, rfl, h2, h3⟩
  | x :: S, m, c2, c3, c4, c5, c6, h2, h3, h4, h5, h6, hd, hb, hl => by
    obtain ⟨r, t, a⟩ := x
    rw [List.map_cons, l1n] at hb
    rw [List.length_cons] at hl
    have hb0 : (sg t * a).natAbs + l1n m + l1n (S.map nz) < 2147483648 := by
      have : (nz (r, t, a)).2 = sg t * a := rfl
      rw [this] at hb
      omega
    have hu := upd_l1 (kk r t) (sg t * a) m hd
    have hul := upd_len (kk r t) (coef (kk r t) m + sg t * a) m
    obtain ⟨d2, d3, d4, d5, d6, e1, q2, q3⟩ := loop_tm hM X0 S (upd (kk r t) (coef (kk r t) m + sg t * a) m) (.val (rowD r)) (.val (frD (pt t))) (.val (frD (nf M a))) (.val (frD (pt (t % 1260)))) (.val (eF M (sg t * a))) rfl rfl rfl rfl rfl (upd_dst _ _ _ hd) (by omega) (by omega)
    refine ⟨d2, d3, d4, d5, d6, ?_, q2, q3⟩
    have hs : F_fraction_sum [.val (eF M (coef (kk r t) m)), .val (eF M (sg t * a))] = some ([.un, .un], .val (eF M (coef (kk r t) m + sg t * a))) :=
      nf_sum hM (by have := coef_abs (kk r t) m; unfold S31; omega) (by unfold S31; omega)
    have hml : m.length < 16777216 := by omega
    have hb1 : bind (.tp [.nm 2, .nm 3, .nm 4]) (tmD M (r, t, a)) [X0, .own false (.dic (m.map (enc (eF M)))), c2, c3, c4, c5, c6] = some [X0, .own false (.dic (m.map (enc (eF M)))), .val (rowD r), .val (frD (pt t)), .val (frD (nf M a)), c5, c6] :=
      bind_three (by decide) (by decide) (by decide) rfl h2 rfl h3 rfl h4
    have hp1 : sPat (.tp [.nm 5, .nm 6]) (eP (pCall F_half_of [pVar 3, pVar 4])) [X0, .own false (.dic (m.map (enc (eF M)))), .val (rowD r), .val (frD (pt t)), .val (frD (nf M a)), c5, c6] =
        some ([X0, .own false (.dic (m.map (enc (eF M)))), .val (rowD r), .val (frD (pt t)), .val (frD (nf M a)), .val (frD (pt (t % 1260))), .val (eF M (sg t * a))], .nx) := by
      have hc : pCall F_half_of [pVar 3, pVar 4] [X0, .own false (.dic (m.map (enc (eF M)))), .val (rowD r), .val (frD (pt t)), .val (frD (nf M a)), c5, c6] = some (.tuple [frD (pt (t % 1260)), frD (nf M (sg t * a))]) := by
        rw [ev_pCall]
        simp [half_of hM]
      rw [ev_sPat, ev_eP, hc]
      dsimp only
      rw [ev_toD_val]
      dsimp only
      rw [bind_two (ci := c5) (cj := c6) (by decide) rfl h5 rfl h6]
      rfl
    have hst : sDPut 1 (pN dTup [pVar 2, pVar 5]) (pCall F_fraction_sum [p3 dGet2 (pOwn 1) (pN dTup [pVar 2, pVar 5]) (pN dTup [pC (.int 0), pC (.int 1)]), pVar 6]) [X0, .own false (.dic (m.map (enc (eF M)))), .val (rowD r), .val (frD (pt t)), .val (frD (nf M a)), .val (frD (pt (t % 1260))), .val (eF M (sg t * a))] =
        some ([X0, .own false (.dic ((upd (kk r t) (coef (kk r t) m + sg t * a) m).map (enc (eF M)))), .val (rowD r), .val (frD (pt t)), .val (frD (nf M a)), .val (frD (pt (t % 1260))), .val (eF M (sg t * a))], .nx) := by
      unfold L3.sDPut
      have hk : pN dTup [pVar 2, pVar 5] [X0, .own false (.dic (m.map (enc (eF M)))), .val (rowD r), .val (frD (pt t)), .val (frD (nf M a)), .val (frD (pt (t % 1260))), .val (eF M (sg t * a))] = some (kD (kk r t)) := by
        simp [len24, kD_kk]
      have hv : pCall F_fraction_sum [p3 dGet2 (pOwn 1) (pN dTup [pVar 2, pVar 5]) (pN dTup [pC (.int 0), pC (.int 1)]), pVar 6] [X0, .own false (.dic (m.map (enc (eF M)))), .val (rowD r), .val (frD (pt t)), .val (frD (nf M a)), .val (frD (pt (t % 1260))), .val (eF M (sg t * a))] = some (eF M (coef (kk r t) m + sg t * a)) := by
        have hg : p3 dGet2 (pOwn 1) (pN dTup [pVar 2, pVar 5]) (pN dTup [pC (.int 0), pC (.int 1)]) [X0, .own false (.dic (m.map (enc (eF M)))), .val (rowD r), .val (frD (pt t)), .val (frD (nf M a)), .val (frD (pt (t % 1260))), .val (eF M (sg t * a))] = some (eF M (coef (kk r t) m)) := by
          unfold p3
          rw [hk]
          simp [len24, dGet2_enc, get_eF hM hd]
        rw [ev_pCall, ev_evs1, hg]
        simp [hs]
      rw [hk, hv]
      simp [allK_enc, keyOk_kD, hml, putD_enc _ _ _ m hd]
    rw [List.map_cons, forL, hb1]
    dsimp only
    have hbody : bTm [X0, .own false (.dic (m.map (enc (eF M)))), .val (rowD r), .val (frD (pt t)), .val (frD (nf M a)), c5, c6] = some ([X0, .own false (.dic ((upd (kk r t) (coef (kk r t) m + sg t * a) m).map (enc (eF M)))), .val (rowD r), .val (frD (pt t)), .val (frD (nf M a)), .val (frD (pt (t % 1260))), .val (eF M (sg t * a))], .nx) :=
      (run_seq hp1).trans hst
    rw [hbody]
    exact e1
theorem comp_tm {M : Int} (hM : Lv M) (X0 c4 c5 c6 : Cell) (m : Nm) : ∀ os : List Ky, (∀ t ∈ os, look t m = some (coef t m)) →
    compP (.tp [.nm 2, .nm 3]) (tV (p2 dNe (p2 dIxK (pOwn 1) (pN dTup [pVar 2, pVar 3])) (pN dTup [pC (.int 0), pC (.int 1)]))) (pN dTup [pVar 2, pVar 3, p2 dIxK (pOwn 1) (pN dTup [pVar 2, pVar 3])]) [X0, .own false (.dic (m.map (enc (eF M)))), .un, .un, c4, c5, c6] (os.map kD) =
      some (((os.filter fun t => decide (coef t m ≠ 0)).map fun t => (t, coef t m)).map fun x => tmD M (bk x))
  | [], _ => rfl
  | k :: r, h => by
    have ih := comp_tm hM X0 c4 c5 c6 m r fun s hs => h s (List.mem_cons_of_mem _ hs)
    have ht := h k (List.mem_cons_self ..)
    have hz := nf_zero2 (n := coef k m) hM
    have hk : (PyData.tuple [rowD k.1, frD (pt (k.2.val : Int))]) = kD k := rfl
    have hi := dIxK_enc (eF M) m k
    rw [ht] at hi
    have e01 : (PyData.tuple [.int 0, .int 1]) = frD (0, 1) := rfl
    have hne := dNe_fr (nf M (coef k m)) (0, 1)
    have hb : bind (.tp [.nm 2, .nm 3]) (kD k) [X0, .own false (.dic (m.map (enc (eF M)))), .un, .un, c4, c5, c6] = some [X0, .own false (.dic (m.map (enc (eF M)))), .val (rowD k.1), .val (frD (pt (k.2.val : Int))), c4, c5, c6] := by
      unfold kD
      exact bind_two (by decide) rfl rfl rfl rfl
    rw [List.map_cons, compP, hb]
    dsimp only
    have hx : p2 dIxK (pOwn 1) (pN dTup [pVar 2, pVar 3]) [X0, .own false (.dic (m.map (enc (eF M)))), .val (rowD k.1), .val (frD (pt (k.2.val : Int))), c4, c5, c6] = some (frD (nf M (coef k m))) := by
      simp [len24, hk, hi, eF]
    by_cases z : coef k m = 0
    · have z1 := hz.mpr z
      rw [z1] at hne
      have ht1 : tV (p2 dNe (p2 dIxK (pOwn 1) (pN dTup [pVar 2, pVar 3])) (pN dTup [pC (.int 0), pC (.int 1)])) [X0, .own false (.dic (m.map (enc (eF M)))), .val (rowD k.1), .val (frD (pt (k.2.val : Int))), c4, c5, c6] = some false := by
        rw [ev_tV, ev_p2, hx]
        simp [len24, e01, hne, z1]
      rw [ht1]
      dsimp only
      rw [ih, List.filter_cons]
      simp [z]
    · have z1 : ¬ nf M (coef k m) = (0, 1) := fun q => z (hz.mp q)
      have ht1 : tV (p2 dNe (p2 dIxK (pOwn 1) (pN dTup [pVar 2, pVar 3])) (pN dTup [pC (.int 0), pC (.int 1)])) [X0, .own false (.dic (m.map (enc (eF M)))), .val (rowD k.1), .val (frD (pt (k.2.val : Int))), c4, c5, c6] = some true := by
        rw [ev_tV, ev_p2, hx]
        simp [len24, e01, hne, z1]
      have hy : pN dTup [pVar 2, pVar 3, p2 dIxK (pOwn 1) (pN dTup [pVar 2, pVar 3])] [X0, .own false (.dic (m.map (enc (eF M)))), .val (rowD k.1), .val (frD (pt (k.2.val : Int))), c4, c5, c6] = some (tmD M (bk (k, coef k m))) := by
        rw [ev_pN, ev_evs1, ev_evs1, ev_evs1, hx]
        simp [len24, tmD, bk]
      rw [ht1]
      dsimp only
      rw [hy]
      dsimp only
      rw [ih, List.filter_cons]
      simp [z]
/-- what is asked of terms that are merged -/
structure Sz (S : List Tm) : Prop where
  l1 : l1n (S.map nz) < 2147483648
  len : S.length < 16777216
theorem terms_merged {M : Int} (hM : Lv M) {S : List Tm} (hS : Sz S) {X : D} (hX : seqOf X = some (S.map (tmD M))) :
    F_terms_merged [.val X] = some ([.un], .val (smD M (mg (S.map nz)))) := by
  obtain ⟨d2, d3, d4, d5, d6, e1, q2, q3⟩ := loop_tm hM (.val X) S [] .un .un .un .un .un rfl rfl rfl rfl rfl List.Pairwise.nil (by simpa [l1n] using hS.l1) (by simpa using hS.len)
  have hd := acc_dst (S.map nz) [] List.Pairwise.nil
  have hlen := acc_len (S.map nz) []
  have hS2 := hS.len
  rw [List.length_map] at hlen
  generalize hm : acc (S.map nz) [] = m at *
  have hmg : mg (S.map nz) = outs m := by unfold mg; rw [hm]
  have hc2 := comp_tm hM (.val X) d4 d5 d6 m _ (ord_look hd)
  have hs := dSorted_enc (eF M) m (by simp at hlen; omega)
  have hlm : len24 (m.length) = true := decide_eq_true (by simp at hlen; omega)
  have hlo : len24 (ordK (m.map (·.1))).length = true := by rw [(ordK_perm _).length_eq, List.length_map]; exact hlm
  have e1' : sFor (.tp [.nm 2, .nm 3, .nm 4]) (iP (pVar 0)) bTm [.val X, .own false (.dic []), .un, .un, .un, .un, .un] = some ([.val X, .own false (.dic (m.map (enc (eF M)))), d2, d3, d4, d5, d6], .nx) := by
    rw [ev_sFor]
    simp only [iP, ev_pVar, List.getElem?_cons_zero, hX]
    exact e1
  have hp : pComp [2, 3] (.tp [.nm 2, .nm 3]) (ipP (pN (l1 dSorted) [pOwn 1])) (tV (p2 dNe (p2 dIxK (pOwn 1) (pN dTup [pVar 2, pVar 3])) (pN dTup [pC (.int 0), pC (.int 1)]))) (pN dTup [pVar 2, pVar 3, p2 dIxK (pOwn 1) (pN dTup [pVar 2, pVar 3])]) [.val X, .own false (.dic (m.map (enc (eF M)))), d2, d3, d4, d5, d6] = some (.list ((outs m).map fun x => tmD M (bk x))) := by
    have hi : ipP (pN (l1 dSorted) [pOwn 1]) [.val X, .own false (.dic (m.map (enc (eF M)))), d2, d3, d4, d5, d6] = some ((ordK (m.map (·.1))).map kD) := by
      simp [ipP, hs, l1]
    unfold pComp
    rw [hi]
    dsimp only
    have hf : freeAt [2, 3] [.val X, .own false (.dic (m.map (enc (eF M)))), d2, d3, d4, d5, d6] = true := by simp [freeAt, q2, q3]
    have hw : wipeE [2, 3] [.val X, .own false (.dic (m.map (enc (eF M)))), d2, d3, d4, d5, d6] = [.val X, .own false (.dic (m.map (enc (eF M)))), .un, .un, d4, d5, d6] := rfl
    rw [List.length_map, hf, hlo, hw, hc2]
    rfl
  have hq : pN (l1 dTuple) [pComp [2, 3] (.tp [.nm 2, .nm 3]) (ipP (pN (l1 dSorted) [pOwn 1])) (tV (p2 dNe (p2 dIxK (pOwn 1) (pN dTup [pVar 2, pVar 3])) (pN dTup [pC (.int 0), pC (.int 1)]))) (pN dTup [pVar 2, pVar 3, p2 dIxK (pOwn 1) (pN dTup [pVar 2, pVar 3])])] [.val X, .own false (.dic (m.map (enc (eF M)))), d2, d3, d4, d5, d6] = some (smD M (mg (S.map nz))) := by
    rw [ev_pN, ev_evs1, hp, hmg]
    rfl
  have h0 : sOwn 1 (L3.eF (pC (.dict []))) [.val X, .un, .un, .un, .un, .un, .un] = some ([.val X, .own false (.dic []), .un, .un, .un, .un, .un], .nx) := rfl
  exact run_fn (ρ0 := [.val X, .un, .un, .un, .un, .un, .un]) rfl rfl (show g_terms_merged _ = _ from (run_seq h0).trans ((run_seq e1').trans (run_ret hq))) rfl
end K09
/-! k09, the plain law: how the law merges terms. -/
namespace K09
open PySem PySem.Spec PyProof.Rows L2 L3
abbrev bMd : Sm := sSeq (sIf (tP (tV (p2 dGe (p2 dMul (pC (.int 2)) (pVar 5)) (pVar 6)))) (sPar [5, 6, 3] [eP (p2 dSub (p2 dMul (pC (.int 2)) (pVar 5)) (pVar 6)), eP (p2 dMul (pC (.int 2)) (pVar 6)), eP (pN dTup [p2 dSub (pC (.int 0)) (p2 dIx (pVar 3) (pC (.int 0))), p2 dIx (pVar 3) (pC (.int 1))])]) (sNx))
      (sSeq (sVal 4 (eP (pN dTup [pVar 2, pCall F__law_low [pVar 5, pVar 6]])))
      (sDPut 1 (pVar 4) (pCall F__law_plus [p3 dGet2 (pOwn 1) (pVar 4) (pN dTup [pC (.int 0), pC (.int 1)]), pVar 3])))
theorem bind_md {a b c d : D} {c2 c3 c5 c6 X0 X1 X4 : Cell} (h2 : isOwn c2 = false) (h3 : isOwn c3 = false) (h5 : isOwn c5 = false) (h6 : isOwn c6 = false) :
    bind (.tp [.nm 2, .tp [.nm 5, .nm 6], .nm 3]) (.tuple [a, .tuple [b, c], d]) [X0, X1, c2, c3, X4, c5, c6] = some [X0, X1, .val a, .val d, X4, .val b, .val c] := by
  rw [ev_bind1, ev_binds1, ev_bind0, put_no (c := c2) rfl h2]
  dsimp only
  rw [ev_binds1, bind_two (ci := c5) (cj := c6) (by decide) rfl h5 rfl h6]
  dsimp only
  rw [ev_binds1, ev_bind0, put_no (c := c3) rfl h3]
  rfl
theorem loop_md {M : Int} (hM : Lv M) (X0 : Cell) : ∀ (S : List Tm) (m : Nm) (c2 c3 c4 c5 c6 : Cell), isOwn c2 = false → isOwn c3 = false → isOwn c4 = false → isOwn c5 = false → isOwn c6 = false → dst m → l1n m + l1n (S.map nz) < 2147483648 → m.length + S.length < 16777216 →
    ∃ d2 d3 d4 d5 d6, forL (.tp [.nm 2, .tp [.nm 5, .nm 6], .nm 3]) bMd (S.map (tmD M)) [X0, .own false (.dic (m.map (enc (eF M)))), c2, c3, c4, c5, c6] =
      some ([X0, .own false (.dic ((acc (S.map nz) m).map (enc (eF M)))), d2, d3, d4, d5, d6], .nx) ∧ isOwn d4 = false
  | [], m, c2, c3, c4, c5, c6, h2, h3, h4, _, _, _, _, _ => ⟨c2, c3, c4, c5, c6, rfl, h4⟩
  | x :: S, m, c2, c3, c4, c5, c6, h2, h3, h4, h5, h6, hd, hb, hl => by
    obtain ⟨r, t, a⟩ := x
    rw [List.map_cons, l1n] at hb
    rw [List.length_cons] at hl
    have hb0 : (sg t * a).natAbs + l1n m + l1n (S.map nz) < 2147483648 := by
      have : (nz (r, t, a)).2 = sg t * a := rfl
      rw [this] at hb
      omega
    have hu := upd_l1 (kk r t) (sg t * a) m hd
    have hul := upd_len (kk r t) (coef (kk r t) m + sg t * a) m
    obtain ⟨a1, a2, a3⟩ := pt_small t
    obtain ⟨c1, c2'⟩ := pt_val t
    have hm : mulOk 2 (pt t).1 = true := mulOk31 (by unfold S31; decide)
    have hm2 : mulOk 2 (pt t).2 = true := mulOk31 (by unfold S31; decide)
    have hs : F__law_plus [.val (frD (nf M (coef (kk r t) m))), .val (frD (nf M (sg t * a)))] = some ([.un, .un], .val (eF M (coef (kk r t) m + sg t * a))) :=
      law_sum hM (by have := coef_abs (kk r t) m; unfold S31; omega) (by unfold S31; omega)
    have hml : m.length < 16777216 := by omega
    have hb1 : bind (.tp [.nm 2, .tp [.nm 5, .nm 6], .nm 3]) (tmD M (r, t, a)) [X0, .own false (.dic (m.map (enc (eF M)))), c2, c3, c4, c5, c6] = some [X0, .own false (.dic (m.map (enc (eF M)))), .val (rowD r), .val (frD (nf M a)), c4, .val (.int (pt t).1), .val (.int (pt t).2)] :=
      bind_md h2 h3 h5 h6
    have hif : ∃ p q, sIf (tP (tV (p2 dGe (p2 dMul (pC (.int 2)) (pVar 5)) (pVar 6)))) (sPar [5, 6, 3] [eP (p2 dSub (p2 dMul (pC (.int 2)) (pVar 5)) (pVar 6)), eP (p2 dMul (pC (.int 2)) (pVar 6)), eP (pN dTup [p2 dSub (pC (.int 0)) (p2 dIx (pVar 3) (pC (.int 0))), p2 dIx (pVar 3) (pC (.int 1))])]) (sNx) [X0, .own false (.dic (m.map (enc (eF M)))), .val (rowD r), .val (frD (nf M a)), c4, .val (.int (pt t).1), .val (.int (pt t).2)] =
        some ([X0, .own false (.dic (m.map (enc (eF M)))), .val (rowD r), .val (frD (nf M (sg t * a))), c4, .val (.int p), .val (.int q)], .nx) ∧ F__law_low [.val (.int p), .val (.int q)] = some ([.un, .un], .val (frD (pt (t % 1260)))) := by
      by_cases h : 2 * (pt t).1 < (pt t).2
      · have h1 := pt_low h
        have h2 := pt_lo h1
        refine ⟨(pt t).1, (pt t).2, ?_, ?_⟩
        · have h3 : ¬ (pt t).2 ≤ 2 * (pt t).1 := by omega
          simp [hm, h3, sg, h1]
        · rw [law_low _ _ c2' (log2_64 (Nat.lt_trans a2 (by decide))), pt_whole, h2]
      · have h1 := pt_high h
        refine ⟨2 * (pt t).1 - (pt t).2, 2 * (pt t).2, ?_, ?_⟩
        · have h3 : (pt t).2 ≤ 2 * (pt t).1 := by omega
          have e1 : frD (nf M (-a)) = .tuple [.int (0 - (nf M a).1), .int (nf M a).2] := by rw [nf_neg hM, Int.zero_sub]; rfl
          simp [hm, hm2, h3, sg, h1, pair_ix0, pair_ix1, len24, e1]
        · rw [law_low _ _ (by omega) (log2_64 (Nat.lt_trans (show (2 * (pt t).2).natAbs < 4294967296 by unfold S31 at a2; omega) (by decide))), pt_half h1]
    obtain ⟨p, q, hif, hlow⟩ := hif
    obtain ⟨d2, d3, d4, d5, d6, e1, q2⟩ := loop_md hM X0 S (upd (kk r t) (coef (kk r t) m + sg t * a) m) (.val (rowD r)) (.val (frD (nf M (sg t * a)))) (.val (kD (kk r t))) (.val (.int p)) (.val (.int q)) rfl rfl rfl rfl rfl (upd_dst _ _ _ hd) (by omega) (by omega)
    refine ⟨d2, d3, d4, d5, d6, ?_, q2⟩
    have hkey : sVal 4 (eP (pN dTup [pVar 2, pCall F__law_low [pVar 5, pVar 6]])) [X0, .own false (.dic (m.map (enc (eF M)))), .val (rowD r), .val (frD (nf M (sg t * a))), c4, .val (.int p), .val (.int q)] =
        some ([X0, .own false (.dic (m.map (enc (eF M)))), .val (rowD r), .val (frD (nf M (sg t * a))), .val (kD (kk r t)), .val (.int p), .val (.int q)], .nx) := by
      have hk : pN dTup [pVar 2, pCall F__law_low [pVar 5, pVar 6]] [X0, .own false (.dic (m.map (enc (eF M)))), .val (rowD r), .val (frD (nf M (sg t * a))), c4, .val (.int p), .val (.int q)] = some (kD (kk r t)) := by
        simp [hlow, len24, kD_kk]
      rw [ev_sVal, ev_eP, hk]
      dsimp only
      rw [ev_toD_val]
      dsimp only
      rw [put_no (c := c4) rfl h4]
      rfl
    have hst : sDPut 1 (pVar 4) (pCall F__law_plus [p3 dGet2 (pOwn 1) (pVar 4) (pN dTup [pC (.int 0), pC (.int 1)]), pVar 3]) [X0, .own false (.dic (m.map (enc (eF M)))), .val (rowD r), .val (frD (nf M (sg t * a))), .val (kD (kk r t)), .val (.int p), .val (.int q)] =
        some ([X0, .own false (.dic ((upd (kk r t) (coef (kk r t) m + sg t * a) m).map (enc (eF M)))), .val (rowD r), .val (frD (nf M (sg t * a))), .val (kD (kk r t)), .val (.int p), .val (.int q)], .nx) := by
      unfold L3.sDPut
      have hv : pCall F__law_plus [p3 dGet2 (pOwn 1) (pVar 4) (pN dTup [pC (.int 0), pC (.int 1)]), pVar 3] [X0, .own false (.dic (m.map (enc (eF M)))), .val (rowD r), .val (frD (nf M (sg t * a))), .val (kD (kk r t)), .val (.int p), .val (.int q)] = some (eF M (coef (kk r t) m + sg t * a)) := by
        have hg : p3 dGet2 (pOwn 1) (pVar 4) (pN dTup [pC (.int 0), pC (.int 1)]) [X0, .own false (.dic (m.map (enc (eF M)))), .val (rowD r), .val (frD (nf M (sg t * a))), .val (kD (kk r t)), .val (.int p), .val (.int q)] = some (frD (nf M (coef (kk r t) m))) := by
          have := get_eF hM hd (kk r t)
          unfold p3
          simp [len24, dGet2_enc, this]
          rfl
        rw [ev_pCall, ev_evs1, hg]
        simp [hs]
      rw [hv]
      simp [allK_enc, keyOk_kD, hml, putD_enc _ _ _ m hd]
    rw [List.map_cons, forL, hb1]
    dsimp only
    have hbody : bMd [X0, .own false (.dic (m.map (enc (eF M)))), .val (rowD r), .val (frD (nf M a)), c4, .val (.int (pt t).1), .val (.int (pt t).2)] = some ([X0, .own false (.dic ((upd (kk r t) (coef (kk r t) m + sg t * a) m).map (enc (eF M)))), .val (rowD r), .val (frD (nf M (sg t * a))), .val (kD (kk r t)), .val (.int p), .val (.int q)], .nx) :=
      (run_seq hif).trans ((run_seq hkey).trans hst)
    rw [hbody]
    exact e1
theorem comp_md {M : Int} (hM : Lv M) (X0 c2 c3 c5 c6 : Cell) (m : Nm) : ∀ os : List Ky, (∀ t ∈ os, look t m = some (coef t m)) →
    compP (.nm 4) (tV (p2 dNe (p2 dIx (p2 dIxK (pOwn 1) (pVar 4)) (pC (.int 0))) (pC (.int 0)))) (p2 dAdd (pVar 4) (pN dTup [p2 dIxK (pOwn 1) (pVar 4)])) [X0, .own false (.dic (m.map (enc (eF M)))), c2, c3, .un, c5, c6] (os.map kD) =
      some (((os.filter fun t => decide (coef t m ≠ 0)).map fun t => (t, coef t m)).map fun x => tmD M (bk x))
  | [], _ => rfl
  | k :: r, h => by
    have ih := comp_md hM X0 c2 c3 c5 c6 m r fun s hs => h s (List.mem_cons_of_mem _ hs)
    have ht := h k (List.mem_cons_self ..)
    have hz := nf_zero (n := coef k m) hM
    have hi := dIxK_enc (eF M) m k
    rw [ht] at hi
    have hb : bind (.nm 4) (kD k) [X0, .own false (.dic (m.map (enc (eF M)))), c2, c3, .un, c5, c6] = some [X0, .own false (.dic (m.map (enc (eF M)))), c2, c3, .val (kD k), c5, c6] := rfl
    rw [List.map_cons, compP, hb]
    dsimp only
    have hx : p2 dIxK (pOwn 1) (pVar 4) [X0, .own false (.dic (m.map (enc (eF M)))), c2, c3, .val (kD k), c5, c6] = some (frD (nf M (coef k m))) := by
      simp [hi, eF]
    have ht0 : tV (p2 dNe (p2 dIx (p2 dIxK (pOwn 1) (pVar 4)) (pC (.int 0))) (pC (.int 0))) [X0, .own false (.dic (m.map (enc (eF M)))), c2, c3, .val (kD k), c5, c6] = some (!decide ((nf M (coef k m)).1 = 0)) := by
      rw [ev_tV, ev_p2, ev_p2, hx]
      simp [pair_ix0]
    rw [ht0]
    by_cases z : coef k m = 0
    · have z1 := hz.mpr z
      rw [decide_eq_true z1]
      show compP _ _ _ _ _ = _
      rw [ih, List.filter_cons]
      simp [z]
    · have z1 : ¬ (nf M (coef k m)).1 = 0 := fun q => z (hz.mp q)
      have hy : p2 dAdd (pVar 4) (pN dTup [p2 dIxK (pOwn 1) (pVar 4)]) [X0, .own false (.dic (m.map (enc (eF M)))), c2, c3, .val (kD k), c5, c6] = some (tmD M (bk (k, coef k m))) := by
        rw [ev_p2, ev_pN, ev_evs1, hx]
        simp [len24, tmD, bk, kD, dAdd]
      rw [decide_eq_false z1]
      show (match p2 dAdd (pVar 4) (pN dTup [p2 dIxK (pOwn 1) (pVar 4)]) [X0, .own false (.dic (m.map (enc (eF M)))), c2, c3, .val (kD k), c5, c6] with | some y => (match compP _ _ _ _ (r.map kD) with | some ys => some (y :: ys) | none => none) | none => none) = _
      rw [hy, ih, List.filter_cons]
      simp [z]
theorem law_made {M : Int} (hM : Lv M) {S : List Tm} (hS : Sz S) {X : D} (hX : seqOf X = some (S.map (tmD M))) :
    F__law_made [.val X] = some ([.un], .val (smD M (mg (S.map nz)))) := by
  obtain ⟨d2, d3, d4, d5, d6, e1, q2⟩ := loop_md hM (.val X) S [] .un .un .un .un .un rfl rfl rfl rfl rfl List.Pairwise.nil (by simpa [l1n] using hS.l1) (by simpa using hS.len)
  have hd := acc_dst (S.map nz) [] List.Pairwise.nil
  have hlen := acc_len (S.map nz) []
  have hS2 := hS.len
  rw [List.length_map] at hlen
  generalize hm : acc (S.map nz) [] = m at *
  have hmg : mg (S.map nz) = outs m := by unfold mg; rw [hm]
  have hc2 := comp_md hM (.val X) d2 d3 d5 d6 m _ (ord_look hd)
  have hs := dSorted_enc (eF M) m (by simp at hlen; omega)
  have hlm : len24 (m.length) = true := decide_eq_true (by simp at hlen; omega)
  have hlo : len24 (ordK (m.map (·.1))).length = true := by rw [(ordK_perm _).length_eq, List.length_map]; exact hlm
  have e1' : sFor (.tp [.nm 2, .tp [.nm 5, .nm 6], .nm 3]) (iP (pVar 0)) bMd [.val X, .own false (.dic []), .un, .un, .un, .un, .un] = some ([.val X, .own false (.dic (m.map (enc (eF M)))), d2, d3, d4, d5, d6], .nx) := by
    rw [ev_sFor]
    simp only [iP, ev_pVar, List.getElem?_cons_zero, hX]
    exact e1
  have hp : pComp [4] (.nm 4) (ipP (pN (l1 dSorted) [pOwn 1])) (tV (p2 dNe (p2 dIx (p2 dIxK (pOwn 1) (pVar 4)) (pC (.int 0))) (pC (.int 0)))) (p2 dAdd (pVar 4) (pN dTup [p2 dIxK (pOwn 1) (pVar 4)])) [.val X, .own false (.dic (m.map (enc (eF M)))), d2, d3, d4, d5, d6] = some (.list ((outs m).map fun x => tmD M (bk x))) := by
    have hi : ipP (pN (l1 dSorted) [pOwn 1]) [.val X, .own false (.dic (m.map (enc (eF M)))), d2, d3, d4, d5, d6] = some ((ordK (m.map (·.1))).map kD) := by
      simp [ipP, hs, l1]
    unfold pComp
    rw [hi]
    dsimp only
    have hf : freeAt [4] [.val X, .own false (.dic (m.map (enc (eF M)))), d2, d3, d4, d5, d6] = true := by simp [freeAt, q2]
    have hw : wipeE [4] [.val X, .own false (.dic (m.map (enc (eF M)))), d2, d3, d4, d5, d6] = [.val X, .own false (.dic (m.map (enc (eF M)))), d2, d3, .un, d5, d6] := rfl
    rw [List.length_map, hf, hlo, hw, hc2]
    rfl
  have hq : pN (l1 dTuple) [pComp [4] (.nm 4) (ipP (pN (l1 dSorted) [pOwn 1])) (tV (p2 dNe (p2 dIx (p2 dIxK (pOwn 1) (pVar 4)) (pC (.int 0))) (pC (.int 0)))) (p2 dAdd (pVar 4) (pN dTup [p2 dIxK (pOwn 1) (pVar 4)]))] [.val X, .own false (.dic (m.map (enc (eF M)))), d2, d3, d4, d5, d6] = some (smD M (mg (S.map nz))) := by
    rw [ev_pN, ev_evs1, hp, hmg]
    rfl
  have h0 : sOwn 1 (L3.eF (pC (.dict []))) [.val X, .un, .un, .un, .un, .un, .un] = some ([.val X, .own false (.dic []), .un, .un, .un, .un, .un], .nx) := rfl
  exact run_fn (ρ0 := [.val X, .un, .un, .un, .un, .un, .un]) rfl rfl (show g__law_made _ = _ from (run_seq h0).trans ((run_seq e1').trans (run_ret hq))) rfl
end K09
/-! k09, the plain law: functionals of terms. -/
namespace K09
open PySem PySem.Spec PyProof.Rows L2 L3
abbrev Fl := List Int → Int → Int
/-- half a turn on turns the sign -/
def Anti (g : Fl) : Prop := ∀ r t, g r (t + 1260) = - g r t
def lin (g : Fl) : List Tm → Int
  | [] => 0
  | x :: S => x.2.2 * g x.1 x.2.1 + lin g S
theorem lin_append (g : Fl) : ∀ S T : List Tm, lin g (S ++ T) = lin g S + lin g T
  | [], T => by simp [lin]
  | x :: S, T => by rw [List.cons_append, lin, lin, lin_append g S T, Int.add_assoc]
theorem lin_congr {g h : Fl} : ∀ {S : List Tm}, (∀ x ∈ S, g x.1 x.2.1 = h x.1 x.2.1) → lin g S = lin h S
  | [], _ => rfl
  | x :: S, e => by rw [lin, lin, e x (List.mem_cons_self ..), lin_congr fun y hy => e y (List.mem_cons_of_mem _ hy)]
theorem lin_add (g h : Fl) : ∀ S : List Tm, lin (fun r t => g r t + h r t) S = lin g S + lin h S
  | [] => rfl
  | x :: S => by rw [lin, lin, lin, lin_add g h S, Int.mul_add]; omega
theorem lin_neg (g : Fl) : ∀ S : List Tm, lin (fun r t => - g r t) S = - lin g S
  | [] => rfl
  | x :: S => by rw [lin, lin, lin_neg g S, Int.mul_neg]; omega
theorem lin_mul (c : Int) (g : Fl) : ∀ S : List Tm, lin (fun r t => c * g r t) S = c * lin g S
  | [] => by simp [lin]
  | x :: S => by rw [lin, lin, lin_mul c g S, Int.mul_add, Int.mul_left_comm]
theorem lin_zero : ∀ S : List Tm, lin (fun _ _ => 0) S = 0
  | [] => rfl
  | x :: S => by rw [lin, lin_zero S]; simp
theorem Anti.back {g : Fl} (h : Anti g) (r : List Int) (t : Int) : g r (t - 1260) = - g r t := by
  have := h r (t - 1260)
  rw [Int.sub_add_cancel] at this
  omega
theorem Anti.turn {g : Fl} (h : Anti g) (r : List Int) (t : Int) : g r (t + 2520) = g r t := by
  have h1 := h r t
  have h2 := h r (t + 1260)
  rw [Int.add_assoc, show (1260 : Int) + 1260 = 2520 from rfl] at h2
  omega
theorem Anti.turns {g : Fl} (h : Anti g) (r : List Int) (t : Int) : ∀ n : Nat, g r (t + 2520 * (n : Int)) = g r t
  | 0 => by simp
  | n + 1 => by
    have h1 := h.turn r (t + 2520 * (n : Int))
    have e : t + 2520 * ((n + 1 : Nat) : Int) = t + 2520 * (n : Int) + 2520 := by omega
    rw [e, h1, Anti.turns h r t n]
theorem Anti.mod {g : Fl} (h : Anti g) (r : List Int) {s t : Int} (e : s % 2520 = t % 2520) : g r s = g r t := by
  by_cases hs : s ≤ t
  · obtain ⟨n, hn⟩ := Int.eq_ofNat_of_zero_le (show 0 ≤ (t - s) / 2520 by omega)
    rw [show t = s + 2520 * (n : Int) by omega, h.turns]
  · obtain ⟨n, hn⟩ := Int.eq_ofNat_of_zero_le (show 0 ≤ (s - t) / 2520 by omega)
    rw [show s = t + 2520 * (n : Int) by omega, h.turns]
theorem Anti.half {g : Fl} (h : Anti g) (r : List Int) (t : Int) : sg t * g r (t % 1260) = g r t := by
  unfold sg
  split
  · rw [Int.one_mul]
    exact h.mod r (by omega)
  · have h1 := h r (t % 1260)
    have h2 : g r (t % 1260 + 1260) = g r t := h.mod r (by omega)
    rw [Int.neg_mul, Int.one_mul, ← h1, h2]
theorem lin_nz {g : Fl} (h : Anti g) : ∀ S : List Tm, linK (fun k => g k.1 (k.2.val : Int)) (S.map nz) = lin g S
  | [] => rfl
  | x :: S => by
    rw [List.map_cons, linK, lin, lin_nz h S]
    show sg x.2.1 * x.2.2 * g x.1 ((kk x.1 x.2.1).2.val : Int) + _ = _
    rw [kk_val, Int.mul_comm (sg _), Int.mul_assoc, h.half]
theorem lin_bk (g : Fl) : ∀ m : Nm, lin g (m.map bk) = linK (fun k => g k.1 (k.2.val : Int)) m
  | [] => rfl
  | x :: m => by rw [List.map_cons, linK, lin, lin_bk g m]; rfl
/-- terms, merged -/
def mk (S : List Tm) : List Tm := (mg (S.map nz)).map bk
def sD (M : Int) (S : List Tm) : D := .tuple (S.map (tmD M))
theorem sD_mk (M : Int) (S : List Tm) : smD M (mg (S.map nz)) = sD M (mk S) := by
  unfold smD sD mk
  rw [List.map_map]
  rfl
theorem lin_mk {g : Fl} (h : Anti g) (S : List Tm) : lin g (mk S) = lin g S := by
  unfold mk
  rw [lin_bk, mg_lin, lin_nz h]
/-- the functional of a key -/
def ind (k : Ky) : Fl := fun r t => if kk r t = k then sg t else 0
theorem ind_anti (k : Ky) : Anti (ind k) := by
  intro r t
  have e1 : kk r (t + 1260) = kk r t := by
    unfold kk
    have : (t + 1260) % 1260 = t % 1260 := by omega
    simp only [this]
  have e2 : sg (t + 1260) = - sg t := by
    unfold sg
    by_cases h : t % 2520 < 1260
    · rw [if_pos h, if_neg (by omega)]
    · rw [if_neg h, if_pos (by omega)]; rfl
  unfold ind
  rw [e1, e2]
  split <;> rfl
theorem coef_ind (k : Ky) : ∀ S : List Tm, coef k (S.map nz) = lin (ind k) S
  | [] => rfl
  | x :: S => by
    rw [List.map_cons, coef, lin, coef_ind k S]
    show (if kk x.1 x.2.1 = k then sg x.2.1 * x.2.2 else 0) + _ = x.2.2 * (if kk x.1 x.2.1 = k then sg x.2.1 else 0) + _
    split
    · rw [Int.mul_comm]
    · rw [Int.mul_zero]
/-- the same to all functionals -/
def Sim (S T : List Tm) : Prop := ∀ g, Anti g → lin g S = lin g T
theorem Sim.refl (S : List Tm) : Sim S S := fun _ _ => rfl
theorem Sim.symm {S T : List Tm} (h : Sim S T) : Sim T S := fun g a => (h g a).symm
theorem Sim.trans {S T U : List Tm} (h : Sim S T) (k : Sim T U) : Sim S U := fun g a => (h g a).trans (k g a)
theorem mk_sim (S : List Tm) : Sim (mk S) S := fun _ a => lin_mk a S
theorem mk_eq {S T : List Tm} (h : Sim S T) : mk S = mk T := by
  unfold mk
  rw [mg_ext (a := S.map nz) (b := T.map nz) fun k => by rw [coef_ind, coef_ind, h _ (ind_anti k)]]
def oft (c : Int) (S : List Tm) : List Tm := S.map fun x => (x.1, x.2.1, c * x.2.2)
theorem lin_oft (g : Fl) (c : Int) : ∀ S : List Tm, lin g (oft c S) = c * lin g S
  | [] => by simp [oft, lin]
  | x :: S => by
    have ih := lin_oft g c S
    unfold oft at ih ⊢
    rw [List.map_cons, lin, lin, ih, Int.mul_add, Int.mul_assoc]
theorem mk_oft {S T : List Tm} {c : Int} (hc : c ≠ 0) (h : ∀ g, Anti g → lin g S = c * lin g T) : mk S = oft c (mk T) := by
  unfold mk
  rw [mg_scl (a := S.map nz) (b := T.map nz) hc fun k => by rw [coef_ind, coef_ind, h _ (ind_anti k), Int.mul_comm]]
  unfold scl oft
  rw [List.map_map, List.map_map]
  refine List.map_congr_left fun x _ => ?_
  show (x.1.1, (x.1.2.val : Int), x.2 * c) = (x.1.1, (x.1.2.val : Int), c * x.2)
  rw [Int.mul_comm]
theorem sD_oft {M c : Int} (hM : 0 < M) (hc : 0 < c) (S : List Tm) : sD (M * c) (oft c S) = sD M S := by
  unfold sD oft
  rw [List.map_map]
  congr 1
  refine List.map_congr_left fun x _ => ?_
  show tmD (M * c) (x.1, x.2.1, c * x.2.2) = tmD M x
  unfold tmD
  dsimp only
  rw [Int.mul_comm c, nf_scale _ hM hc]
/-- .. at another level -/
theorem sD_eq {M c : Int} {S T : List Tm} (hM : 0 < M) (hc : 0 < c) (h : ∀ g, Anti g → lin g S = c * lin g T) : sD (M * c) (mk S) = sD M (mk T) := by
  rw [mk_oft (by omega) h, sD_oft hM hc]
/-! ### rows, products, mirrors -/
def radd (r s : List Int) : List Int := List.zipWith (· + ·) r s
def rneg (r : List Int) : List Int := r.map fun x => -x
theorem radd_comm (r s : List Int) : radd r s = radd s r := by
  unfold radd
  rw [List.zipWith_comm]
  congr 1
  funext a b
  exact Int.add_comm b a
theorem radd_assoc : ∀ r s u : List Int, radd (radd r s) u = radd r (radd s u)
  | [], _, _ => by simp [radd]
  | _ :: _, [], _ => by simp [radd]
  | _ :: _, _ :: _, [] => by simp [radd]
  | a :: r, b :: s, c :: u => by
    have := radd_assoc r s u
    unfold radd at this ⊢
    simp only [List.zipWith_cons_cons, this, Int.add_assoc]
theorem rneg_add (r s : List Int) : rneg (radd r s) = radd (rneg r) (rneg s) := by
  induction r generalizing s with
  | nil => simp [radd, rneg]
  | cons a r ih =>
    cases s with
    | nil => simp [radd, rneg]
    | cons b s =>
      have := ih s
      unfold radd rneg at this ⊢
      simp only [List.zipWith_cons_cons, List.map_cons, this, Int.neg_add]
theorem rneg_neg (r : List Int) : rneg (rneg r) = r := by
  unfold rneg
  rw [List.map_map, show ((fun x : Int => -x) ∘ fun x : Int => -x) = id from funext fun x => Int.neg_neg x, List.map_id]
def prod (S T : List Tm) : List Tm := S.flatMap fun x => T.map fun y => (radd x.1 y.1, x.2.1 + y.2.1, x.2.2 * y.2.2)
def mir (S : List Tm) : List Tm := S.map fun x => (rneg x.1, -x.2.1, x.2.2)
theorem lin_row (g : Fl) (r : List Int) (t a : Int) : ∀ T : List Tm, lin g (T.map fun y => (radd r y.1, t + y.2.1, a * y.2.2)) = a * lin (fun r' t' => g (radd r r') (t + t')) T
  | [] => by simp [lin]
  | y :: T => by rw [List.map_cons, lin, lin, lin_row g r t a T, Int.mul_add, Int.mul_assoc]
theorem lin_prod (g : Fl) (T : List Tm) : ∀ S : List Tm, lin g (prod S T) = lin (fun r t => lin (fun r' t' => g (radd r r') (t + t')) T) S
  | [] => rfl
  | x :: S => by
    have ih := lin_prod g T S
    unfold prod at ih ⊢
    rw [List.flatMap_cons, lin_append, lin_row, lin, ih]
theorem lin_swap (h : List Int → Int → Fl) (T : List Tm) : ∀ S : List Tm, lin (fun r t => lin (h r t) T) S = lin (fun r' t' => lin (fun r t => h r t r' t') S) T
  | [] => by
    show 0 = lin (fun _ _ => 0) T
    rw [lin_zero]
  | x :: S => by
    rw [lin, lin_swap h T S, ← lin_mul, ← lin_add]
    rfl
theorem anti_in {g : Fl} (h : Anti g) (r : List Int) (t : Int) : Anti fun r' t' => g (radd r r') (t + t') := fun r' t' => by
  show g _ (t + (t' + 1260)) = _
  rw [← Int.add_assoc]; exact h _ _
theorem anti_out {g : Fl} (h : Anti g) (T : List Tm) : Anti fun r t => lin (fun r' t' => g (radd r r') (t + t')) T := fun r t => by
  show lin (fun r' t' => g (radd r r') (t + 1260 + t')) T = - lin _ T
  rw [← lin_neg]
  refine lin_congr fun x _ => ?_
  rw [show t + 1260 + x.2.1 = t + x.2.1 + 1260 by omega]
  exact h _ _
theorem anti_mir {g : Fl} (h : Anti g) : Anti fun r t => g (rneg r) (-t) := fun r t => by
  show g _ (-(t + 1260)) = _
  rw [show -(t + 1260) = -t - 1260 by omega]
  exact h.back _ _
theorem Sim.app {S S' T T' : List Tm} (h : Sim S S') (k : Sim T T') : Sim (S ++ T) (S' ++ T') := fun g a => by rw [lin_append, lin_append, h g a, k g a]
theorem Sim.prod {S S' T T' : List Tm} (h : Sim S S') (k : Sim T T') : Sim (prod S T) (prod S' T') := fun g a => by
  rw [lin_prod, lin_prod, h _ (anti_out a T)]
  exact lin_congr fun x _ => k _ (anti_in a _ _)
theorem Sim.oft {S S' : List Tm} (c : Int) (h : Sim S S') : Sim (oft c S) (oft c S') := fun g a => by rw [lin_oft, lin_oft, h g a]
theorem lin_mir (g : Fl) : ∀ S : List Tm, lin g (mir S) = lin (fun r t => g (rneg r) (-t)) S
  | [] => rfl
  | x :: S => by
    have ih := lin_mir g S
    unfold mir at ih ⊢
    rw [List.map_cons, lin, lin, ih]
theorem Sim.mir {S S' : List Tm} (h : Sim S S') : Sim (mir S) (mir S') := fun g a => by rw [lin_mir, lin_mir, h _ (anti_mir a)]
theorem mir_mir (S : List Tm) : mir (mir S) = S := by
  unfold mir
  rw [List.map_map]
  have : ∀ x ∈ S, ((fun x : Tm => (rneg x.1, -x.2.1, x.2.2)) ∘ fun x : Tm => (rneg x.1, -x.2.1, x.2.2)) x = id x := fun x _ => by
    show (rneg (rneg x.1), - -x.2.1, x.2.2) = x
    rw [rneg_neg, Int.neg_neg]
  rw [List.map_congr_left this, List.map_id]
theorem prod_comm (S T : List Tm) : Sim (prod S T) (prod T S) := fun g a => by
  rw [lin_prod, lin_prod, lin_swap]
  refine lin_congr fun x _ => lin_congr fun y _ => ?_
  rw [radd_comm, Int.add_comm]
theorem prod_assoc (S T U : List Tm) : Sim (prod (prod S T) U) (prod S (prod T U)) := fun g a => by
  rw [lin_prod, lin_prod, lin_prod]
  refine lin_congr fun x _ => ?_
  rw [lin_prod]
  refine lin_congr fun y _ => lin_congr fun z _ => ?_
  rw [radd_assoc, Int.add_assoc]
theorem prod_add (S T U : List Tm) : Sim (prod S (T ++ U)) (prod S T ++ prod S U) := fun g a => by
  rw [lin_append, lin_prod, lin_prod, lin_prod, ← lin_add]
  exact lin_congr fun x _ => lin_append _ _ _
theorem mir_prod (S T : List Tm) : Sim (mir (prod S T)) (prod (mir S) (mir T)) := fun g a => by
  rw [lin_mir, lin_prod, lin_prod, lin_mir]
  refine lin_congr fun x _ => ?_
  rw [lin_mir]
  refine lin_congr fun y _ => ?_
  rw [rneg_add, Int.neg_add]
theorem mir_app (S T : List Tm) : mir (S ++ T) = mir S ++ mir T := List.map_append ..
end K09
/-! k09, the plain law: sizes; rows; sums, so often. -/
namespace K09
open PySem PySem.Spec PyProof.Rows L2 L3
def A1 : List Tm → Nat
  | [] => 0
  | x :: S => x.2.2.natAbs + A1 S
theorem l1_nz : ∀ S : List Tm, l1n (S.map nz) = A1 S
  | [] => rfl
  | x :: S => by
    rw [List.map_cons, l1n, A1, l1_nz S]
    show (sg x.2.1 * x.2.2).natAbs + _ = _
    unfold sg
    split
    · rw [Int.one_mul]
    · rw [Int.neg_mul, Int.one_mul, Int.natAbs_neg]
theorem A1_bk : ∀ m : Nm, A1 (m.map bk) = l1n m
  | [] => rfl
  | x :: m => by rw [List.map_cons, A1, l1n, A1_bk m]; rfl
theorem A1_append : ∀ S T : List Tm, A1 (S ++ T) = A1 S + A1 T
  | [], T => by simp [A1]
  | x :: S, T => by rw [List.cons_append, A1, A1, A1_append S T, Nat.add_assoc]
theorem A1_oft (c : Int) : ∀ S : List Tm, A1 (oft c S) = c.natAbs * A1 S
  | [] => by simp [oft, A1]
  | x :: S => by
    have ih := A1_oft c S
    unfold oft at ih ⊢
    rw [List.map_cons, A1, A1, ih, Int.natAbs_mul, Nat.mul_add]
theorem A1_mir : ∀ S : List Tm, A1 (mir S) = A1 S
  | [] => rfl
  | x :: S => by
    have ih := A1_mir S
    unfold mir at ih ⊢
    rw [List.map_cons, A1, A1, ih]
theorem A1_row (r : List Int) (t a : Int) : ∀ T : List Tm, A1 (T.map fun y => (radd r y.1, t + y.2.1, a * y.2.2)) = a.natAbs * A1 T
  | [] => by simp [A1]
  | y :: T => by rw [List.map_cons, A1, A1, A1_row r t a T, Int.natAbs_mul, Nat.mul_add]
theorem A1_prod (T : List Tm) : ∀ S : List Tm, A1 (prod S T) = A1 S * A1 T
  | [] => by simp [prod, A1]
  | x :: S => by
    have ih := A1_prod T S
    unfold prod at ih ⊢
    rw [List.flatMap_cons, A1_append, A1_row, A1, ih, Nat.add_mul]
theorem A1_mem : ∀ {S : List Tm} {x : Tm}, x ∈ S → x.2.2.natAbs ≤ A1 S
  | y :: S, x, h => by
    rw [A1]
    rcases List.mem_cons.mp h with rfl | h
    · omega
    · have := A1_mem h; omega
/-- rows of n numbers, sizes -/
structure Bd (n A L : Nat) (S : List Tm) : Prop where of ::
  row : ∀ x ∈ S, x.1.length = n
  a : A1 S ≤ A
  len : S.length ≤ L
theorem Bd.sz {n A L : Nat} {S : List Tm} (h : Bd n A L S) (hA : A < 2147483648) (hL : L < 16777216) : Sz S := ⟨by rw [l1_nz]; exact Nat.lt_of_le_of_lt h.a hA, Nat.lt_of_le_of_lt h.len hL⟩
theorem Bd.mono {n A L A' L' : Nat} {S : List Tm} (h : Bd n A L S) (hA : A ≤ A') (hL : L ≤ L') : Bd n A' L' S := ⟨h.row, Nat.le_trans h.a hA, Nat.le_trans h.len hL⟩
theorem Bd.mk {n A L : Nat} {S : List Tm} (h : Bd n A L S) : Bd n A L (mk S) := by
  refine ⟨fun x hx => ?_, ?_, ?_⟩
  · obtain ⟨y, hy, rfl⟩ := List.mem_map.mp hx
    obtain ⟨z, hz, e⟩ := (mg_mem _ y hy).2
    obtain ⟨u, hu, rfl⟩ := List.mem_map.mp hz
    have : (bk y).1 = u.1 := by
      show y.1.1 = u.1
      rw [← e]
      rfl
    rw [this]
    exact h.row u hu
  · unfold K09.mk
    rw [A1_bk]
    have := mg_l1 (S.map nz)
    rw [l1_nz] at this
    exact Nat.le_trans this h.a
  · unfold K09.mk
    rw [List.length_map]
    have := mg_len (S.map nz)
    rw [List.length_map] at this
    exact Nat.le_trans this h.len
theorem Bd.app {n A L A' L' : Nat} {S T : List Tm} (h : Bd n A L S) (k : Bd n A' L' T) : Bd n (A + A') (L + L') (S ++ T) :=
  ⟨fun x hx => (List.mem_append.mp hx).elim (h.row x) (k.row x), by rw [A1_append]; exact Nat.add_le_add h.a k.a, by rw [List.length_append]; exact Nat.add_le_add h.len k.len⟩
theorem Bd.oft {n A L : Nat} {S : List Tm} (c : Int) (h : Bd n A L S) : Bd n (c.natAbs * A) L (oft c S) := by
  refine ⟨fun x hx => ?_, by rw [A1_oft]; exact Nat.mul_le_mul_left _ h.a, by unfold K09.oft; rw [List.length_map]; exact h.len⟩
  obtain ⟨y, hy, rfl⟩ := List.mem_map.mp hx
  exact h.row y hy
theorem Bd.mir {n A L : Nat} {S : List Tm} (h : Bd n A L S) : Bd n A L (mir S) := by
  refine ⟨fun x hx => ?_, by rw [A1_mir]; exact h.a, by unfold K09.mir; rw [List.length_map]; exact h.len⟩
  obtain ⟨y, hy, rfl⟩ := List.mem_map.mp hx
  show (rneg y.1).length = n
  unfold rneg
  rw [List.length_map]
  exact h.row y hy
theorem radd_len {r s : List Int} {n : Nat} (h : r.length = n) (k : s.length = n) : (radd r s).length = n := by
  unfold radd
  rw [List.length_zipWith, h, k, Nat.min_self]
theorem prod_len (T : List Tm) : ∀ S : List Tm, (prod S T).length = S.length * T.length
  | [] => by simp [prod]
  | x :: S => by
    have ih := prod_len T S
    unfold prod at ih ⊢
    rw [List.flatMap_cons, List.length_append, ih, List.length_map, List.length_cons, Nat.succ_mul, Nat.add_comm]
theorem Bd.prod {n A L A' L' : Nat} {S T : List Tm} (h : Bd n A L S) (k : Bd n A' L' T) : Bd n (A * A') (L * L') (prod S T) := by
  refine ⟨fun x hx => ?_, by rw [A1_prod]; exact Nat.mul_le_mul h.a k.a, by rw [prod_len]; exact Nat.mul_le_mul h.len k.len⟩
  obtain ⟨y, hy, hx⟩ := List.mem_flatMap.mp hx
  obtain ⟨z, hz, rfl⟩ := List.mem_map.mp hx
  exact radd_len (h.row y hy) (k.row z hz)
theorem Bd.s31 {n A L : Nat} {S : List Tm} (h : Bd n A L S) (hA : A < 2147483648) : ∀ x ∈ S, S31 x.2.2 := fun x hx => Nat.lt_of_le_of_lt (Nat.le_trans (A1_mem hx) h.a) hA
/-! ### comprehensions -/
theorem compG {α : Type} {p : Pat} {t : T} {e : P} {ρ : L3.Env} {f g : α → D} : ∀ {xs : List α}, (∀ a ∈ xs, ∃ ρ1, bind p (f a) ρ = some ρ1 ∧ t ρ1 = some true ∧ e ρ1 = some (g a)) → compP p t e ρ (xs.map f) = some (xs.map g)
  | [], _ => rfl
  | a :: r, h => by
    obtain ⟨ρ1, h1, h2, h3⟩ := h a (List.mem_cons_self ..)
    have ih := compG (xs := r) fun b hb => h b (List.mem_cons_of_mem _ hb)
    rw [List.map_cons, compP, h1]
    dsimp only
    rw [h2]
    dsimp only
    rw [h3]
    dsimp only
    rw [ih]
    rfl
theorem pCompG {α : Type} {vs : List Nat} {p : Pat} {a : Ip} {t : T} {e : P} {ρ : L3.Env} {f g : α → D} {xs : List α} (ha : a ρ = some (xs.map f)) (hf : freeAt vs ρ = true) (hl : xs.length ≤ 16777216)
    (h : ∀ a ∈ xs, ∃ ρ1, bind p (f a) (wipeE vs ρ) = some ρ1 ∧ t ρ1 = some true ∧ e ρ1 = some (g a)) : pComp vs p a t e ρ = some (.list (xs.map g)) := by
  unfold pComp
  rw [ha]
  dsimp only
  rw [hf, List.length_map, show len24 xs.length = true from decide_eq_true hl, compG h]
  rfl
/-- a row, number by number -/
theorem row_comp {i j : Nat} {e : P} {ρ : L3.Env} {f : Int → Int} {r : List Int} (hj : pVar j ρ = some (rowD r)) (hf : freeAt [i] ρ = true) (hl : r.length ≤ 100) (hi : i < ρ.length) (he : ∀ x, e ((ρ.set i .un).set i (.val (.int x))) = some (.int (f x))) :
    pN (l1 dTuple) [pComp [i] (.nm i) (ipP (pVar j)) tYesP e] ρ = some (rowD (r.map f)) := by
  have hp : pComp [i] (.nm i) (ipP (pVar j)) tYesP e ρ = some (.list (r.map fun x => .int (f x))) := by
    refine pCompG (f := PyData.int) (by unfold ipP; rw [hj]; rfl) hf (by omega) fun x _ => ⟨_, ?_, rfl, he x⟩
    show L3.put i (.val (.int x)) (ρ.set i .un) = _
    exact put_no (c := .un) (List.getElem?_set_self hi) rfl
  rw [ev_pN, ev_evs1, hp]
  show some (PyData.tuple _) = some (PyData.tuple _)
  rw [List.map_map]
  rfl
theorem zip_comp {i j : Nat} {ρ : L3.Env} {st : Bool} {a b : P} {r s : List Int} (ha : a ρ = some (rowD r)) (hb : b ρ = some (rowD s)) (hs : r.length = s.length) (hf : freeAt [i, j] ρ = true) (hl : r.length ≤ 100) (hij : i ≠ j) (hi : i < ρ.length) (hj : j < ρ.length) :
    pN (l1 dTuple) [pComp [i, j] (.tp [.nm i, .nm j]) (ipZ st a b) tYesP (p2 dAdd (pVar i) (pVar j))] ρ = some (rowD (radd r s)) := by
  have hz : zipV st (rowD r) (rowD s) = some ((r.zip s).map fun x => .tuple [.int x.1, .int x.2]) := by
    have e1 : zipD (r.map PyData.int) (s.map PyData.int) = (r.zip s).map fun x => .tuple [.int x.1, .int x.2] := by
      unfold zipD
      rw [List.zipWith_map, List.zip, List.map_zipWith]
    show (if (!st || decide ((r.map PyData.int).length = (s.map PyData.int).length)) = true then some (zipD (r.map PyData.int) (s.map PyData.int)) else none) = _
    rw [if_pos (by rw [List.length_map, List.length_map, hs]; simp), e1]
  have hp : pComp [i, j] (.tp [.nm i, .nm j]) (ipZ st a b) tYesP (p2 dAdd (pVar i) (pVar j)) ρ = some (.list ((r.zip s).map fun x => .int (x.1 + x.2))) := by
    refine pCompG (f := fun x : Int × Int => PyData.tuple [.int x.1, .int x.2]) (by unfold ipZ; rw [ha, hb]; exact hz) hf (by rw [List.length_zip]; omega) fun x _ => ⟨((ρ.set j .un).set i .un).set i (.val (.int x.1)) |>.set j (.val (.int x.2)), ?_, rfl, ?_⟩
    · show L3.bind _ _ ((ρ.set j .un).set i .un) = _
      refine bind_two (ci := .un) (cj := .un) hij (List.getElem?_set_self (by rw [List.length_set]; exact hi)) rfl ?_ rfl
      rw [List.getElem?_set_ne hij]
      exact List.getElem?_set_self hj
    · have h1 : pVar i (((ρ.set j .un).set i .un).set i (.val (.int x.1)) |>.set j (.val (.int x.2))) = some (.int x.1) := by
        rw [ev_pVar, List.getElem?_set_ne (Ne.symm hij), List.getElem?_set_self (by rw [List.length_set, List.length_set]; exact hi)]
      have h2 : pVar j (((ρ.set j .un).set i .un).set i (.val (.int x.1)) |>.set j (.val (.int x.2))) = some (.int x.2) := by
        rw [ev_pVar, List.getElem?_set_self (by rw [List.length_set, List.length_set, List.length_set]; exact hj)]
      show p2 dAdd (pVar i) (pVar j) (((ρ.set j .un).set i .un).set i (.val (.int x.1)) |>.set j (.val (.int x.2))) = _
      rw [ev_p2, h1, h2]
      rfl
  rw [ev_pN, ev_evs1, hp]
  show some (PyData.tuple _) = some (PyData.tuple _)
  unfold radd
  rw [List.zip, List.map_zipWith, List.map_zipWith]
theorem row_sum {r s : List Int} (h : r.length = s.length) (hl : r.length ≤ 100) : F_row_sum [.val (rowD r), .val (rowD s)] = some ([.un, .un], .val (rowD (radd r s))) := by
  have hq := zip_comp (i := 2) (j := 3) (ρ := [.val (rowD r), .val (rowD s), .un, .un]) (st := true) (a := pVar 0) (b := pVar 1) rfl rfl h rfl hl (by decide) (by simp) (by simp)
  exact run_fn (ρ0 := [.val (rowD r), .val (rowD s), .un, .un]) rfl rfl (show g_row_sum _ = _ from run_ret hq) rfl
theorem row_times (k : Int) {r : List Int} (hk : S31 k) (hl : r.length ≤ 100) : F_row_times [.val (.int k), .val (rowD r)] = some ([.un, .un], .val (rowD (r.map fun x => k * x))) := by
  have hq := row_comp (i := 2) (j := 1) (ρ := [.val (.int k), .val (rowD r), .un]) (e := p2 dMul (pVar 0) (pVar 2)) (f := fun x => k * x) rfl rfl hl (by simp) fun x => by simp [mulOk31 hk]
  exact run_fn (ρ0 := [.val (.int k), .val (rowD r), .un]) rfl rfl (show g_row_times _ = _ from run_ret hq) rfl
/-! ### sums, so often -/
theorem seq_sD (M : Int) (S : List Tm) : seqOf (sD M S) = some (S.map (tmD M)) := rfl
theorem sums_added {M : Int} (hM : Lv M) {n A L A' L' : Nat} {S T : List Tm} (hS : Bd n A L S) (hT : Bd n A' L' T) (hA : A + A' < 2147483648) (hL : L + L' < 16777216) :
    F_sums_added [.val (sD M S), .val (sD M T)] = some ([.un, .un], .val (sD M (mk (S ++ T)))) := by
  have hz := (hS.app hT).sz hA hL
  have h := terms_merged hM hz (X := sD M (S ++ T)) (seq_sD _ _)
  rw [sD_mk] at h
  have hl : len24 (S.length + T.length) = true := decide_eq_true (by have := hS.len; have := hT.len; omega)
  have ha : dAdd (sD M S) (sD M T) = some (sD M (S ++ T)) := by
    show (if len24 ((S.map (tmD M)).length + (T.map (tmD M)).length) = true then some (PyData.tuple (S.map (tmD M) ++ T.map (tmD M))) else none) = _
    rw [List.length_map, List.length_map, hl, ← List.map_append]
    rfl
  unfold F_sums_added g_sums_added
  simp [ha, h]
theorem comp_oft {M N : Int} (F : Fn) {c : Int} {S : List Tm} {n A L : Nat} (hS : Bd n A L S) (hL : L < 16777216)
    (hF : ∀ x ∈ S, F [.val (frD (nf N c)), .val (frD (nf M x.2.2))] = some ([.un, .un], .val (frD (nf (N * M) (c * x.2.2))))) :
    pComp [2, 3, 4] (.tp [.nm 2, .nm 3, .nm 4]) (ipP (pVar 1)) tYesP (pN dTup [pVar 2, pVar 3, pCall F [pVar 0, pVar 4]]) [.val (frD (nf N c)), .val (sD M S), .un, .un, .un] = some (.list ((oft c S).map (tmD (N * M)))) := by
  have h := pCompG (vs := [2, 3, 4]) (p := .tp [.nm 2, .nm 3, .nm 4]) (a := ipP (pVar 1)) (t := tYesP) (e := pN dTup [pVar 2, pVar 3, pCall F [pVar 0, pVar 4]]) (ρ := [.val (frD (nf N c)), .val (sD M S), .un, .un, .un])
    (f := tmD M) (g := fun x => tmD (N * M) (x.1, x.2.1, c * x.2.2)) (xs := S) rfl rfl (by have := hS.len; omega) fun x hx => ⟨[.val (frD (nf N c)), .val (sD M S), .val (rowD x.1), .val (frD (pt x.2.1)), .val (frD (nf M x.2.2))], bind_three (by decide) (by decide) (by decide) rfl rfl rfl rfl rfl rfl, rfl, by
      simp [hF x hx, len24, tmD]⟩
  rw [h]
  unfold oft
  rw [List.map_map]
  rfl
theorem sum_often {M N : Int} (hM : Lv M) (hN : Lv N) (hMN : Lv (N * M)) {c : Int} (hc : S31 c) {n A L : Nat} {S : List Tm} (hS : Bd n A L S) (hA : c.natAbs * A < 2147483648) (hA2 : A < 2147483648) (hL : L < 16777216) :
    F_sum_often [.val (frD (nf N c)), .val (sD M S)] = some ([.un, .un], .val (sD (N * M) (mk (oft c S)))) := by
  have hcp := comp_oft (M := M) (N := N) F_fraction_times (c := c) hS hL fun x hx => nf_times hN hM hc (hS.s31 hA2 x hx)
  have h := terms_merged hMN ((hS.oft c).sz hA hL) (X := .list ((oft c S).map (tmD (N * M)))) rfl
  rw [sD_mk] at h
  unfold F_sum_often g_sum_often
  simp only [ev_mkFn, ev_sRet, ev_eP, ev_pCall, ev_evs1, ev_evs0, List.length_cons, List.length_nil, List.cons_append, List.nil_append, List.replicate]
  rw [hcp]
  simp [h]
theorem law_often {M N : Int} (hM : Lv M) (hN : Lv N) (hMN : Lv (N * M)) {c : Int} (hc : S31 c) {n A L : Nat} {S : List Tm} (hS : Bd n A L S) (hA : c.natAbs * A < 2147483648) (hA2 : A < 2147483648) (hL : L < 16777216) :
    F__law_often [.val (frD (nf N c)), .val (sD M S)] = some ([.un, .un], .val (sD (N * M) (mk (oft c S)))) := by
  have hcp := comp_oft (M := M) (N := N) F__law_by (c := c) hS hL fun x hx => law_times hN hM hc (hS.s31 hA2 x hx)
  have h := law_made hMN ((hS.oft c).sz hA hL) (X := .list ((oft c S).map (tmD (N * M)))) rfl
  rw [sD_mk] at h
  unfold F__law_often g__law_often
  simp only [ev_mkFn, ev_sRet, ev_eP, ev_pCall, ev_evs1, ev_evs0, List.length_cons, List.length_nil, List.cons_append, List.nil_append, List.replicate]
  rw [hcp]
  simp [h]
end K09
/-! k09, the plain law: products of sums. -/
namespace K09
open PySem PySem.Spec PyProof.Rows L2 L3
theorem app_ok {i : Nat} {p : P} {ρ : L3.Env} {fx : Bool} {xs : List D} {d : D} (hi : ρ[i]? = some (.own fx (.lst xs))) (hp : p ρ = some d) (hl : xs.length < 16777216) : sApp i (eP p) ρ = some (ρ.set i (.own fx (.lst (xs ++ [d]))), .nx) := by
  rw [ev_sApp, hi, ev_isLst, if_pos rfl, ev_eP, hp]
  show (match (some d : Option D), ρ[i]? with | some d, some (.own fx (.lst xs)) => if decide (xs.length < 16777216) then some (ρ.set i (.own fx (.lst (xs ++ [d]))), Out.nx) else none | _, _ => none) = _
  rw [hi]
  dsimp only
  rw [if_pos (decide_eq_true hl)]
def rowT (x : Tm) (T : List Tm) : List Tm := T.map fun y => (radd x.1 y.1, x.2.1 + y.2.1, x.2.2 * y.2.2)
theorem prod_cons (x : Tm) (S T : List Tm) : prod (x :: S) T = rowT x T ++ prod S T := List.flatMap_cons ..
abbrev bIn : Sm := sApp 2 (eP (pN dTup [pCall F_row_sum [pVar 3, pVar 6], pCall F_part_sum [pVar 4, pVar 7], pCall F_fraction_times [pVar 5, pVar 8]]))
/-- what a term and all of another sum ask -/
structure Okx (n : Nat) (x : Tm) : Prop where
  row : x.1.length = n
  s : S31 x.2.2
section
variable {M N : Int} {n : Nat} (hM : Lv M) (hN : Lv N) (hn : n ≤ 100) (X0 X1 : Cell)
include hM hN hn
theorem in_tm {x : Tm} (hx : Okx n x) : ∀ (T : List Tm) (xs : List D) (c6 c7 c8 : Cell), (∀ y ∈ T, Okx n y) → isOwn c6 = false → isOwn c7 = false → isOwn c8 = false → xs.length + T.length < 16777216 →
    ∃ d6 d7 d8, forL (.tp [.nm 6, .nm 7, .nm 8]) bIn (T.map (tmD N)) [X0, X1, .own false (.lst xs), .val (rowD x.1), .val (frD (pt x.2.1)), .val (frD (nf M x.2.2)), c6, c7, c8] =
      some ([X0, X1, .own false (.lst (xs ++ (rowT x T).map (tmD (M * N)))), .val (rowD x.1), .val (frD (pt x.2.1)), .val (frD (nf M x.2.2)), d6, d7, d8], .nx) ∧ isOwn d6 = false ∧ isOwn d7 = false ∧ isOwn d8 = false
  | [], xs, c6, c7, c8, _, h6, h7, h8, _ => ⟨c6, c7, c8, by rw [List.map_nil, forL]; simp [rowT], h6, h7, h8⟩
  | y :: T, xs, c6, c7, c8, hT, h6, h7, h8, hl => by
    rw [List.length_cons] at hl
    have hy := hT y (List.mem_cons_self ..)
    obtain ⟨d6, d7, d8, e1, q6, q7, q8⟩ := in_tm hx T (xs ++ [tmD (M * N) (radd x.1 y.1, x.2.1 + y.2.1, x.2.2 * y.2.2)]) (.val (rowD y.1)) (.val (frD (pt y.2.1))) (.val (frD (nf N y.2.2))) (fun z hz => hT z (List.mem_cons_of_mem _ hz)) rfl rfl rfl (by rw [List.length_append, List.length_cons, List.length_nil]; omega)
    refine ⟨d6, d7, d8, ?_, q6, q7, q8⟩
    have hb : bind (.tp [.nm 6, .nm 7, .nm 8]) (tmD N y) [X0, X1, .own false (.lst xs), .val (rowD x.1), .val (frD (pt x.2.1)), .val (frD (nf M x.2.2)), c6, c7, c8] = some [X0, X1, .own false (.lst xs), .val (rowD x.1), .val (frD (pt x.2.1)), .val (frD (nf M x.2.2)), .val (rowD y.1), .val (frD (pt y.2.1)), .val (frD (nf N y.2.2))] :=
      bind_three (by decide) (by decide) (by decide) rfl h6 rfl h7 rfl h8
    have hp : pN dTup [pCall F_row_sum [pVar 3, pVar 6], pCall F_part_sum [pVar 4, pVar 7], pCall F_fraction_times [pVar 5, pVar 8]] [X0, X1, .own false (.lst xs), .val (rowD x.1), .val (frD (pt x.2.1)), .val (frD (nf M x.2.2)), .val (rowD y.1), .val (frD (pt y.2.1)), .val (frD (nf N y.2.2))] = some (tmD (M * N) (radd x.1 y.1, x.2.1 + y.2.1, x.2.2 * y.2.2)) := by
      simp [row_sum (hx.row.trans hy.row.symm) (by rw [hx.row]; exact hn), pt_sum, nf_times hM hN hx.s hy.s, len24, tmD]
    have ha := app_ok (i := 2) (ρ := [X0, X1, .own false (.lst xs), .val (rowD x.1), .val (frD (pt x.2.1)), .val (frD (nf M x.2.2)), .val (rowD y.1), .val (frD (pt y.2.1)), .val (frD (nf N y.2.2))]) rfl hp (by omega)
    rw [List.map_cons, forL, hb]
    dsimp only
    rw [show bIn _ = _ from ha]
    dsimp only [List.set]
    rw [e1, List.append_assoc]
    rfl
abbrev bOut : Sm := sFor (.tp [.nm 6, .nm 7, .nm 8]) (iP (pVar 1)) bIn
theorem out_tm {T : List Tm} (hT : ∀ y ∈ T, Okx n y) : ∀ (S : List Tm) (xs : List D) (c3 c4 c5 c6 c7 c8 : Cell), (∀ y ∈ S, Okx n y) → isOwn c3 = false → isOwn c4 = false → isOwn c5 = false → isOwn c6 = false → isOwn c7 = false → isOwn c8 = false → xs.length + S.length * T.length < 16777216 →
    ∃ d3 d4 d5 d6 d7 d8, forL (.tp [.nm 3, .nm 4, .nm 5]) bOut (S.map (tmD M)) [X0, .val (sD N T), .own false (.lst xs), c3, c4, c5, c6, c7, c8] =
      some ([X0, .val (sD N T), .own false (.lst (xs ++ (prod S T).map (tmD (M * N)))), d3, d4, d5, d6, d7, d8], .nx)
  | [], xs, c3, c4, c5, c6, c7, c8, _, _, _, _, _, _, _, _ => ⟨c3, c4, c5, c6, c7, c8, by rw [List.map_nil, forL]; simp [prod]⟩
  | x :: S, xs, c3, c4, c5, c6, c7, c8, hS, h3, h4, h5, h6, h7, h8, hl => by
    rw [List.length_cons, Nat.succ_mul] at hl
    have hx := hS x (List.mem_cons_self ..)
    obtain ⟨d6, d7, d8, e1, q6, q7, q8⟩ := in_tm hM hN hn X0 (.val (sD N T)) hx T xs c6 c7 c8 hT h6 h7 h8 (by omega)
    have hlr : (rowT x T).length = T.length := by unfold rowT; rw [List.length_map]
    obtain ⟨f3, f4, f5, f6, f7, f8, e2⟩ := out_tm hT S (xs ++ (rowT x T).map (tmD (M * N))) (.val (rowD x.1)) (.val (frD (pt x.2.1))) (.val (frD (nf M x.2.2))) d6 d7 d8 (fun z hz => hS z (List.mem_cons_of_mem _ hz)) rfl rfl rfl q6 q7 q8 (by rw [List.length_append, List.length_map, hlr]; omega)
    refine ⟨f3, f4, f5, f6, f7, f8, ?_⟩
    have hb : bind (.tp [.nm 3, .nm 4, .nm 5]) (tmD M x) [X0, .val (sD N T), .own false (.lst xs), c3, c4, c5, c6, c7, c8] = some [X0, .val (sD N T), .own false (.lst xs), .val (rowD x.1), .val (frD (pt x.2.1)), .val (frD (nf M x.2.2)), c6, c7, c8] :=
      bind_three (by decide) (by decide) (by decide) rfl h3 rfl h4 rfl h5
    have hbo : bOut [X0, .val (sD N T), .own false (.lst xs), .val (rowD x.1), .val (frD (pt x.2.1)), .val (frD (nf M x.2.2)), c6, c7, c8] = some ([X0, .val (sD N T), .own false (.lst (xs ++ (rowT x T).map (tmD (M * N)))), .val (rowD x.1), .val (frD (pt x.2.1)), .val (frD (nf M x.2.2)), d6, d7, d8], .nx) := by
      show sFor _ _ _ _ = _
      rw [ev_sFor]
      simp only [iP, ev_pVar, List.getElem?_cons_zero, List.getElem?_cons_succ, seq_sD]
      exact e1
    rw [List.map_cons, forL, hb]
    dsimp only
    rw [hbo]
    dsimp only
    rw [e2, prod_cons, List.map_append, List.append_assoc]
end
theorem Bd.okx {n A L : Nat} {S : List Tm} (h : Bd n A L S) (hA : A < 2147483648) : ∀ x ∈ S, Okx n x := fun x hx => ⟨h.row x hx, h.s31 hA x hx⟩
theorem sums_times {M N : Int} (hM : Lv M) (hN : Lv N) (hMN : Lv (M * N)) {n A L A' L' : Nat} {S T : List Tm} (hn : n ≤ 100) (hS : Bd n A L S) (hT : Bd n A' L' T) (h1 : A < 2147483648) (h2 : A' < 2147483648) (h3 : A * A' < 2147483648) (h4 : L * L' < 16777216) :
    F_sums_times [.val (sD M S), .val (sD N T)] = some ([.un, .un], .val (sD (M * N) (mk (prod S T)))) := by
  have hz := (hS.prod hT).sz h3 h4
  have hm := terms_merged hMN hz (X := .list ((prod S T).map (tmD (M * N)))) rfl
  rw [sD_mk] at hm
  have hlen : S.length * T.length ≤ L * L' := Nat.mul_le_mul hS.len hT.len
  obtain ⟨d3, d4, d5, d6, d7, d8, e1⟩ := out_tm hM hN hn (.val (sD M S)) (hT.okx h2) S [] .un .un .un .un .un .un (hS.okx h1) rfl rfl rfl rfl rfl rfl (by simp; omega)
  rw [List.nil_append] at e1
  have e0 : sOwn 2 (L3.eF (pN dLst [])) [.val (sD M S), .val (sD N T), .un, .un, .un, .un, .un, .un, .un] = some ([.val (sD M S), .val (sD N T), .own false (.lst []), .un, .un, .un, .un, .un, .un], .nx) := rfl
  have e1' : sFor (.tp [.nm 3, .nm 4, .nm 5]) (iP (pVar 0)) bOut [.val (sD M S), .val (sD N T), .own false (.lst []), .un, .un, .un, .un, .un, .un] = some ([.val (sD M S), .val (sD N T), .own false (.lst ((prod S T).map (tmD (M * N)))), d3, d4, d5, d6, d7, d8], .nx) := by
    rw [ev_sFor]
    simp only [iP, ev_pVar, List.getElem?_cons_zero, seq_sD]
    exact e1
  have e2 : sFrzs [2] (sRet (eP (pCall F_terms_merged [pVar 2]))) [.val (sD M S), .val (sD N T), .own false (.lst ((prod S T).map (tmD (M * N)))), d3, d4, d5, d6, d7, d8] = some ([.val (sD M S), .val (sD N T), .val (.list ((prod S T).map (tmD (M * N)))), d3, d4, d5, d6, d7, d8], .rt (.val (sD (M * N) (mk (prod S T))))) := by
    show sRet _ [.val (sD M S), .val (sD N T), .val (.list ((prod S T).map (tmD (M * N)))), d3, d4, d5, d6, d7, d8] = _
    refine run_ret ?_
    simp [hm]
  exact run_fn (ρ0 := [.val (sD M S), .val (sD N T), .un, .un, .un, .un, .un, .un, .un]) rfl rfl (show g_sums_times _ = _ from (run_seq e0).trans ((run_seq e1').trans e2)) rfl
/-! ### the law's -/
abbrev bInL : Sm := sSeq (sPat (.tp [.nm 9, .nm 10]) (eP (pCall F__law_plus [pVar 4, pVar 7])))
      (sApp 2 (eP (pN dTup [pN (l1 dTuple) [pComp [11, 12] (.tp [.nm 11, .nm 12]) (ipZ false (pVar 3) (pVar 6)) (tYesP) (p2 dAdd (pVar 11) (pVar 12))], pCall F__law_part [pVar 9, pVar 10], pCall F__law_by [pVar 5, pVar 8]])))
section
variable {M N : Int} {n : Nat} (hM : Lv M) (hN : Lv N) (hn : n ≤ 100) (X0 X1 : Cell)
include hM hN hn
theorem in_lw {x : Tm} (hx : Okx n x) : ∀ (T : List Tm) (xs : List D) (c6 c7 c8 c9 c10 : Cell), (∀ y ∈ T, Okx n y) → isOwn c6 = false → isOwn c7 = false → isOwn c8 = false → isOwn c9 = false → isOwn c10 = false → xs.length + T.length < 16777216 →
    ∃ d6 d7 d8 d9 d10, forL (.tp [.nm 6, .nm 7, .nm 8]) bInL (T.map (tmD N)) [X0, X1, .own false (.lst xs), .val (rowD x.1), .val (frD (pt x.2.1)), .val (frD (nf M x.2.2)), c6, c7, c8, c9, c10, .un, .un] =
      some ([X0, X1, .own false (.lst (xs ++ (rowT x T).map (tmD (M * N)))), .val (rowD x.1), .val (frD (pt x.2.1)), .val (frD (nf M x.2.2)), d6, d7, d8, d9, d10, .un, .un], .nx) ∧ isOwn d6 = false ∧ isOwn d7 = false ∧ isOwn d8 = false ∧ isOwn d9 = false ∧ isOwn d10 = false
  | [], xs, c6, c7, c8, c9, c10, _, h6, h7, h8, h9, h10, _ => ⟨c6, c7, c8, c9, c10, by rw [List.map_nil, forL]; simp [rowT], h6, h7, h8, h9, h10⟩
  | y :: T, xs, c6, c7, c8, c9, c10, hT, h6, h7, h8, h9, h10, hl => by
    rw [List.length_cons] at hl
    have hy := hT y (List.mem_cons_self ..)
    obtain ⟨⟨w1, w2⟩, hw1, hw2⟩ := law_pt x.2.1 y.2.1
    obtain ⟨d6, d7, d8, d9, d10, e1, q⟩ := in_lw hx T (xs ++ [tmD (M * N) (radd x.1 y.1, x.2.1 + y.2.1, x.2.2 * y.2.2)]) (.val (rowD y.1)) (.val (frD (pt y.2.1))) (.val (frD (nf N y.2.2))) (.val (.int w1)) (.val (.int w2)) (fun z hz => hT z (List.mem_cons_of_mem _ hz)) rfl rfl rfl rfl rfl (by rw [List.length_append, List.length_cons, List.length_nil]; omega)
    refine ⟨d6, d7, d8, d9, d10, ?_, q⟩
    have hb : bind (.tp [.nm 6, .nm 7, .nm 8]) (tmD N y) [X0, X1, .own false (.lst xs), .val (rowD x.1), .val (frD (pt x.2.1)), .val (frD (nf M x.2.2)), c6, c7, c8, c9, c10, .un, .un] = some [X0, X1, .own false (.lst xs), .val (rowD x.1), .val (frD (pt x.2.1)), .val (frD (nf M x.2.2)), .val (rowD y.1), .val (frD (pt y.2.1)), .val (frD (nf N y.2.2)), c9, c10, .un, .un] :=
      bind_three (by decide) (by decide) (by decide) rfl h6 rfl h7 rfl h8
    have hs : sPat (.tp [.nm 9, .nm 10]) (eP (pCall F__law_plus [pVar 4, pVar 7])) [X0, X1, .own false (.lst xs), .val (rowD x.1), .val (frD (pt x.2.1)), .val (frD (nf M x.2.2)), .val (rowD y.1), .val (frD (pt y.2.1)), .val (frD (nf N y.2.2)), c9, c10, .un, .un] =
        some ([X0, X1, .own false (.lst xs), .val (rowD x.1), .val (frD (pt x.2.1)), .val (frD (nf M x.2.2)), .val (rowD y.1), .val (frD (pt y.2.1)), .val (frD (nf N y.2.2)), .val (.int w1), .val (.int w2), .un, .un], .nx) := by
      have hc : pCall F__law_plus [pVar 4, pVar 7] [X0, X1, .own false (.lst xs), .val (rowD x.1), .val (frD (pt x.2.1)), .val (frD (nf M x.2.2)), .val (rowD y.1), .val (frD (pt y.2.1)), .val (frD (nf N y.2.2)), c9, c10, .un, .un] = some (.tuple [.int w1, .int w2]) := by
        simp [hw1]
        rfl
      rw [ev_sPat, ev_eP, hc]
      dsimp only
      rw [ev_toD_val]
      dsimp only
      rw [bind_two (ci := c9) (cj := c10) (by decide) rfl h9 rfl h10]
      rfl
    have hz := zip_comp (i := 11) (j := 12) (ρ := [X0, X1, .own false (.lst xs), .val (rowD x.1), .val (frD (pt x.2.1)), .val (frD (nf M x.2.2)), .val (rowD y.1), .val (frD (pt y.2.1)), .val (frD (nf N y.2.2)), .val (.int w1), .val (.int w2), .un, .un]) (st := false) (a := pVar 3) (b := pVar 6) (r := x.1) (s := y.1) rfl rfl (hx.row.trans hy.row.symm) rfl (by rw [hx.row]; exact hn) (by decide) (by simp) (by simp)
    have hp : pN dTup [pN (l1 dTuple) [pComp [11, 12] (.tp [.nm 11, .nm 12]) (ipZ false (pVar 3) (pVar 6)) (tYesP) (p2 dAdd (pVar 11) (pVar 12))], pCall F__law_part [pVar 9, pVar 10], pCall F__law_by [pVar 5, pVar 8]] [X0, X1, .own false (.lst xs), .val (rowD x.1), .val (frD (pt x.2.1)), .val (frD (nf M x.2.2)), .val (rowD y.1), .val (frD (pt y.2.1)), .val (frD (nf N y.2.2)), .val (.int w1), .val (.int w2), .un, .un] = some (tmD (M * N) (radd x.1 y.1, x.2.1 + y.2.1, x.2.2 * y.2.2)) := by
      rw [ev_pN, ev_evs1, hz]
      have hw2' : F__law_part [.val (.int w1), .val (.int w2)] = some ([.un, .un], .val (frD (pt (x.2.1 + y.2.1)))) := hw2
      simp [hw2', law_times hM hN hx.s hy.s, len24, tmD]
    have ha := app_ok (i := 2) (ρ := [X0, X1, .own false (.lst xs), .val (rowD x.1), .val (frD (pt x.2.1)), .val (frD (nf M x.2.2)), .val (rowD y.1), .val (frD (pt y.2.1)), .val (frD (nf N y.2.2)), .val (.int w1), .val (.int w2), .un, .un]) rfl hp (by omega)
    have hbody := (run_seq (b := sApp 2 (eP (pN dTup [pN (l1 dTuple) [pComp [11, 12] (.tp [.nm 11, .nm 12]) (ipZ false (pVar 3) (pVar 6)) (tYesP) (p2 dAdd (pVar 11) (pVar 12))], pCall F__law_part [pVar 9, pVar 10], pCall F__law_by [pVar 5, pVar 8]]))) hs).trans ha
    rw [List.map_cons, forL, hb]
    dsimp only
    rw [show bInL _ = _ from hbody]
    dsimp only [List.set]
    rw [e1, List.append_assoc]
    rfl
abbrev bOutL : Sm := sFor (.tp [.nm 6, .nm 7, .nm 8]) (iP (pVar 1)) bInL
theorem out_lw {T : List Tm} (hT : ∀ y ∈ T, Okx n y) : ∀ (S : List Tm) (xs : List D) (c3 c4 c5 c6 c7 c8 c9 c10 : Cell), (∀ y ∈ S, Okx n y) → isOwn c3 = false → isOwn c4 = false → isOwn c5 = false → isOwn c6 = false → isOwn c7 = false → isOwn c8 = false → isOwn c9 = false → isOwn c10 = false → xs.length + S.length * T.length < 16777216 →
    ∃ d3 d4 d5 d6 d7 d8 d9 d10, forL (.tp [.nm 3, .nm 4, .nm 5]) bOutL (S.map (tmD M)) [X0, .val (sD N T), .own false (.lst xs), c3, c4, c5, c6, c7, c8, c9, c10, .un, .un] =
      some ([X0, .val (sD N T), .own false (.lst (xs ++ (prod S T).map (tmD (M * N)))), d3, d4, d5, d6, d7, d8, d9, d10, .un, .un], .nx)
  | [], xs, c3, c4, c5, c6, c7, c8, c9, c10, _, _, _, _, _, _, _, _, _, _ => ⟨c3, c4, c5, c6, c7, c8, c9, c10, by rw [List.map_nil, forL]; simp [prod]⟩
  | x :: S, xs, c3, c4, c5, c6, c7, c8, c9, c10, hS, h3, h4, h5, h6, h7, h8, h9, h10, hl => by
    rw [List.length_cons, Nat.succ_mul] at hl
    have hx := hS x (List.mem_cons_self ..)
    obtain ⟨d6, d7, d8, d9, d10, e1, q6, q7, q8, q9, q10⟩ := in_lw hM hN hn X0 (.val (sD N T)) hx T xs c6 c7 c8 c9 c10 hT h6 h7 h8 h9 h10 (by omega)
    have hlr : (rowT x T).length = T.length := by unfold rowT; rw [List.length_map]
    obtain ⟨f3, f4, f5, f6, f7, f8, f9, f10, e2⟩ := out_lw hT S (xs ++ (rowT x T).map (tmD (M * N))) (.val (rowD x.1)) (.val (frD (pt x.2.1))) (.val (frD (nf M x.2.2))) d6 d7 d8 d9 d10 (fun z hz => hS z (List.mem_cons_of_mem _ hz)) rfl rfl rfl q6 q7 q8 q9 q10 (by rw [List.length_append, List.length_map, hlr]; omega)
    refine ⟨f3, f4, f5, f6, f7, f8, f9, f10, ?_⟩
    have hb : bind (.tp [.nm 3, .nm 4, .nm 5]) (tmD M x) [X0, .val (sD N T), .own false (.lst xs), c3, c4, c5, c6, c7, c8, c9, c10, .un, .un] = some [X0, .val (sD N T), .own false (.lst xs), .val (rowD x.1), .val (frD (pt x.2.1)), .val (frD (nf M x.2.2)), c6, c7, c8, c9, c10, .un, .un] :=
      bind_three (by decide) (by decide) (by decide) rfl h3 rfl h4 rfl h5
    have hbo : bOutL [X0, .val (sD N T), .own false (.lst xs), .val (rowD x.1), .val (frD (pt x.2.1)), .val (frD (nf M x.2.2)), c6, c7, c8, c9, c10, .un, .un] = some ([X0, .val (sD N T), .own false (.lst (xs ++ (rowT x T).map (tmD (M * N)))), .val (rowD x.1), .val (frD (pt x.2.1)), .val (frD (nf M x.2.2)), d6, d7, d8, d9, d10, .un, .un], .nx) := by
      show sFor _ _ _ _ = _
      rw [ev_sFor]
      simp only [iP, ev_pVar, List.getElem?_cons_zero, List.getElem?_cons_succ, seq_sD]
      exact e1
    rw [List.map_cons, forL, hb]
    dsimp only
    rw [hbo]
    dsimp only
    rw [e2, prod_cons, List.map_append, List.append_assoc]
end
theorem law_product {M N : Int} (hM : Lv M) (hN : Lv N) (hMN : Lv (M * N)) {n A L A' L' : Nat} {S T : List Tm} (hn : n ≤ 100) (hS : Bd n A L S) (hT : Bd n A' L' T) (h1 : A < 2147483648) (h2 : A' < 2147483648) (h3 : A * A' < 2147483648) (h4 : L * L' < 16777216) :
    F__law_product [.val (sD M S), .val (sD N T)] = some ([.un, .un], .val (sD (M * N) (mk (prod S T)))) := by
  have hz := (hS.prod hT).sz h3 h4
  have hm := law_made hMN hz (X := .list ((prod S T).map (tmD (M * N)))) rfl
  rw [sD_mk] at hm
  have hlen : S.length * T.length ≤ L * L' := Nat.mul_le_mul hS.len hT.len
  obtain ⟨d3, d4, d5, d6, d7, d8, d9, d10, e1⟩ := out_lw hM hN hn (.val (sD M S)) (hT.okx h2) S [] .un .un .un .un .un .un .un .un (hS.okx h1) rfl rfl rfl rfl rfl rfl rfl rfl (by simp; omega)
  rw [List.nil_append] at e1
  have e0 : sOwn 2 (L3.eF (pN dLst [])) [.val (sD M S), .val (sD N T), .un, .un, .un, .un, .un, .un, .un, .un, .un, .un, .un] = some ([.val (sD M S), .val (sD N T), .own false (.lst []), .un, .un, .un, .un, .un, .un, .un, .un, .un, .un], .nx) := rfl
  have e1' : sFor (.tp [.nm 3, .nm 4, .nm 5]) (iP (pVar 0)) bOutL [.val (sD M S), .val (sD N T), .own false (.lst []), .un, .un, .un, .un, .un, .un, .un, .un, .un, .un] = some ([.val (sD M S), .val (sD N T), .own false (.lst ((prod S T).map (tmD (M * N)))), d3, d4, d5, d6, d7, d8, d9, d10, .un, .un], .nx) := by
    rw [ev_sFor]
    simp only [iP, ev_pVar, List.getElem?_cons_zero, seq_sD]
    exact e1
  have e2 : sFrzs [2] (sRet (eP (pCall F__law_made [pVar 2]))) [.val (sD M S), .val (sD N T), .own false (.lst ((prod S T).map (tmD (M * N)))), d3, d4, d5, d6, d7, d8, d9, d10, .un, .un] = some ([.val (sD M S), .val (sD N T), .val (.list ((prod S T).map (tmD (M * N)))), d3, d4, d5, d6, d7, d8, d9, d10, .un, .un], .rt (.val (sD (M * N) (mk (prod S T))))) := by
    show sRet _ [.val (sD M S), .val (sD N T), .val (.list ((prod S T).map (tmD (M * N)))), d3, d4, d5, d6, d7, d8, d9, d10, .un, .un] = _
    refine run_ret ?_
    simp [hm]
  exact run_fn (ρ0 := [.val (sD M S), .val (sD N T), .un, .un, .un, .un, .un, .un, .un, .un, .un, .un, .un]) rfl rfl (show g__law_product _ = _ from (run_seq e0).trans ((run_seq e1').trans e2)) rfl
end K09
/-! k09, the plain law: cos, sin, mirrors; values looked at. -/
namespace K09
open PySem PySem.Spec PyProof.Rows L2 L3
theorem lv1 : Lv 1 := ⟨by decide, by unfold S31; decide⟩
theorem lv2 : Lv 2 := ⟨by decide, by unfold S31; decide⟩
def cosT (r : List Int) (t : Int) : List Tm := [(r, t, 1), (rneg r, -t, 1)]
theorem cos_bd {r : List Int} {n : Nat} (h : r.length = n) (t : Int) : Bd n 2 2 (cosT r t) := by
  refine ⟨fun x hx => ?_, by simp [cosT, A1], by simp [cosT]⟩
  unfold cosT at hx
  rcases List.mem_cons.mp hx with rfl | hx
  · exact h
  · rw [List.mem_singleton.mp hx]
    show (rneg r).length = n
    unfold rneg
    rw [List.length_map]
    exact h
theorem half_D : (PyData.tuple [.int 1, .int 2]) = frD (nf 2 1) := rfl
theorem neg0 (r : List Int) : (r.map fun x => 0 - x) = rneg r := List.map_congr_left fun x _ => Int.zero_sub x
theorem cos_turns {r : List Int} (hl : r.length ≤ 100) (t : Int) : F_cos_turns [.val (rowD r), .val (frD (pt t))] = some ([.un, .un], .val (sD 2 (mk (cosT r t)))) := by
  have hm := terms_merged lv2 ((cos_bd (r := r) rfl t).sz (by decide) (by decide)) (X := .list ((cosT r t).map (tmD 2))) rfl
  rw [sD_mk] at hm
  have hr := row_comp (i := 2) (j := 0) (ρ := [.val (rowD r), .val (frD (pt t)), .un]) (e := p1 dNeg (pVar 2)) (f := fun x => -x) rfl rfl hl (by simp) fun x => by simp
  have hG : G_HALF = frD (nf 2 1) := rfl
  have hq : pN dLst [pN dTup [pVar 0, pVar 1, pC G_HALF], pN dTup [pN (l1 dTuple) [pComp [2] (.nm 2) (ipP (pVar 0)) (tYesP) (p1 dNeg (pVar 2))], pCall F_part_turned [pVar 1], pC G_HALF]] [.val (rowD r), .val (frD (pt t)), .un] = some (.list ((cosT r t).map (tmD 2))) := by
    have h2 : pN dTup [pN (l1 dTuple) [pComp [2] (.nm 2) (ipP (pVar 0)) (tYesP) (p1 dNeg (pVar 2))], pCall F_part_turned [pVar 1], pC G_HALF] [.val (rowD r), .val (frD (pt t)), .un] = some (tmD 2 (rneg r, -t, 1)) := by
      rw [ev_pN, ev_evs1, hr]
      simp [pt_turned, len24, tmD, hG, rneg]
    rw [ev_pN, ev_evs1, ev_evs1, h2]
    simp [len24, tmD, hG, cosT]
  have hf : pCall F_terms_merged [pN dLst [pN dTup [pVar 0, pVar 1, pC G_HALF], pN dTup [pN (l1 dTuple) [pComp [2] (.nm 2) (ipP (pVar 0)) (tYesP) (p1 dNeg (pVar 2))], pCall F_part_turned [pVar 1], pC G_HALF]]] [.val (rowD r), .val (frD (pt t)), .un] = some (sD 2 (mk (cosT r t))) := by
    rw [ev_pCall, ev_evs1, hq]
    simp [hm]
  exact run_fn (ρ0 := [.val (rowD r), .val (frD (pt t)), .un]) rfl rfl (show g_cos_turns _ = _ from run_ret hf) rfl
theorem law_cos {r : List Int} (hl : r.length ≤ 100) (t : Int) : F__law_cos [.val (rowD r), .val (frD (pt t))] = some ([.un, .un], .val (sD 2 (mk (cosT r t)))) := by
  have hm := law_made lv2 ((cos_bd (r := r) rfl t).sz (by decide) (by decide)) (X := .list ((cosT r t).map (tmD 2))) rfl
  rw [sD_mk] at hm
  have hr := row_comp (i := 2) (j := 0) (ρ := [.val (rowD r), .val (frD (pt t)), .un]) (e := p2 dSub (pC (.int 0)) (pVar 2)) (f := fun x => 0 - x) rfl rfl hl (by simp) fun x => by simp
  rw [neg0] at hr
  have hp := law_pt_turned t
  have hq : pN dLst [pN dTup [pVar 0, pVar 1, pN dTup [pC (.int 1), pC (.int 2)]], pN dTup [pN (l1 dTuple) [pComp [2] (.nm 2) (ipP (pVar 0)) (tYesP) (p2 dSub (pC (.int 0)) (pVar 2))], pCall F__law_part [p2 dSub (pC (.int 0)) (p2 dIx (pVar 1) (pC (.int 0))), p2 dIx (pVar 1) (pC (.int 1))], pN dTup [pC (.int 1), pC (.int 2)]]] [.val (rowD r), .val (frD (pt t)), .un] = some (.list ((cosT r t).map (tmD 2))) := by
    have h2 : pN dTup [pN (l1 dTuple) [pComp [2] (.nm 2) (ipP (pVar 0)) (tYesP) (p2 dSub (pC (.int 0)) (pVar 2))], pCall F__law_part [p2 dSub (pC (.int 0)) (p2 dIx (pVar 1) (pC (.int 0))), p2 dIx (pVar 1) (pC (.int 1))], pN dTup [pC (.int 1), pC (.int 2)]] [.val (rowD r), .val (frD (pt t)), .un] = some (tmD 2 (rneg r, -t, 1)) := by
      rw [ev_pN, ev_evs1, hr]
      rw [Int.zero_sub] at hp
      simp [hp, len24, tmD, half_D, pair_ix0, pair_ix1]
    rw [ev_pN, ev_evs1, ev_evs1, h2]
    simp [len24, tmD, half_D, cosT]
  have hf : pCall F__law_made [pN dLst [pN dTup [pVar 0, pVar 1, pN dTup [pC (.int 1), pC (.int 2)]], pN dTup [pN (l1 dTuple) [pComp [2] (.nm 2) (ipP (pVar 0)) (tYesP) (p2 dSub (pC (.int 0)) (pVar 2))], pCall F__law_part [p2 dSub (pC (.int 0)) (p2 dIx (pVar 1) (pC (.int 0))), p2 dIx (pVar 1) (pC (.int 1))], pN dTup [pC (.int 1), pC (.int 2)]]]] [.val (rowD r), .val (frD (pt t)), .un] = some (sD 2 (mk (cosT r t))) := by
    rw [ev_pCall, ev_evs1, hq]
    simp [hm]
  exact run_fn (ρ0 := [.val (rowD r), .val (frD (pt t)), .un]) rfl rfl (show g__law_cos _ = _ from run_ret hf) rfl
theorem q_D : (PyData.tuple [.int 3, .int 4]) = frD (pt 1890) := rfl
theorem sin_turns {r : List Int} (hl : r.length ≤ 100) (t : Int) : F_sin_turns [.val (rowD r), .val (frD (pt t))] = some ([.un, .un], .val (sD 2 (mk (cosT r (t + 1890))))) := by
  have h1 := pt_sum t 1890
  have h2 := cos_turns hl (t + 1890)
  unfold F_sin_turns g_sin_turns
  simp [len24, q_D, h1, h2]
theorem law_sin {r : List Int} (hl : r.length ≤ 100) (t : Int) : F__law_sin [.val (rowD r), .val (frD (pt t))] = some ([.un, .un], .val (sD 2 (mk (cosT r (t + 1890))))) := by
  obtain ⟨⟨w1, w2⟩, h1, h2⟩ := law_pt t 1890
  have h3 := law_cos hl (t + 1890)
  have h2' : F__law_part [.val (.int w1), .val (.int w2)] = some ([.un, .un], .val (frD (pt (t + 1890)))) := h2
  have hw : frD (w1, w2) = .tuple [.int w1, .int w2] := rfl
  unfold F__law_sin g__law_sin
  simp [len24, q_D, h1, h2', h3, hw]
theorem mirrored_sum {M : Int} (hM : Lv M) {n A L : Nat} {S : List Tm} (hn : n ≤ 100) (hS : Bd n A L S) (hA : A < 2147483648) (hL : L < 16777216) :
    F_mirrored_sum [.val (sD M S)] = some ([.un], .val (sD M (mk (mir S)))) := by
  have hm := terms_merged hM (hS.mir.sz hA hL) (X := .list ((mir S).map (tmD M))) rfl
  rw [sD_mk] at hm
  have hcp := pCompG (vs := [1, 2, 3]) (p := .tp [.nm 1, .nm 2, .nm 3]) (a := ipP (pVar 0)) (t := tYesP) (e := pN dTup [pN (l1 dTuple) [pComp [4] (.nm 4) (ipP (pVar 1)) (tYesP) (p1 dNeg (pVar 4))], pCall F_part_turned [pVar 2], pVar 3]) (ρ := [.val (sD M S), .un, .un, .un, .un])
    (f := tmD M) (g := fun x => tmD M (rneg x.1, -x.2.1, x.2.2)) (xs := S) rfl rfl (by have := hS.len; omega) fun x hx => ⟨[.val (sD M S), .val (rowD x.1), .val (frD (pt x.2.1)), .val (frD (nf M x.2.2)), .un], bind_three (by decide) (by decide) (by decide) rfl rfl rfl rfl rfl rfl, rfl, by
      have hr := row_comp (i := 4) (j := 1) (ρ := [.val (sD M S), .val (rowD x.1), .val (frD (pt x.2.1)), .val (frD (nf M x.2.2)), .un]) (e := p1 dNeg (pVar 4)) (f := fun x => -x) rfl rfl (by rw [hS.row x hx]; exact hn) (by simp) fun x => by simp
      rw [ev_pN, ev_evs1, hr]
      simp [pt_turned, len24, tmD, rneg]⟩
  have hf : pCall F_terms_merged [pComp [1, 2, 3] (.tp [.nm 1, .nm 2, .nm 3]) (ipP (pVar 0)) (tYesP) (pN dTup [pN (l1 dTuple) [pComp [4] (.nm 4) (ipP (pVar 1)) (tYesP) (p1 dNeg (pVar 4))], pCall F_part_turned [pVar 2], pVar 3])] [.val (sD M S), .un, .un, .un, .un] = some (sD M (mk (mir S))) := by
    have e : (mir S).map (tmD M) = S.map fun x => tmD M (rneg x.1, -x.2.1, x.2.2) := by unfold mir; rw [List.map_map]; rfl
    rw [e] at hm
    rw [ev_pCall, ev_evs1, hcp]
    simp [hm]
  exact run_fn (ρ0 := [.val (sD M S), .un, .un, .un, .un]) rfl rfl (show g_mirrored_sum _ = _ from run_ret hf) rfl
theorem bind_four {a b c d : D} {X0 X5 : Cell} : bind (.tp [.nm 1, .tp [.nm 3, .nm 4], .nm 2]) (.tuple [a, .tuple [b, c], d]) [X0, .un, .un, .un, .un, X5] = some [X0, .val a, .val d, .val b, .val c, X5] := rfl
theorem law_mirrored {M : Int} (hM : Lv M) {n A L : Nat} {S : List Tm} (hn : n ≤ 100) (hS : Bd n A L S) (hA : A < 2147483648) (hL : L < 16777216) :
    F__law_mirrored [.val (sD M S)] = some ([.un], .val (sD M (mk (mir S)))) := by
  have hm := law_made hM (hS.mir.sz hA hL) (X := .list ((mir S).map (tmD M))) rfl
  rw [sD_mk] at hm
  have hcp := pCompG (vs := [1, 2, 3, 4]) (p := .tp [.nm 1, .tp [.nm 3, .nm 4], .nm 2]) (a := ipP (pVar 0)) (t := tYesP) (e := pN dTup [pN (l1 dTuple) [pComp [5] (.nm 5) (ipP (pVar 1)) (tYesP) (p2 dSub (pC (.int 0)) (pVar 5))], pCall F__law_part [p2 dSub (pC (.int 0)) (pVar 3), pVar 4], pVar 2]) (ρ := [.val (sD M S), .un, .un, .un, .un, .un])
    (f := tmD M) (g := fun x => tmD M (rneg x.1, -x.2.1, x.2.2)) (xs := S) rfl rfl (by have := hS.len; omega) fun x hx => ⟨[.val (sD M S), .val (rowD x.1), .val (frD (nf M x.2.2)), .val (.int (pt x.2.1).1), .val (.int (pt x.2.1).2), .un], bind_four, rfl, by
      have hr := row_comp (i := 5) (j := 1) (ρ := [.val (sD M S), .val (rowD x.1), .val (frD (nf M x.2.2)), .val (.int (pt x.2.1).1), .val (.int (pt x.2.1).2), .un]) (e := p2 dSub (pC (.int 0)) (pVar 5)) (f := fun x => 0 - x) rfl rfl (by rw [hS.row x hx]; exact hn) (by simp) fun x => by simp
      rw [neg0] at hr
      have hp := law_pt_turned x.2.1
      rw [Int.zero_sub] at hp
      rw [ev_pN, ev_evs1, hr]
      simp [hp, len24, tmD]⟩
  have hf : pCall F__law_made [pComp [1, 2, 3, 4] (.tp [.nm 1, .tp [.nm 3, .nm 4], .nm 2]) (ipP (pVar 0)) (tYesP) (pN dTup [pN (l1 dTuple) [pComp [5] (.nm 5) (ipP (pVar 1)) (tYesP) (p2 dSub (pC (.int 0)) (pVar 5))], pCall F__law_part [p2 dSub (pC (.int 0)) (pVar 3), pVar 4], pVar 2])] [.val (sD M S), .un, .un, .un, .un, .un] = some (sD M (mk (mir S))) := by
    have e : (mir S).map (tmD M) = S.map fun x => tmD M (rneg x.1, -x.2.1, x.2.2) := by unfold mir; rw [List.map_map]; rfl
    rw [e] at hm
    rw [ev_pCall, ev_evs1, hcp]
    simp [hm]
  exact run_fn (ρ0 := [.val (sD M S), .un, .un, .un, .un, .un]) rfl rfl (show g__law_mirrored _ = _ from run_ret hf) rfl
theorem one_bd {r : List Int} {n : Nat} (h : r.length = n) (t a : Int) : Bd n a.natAbs 1 [(r, t, a)] := by
  refine ⟨fun x hx => ?_, by simp [A1], by simp⟩
  rw [List.mem_singleton.mp hx]
  exact h
theorem turn_sum {M : Int} (hM : Lv M) {r : List Int} {t a : Int} (ha : S31 a) : F_turn_sum [.val (rowD r), .val (frD (pt t)), .val (frD (nf M a))] = some ([.un, .un, .un], .val (sD M (mk [(r, t, a)]))) := by
  have hm := terms_merged hM ((one_bd (r := r) rfl t a).sz ha (by decide)) (X := .list ([(r, t, a)].map (tmD M))) rfl
  rw [sD_mk] at hm
  simp only [List.map_cons, List.map_nil] at hm
  have e : tmD M (r, t, a) = .tuple [rowD r, frD (pt t), frD (nf M a)] := rfl
  rw [e] at hm
  unfold F_turn_sum g_turn_sum
  simp [len24, hm]
def zeros (n : Nat) : List Int := List.replicate n 0
theorem zeros_D (n : Nat) (hn : n ≤ 100) : dRepT (.tuple [.int 0]) (.int (n : Int)) = some (rowD (zeros n)) := by
  have h : (!([PyData.int 0] : List D).isEmpty && decide ((n : Int) ≤ 1000) && decide (-1000 ≤ (n : Int)) && decide (([PyData.int 0] : List D).length ≤ 1000)) = true := by
    simp only [Bool.and_eq_true, decide_eq_true_eq]
    exact ⟨⟨⟨rfl, by omega⟩, by omega⟩, by decide⟩
  show (if (!([PyData.int 0] : List D).isEmpty && decide ((n : Int) ≤ 1000) && decide (-1000 ≤ (n : Int)) && decide (([PyData.int 0] : List D).length ≤ 1000)) = true then some (PyData.tuple (List.replicate (n : Int).toNat [PyData.int 0]).flatten) else none) = _
  rw [if_pos h, Int.toNat_natCast]
  unfold rowD zeros
  simp
theorem none_D : G_NO_PART = frD (pt 0) := rfl
theorem told_turns {M : Int} (hM : Lv M) {n : Nat} (hn : n ≤ 100) {a : Int} (ha : S31 a) : F_told_turns [.val (.int (n : Int)), .val (frD (nf M a))] = some ([.un, .un], .val (sD M (mk [(zeros n, 0, a)]))) := by
  have h := turn_sum hM (r := zeros n) (t := 0) ha
  have hz := zeros_D n hn
  unfold F_told_turns g_told_turns
  simp [len24, hz, none_D, h]
/-! ### values looked at -/
mutual
/-- whole numbers and what holds them -/
def pI : D → Bool
  | .int i => decide (i.natAbs < 2147483648)
  | .list xs => pIs xs
  | .tuple xs => pIs xs
  | _ => false
def pIs : List D → Bool
  | [] => true
  | x :: r => pI x && pIs r
end
mutual
theorem pI_eqv : ∀ a b : D, pI a = true → pI b = true → PyData.eqv a b = decide (a = b)
  | .int i, .int j, _, _ => by rw [PyData.eqv]; by_cases h : i = j <;> simp [h]
  | .int i, .list ys, _, _ => by simp [PyData.eqv]
  | .int i, .tuple ys, _, _ => by simp [PyData.eqv]
  | .list xs, .int j, _, _ => by simp [PyData.eqv]
  | .list xs, .tuple ys, _, _ => by simp [PyData.eqv]
  | .tuple xs, .int j, _, _ => by simp [PyData.eqv]
  | .tuple xs, .list ys, _, _ => by simp [PyData.eqv]
  | .list xs, .list ys, h, k => by
    rw [PyData.eqv, pIs_eqv xs ys (by simpa [pI] using h) (by simpa [pI] using k)]
    simp
  | .tuple xs, .tuple ys, h, k => by
    rw [PyData.eqv, pIs_eqv xs ys (by simpa [pI] using h) (by simpa [pI] using k)]
    simp
  | .none, _, h, _ => by cases h
  | .bool _, _, h, _ => by cases h
  | .str _, _, h, _ => by cases h
  | .dict _, _, h, _ => by cases h
  | .int _, .none, _, h => by cases h
  | .int _, .bool _, _, h => by cases h
  | .int _, .str _, _, h => by cases h
  | .int _, .dict _, _, h => by cases h
  | .list _, .none, _, h => by cases h
  | .list _, .bool _, _, h => by cases h
  | .list _, .str _, _, h => by cases h
  | .list _, .dict _, _, h => by cases h
  | .tuple _, .none, _, h => by cases h
  | .tuple _, .bool _, _, h => by cases h
  | .tuple _, .str _, _, h => by cases h
  | .tuple _, .dict _, _, h => by cases h
theorem pIs_eqv : ∀ a b : List D, pIs a = true → pIs b = true → PyData.eqvAll a b = decide (a = b)
  | [], [], _, _ => by simp [PyData.eqvAll]
  | [], _ :: _, _, _ => by simp [PyData.eqvAll]
  | _ :: _, [], _, _ => by simp [PyData.eqvAll]
  | x :: xs, y :: ys, h, k => by
    rw [pIs, Bool.and_eq_true] at h k
    rw [PyData.eqvAll, pI_eqv x y h.1 k.1, pIs_eqv xs ys h.2 k.2]
    by_cases h1 : x = y <;> by_cases h2 : xs = ys <;> simp [h1, h2]
end
theorem log2_1920 {a : Nat} (h : a < 2147483648) : a.log2 < 1920 := by
  by_cases ha : a = 0
  · subst ha; decide
  · have := (Nat.log2_lt ha).mpr (show a < 2 ^ 31 from h)
    omega
mutual
theorem pI_facts : ∀ a : D, pI a = true → a.plain = true ∧ a.showable = true ∧ a.hasDict = false
  | .int i, h => ⟨rfl, decide_eq_true (log2_1920 (of_decide_eq_true h)), rfl⟩
  | .list xs, h => pIs_facts xs (by simpa [pI] using h)
  | .tuple xs, h => pIs_facts xs (by simpa [pI] using h)
  | .none, h => by cases h
  | .bool _, h => by cases h
  | .str _, h => by cases h
  | .dict _, h => by cases h
theorem pIs_facts : ∀ xs : List D, pIs xs = true → PyData.plainAll xs = true ∧ PyData.showableAll xs = true ∧ PyData.hasDictAll xs = false
  | [], _ => ⟨rfl, rfl, rfl⟩
  | x :: r, h => by
    rw [pIs, Bool.and_eq_true] at h
    obtain ⟨a1, a2, a3⟩ := pI_facts x h.1
    obtain ⟨b1, b2, b3⟩ := pIs_facts r h.2
    exact ⟨by rw [PyData.plainAll, a1, b1]; rfl, by rw [PyData.showableAll, a2, b2]; rfl, by rw [PyData.hasDictAll, a3, b3]; rfl⟩
end
theorem pIs_of {xs : List D} (h : ∀ x ∈ xs, pI x = true) : pIs xs = true := by
  induction xs with
  | nil => rfl
  | cons x r ih => rw [pIs, h x (List.mem_cons_self ..), ih fun y hy => h y (List.mem_cons_of_mem _ hy)]; rfl
/-- a value that can be looked at -/
structure Gd (w : Nat) (d : D) : Prop where
  p : pI d = true
  dp : d.depth ≤ 20
  wt : L3.wt d ≤ w
theorem Gd.ok {w : Nat} {d : D} (h : Gd w d) : okD d = true := by
  unfold okD
  rw [(pI_facts d h.p).1]
  have := h.dp
  simp; omega
theorem Gd.eq {w v : Nat} {a b : D} (h : Gd w a) (k : Gd v b) : dEq a b = some (.bool (decide (a = b))) := by
  unfold dEq
  rw [h.ok, k.ok, pI_eqv a b h.p k.p]
  rfl
theorem Gd.ne {w v : Nat} {a b : D} (h : Gd w a) (k : Gd v b) : dNe a b = some (.bool (!decide (a = b))) := by
  unfold dNe
  rw [h.ok, k.ok, pI_eqv a b h.p k.p]
  rfl
theorem Gd.told {w : Nat} {d : D} (h : Gd w d) (hw : w ≤ 16777216) : Told d := by
  obtain ⟨_, h1, h2⟩ := pI_facts d h.p
  exact told_of h1 (Nat.le_trans h.dp (by decide)) (.inl h2) (Nat.le_trans h.wt hw)
theorem Gd.mono {w v : Nat} {d : D} (h : Gd w d) (hw : w ≤ v) : Gd v d := ⟨h.p, h.dp, Nat.le_trans h.wt hw⟩
theorem pI_fr {x : Int × Int} (h1 : S31 x.1) (h2 : S31 x.2) : pI (frD x) = true := by
  unfold frD pI pIs
  simp only [pIs, pI, Bool.and_eq_true, decide_eq_true_eq]
  exact ⟨h1, h2, trivial⟩
theorem pI_row {r : List Int} (h : ∀ x ∈ r, S31 x) : pI (rowD r) = true := by
  unfold rowD pI
  refine pIs_of fun x hx => ?_
  obtain ⟨y, hy, rfl⟩ := List.mem_map.mp hx
  exact decide_eq_true (h y hy)
theorem wt_row {r : List Int} : wt (rowD r) ≤ r.length * 1923 + 3 := by
  have := wts_le (n := 1921) (xs := r.map PyData.int) fun x hx => by
    obtain ⟨y, _, rfl⟩ := List.mem_map.mp hx
    exact Nat.le_refl _
  rw [List.length_map] at this
  show wts (r.map PyData.int) + 3 ≤ _
  omega
/-- rows of small numbers -/
def Rs (b : Nat) (S : List Tm) : Prop := ∀ x ∈ S, ∀ i ∈ x.1, i.natAbs ≤ b
theorem gd_tm {M : Int} (hM : Lv M) {n b : Nat} {x : Tm} (hn : n ≤ 4) (hb : b < 2147483648) (h1 : x.1.length = n) (h2 : S31 x.2.2) (h3 : ∀ i ∈ x.1, i.natAbs ≤ b) : pI (tmD M x) = true ∧ (tmD M x).depth ≤ 2 ∧ wt (tmD M x) ≤ 16000 := by
  obtain ⟨a1, a2, _⟩ := pt_small x.2.1
  obtain ⟨c1, c2⟩ := nf_small hM h2
  refine ⟨?_, ?_, ?_⟩
  · unfold tmD
    simp only [pI, pIs, Bool.and_eq_true, Bool.and_true]
    exact ⟨pI_row fun i hi => Nat.lt_of_le_of_lt (h3 i hi) hb, pI_fr a1 a2, pI_fr c1 c2⟩
  · unfold tmD
    have e1 : PyData.depth (frD (pt x.2.1)) = 1 := rfl
    have e2 : PyData.depth (frD (nf M x.2.2)) = 1 := rfl
    simp [PyData.depth, PyData.depthAll, depth_row, e1, e2]
  · have hr := wt_row (r := x.1)
    have e1 : wt (frD (pt x.2.1)) = 3849 := rfl
    have e2 : wt (frD (nf M x.2.2)) = 3849 := rfl
    have e3 : wt (tmD M x) = (wt (rowD x.1) + 2 + (wt (frD (pt x.2.1)) + 2 + (wt (frD (nf M x.2.2)) + 2 + 0))) + 3 := rfl
    rw [h1] at hr
    have : n * 1923 ≤ 4 * 1923 := Nat.mul_le_mul_right _ hn
    omega
theorem gd_sD {M : Int} (hM : Lv M) {n A L b : Nat} {S : List Tm} (hn : n ≤ 4) (hb : b < 2147483648) (hS : Bd n A L S) (hR : Rs b S) (hA : A < 2147483648) : Gd (L * 16002 + 3) (sD M S) := by
  have hx : ∀ x ∈ S.map (tmD M), pI x = true ∧ x.depth ≤ 2 ∧ wt x ≤ 16000 := fun x hx => by
    obtain ⟨y, hy, rfl⟩ := List.mem_map.mp hx
    exact gd_tm hM hn hb (hS.row y hy) (hS.s31 hA y hy) (hR y hy)
  refine ⟨?_, ?_, ?_⟩
  · unfold sD pI
    exact pIs_of fun x h => (hx x h).1
  · have := depthAll_le (n := 2) fun x h => (hx x h).2.1
    show PyData.depthAll _ + 1 ≤ 20
    omega
  · have := wts_le (n := 16000) fun x h => (hx x h).2.2
    rw [List.length_map] at this
    have h2 : S.length * (16000 + 2) ≤ L * 16002 := Nat.mul_le_mul_right _ hS.len
    show wts _ + 3 ≤ _
    omega
theorem gd_list {w : Nat} {xs : List D} (h : ∀ x ∈ xs, Gd w x ∧ x.depth ≤ 10) : Gd (xs.length * (w + 2) + 2) (.list xs) := by
  refine ⟨?_, ?_, ?_⟩
  · unfold pI
    exact pIs_of fun x hx => (h x hx).1.p
  · have := depthAll_le (n := 10) fun x hx => (h x hx).2
    show PyData.depthAll _ + 1 ≤ 20
    omega
  · have := wts_le fun x hx => (h x hx).1.wt
    show wts xs + 2 ≤ _
    omega
end K09
/-! k09, the plain law: drawing. -/
namespace K09
open PySem PySem.Spec PyProof.Rows L2 L3
abbrev tL : T := tV (p2 dLt (pSrc 0 "left") (pC (.int 2)))
theorem loop_pick (m : Int) : ∀ (n : Nat) (s : Src), s.cells.length = n → ∃ s', sWhile (tLeft 0 tL) (sSrcPop 0 "left") [.own true (.src s), .val (.int m), .un, .un, .un, .un] = some ([.own true (.src s'), .val (.int m), .un, .un, .un, .un], .nx) := by
  intro n
  induction n with
  | zero =>
    intro s hs
    refine ⟨s, ?_⟩
    rw [sWhile_eq]
    by_cases h2 : s.left < 2
    · simp [tLeft, tL, h2, hs]
    · simp [tLeft, tL, h2]
  | succ n ih =>
    intro s hs
    rw [sWhile_eq]
    by_cases h2 : s.left < 2
    · cases hg : s.cells.getLast? with
      | none => rw [List.getLast?_eq_none_iff] at hg; rw [hg] at hs; cases hs
      | some x =>
        obtain ⟨s', e⟩ := ih { s with cells := s.cells.dropLast, left := x } (by simp [hs])
        have hp : (0 : Int) < (n : Int) + 1 := by omega
        refine ⟨s', ?_⟩
        simp [tLeft, tL, h2, hs, hg, hp]
        exact e
    · exact ⟨s, by simp [tLeft, tL, h2]⟩
theorem pick (s : Src) (m : Int) (hm : m.natAbs.log2 < 9000) : ∃ s' r, F__law_pick [.own true (.src s), .val (.int m)] = some ([.own true (.src s'), .un], .val (.int r)) ∧ 0 ≤ r ∧ (r < m ∨ r = 0) := by
  unfold F__law_pick g__law_pick
  by_cases hm2 : m < 2
  · exact ⟨s, 0, by simp [hm2], by omega, .inr rfl⟩
  · obtain ⟨s1, e1⟩ := loop_pick m _ s rfl
    have ea : sAl 0 2 (tV (p2 dLt (pSrc 0 "left") (pC (.int 2)))) [.own true (.src s), .val (.int m), .un, .un, .un, .un] = some ([.own true (.src s1), .val (.int m), .un, .un, .un, .un], .nx) := by
      unfold sAl
      simp only [List.getElem?_cons_zero]
      exact e1
    have d1 : divOk m = true := divOk_of (by omega) hm
    have hmne : m ≠ 0 := by omega
    by_cases hl : 1 < s1.left
    · refine ⟨{ s1 with left := s1.left.fdiv m }, s1.left % m, by simp [ea, hm2, hl, d1, hmne, fmod_pos (show 0 < m by omega)], Int.emod_nonneg _ hmne, .inl (Int.emod_lt_of_pos _ (by omega))⟩
    · have mo : ∀ x : Int, mulOk x 104729 = true := fun x => mulOk31' (by unfold S31; decide)
      have mo2 : ∀ x : Int, mulOk x 17 = true := fun x => mulOk31' (by unfold S31; decide)
      have hb : ∀ x : Int, S31 (x % 998244353) := fun x => by unfold S31; have := Int.emod_nonneg x (b := 998244353) (by decide); have := Int.emod_lt_of_pos x (b := 998244353) (by decide); omega
      have d16 : divOk 16 = true := by decide
      have f1 : ∀ x : Int, x.fmod 998244353 = x % 998244353 := fun x => fmod_pos (by decide)
      have f2 : ∀ x : Int, x.fmod 2147483647 = x % 2147483647 := fun x => fmod_pos (by decide)
      have mm : ∀ x : Int, mulOk (x % 998244353) (x % 998244353) = true := fun x => mulOk31 (hb x)
      refine ⟨_, _, by simp [ea, hm2, hl, mo, mo2, f1, f2, mm, d16, hmne, fmod_pos (show 0 < m by omega)]; exact ⟨rfl, rfl⟩, Int.emod_nonneg _ hmne, .inl (Int.emod_lt_of_pos _ (by omega))⟩
theorem pickL (s : Src) (n : Nat) (h0 : 0 < n) (hn : n < 1000000) : ∃ s' r, F__law_pick [.own true (.src s), .val (.int n)] = some ([.own true (.src s'), .un], .val (.int (r : Nat))) ∧ r < n := by
  obtain ⟨s', r, e, h1, h2⟩ := pick s n (by rw [Int.natAbs_natCast]; exact log2_64 (by omega))
  obtain ⟨k, rfl⟩ := Int.eq_ofNat_of_zero_le h1
  exact ⟨s', k, e, by omega⟩
theorem law_of (s : Src) (xs : List D) (h0 : xs ≠ []) (hn : xs.length < 1000000) : ∃ s' x, F__law_of [.own true (.src s), .val (.list xs)] = some ([.own true (.src s'), .un], .val x) ∧ x ∈ xs := by
  obtain ⟨s', r, e, hr⟩ := pickL s xs.length (List.length_pos_iff.mpr h0) hn
  refine ⟨s', xs[r], ?_, List.getElem_mem hr⟩
  unfold F__law_of g__law_of
  simp [e, hr]
theorem drawn_part (s : Src) : ∃ s' t, F__law_drawn_part [.own true (.src s)] = some ([.own true (.src s')], .val (frD (pt t))) := by
  obtain ⟨s1, x, e1, hx⟩ := law_of s [.int 1, .int 2, .int 3, .int 4, .int 5, .int 6, .int 8, .int 9, .int 12, .int 24, .int 7] (by simp) (by decide)
  have h : ∃ q k : Int, x = .int q ∧ 0 < q ∧ q < 100 ∧ q * k = 2520 := by
    simp only [List.mem_cons, List.not_mem_nil, or_false] at hx
    rcases hx with rfl | rfl | rfl | rfl | rfl | rfl | rfl | rfl | rfl | rfl | rfl
    · exact ⟨1, 2520, rfl, by decide, by decide, by decide⟩
    · exact ⟨2, 1260, rfl, by decide, by decide, by decide⟩
    · exact ⟨3, 840, rfl, by decide, by decide, by decide⟩
    · exact ⟨4, 630, rfl, by decide, by decide, by decide⟩
    · exact ⟨5, 504, rfl, by decide, by decide, by decide⟩
    · exact ⟨6, 420, rfl, by decide, by decide, by decide⟩
    · exact ⟨8, 315, rfl, by decide, by decide, by decide⟩
    · exact ⟨9, 280, rfl, by decide, by decide, by decide⟩
    · exact ⟨12, 210, rfl, by decide, by decide, by decide⟩
    · exact ⟨24, 105, rfl, by decide, by decide, by decide⟩
    · exact ⟨7, 360, rfl, by decide, by decide, by decide⟩
  obtain ⟨q, k, rfl, h1, h2, h3⟩ := h
  have hl : q.natAbs.log2 < 9000 := log2_64 (by omega)
  obtain ⟨s2, r, e2, _, _⟩ := pick s1 q hl
  have e3 := law_part r q h1 hl
  rw [pt_of h1 h3] at e3
  refine ⟨s2, r * k, ?_⟩
  unfold F__law_drawn_part g__law_drawn_part
  simp [len24, e1, e2, e3]
theorem drawn_fraction (s : Src) : ∃ s' a, F__law_drawn_fraction [.own true (.src s)] = some ([.own true (.src s')], .val (frD (nf 6 a))) ∧ a ≠ 0 ∧ a.natAbs ≤ 30 := by
  obtain ⟨s1, x, e1, hx⟩ := law_of s [.int 1, .int (-1), .int 2, .int (-2), .int 3, .int (-5)] (by simp) (by decide)
  obtain ⟨s2, y, e2, hy⟩ := law_of s1 [.int 1, .int 1, .int 2, .int 3] (by simp) (by decide)
  have h : ∃ p : Int, x = .int p ∧ p ≠ 0 ∧ p.natAbs ≤ 5 := by
    simp only [List.mem_cons, List.not_mem_nil, or_false] at hx
    rcases hx with rfl | rfl | rfl | rfl | rfl | rfl <;> exact ⟨_, rfl, by decide, by decide⟩
  have k : ∃ q j : Int, y = .int q ∧ 0 < q ∧ q < 100 ∧ q * j = 6 ∧ 0 < j ∧ j ≤ 6 := by
    simp only [List.mem_cons, List.not_mem_nil, or_false] at hy
    rcases hy with rfl | rfl | rfl | rfl
    · exact ⟨1, 6, rfl, by decide, by decide, by decide, by decide, by decide⟩
    · exact ⟨1, 6, rfl, by decide, by decide, by decide, by decide, by decide⟩
    · exact ⟨2, 3, rfl, by decide, by decide, by decide, by decide, by decide⟩
    · exact ⟨3, 2, rfl, by decide, by decide, by decide, by decide, by decide⟩
  obtain ⟨p, rfl, p1, p2⟩ := h
  obtain ⟨q, j, rfl, q1, q2, q3, q4, q5⟩ := k
  have e3 := law_low p q q1 (log2_64 (by omega))
  have e4 : norm p q = nf 6 (p * j) := by
    unfold nf
    refine norm_cross q1 (by decide) ?_
    rw [← q3, Int.mul_assoc, Int.mul_comm j q]
  rw [e4] at e3
  refine ⟨s2, p * j, ?_, Int.mul_ne_zero p1 (by omega), ?_⟩
  · unfold F__law_drawn_fraction g__law_drawn_fraction
    simp [len24, e1, e2, e3]
  · rw [Int.natAbs_mul]
    have : p.natAbs * j.natAbs ≤ 5 * 6 := Nat.mul_le_mul p2 (by omega)
    omega
/-- a comprehension that draws so often -/
theorem comp_draw {vs : List Nat} {v : Nat} {e : E} {Q : D → Prop} (mkρ : Src → Cell → L3.Env) (hb : ∀ s c x, isOwn c = false → bind (.nm v) x (mkρ s c) = some (mkρ s (.val x)))
    (he : ∀ s x, ∃ s' d, e (mkρ s (.val x)) = some (mkρ s' (.val x), .val d) ∧ Q d) (hw : ∀ s c, wipeE vs (mkρ s c) = mkρ s .un) : ∀ (xs : List D) (s : Src), ∃ s' ds, compL vs (.nm v) tYesE e xs (mkρ s .un) = some (mkρ s' .un, ds) ∧ ds.length = xs.length ∧ ∀ d ∈ ds, Q d
  | [], s => ⟨s, [], rfl, rfl, fun _ h => by cases h⟩
  | x :: xs, s => by
    obtain ⟨s1, d, e1, q1⟩ := he s x
    obtain ⟨s2, ds, e2, hl, q2⟩ := comp_draw mkρ hb he hw xs s1
    refine ⟨s2, d :: ds, ?_, by rw [List.length_cons, List.length_cons, hl], fun y hy => ?_⟩
    · rw [compL, hb s .un x rfl]
      dsimp only
      rw [ev_tYesE]
      dsimp only
      rw [e1]
      dsimp only
      rw [ev_toD_val]
      dsimp only
      rw [hw, e2]
    · rcases List.mem_cons.mp hy with rfl | hy
      · exact q1
      · exact q2 y hy
theorem r62_nat {n : Nat} (h : n < 65536) : r62 (n : Int) = true := decide_eq_true (by
  rw [Int.natAbs_natCast]
  by_cases h0 : n = 0
  · subst h0; decide
  · have := (Nat.log2_lt h0).mpr (show n < 2 ^ 16 from h)
    omega)
theorem iR_nat {a b : P} {ρ : L3.Env} {n : Nat} (ha : a ρ = some (.int 0)) (hb : b ρ = some (.int (n : Int))) (h : n < 65536) : iR a b ρ = some (ρ, rangeD 0 (n : Int)) := by
  unfold iR
  rw [ha, hb]
  show (if (r62 0 && r62 (n : Int)) = true then some (ρ, rangeD 0 (n : Int)) else none) = _
  rw [r62_nat h]
  rfl
theorem range_len (n : Nat) : (rangeD 0 (n : Int)).length = n := by
  unfold rangeD
  rw [List.length_map, List.length_range]
  omega
theorem ints_of {P : Int → Prop} : ∀ {ds : List D}, (∀ d ∈ ds, ∃ i, d = .int i ∧ P i) → ∃ r : List Int, ds = r.map .int ∧ r.length = ds.length ∧ ∀ i ∈ r, P i
  | [], _ => ⟨[], rfl, rfl, fun _ h => by cases h⟩
  | d :: ds, h => by
    obtain ⟨i, rfl, pi⟩ := h d (List.mem_cons_self ..)
    obtain ⟨r, rfl, hl, hr⟩ := ints_of (ds := ds) fun e he => h e (List.mem_cons_of_mem _ he)
    refine ⟨i :: r, rfl, by rw [List.length_cons, List.length_cons, List.length_map], fun j hj => ?_⟩
    rcases List.mem_cons.mp hj with rfl | hj
    · exact pi
    · exact hr j hj
theorem drawn_row (s : Src) (n : Nat) (hn : n ≤ 100) : ∃ s' r, F__law_drawn_row [.own true (.src s), .val (.int (n : Int))] = some ([.own true (.src s'), .un], .val (rowD r)) ∧ r.length = n ∧ ∀ i ∈ r, i.natAbs ≤ 2 := by
  obtain ⟨s', ds, e1, hl, hq⟩ := comp_draw (vs := [2]) (v := 2) (e := e2 .c dSub (eCallR F__law_pick 0 [eP (pC (.int 5))]) (eP (pC (.int 2)))) (Q := fun d => ∃ i : Int, d = .int i ∧ i.natAbs ≤ 2)
    (fun s c => [.own true (.src s), .val (.int (n : Int)), c]) (fun s c x hc => by rw [ev_bind0]; exact put_no (c := c) rfl hc)
    (fun s x => by
      obtain ⟨s', r, e, h1, h2⟩ := pick s 5 (by decide)
      exact ⟨s', .int (r - 2), by simp [e], r - 2, rfl, by omega⟩) (fun s c => rfl) (rangeD 0 (n : Int)) s
  rw [range_len] at hl
  obtain ⟨r, rfl, hr, hi⟩ := ints_of hq
  refine ⟨s', r, ?_, hr.trans hl, hi⟩
  have hc : eComp [2] (.nm 2) (iR (pC (.int 0)) (pVar 1)) tYesE (e2 .c dSub (eCallR F__law_pick 0 [eP (pC (.int 5))]) (eP (pC (.int 2)))) [.own true (.src s), .val (.int (n : Int)), .un] = some ([.own true (.src s'), .val (.int (n : Int)), .un], .own false (.lst (r.map .int))) := by
    have hir := iR_nat (a := pC (.int 0)) (b := pVar 1) (ρ := [.own true (.src s), .val (.int (n : Int)), .un]) (n := n) rfl rfl (by omega)
    unfold eComp
    rw [hir]
    dsimp only
    have hlen : len24 (rangeD 0 (n : Int)).length = true := by rw [range_len]; exact decide_eq_true (by omega)
    rw [hlen]
    show (if (true && true) = true then (match compL [2] (.nm 2) tYesE _ (rangeD 0 (n : Int)) [.own true (.src s), .val (.int (n : Int)), .un] with | some (ρ', ys) => some (restore [2] [.own true (.src s), .val (.int (n : Int)), .un] ρ', Cell.own false (.lst ys)) | none => none) else none) = _
    rw [e1]
    rfl
  unfold F__law_drawn_row g__law_drawn_row
  simp only [ev_mkFn, ev_sRet, ev_eN, ev_eevs1, ev_eevs0, List.length_cons, List.length_nil, List.cons_append, List.nil_append, List.replicate]
  rw [hc]
  simp [rowD]
end K09
/-! k09, the plain law: drawing of terms. -/
namespace K09
open PySem PySem.Spec PyProof.Rows L2 L3
theorem source_loop (sc : List Int) : ∀ (ns : List Int) (m : Int) (c : Cell), isOwn c = false → ∃ m' c', isOwn c' = false ∧
    forL (.nm 2) (sVal 1 (eP (p2 dMod (pN (l1 dInt) [p2 dAdd (p2 dAdd (p2 dMul (pVar 1) (pC (.int 69069))) (p2 dMul (pVar 2) (pC (.int 31)))) (pC (.int 5))]) (pC (.int 2147483629))))) (ns.map .int) [.scr sc, .val (.int m), c, .un] = some ([.scr sc, .val (.int m'), c', .un], .nx) := by
  intro ns
  induction ns with
  | nil => intro m c hc; exact ⟨m, c, hc, rfl⟩
  | cons n r ih =>
    intro m c hc
    have m1 : mulOk m 69069 = true := mulOk31' (by unfold S31; decide)
    have m2 : mulOk n 31 = true := mulOk31' (by unfold S31; decide)
    obtain ⟨m', c', h1, h2⟩ := ih ((m * 69069 + n * 31 + 5).fmod 2147483629) (.val (.int n)) rfl
    refine ⟨m', c', h1, ?_⟩
    rw [List.map_cons, forL]
    cases c with
    | own fx o => cases hc
    | un => simp [m1, m2]; exact h2
    | scr x => simp [m1, m2]; exact h2
    | val x => simp [m1, m2]; exact h2
theorem comp_abs (ρ : L3.Env) (hρ : 2 < ρ.length) : ∀ (ns : List Int) (hc : ∀ o, ρ[2]? ≠ some (Cell.own true o)), compP (.nm 2) tYesP (pN (l1 dAbs) [pVar 2]) ρ (ns.map .int) = some ((ns.map fun n => (if n < 0 then -n else n)).map .int) := by
  intro ns hc
  induction ns with
  | nil => rfl
  | cons n r ih =>
    rw [List.map_cons, compP]
    have hb : bind (.nm 2) (.int n) ρ = some (ρ.set 2 (.val (.int n))) := by
      rw [ev_bind0]
      unfold put
      cases e : ρ[2]? with
      | none => rw [List.getElem?_eq_none_iff] at e; omega
      | some c =>
        cases c with
        | own fx o =>
          cases fx with
          | true => exact absurd e (hc o)
          | false => rfl
        | _ => rfl
    rw [hb]
    simp [List.getElem?_set_self hρ, ih]
theorem source (ns : List Int) (hl : ns.length ≤ 63) : ∃ s, F__law_open_cells [.scr ns] = some ([.un], .own false (.src s)) := by
  obtain ⟨m', c', h1, h2⟩ := source_loop ns ns 11 .un rfl
  obtain ⟨zs, hz⟩ : ∃ zs : List Int, compP (.nm 2) tYesP (pN (l1 dAbs) [pVar 2]) [.scr ns, .val (.int m'), .un, .un] (ns.map .int) = some (zs.map .int) := ⟨_, comp_abs [.scr ns, .val (.int m'), .un, .un] (by simp) ns (by simp)⟩
  refine ⟨⟨zs.reverse, 1, m', 0⟩, ?_⟩
  unfold F__law_open_cells g__law_open_cells
  have hlen : len24 ns.length = true := decide_eq_true (by omega)
  simp [h2, pComp, freeAt, h1, hlen, wipeE, hz, dRevL, ← List.map_reverse]
theorem erase_map {α β : Type} (f : α → β) : ∀ (l : List α) (r : Nat), (l.map f).eraseIdx r = (l.eraseIdx r).map f
  | [], _ => rfl
  | _ :: _, 0 => rfl
  | a :: l, r + 1 => by rw [List.map_cons, List.eraseIdx_cons_succ, List.eraseIdx_cons_succ, List.map_cons, erase_map f l r]
theorem erase_perm {α : Type} : ∀ (l : List α) (r : Nat) (h : r < l.length), (l[r] :: l.eraseIdx r).Perm l
  | [], _, h => by cases h
  | a :: l, 0, _ => List.Perm.refl _
  | a :: l, r + 1, h => by
    have ih := erase_perm l r (Nat.lt_of_succ_lt_succ h)
    rw [List.eraseIdx_cons_succ, List.getElem_cons_succ]
    exact (List.Perm.swap a _ _).trans (ih.cons a)
/-- things in a drawn order -/
theorem loop_order {α : Type} (f : α → D) (X : Cell) : ∀ (ys : List D) (l : List α) (s : Src), ys.length = l.length → l.length < 1000000 →
    ∃ (s' : Src) (l' : List α), compL [3] (.nm 3) tYesE (ePopI 2 (eCallR F__law_pick 0 [eP (pN (l1 dLen) [pOwn 2])])) ys [.own true (.src s), X, .own false (.lst (l.map f)), .un] = some ([.own true (.src s'), X, .own false (.lst []), .un], l'.map f) ∧ l'.Perm l
  | [], l, s, h, _ => by
    have : l = [] := List.eq_nil_of_length_eq_zero h.symm
    subst this
    exact ⟨s, [], rfl, List.Perm.refl _⟩
  | y :: ys, l, s, h, hl => by
    rw [List.length_cons] at h
    obtain ⟨s1, r, e1, hr⟩ := pickL s l.length (by omega) hl
    obtain ⟨s2, l', e2, hp⟩ := loop_order f X ys (l.eraseIdx r) s1 (by rw [List.length_eraseIdx_of_lt hr]; omega) (by rw [List.length_eraseIdx_of_lt hr]; omega)
    refine ⟨s2, l[r] :: l', ?_, ?_⟩
    · have hb : bind (.nm 3) y [.own true (.src s), X, .own false (.lst (l.map f)), .un] = some [.own true (.src s), X, .own false (.lst (l.map f)), .val y] := rfl
      have hc : eCallR F__law_pick 0 [eP (pN (l1 dLen) [pOwn 2])] [.own true (.src s), X, .own false (.lst (l.map f)), .val y] = some ([.own true (.src s1), X, .own false (.lst (l.map f)), .val y], .val (.int (r : Nat))) := by
        simp [e1]
      have hpop : ePopI 2 (eCallR F__law_pick 0 [eP (pN (l1 dLen) [pOwn 2])]) [.own true (.src s), X, .own false (.lst (l.map f)), .val y] = some ([.own true (.src s1), X, .own false (.lst ((l.eraseIdx r).map f)), .val y], .val (f l[r])) := by
        unfold ePopI
        rw [show ([.own true (.src s), X, .own false (.lst (l.map f)), .val y] : L3.Env)[2]? = some (.own false (.lst (l.map f))) from rfl, ev_isLst, if_pos rfl, hc]
        show (if (decide (0 ≤ ((r : Nat) : Int)) && len24 (l.map f).length) = true then (match (l.map f)[((r : Nat) : Int).toNat]? with | some x => some (([.own true (.src s1), X, .own false (.lst (l.map f)), .val y] : L3.Env).set 2 (.own false (.lst ((l.map f).eraseIdx ((r : Nat) : Int).toNat))), Cell.val x) | none => none) else none) = _
        rw [if_pos (by rw [Bool.and_eq_true, decide_eq_true_eq, List.length_map]; exact ⟨by omega, decide_eq_true (by omega)⟩), Int.toNat_natCast, List.getElem?_map, List.getElem?_eq_getElem hr, erase_map]
        rfl
      rw [compL, hb]
      dsimp only
      rw [ev_tYesE]
      dsimp only
      rw [hpop]
      dsimp only
      rw [ev_toD_val]
      dsimp only
      rw [show wipeE [3] [.own true (.src s1), X, .own false (.lst ((l.eraseIdx r).map f)), .val y] = [.own true (.src s1), X, .own false (.lst ((l.eraseIdx r).map f)), .un] from rfl, e2]
      rfl
    · exact (hp.cons _).trans (erase_perm l r hr)
theorem any_order {α : Type} (f : α → D) (l : List α) (s : Src) (hl : l.length < 65536) : ∃ (s' : Src) (l' : List α), F__law_any_order [.own true (.src s), .val (.list (l.map f))] = some ([.own true (.src s'), .un], .own false (.lst (l'.map f))) ∧ l'.Perm l := by
  obtain ⟨s', l', e1, hp⟩ := loop_order f (.val (.list (l.map f))) (rangeD 0 (l.length : Int)) l s (range_len _) (by omega)
  refine ⟨s', l', ?_, hp⟩
  have h0 : sOwn 2 (L3.eF (pN (l1 dList) [pVar 1])) [.own true (.src s), .val (.list (l.map f)), .un, .un] = some ([.own true (.src s), .val (.list (l.map f)), .own false (.lst (l.map f)), .un], .nx) := rfl
  have hir := iR_nat (a := pC (.int 0)) (b := pN (l1 dLen) [pOwn 2]) (ρ := [.own true (.src s), .val (.list (l.map f)), .own false (.lst (l.map f)), .un]) (n := l.length) rfl (by simp) hl
  have hc : eComp [3] (.nm 3) (iR (pC (.int 0)) (pN (l1 dLen) [pOwn 2])) tYesE (ePopI 2 (eCallR F__law_pick 0 [eP (pN (l1 dLen) [pOwn 2])])) [.own true (.src s), .val (.list (l.map f)), .own false (.lst (l.map f)), .un] = some ([.own true (.src s'), .val (.list (l.map f)), .own false (.lst []), .un], .own false (.lst (l'.map f))) := by
    unfold eComp
    rw [hir]
    dsimp only
    have hlen : len24 (rangeD 0 (l.length : Int)).length = true := by rw [range_len]; exact decide_eq_true (by omega)
    rw [hlen]
    show (if (true && true) = true then (match compL [3] (.nm 3) tYesE _ (rangeD 0 (l.length : Int)) [.own true (.src s), .val (.list (l.map f)), .own false (.lst (l.map f)), .un] with | some (ρ', ys) => some (restore [3] [.own true (.src s), .val (.list (l.map f)), .own false (.lst (l.map f)), .un] ρ', Cell.own false (.lst ys)) | none => none) else none) = _
    rw [e1]
    rfl
  have h1 : sRet (eComp [3] (.nm 3) (iR (pC (.int 0)) (pN (l1 dLen) [pOwn 2])) tYesE (ePopI 2 (eCallR F__law_pick 0 [eP (pN (l1 dLen) [pOwn 2])]))) [.own true (.src s), .val (.list (l.map f)), .own false (.lst (l.map f)), .un] = some ([.own true (.src s'), .val (.list (l.map f)), .own false (.lst []), .un], .rt (.own false (.lst (l'.map f)))) := by
    rw [ev_sRet, hc]
  exact run_fn (ρ0 := [.own true (.src s), .val (.list (l.map f)), .un, .un]) rfl rfl (show g__law_any_order _ = _ from (run_seq h0).trans h1) rfl
/-! ### drawn terms -/
abbrev bDr : Sm := sApp 4 (eN .c dTup [eCallR F__law_of 0 [eP (pVar 3)], eCallR F__law_drawn_part 0 [], eCallR F__law_drawn_fraction 0 []])
/-- drawn terms of so many numbers a row -/
structure Dr (n L : Nat) (S : List Tm) : Prop where
  bd : Bd n (30 * L) L S
  rs : Rs 2 S
theorem loop_dr {n : Nat} {rs : List (List Int)} (h0 : rs ≠ []) (hl : rs.length < 1000) (hr : ∀ r ∈ rs, r.length = n ∧ ∀ i ∈ r, i.natAbs ≤ 2) (X1 X2 : Cell) : ∀ (ys : List D) (s : Src) (xs : List D) (c : Cell), isOwn c = false → xs.length + ys.length < 16777216 →
    ∃ s' S d, forL (.nm 5) bDr ys [.own true (.src s), X1, X2, .val (.list (rs.map rowD)), .own false (.lst xs), c] = some ([.own true (.src s'), X1, X2, .val (.list (rs.map rowD)), .own false (.lst (xs ++ S.map (tmD 6))), d], .nx) ∧ Dr n ys.length S
  | [], s, xs, c, hc, _ => ⟨s, [], c, by rw [forL]; simp, ⟨⟨fun _ h => (by cases h), (by simp [A1]), (by simp)⟩, fun _ h => (by cases h)⟩⟩
  | y :: ys, s, xs, c, hc, hx => by
    rw [List.length_cons] at hx
    obtain ⟨s1, x, e1, h1⟩ := law_of s (rs.map rowD) (by simpa using h0) (by rw [List.length_map]; omega)
    obtain ⟨r, hr1, rfl⟩ := List.mem_map.mp h1
    obtain ⟨s2, t, e2⟩ := drawn_part s1
    obtain ⟨s3, a, e3, a1, a2⟩ := drawn_fraction s2
    obtain ⟨s4, S, d, e4, hS⟩ := loop_dr h0 hl hr X1 X2 ys s3 (xs ++ [tmD 6 (r, t, a)]) (.val y) rfl (by rw [List.length_append, List.length_cons, List.length_nil]; omega)
    refine ⟨s4, (r, t, a) :: S, d, ?_, ⟨⟨fun z hz => ?_, ?_, ?_⟩, fun z hz => ?_⟩⟩
    · have hb : bind (.nm 5) y [.own true (.src s), X1, X2, .val (.list (rs.map rowD)), .own false (.lst xs), c] = some [.own true (.src s), X1, X2, .val (.list (rs.map rowD)), .own false (.lst xs), .val y] := by
        rw [ev_bind0]
        exact put_no (c := c) rfl hc
      have hlx : xs.length < 16777216 := by omega
      have hst : bDr [.own true (.src s), X1, X2, .val (.list (rs.map rowD)), .own false (.lst xs), .val y] = some ([.own true (.src s3), X1, X2, .val (.list (rs.map rowD)), .own false (.lst (xs ++ [tmD 6 (r, t, a)])), .val y], .nx) := by
        have ha : eN .c dTup [eCallR F__law_of 0 [eP (pVar 3)], eCallR F__law_drawn_part 0 [], eCallR F__law_drawn_fraction 0 []] [.own true (.src s), X1, X2, .val (.list (rs.map rowD)), .own false (.lst xs), .val y] = some ([.own true (.src s3), X1, X2, .val (.list (rs.map rowD)), .own false (.lst xs), .val y], .val (tmD 6 (r, t, a))) := by
          simp [e1, e2, e3, len24, tmD]
        show sApp 4 _ _ = _
        rw [ev_sApp]
        rw [show ([.own true (.src s), X1, X2, .val (.list (rs.map rowD)), .own false (.lst xs), .val y] : L3.Env)[4]? = some (.own false (.lst xs)) from rfl, ev_isLst, if_pos rfl, ha]
        show (if decide (xs.length < 16777216) = true then some (([.own true (.src s3), X1, X2, .val (.list (rs.map rowD)), .own false (.lst xs), .val y] : L3.Env).set 4 (.own false (.lst (xs ++ [tmD 6 (r, t, a)]))), Out.nx) else none) = _
        rw [if_pos (decide_eq_true hlx)]
        rfl
      rw [forL, hb]
      dsimp only
      rw [hst]
      dsimp only
      rw [e4, List.map_cons, List.append_assoc]
      rfl
    · rcases List.mem_cons.mp hz with rfl | hz
      · exact (hr r hr1).1
      · exact hS.bd.row z hz
    · rw [A1, List.length_cons]
      have := hS.bd.a
      dsimp only
      omega
    · rw [List.length_cons, List.length_cons]
      have := hS.bd.len
      omega
    · rcases List.mem_cons.mp hz with rfl | hz
      · exact (hr r hr1).2
      · exact hS.rs z hz
theorem Dr.mono {n L L' : Nat} {S : List Tm} (h : Dr n L S) (k : L ≤ L') : Dr n L' S := ⟨h.bd.mono (Nat.mul_le_mul_left _ k) k, h.rs⟩
theorem rows_of {n : Nat} : ∀ {ds : List D}, (∀ d ∈ ds, ∃ r, d = rowD r ∧ r.length = n ∧ ∀ i ∈ r, i.natAbs ≤ 2) → ∃ rs : List (List Int), ds = rs.map rowD ∧ ∀ r ∈ rs, r.length = n ∧ ∀ i ∈ r, i.natAbs ≤ 2
  | [], _ => ⟨[], rfl, fun _ h => by cases h⟩
  | d :: ds, h => by
    obtain ⟨r, rfl, hr⟩ := h d (List.mem_cons_self ..)
    obtain ⟨rs, rfl, hrs⟩ := rows_of (ds := ds) fun e he => h e (List.mem_cons_of_mem _ he)
    refine ⟨r :: rs, rfl, fun z hz => ?_⟩
    rcases List.mem_cons.mp hz with rfl | hz
    · exact hr
    · exact hrs z hz
theorem drawn_terms (s : Src) (n m : Nat) (hn : n ≤ 100) (hm : m ≤ 100) : ∃ s' S, F__law_drawn_terms [.own true (.src s), .val (.int (n : Int)), .val (.int (m : Int))] = some ([.own true (.src s'), .un, .un], .own false (.lst (S.map (tmD 6)))) ∧ Dr n m S := by
  obtain ⟨s1, ds, e1, hl, hq⟩ := comp_draw (vs := [5]) (v := 5) (e := eCallR F__law_drawn_row 0 [eP (pVar 1)]) (Q := fun d => ∃ r, d = rowD r ∧ r.length = n ∧ ∀ i ∈ r, i.natAbs ≤ 2)
    (fun s c => [.own true (.src s), .val (.int (n : Int)), .val (.int (m : Int)), .un, .un, c]) (fun s c x hc => by rw [ev_bind0]; exact put_no (c := c) rfl hc)
    (fun s x => by
      obtain ⟨s', r, e, h1, h2⟩ := drawn_row s n hn
      exact ⟨s', rowD r, by simp [e], r, rfl, h1, h2⟩) (fun s c => rfl) (rangeD 0 2) s
  obtain ⟨rs, rfl, hrs⟩ := rows_of hq
  have hl2 : rs.length = 2 := by rw [List.length_map] at hl; exact hl
  have hc : eComp [5] (.nm 5) (iR (pC (.int 0)) (pC (.int 2))) tYesE (eCallR F__law_drawn_row 0 [eP (pVar 1)]) [.own true (.src s), .val (.int (n : Int)), .val (.int (m : Int)), .un, .un, .un] = some ([.own true (.src s1), .val (.int (n : Int)), .val (.int (m : Int)), .un, .un, .un], .own false (.lst (rs.map rowD))) := by
    unfold eComp
    rw [show iR (pC (.int 0)) (pC (.int 2)) [.own true (.src s), .val (.int (n : Int)), .val (.int (m : Int)), .un, .un, .un] = some ([.own true (.src s), .val (.int (n : Int)), .val (.int (m : Int)), .un, .un, .un], rangeD 0 2) from rfl]
    show (if (true && true) = true then (match compL [5] (.nm 5) tYesE _ (rangeD 0 2) [.own true (.src s), .val (.int (n : Int)), .val (.int (m : Int)), .un, .un, .un] with | some (ρ', ys) => some (restore [5] [.own true (.src s), .val (.int (n : Int)), .val (.int (m : Int)), .un, .un, .un] ρ', Cell.own false (.lst ys)) | none => none) else none) = _
    rw [e1]
    rfl
  have h1 : sVal 3 (eComp [5] (.nm 5) (iR (pC (.int 0)) (pC (.int 2))) tYesE (eCallR F__law_drawn_row 0 [eP (pVar 1)])) [.own true (.src s), .val (.int (n : Int)), .val (.int (m : Int)), .un, .un, .un] = some ([.own true (.src s1), .val (.int (n : Int)), .val (.int (m : Int)), .val (.list (rs.map rowD)), .un, .un], .nx) := by
    rw [ev_sVal, hc]
    rfl
  have h2 : sOwn 4 (L3.eF (pN dLst [])) [.own true (.src s1), .val (.int (n : Int)), .val (.int (m : Int)), .val (.list (rs.map rowD)), .un, .un] = some ([.own true (.src s1), .val (.int (n : Int)), .val (.int (m : Int)), .val (.list (rs.map rowD)), .own false (.lst []), .un], .nx) := rfl
  obtain ⟨s2, k, e2, hk⟩ := pickL s1 (m + 1) (by omega) (by omega)
  obtain ⟨s3, S, d, e3, hS⟩ := loop_dr (n := n) (rs := rs) (by intro h; rw [h] at hl2; cases hl2) (by omega) hrs (.val (.int (n : Int))) (.val (.int (m : Int))) (rangeD 0 (k : Int)) s2 [] .un rfl (by rw [range_len]; simp; omega)
  rw [range_len] at hS
  have h3 : sFor (.nm 5) (iRE [eCallR F__law_pick 0 [eP (p2 dAdd (pVar 2) (pC (.int 1)))]]) bDr [.own true (.src s1), .val (.int (n : Int)), .val (.int (m : Int)), .val (.list (rs.map rowD)), .own false (.lst []), .un] = some ([.own true (.src s3), .val (.int (n : Int)), .val (.int (m : Int)), .val (.list (rs.map rowD)), .own false (.lst (S.map (tmD 6))), d], .nx) := by
    have hi : iRE [eCallR F__law_pick 0 [eP (p2 dAdd (pVar 2) (pC (.int 1)))]] [.own true (.src s1), .val (.int (n : Int)), .val (.int (m : Int)), .val (.list (rs.map rowD)), .own false (.lst []), .un] = some ([.own true (.src s2), .val (.int (n : Int)), .val (.int (m : Int)), .val (.list (rs.map rowD)), .own false (.lst []), .un], rangeD 0 (k : Int)) := by
      have hv : eevs [eCallR F__law_pick 0 [eP (p2 dAdd (pVar 2) (pC (.int 1)))]] [.own true (.src s1), .val (.int (n : Int)), .val (.int (m : Int)), .val (.list (rs.map rowD)), .own false (.lst []), .un] = some ([.own true (.src s2), .val (.int (n : Int)), .val (.int (m : Int)), .val (.list (rs.map rowD)), .own false (.lst []), .un], [.int (k : Int)]) := by
        rw [show ((m + 1 : Nat) : Int) = (m : Int) + 1 by omega] at e2
        simp [e2]
      unfold iRE
      rw [hv]
      show (if r62 (k : Int) = true then some (([.own true (.src s2), .val (.int (n : Int)), .val (.int (m : Int)), .val (.list (rs.map rowD)), .own false (.lst []), .un] : L3.Env), rangeD 0 (k : Int)) else none) = _
      rw [if_pos (r62_nat (by omega))]
    rw [ev_sFor, hi]
    exact e3
  have h4 : sRet (eMv 4) [.own true (.src s3), .val (.int (n : Int)), .val (.int (m : Int)), .val (.list (rs.map rowD)), .own false (.lst (S.map (tmD 6))), d] = some ([.own true (.src s3), .val (.int (n : Int)), .val (.int (m : Int)), .val (.list (rs.map rowD)), .un, d], .rt (.own false (.lst (S.map (tmD 6))))) := run_mv rfl
  refine ⟨s3, S, ?_, hS.mono (by omega)⟩
  exact run_fn (ρ0 := [.own true (.src s), .val (.int (n : Int)), .val (.int (m : Int)), .un, .un, .un]) rfl rfl (show g__law_drawn_terms _ = _ from (run_seq h1).trans ((run_seq h2).trans ((run_seq h3).trans h4))) rfl
end K09
/-! k09, the plain law: sizes together; tests that hold. -/
namespace K09
open PySem PySem.Spec PyProof.Rows L2 L3
/-- sizes of terms: numbers a row, parts, how many, how great a row's number -/
structure Bx (n A L b : Nat) (S : List Tm) : Prop where of ::
  bd : Bd n A L S
  rs : Rs b S
theorem Bx.mono {n A L b A' L' b' : Nat} {S : List Tm} (h : Bx n A L b S) (hA : A ≤ A') (hL : L ≤ L') (hb : b ≤ b') : Bx n A' L' b' S := ⟨h.bd.mono hA hL, fun x hx i hi => Nat.le_trans (h.rs x hx i hi) hb⟩
theorem Bx.mk {n A L b : Nat} {S : List Tm} (h : Bx n A L b S) : Bx n A L b (mk S) := by
  refine ⟨h.bd.mk, fun x hx => ?_⟩
  obtain ⟨y, hy, rfl⟩ := List.mem_map.mp hx
  obtain ⟨z, hz, e⟩ := (mg_mem _ y hy).2
  obtain ⟨u, hu, rfl⟩ := List.mem_map.mp hz
  have : (bk y).1 = u.1 := by
    show y.1.1 = u.1
    rw [← e]
    rfl
  rw [this]
  exact h.rs u hu
theorem Bx.app {n A L b A' L' : Nat} {S T : List Tm} (h : Bx n A L b S) (k : Bx n A' L' b T) : Bx n (A + A') (L + L') b (S ++ T) :=
  ⟨h.bd.app k.bd, fun x hx => (List.mem_append.mp hx).elim (h.rs x) (k.rs x)⟩
theorem Bx.oft {n A L b : Nat} {S : List Tm} (c : Int) (h : Bx n A L b S) : Bx n (c.natAbs * A) L b (oft c S) := by
  refine ⟨h.bd.oft c, fun x hx => ?_⟩
  obtain ⟨y, hy, rfl⟩ := List.mem_map.mp hx
  exact h.rs y hy
theorem Bx.mir {n A L b : Nat} {S : List Tm} (h : Bx n A L b S) : Bx n A L b (mir S) := by
  refine ⟨h.bd.mir, fun x hx i hi => ?_⟩
  obtain ⟨y, hy, rfl⟩ := List.mem_map.mp hx
  obtain ⟨j, hj, rfl⟩ := List.mem_map.mp hi
  rw [Int.natAbs_neg]
  exact h.rs y hy j hj
theorem radd_mem : ∀ {r s : List Int} {i : Int}, i ∈ radd r s → ∃ a ∈ r, ∃ b ∈ s, i = a + b
  | [], s, i, h => by simp [radd] at h
  | a :: r, [], i, h => by simp [radd] at h
  | a :: r, b :: s, i, h => by
    unfold radd at h
    rw [List.zipWith_cons_cons] at h
    rcases List.mem_cons.mp h with rfl | h
    · exact ⟨a, List.mem_cons_self .., b, List.mem_cons_self .., rfl⟩
    · obtain ⟨x, hx, y, hy, e⟩ := radd_mem (r := r) (s := s) h
      exact ⟨x, List.mem_cons_of_mem _ hx, y, List.mem_cons_of_mem _ hy, e⟩
theorem Bx.prod {n A L b A' L' b' : Nat} {S T : List Tm} (h : Bx n A L b S) (k : Bx n A' L' b' T) : Bx n (A * A') (L * L') (b + b') (prod S T) := by
  refine ⟨h.bd.prod k.bd, fun x hx i hi => ?_⟩
  obtain ⟨y, hy, hx⟩ := List.mem_flatMap.mp hx
  obtain ⟨z, hz, rfl⟩ := List.mem_map.mp hx
  obtain ⟨u, hu, v, hv, rfl⟩ := radd_mem hi
  have h1 := h.rs y hy u hu
  have h2 := k.rs z hz v hv
  omega
theorem Bx.gd {M : Int} {n A L b : Nat} {S : List Tm} (h : Bx n A L b S) (hM : Lv M) (hn : n ≤ 4) (hb : b < 2147483648) (hA : A < 2147483648) : Gd (L * 16002 + 3) (sD M S) := gd_sD hM hn hb h.bd h.rs hA
theorem Bx.dep {M : Int} (S : List Tm) : (sD M S).depth ≤ 10 := by
  have := depthAll_le (n := 2) (xs := S.map (tmD M)) fun x hx => by
    obtain ⟨y, _, rfl⟩ := List.mem_map.mp hx
    have e1 : PyData.depth (frD (pt y.2.1)) = 1 := rfl
    have e2 : PyData.depth (frD (nf M y.2.2)) = 1 := rfl
    unfold tmD
    simp [PyData.depth, PyData.depthAll, depth_row, e1, e2]
  show PyData.depthAll _ + 1 ≤ 10
  omega
theorem lv {M : Int} (h : 0 < M) (k : M.natAbs < 2147483648) : Lv M := ⟨h, k⟩
/-! ### steps -/
section
variable {ρ : L3.Env} {a b c e : P} {x y z u d : D} {F : Fn} {rs : List Cell}
theorem pc1 (ha : a ρ = some x) (hF : F [.val x] = some (rs, .val d)) : pCall F [a] ρ = some d := by
  rw [ev_pCall, ev_evs1, ha, ev_evs0]
  dsimp only [List.map]
  rw [hF]
  rfl
theorem pc2 (ha : a ρ = some x) (hb : b ρ = some y) (hF : F [.val x, .val y] = some (rs, .val d)) : pCall F [a, b] ρ = some d := by
  rw [ev_pCall, ev_evs1, ha, ev_evs1, hb, ev_evs0]
  dsimp only [List.map]
  rw [hF]
  rfl
theorem pc3 (ha : a ρ = some x) (hb : b ρ = some y) (hc : c ρ = some z) (hF : F [.val x, .val y, .val z] = some (rs, .val d)) : pCall F [a, b, c] ρ = some d := by
  rw [ev_pCall, ev_evs1, ha, ev_evs1, hb, ev_evs1, hc, ev_evs0]
  dsimp only [List.map]
  rw [hF]
  rfl
theorem pl2 (ha : a ρ = some x) (hb : b ρ = some y) : pN dLst [a, b] ρ = some (.list [x, y]) := by
  rw [ev_pN, ev_evs1, ha, ev_evs1, hb, ev_evs0]; rfl
theorem pl3 (ha : a ρ = some x) (hb : b ρ = some y) (hc : c ρ = some z) : pN dLst [a, b, c] ρ = some (.list [x, y, z]) := by
  rw [ev_pN, ev_evs1, ha, ev_evs1, hb, ev_evs1, hc, ev_evs0]; rfl
theorem pl4 (ha : a ρ = some x) (hb : b ρ = some y) (hc : c ρ = some z) (he : e ρ = some u) : pN dLst [a, b, c, e] ρ = some (.list [x, y, z, u]) := by
  rw [ev_pN, ev_evs1, ha, ev_evs1, hb, ev_evs1, hc, ev_evs1, he, ev_evs0]; rfl
theorem ne_same {w : Nat} (ha : a ρ = some d) (hb : b ρ = some d) (h : Gd w d) : tV (p2 dNe a b) ρ = some false := by
  rw [ev_tV, ev_p2, ha, hb]
  dsimp only
  rw [h.ne h]
  simp
theorem eq_same {w : Nat} (ha : a ρ = some d) (hb : b ρ = some d) (h : Gd w d) : p2 dEq a b ρ = some (.bool true) := by
  rw [ev_p2, ha, hb]
  dsimp only
  rw [h.eq h]
  simp
theorem dNe_str (a b : Str) : dNe (.str a) (.str b) = some (.bool (!decide (a = b))) := by
  unfold dNe
  have h1 : okD (.str a) = true := rfl
  have h2 : okD (.str b) = true := rfl
  rw [h1, h2]
  simp only [Bool.and_self, Bool.true_or, if_true, PyData.eqv]
  by_cases h : a = b <;> simp [h]
theorem rne_same (ha : a ρ = some d) (hb : b ρ = some d) (h : Told d) : tV (p2 dNe (pN (l1 dRepr) [a]) (pN (l1 dRepr) [b])) ρ = some false := by
  obtain ⟨t, ht⟩ := h
  rw [ev_tV, ev_p2, ev_pN, ev_pN, ev_evs1, ev_evs1, ha, hb, ev_evs0]
  dsimp only
  rw [ev_l1, ht]
  dsimp only
  rw [dNe_str]
  simp
theorem or_no {t v : T} (h1 : t ρ = some false) (h2 : v ρ = some false) : L3.tOr t v ρ = some false := by rw [ev_tOr, h1]; exact h2
theorem if_no {t : T} {g : Sm} (h : t ρ = some false) : sIf (tP t) g sNx ρ = some (ρ, .nx) := by rw [ev_sIf, ev_tP, h]; rfl
theorem val_ok {i : Nat} {cc : Cell} (ha : a ρ = some d) (hi : ρ[i]? = some cc) (hc : isOwn cc = false) : sVal i (eP a) ρ = some (ρ.set i (.val d), .nx) := by
  rw [ev_sVal, ev_eP, ha]
  dsimp only
  rw [ev_toD_val]
  dsimp only
  rw [put_no hi hc]
end
/-- a comprehension that draws, of things new -/
theorem comp_draw2 {vs : List Nat} {v : Nat} {e : E} {Q : D → Prop} (mkρ : Src → Cell → L3.Env) (hb : ∀ s c x, isOwn c = false → bind (.nm v) x (mkρ s c) = some (mkρ s (.val x)))
    (he : ∀ s x, ∃ s' c d, e (mkρ s (.val x)) = some (mkρ s' (.val x), c) ∧ c.toD = some d ∧ Q d) (hw : ∀ s c, wipeE vs (mkρ s c) = mkρ s .un) : ∀ (xs : List D) (s : Src), ∃ s' ds, compL vs (.nm v) tYesE e xs (mkρ s .un) = some (mkρ s' .un, ds) ∧ ds.length = xs.length ∧ ∀ d ∈ ds, Q d
  | [], s => ⟨s, [], rfl, rfl, fun _ h => (by cases h)⟩
  | x :: xs, s => by
    obtain ⟨s1, c, d, e1, c1, q1⟩ := he s x
    obtain ⟨s2, ds, e2, hl, q2⟩ := comp_draw2 mkρ hb he hw xs s1
    refine ⟨s2, d :: ds, ?_, by rw [List.length_cons, List.length_cons, hl], fun y hy => ?_⟩
    · rw [compL, hb s .un x rfl]
      dsimp only
      rw [ev_tYesE]
      dsimp only
      rw [e1]
      dsimp only
      rw [c1]
      dsimp only
      rw [hw, e2]
    · rcases List.mem_cons.mp hy with rfl | hy
      · exact q1
      · exact q2 y hy
/-! ### what is merged to itself -/
theorem mk_nil : mk [] = [] := by
  unfold mk mg outs ordK
  simp [acc]
theorem mk_none {S : List Tm} (h : ∀ g, Anti g → lin g S = 0) : mk S = [] := by
  rw [mk_eq (T := []) fun g a => (h g a).trans rfl, mk_nil]
theorem sD_nil (M : Int) : sD M [] = .tuple [] := rfl
theorem mk_one {r : List Int} {t a : Int} (ha : a ≠ 0) (h0 : 0 ≤ t) (h1 : t < 1260) : mk [(r, t, a)] = [(r, t, a)] := by
  have e1 : nz (r, t, a) = (kk r t, a) := by
    unfold nz sg
    dsimp only
    rw [if_pos (by omega), Int.one_mul]
  have e2 : bk (kk r t, a) = (r, t, a) := by
    unfold bk
    rw [kk_val, Int.emod_eq_of_lt h0 h1]
    rfl
  unfold mk mg outs
  simp only [List.map_cons, List.map_nil, e1, acc, upd, coef, Int.zero_add]
  have e3 : ordK [kk r t] = [kk r t] := by unfold ordK; simp
  rw [e3]
  simp [ha, e2]
theorem radd_zero : ∀ {n : Nat} {r : List Int}, r.length = n → radd (zeros n) r = r
  | 0, [], _ => rfl
  | 0, _ :: _, h => by cases h
  | n + 1, [], h => by cases h
  | n + 1, x :: r, h => by
    have := radd_zero (n := n) (r := r) (by simpa using h)
    unfold radd zeros at this ⊢
    rw [List.replicate_succ, List.zipWith_cons_cons, this, Int.zero_add]
theorem prod_one {n : Nat} {S : List Tm} (h : ∀ x ∈ S, x.1.length = n) : Sim (prod [(zeros n, 0, 1)] S) S := fun g a => by
  rw [lin_prod]
  show 1 * lin (fun r' t' => g (radd (zeros n) r') (0 + t')) S + 0 = lin g S
  rw [Int.one_mul, Int.add_zero]
  exact lin_congr fun x hx => by rw [radd_zero (h x hx), Int.zero_add]
theorem one_bx (n : Nat) (t a : Int) (r : List Int) (h : r.length = n) (b : Nat) (hb : ∀ i ∈ r, i.natAbs ≤ b) : Bx n a.natAbs 1 b [(r, t, a)] := ⟨one_bd h t a, fun x hx i hi => by
  rw [List.mem_singleton.mp hx] at hi
  exact hb i hi⟩
theorem zeros_bx (n : Nat) (a : Int) : Bx n a.natAbs 1 0 [(zeros n, 0, a)] := one_bx n 0 a _ (by unfold zeros; rw [List.length_replicate]) 0 fun i hi => by
  unfold zeros at hi
  rw [List.eq_of_mem_replicate hi]
  decide
theorem Dr.bx {n L : Nat} {S : List Tm} (h : Dr n L S) : Bx n (30 * L) L 2 S := ⟨h.bd, h.rs⟩
theorem lin_perm (g : Fl) {S T : List Tm} (h : S.Perm T) : lin g S = lin g T := by
  induction h with
  | nil => rfl
  | cons x _ ih => rw [lin, lin, ih]
  | swap x y l => rw [lin, lin, lin, lin]; omega
  | trans _ _ h1 h2 => exact h1.trans h2
theorem A1_perm {S T : List Tm} (h : S.Perm T) : A1 S = A1 T := by
  induction h with
  | nil => rfl
  | cons x _ ih => rw [A1, A1, ih]
  | swap x y l => rw [A1, A1, A1, A1]; omega
  | trans _ _ h1 h2 => exact h1.trans h2
theorem Bx.perm {n A L b : Nat} {S T : List Tm} (h : Bx n A L b S) (p : T.Perm S) : Bx n A L b T :=
  ⟨⟨fun x hx => h.bd.row x (p.mem_iff.mp hx), by rw [A1_perm p]; exact h.bd.a, by rw [p.length_eq]; exact h.bd.len⟩, fun x hx => h.rs x (p.mem_iff.mp hx)⟩
end K09
/-! k09, the plain law: sums and products are a ring's. -/
namespace K09
open PySem PySem.Spec PyProof.Rows L2 L3
theorem l24 {m : Nat} (h : m ≤ 16777216) : len24 m = true := decide_eq_true h
theorem add_lists {f : Tm → D} {S T : List Tm} (h : S.length + T.length ≤ 16777216) : dAdd (.list (S.map f)) (.list (T.map f)) = some (.list ((S ++ T).map f)) := by
  show (if len24 ((S.map f).length + (T.map f).length) = true then some (PyData.list (S.map f ++ T.map f)) else none) = _
  rw [List.length_map, List.length_map, l24 h, ← List.map_append]
  rfl
theorem add_sD {M : Int} {S T : List Tm} (h : S.length + T.length ≤ 16777216) : dAdd (sD M S) (sD M T) = some (sD M (S ++ T)) := by
  show (if len24 ((S.map (tmD M)).length + (T.map (tmD M)).length) = true then some (PyData.tuple (S.map (tmD M) ++ T.map (tmD M))) else none) = _
  rw [List.length_map, List.length_map, l24 h, ← List.map_append]
  rfl
theorem callR {F : Fn} {i : Nat} {as : List E} {ρ ρ1 : L3.Env} {o0 o o' : Own} {fx fx0 fx' : Bool} {ds : List D} {r : List Cell} {c : Cell} (h0 : ρ[i]? = some (.own fx0 o0)) (ha : eevs as ρ = some (ρ1, ds)) (hi : ρ1[i]? = some (.own fx o)) (hF : F (.own true o :: ds.map .val) = some (.own fx' o' :: r, c)) :
    eCallR F i as ρ = some (ρ1.set i (.own fx o'), c) := by
  rw [ev_eCallR, h0, ev_isOwnO, if_pos rfl, ha]
  dsimp only
  rw [hi]
  dsimp only
  rw [hF]
theorem ev1P {p : P} {ρ : L3.Env} {d : D} (h : p ρ = some d) : eevs [eP p] ρ = some (ρ, [d]) := by
  rw [ev_eevs1, ev_eP, h]
  rfl
abbrev rE (s : Src) (n : Nat) (a b c d e f g h : Cell) : L3.Env := [.own true (.src s), .val (.int (n : Int)), a, b, c, d, e, f, g, h, .un, .un]
def lT (S : List Tm) : D := .list (S.map (tmD 6))
theorem rr1 (s : Src) (n : Nat) (hn : n ≤ 4) : ∃ s' S1 S2 S3, sVal 2 (eComp [10] (.nm 10) (iR (pC (.int 0)) (pC (.int 3))) (tYesE) (eCallR F__law_drawn_terms 0 [eP (pVar 1), eP (pC (.int 4))])) (rE s n .un .un .un .un .un .un .un .un) =
    some (rE s' n (.val (.list [lT S1, lT S2, lT S3])) .un .un .un .un .un .un .un, .nx) ∧ Bx n 120 4 2 S1 ∧ Bx n 120 4 2 S2 ∧ Bx n 120 4 2 S3 := by
  obtain ⟨s1, ds, e1, hl, hq⟩ := comp_draw2 (vs := [10]) (v := 10) (e := eCallR F__law_drawn_terms 0 [eP (pVar 1), eP (pC (.int 4))]) (Q := fun d => ∃ S, d = lT S ∧ Bx n 120 4 2 S)
    (fun s c => [.own true (.src s), .val (.int (n : Int)), .un, .un, .un, .un, .un, .un, .un, .un, c, .un]) (fun s c x hc => by rw [ev_bind0]; exact put_no (c := c) rfl hc)
    (fun s x => by
      obtain ⟨s', S, e, h⟩ := drawn_terms s n 4 (by omega) (by decide)
      exact ⟨s', _, _, by simp; erw [e], rfl, S, rfl, h.bx⟩) (fun s c => rfl) (rangeD 0 3) s
  have hl3 : ds.length = 3 := hl
  obtain ⟨d1, d2, d3, rfl⟩ : ∃ a b c, ds = [a, b, c] := by
    match ds, hl3 with
    | [a, b, c], _ => exact ⟨a, b, c, rfl⟩
  obtain ⟨S1, rfl, h1⟩ := hq d1 (by simp)
  obtain ⟨S2, rfl, h2⟩ := hq d2 (by simp)
  obtain ⟨S3, rfl, h3⟩ := hq d3 (by simp)
  refine ⟨s1, S1, S2, S3, ?_, h1, h2, h3⟩
  have hc : eComp [10] (.nm 10) (iR (pC (.int 0)) (pC (.int 3))) tYesE (eCallR F__law_drawn_terms 0 [eP (pVar 1), eP (pC (.int 4))]) (rE s n .un .un .un .un .un .un .un .un) = some (rE s1 n .un .un .un .un .un .un .un .un, .own false (.lst [lT S1, lT S2, lT S3])) := by
    unfold eComp
    rw [show iR (pC (.int 0)) (pC (.int 3)) (rE s n .un .un .un .un .un .un .un .un) = some (rE s n .un .un .un .un .un .un .un .un, rangeD 0 3) from rfl]
    show (if (true && true) = true then (match compL [10] (.nm 10) tYesE _ (rangeD 0 3) (rE s n .un .un .un .un .un .un .un .un) with | some (ρ', ys) => some (restore [10] (rE s n .un .un .un .un .un .un .un .un) ρ', Cell.own false (.lst ys)) | none => none) else none) = _
    rw [e1]
    rfl
  rw [ev_sVal, hc]
  rfl
/-- three lists, merged -/
theorem rr_comp (F : Fn) {n : Nat} {S1 S2 S3 : List Tm} (hF : ∀ S, Bx n 120 4 2 S → F [.val (lT S)] = some ([.un], .val (sD 6 (mk S)))) (h1 : Bx n 120 4 2 S1) (h2 : Bx n 120 4 2 S2) (h3 : Bx n 120 4 2 S3) (s : Src) (b c d e f g h : Cell) :
    pComp [11] (.nm 11) (ipP (pVar 2)) tYesP (pCall F [pVar 11]) (rE s n (.val (.list [lT S1, lT S2, lT S3])) b c d e f g h) = some (.list [sD 6 (mk S1), sD 6 (mk S2), sD 6 (mk S3)]) := by
  have := pCompG (vs := [11]) (p := .nm 11) (a := ipP (pVar 2)) (t := tYesP) (e := pCall F [pVar 11]) (ρ := rE s n (.val (.list [lT S1, lT S2, lT S3])) b c d e f g h) (f := lT) (g := fun S => sD 6 (mk S)) (xs := [S1, S2, S3]) rfl rfl (by simp) fun S hS => ⟨[.own true (.src s), .val (.int (n : Int)), .val (.list [lT S1, lT S2, lT S3]), b, c, d, e, f, g, h, .un, .val (lT S)], rfl, rfl, by
      have hb : Bx n 120 4 2 S := by
        simp only [List.mem_cons, List.not_mem_nil, or_false] at hS
        rcases hS with rfl | rfl | rfl
        · exact h1
        · exact h2
        · exact h3
      exact pc1 rfl (hF S hb)⟩
  exact this
theorem tm6 {n : Nat} {S : List Tm} (h : Bx n 120 4 2 S) : F_terms_merged [.val (lT S)] = some ([.un], .val (sD 6 (mk S))) := by
  have := terms_merged (M := 6) (lv (by decide) (by decide)) (h.bd.sz (by decide) (by decide)) (X := lT S) rfl
  rwa [sD_mk] at this
theorem lm6 {n : Nat} {S : List Tm} (h : Bx n 120 4 2 S) : F__law_made [.val (lT S)] = some ([.un], .val (sD 6 (mk S))) := by
  have := law_made (M := 6) (lv (by decide) (by decide)) (h.bd.sz (by decide) (by decide)) (X := lT S) rfl
  rwa [sD_mk] at this
theorem rr2 {n : Nat} {S1 S2 S3 : List Tm} (h1 : Bx n 120 4 2 S1) (h2 : Bx n 120 4 2 S2) (h3 : Bx n 120 4 2 S3) (s : Src) :
    sPat (.tl [.nm 7, .nm 8, .nm 9]) (eP (pComp [11] (.nm 11) (ipP (pVar 2)) (tYesP) (pCall F__law_made [pVar 11]))) (rE s n (.val (.list [lT S1, lT S2, lT S3])) .un .un .un .un .un .un .un) =
      some (rE s n (.val (.list [lT S1, lT S2, lT S3])) .un .un .un .un (.val (sD 6 (mk S1))) (.val (sD 6 (mk S2))) (.val (sD 6 (mk S3))), .nx) := by
  rw [ev_sPat, ev_eP, rr_comp F__law_made (fun S h => lm6 h) h1 h2 h3]
  rfl
theorem lv6 : Lv 6 := lv (by decide) (by decide)
theorem lv36 : Lv 36 := lv (by decide) (by decide)
theorem lv216 : Lv 216 := lv (by decide) (by decide)
section
variable {n : Nat} {S1 S2 S3 : List Tm} (hn : n ≤ 4) (h1 : Bx n 120 4 2 S1) (h2 : Bx n 120 4 2 S2) (h3 : Bx n 120 4 2 S3)
include hn h1 h2 h3
theorem rr3 (s : Src) (b c d e : Cell) : sIf (tP (tV (p2 dNe (pN (l1 dRepr) [pComp [11] (.nm 11) (ipP (pVar 2)) (tYesP) (pCall F_terms_merged [pVar 11])]) (pN (l1 dRepr) [pN dLst [pVar 7, pVar 8, pVar 9]])))) (sRet (eP (pC (.bool false)))) (sNx) (rE s n (.val (.list [lT S1, lT S2, lT S3])) b c d e (.val (sD 6 (mk S1))) (.val (sD 6 (mk S2))) (.val (sD 6 (mk S3)))) =
    some (rE s n (.val (.list [lT S1, lT S2, lT S3])) b c d e (.val (sD 6 (mk S1))) (.val (sD 6 (mk S2))) (.val (sD 6 (mk S3))), .nx) := by
  refine if_no (rne_same (rr_comp F_terms_merged (fun S h => tm6 h) h1 h2 h3 s b c d e _ _ _) (pl3 rfl rfl rfl) ?_)
  have g := gd_list (w := 64011) (xs := [sD 6 (mk S1), sD 6 (mk S2), sD 6 (mk S3)]) fun x hx => by
    simp only [List.mem_cons, List.not_mem_nil, or_false] at hx
    rcases hx with rfl | rfl | rfl
    · exact ⟨h1.mk.gd lv6 hn (by decide) (by decide), Bx.dep _⟩
    · exact ⟨h2.mk.gd lv6 hn (by decide) (by decide), Bx.dep _⟩
    · exact ⟨h3.mk.gd lv6 hn (by decide) (by decide), Bx.dep _⟩
  exact g.told (by simp)
omit h2 h3 in
theorem rr4 (s : Src) (d2 d3 : D) (b c d e g h : Cell) : ∃ s', sIf (tVE (e2 .c dNe (eN .c (l1 dRepr) [eCallV F_terms_merged [eN .c (l1 dTuple) [eCallR F__law_any_order 0 [eP (p2 dAdd (p2 dIx (pVar 2) (pC (.int 0))) (p2 dIx (pVar 2) (pC (.int 0))))]]]]) (eP (pN (l1 dRepr) [pCall F__law_often [pN dTup [pC (.int 2), pC (.int 1)], pVar 7]])))) (sRet (eP (pC (.bool false)))) (sNx) (rE s n (.val (.list [lT S1, d2, d3])) b c d e (.val (sD 6 (mk S1))) g h) =
    some (rE s' n (.val (.list [lT S1, d2, d3])) b c d e (.val (sD 6 (mk S1))) g h, .nx) := by
  obtain ⟨s', l', e1, hp⟩ := any_order (tmD 6) (S1 ++ S1) s (by have := h1.bd.len; rw [List.length_append]; omega)
  have hb : Bx n 240 8 2 l' := ((h1.app h1).perm hp)
  have hm := terms_merged lv6 (hb.bd.sz (by decide) (by decide)) (X := .tuple (l'.map (tmD 6))) rfl
  rw [sD_mk] at hm
  have ho := law_often (M := 6) (N := 1) lv6 lv1 lv6 (c := 2) (by unfold S31; decide) h1.bd.mk (by decide) (by decide) (by decide)
  have e21 : (PyData.tuple [.int 2, .int 1]) = frD (nf 1 2) := rfl
  have hS : mk l' = mk (oft 2 (mk S1)) := mk_eq fun g a => by
    rw [lin_perm g hp, lin_append, lin_oft, lin_mk a]; omega
  rw [show (1 : Int) * 6 = 6 from rfl, ← hS] at ho
  have ha : p2 dAdd (p2 dIx (pVar 2) (pC (.int 0))) (p2 dIx (pVar 2) (pC (.int 0))) (rE s n (.val (.list [lT S1, d2, d3])) b c d e (.val (sD 6 (mk S1))) g h) = some (.list ((S1 ++ S1).map (tmD 6))) := by
    have hx : p2 dIx (pVar 2) (pC (.int 0)) (rE s n (.val (.list [lT S1, d2, d3])) b c d e (.val (sD 6 (mk S1))) g h) = some (lT S1) := by simp
    rw [ev_p2, hx]
    exact add_lists (by have := h1.bd.len; omega)
  have hg := (hb.mk.gd lv6 hn (by decide) (by decide)).told (by decide)
  obtain ⟨t, ht⟩ := hg
  have hl : eN .c (l1 dRepr) [eCallV F_terms_merged [eN .c (l1 dTuple) [eCallR F__law_any_order 0 [eP (p2 dAdd (p2 dIx (pVar 2) (pC (.int 0))) (p2 dIx (pVar 2) (pC (.int 0))))]]]] (rE s n (.val (.list [lT S1, d2, d3])) b c d e (.val (sD 6 (mk S1))) g h) = some (rE s' n (.val (.list [lT S1, d2, d3])) b c d e (.val (sD 6 (mk S1))) g h, .val (.str t)) := by
    have hc : eCallR F__law_any_order 0 [eP (p2 dAdd (p2 dIx (pVar 2) (pC (.int 0))) (p2 dIx (pVar 2) (pC (.int 0))))] (rE s n (.val (.list [lT S1, d2, d3])) b c d e (.val (sD 6 (mk S1))) g h) = some (rE s' n (.val (.list [lT S1, d2, d3])) b c d e (.val (sD 6 (mk S1))) g h, .own false (.lst (l'.map (tmD 6)))) := by
      exact callR (o := .src s) rfl (ev1P ha) rfl e1
    rw [ev_eN, ev_eevs1, ev_eCallV, ev_eevs1, ev_eN, ev_eevs1, hc]
    dsimp only
    rw [ev_toD_own]
    simp [hm, ht]
  have hr : pN (l1 dRepr) [pCall F__law_often [pN dTup [pC (.int 2), pC (.int 1)], pVar 7]] (rE s' n (.val (.list [lT S1, d2, d3])) b c d e (.val (sD 6 (mk S1))) g h) = some (.str t) := by
    have := pc2 (F := F__law_often) (a := pN dTup [pC (.int 2), pC (.int 1)]) (b := pVar 7) (ρ := rE s' n (.val (.list [lT S1, d2, d3])) b c d e (.val (sD 6 (mk S1))) g h) (x := frD (nf 1 2)) (y := sD 6 (mk S1)) rfl rfl ho
    rw [ev_pN, ev_evs1, this, ev_evs0]
    dsimp only
    rw [ev_l1, ht]
  refine ⟨s', ?_⟩
  rw [ev_sIf, ev_tVE, ev_e2, hl]
  dsimp only
  rw [ev_toD_val]
  dsimp only
  rw [ev_eP, hr]
  dsimp only
  rw [ev_toD_val]
  dsimp only
  rw [dNe_str]
  simp
omit h1 h2 h3 hn in
theorem rr5 (s : Src) (a c d e f g h : Cell) : ∃ s' k, sVal 3 (eCallR F__law_drawn_fraction 0 []) (rE s n a .un c d e f g h) = some (rE s' n a (.val (frD (nf 6 k))) c d e f g h, .nx) ∧ k.natAbs ≤ 30 := by
  obtain ⟨s', k, e1, _, h2⟩ := drawn_fraction s
  exact ⟨s', k, by simp [e1], h2⟩
omit h3 in
/-- the four sums -/
theorem rr_told (s : Src) (a b c d : Cell) (h : Cell) {k : Int} (hk : k.natAbs ≤ 30) : pN dLst [pCall F_sums_added [pVar 7, pVar 8], pCall F_sum_often [pVar 3, pVar 7], pCall F_sum_often [pN dTup [pC (.int 0), pC (.int 1)], pVar 7], pCall F_sums_times [pVar 7, pVar 8]] (rE s n a (.val (frD (nf 6 k))) b c d (.val (sD 6 (mk S1))) (.val (sD 6 (mk S2))) h) =
    some (.list [sD 6 (mk (mk S1 ++ mk S2)), sD 36 (mk (oft k (mk S1))), .tuple [], sD 36 (mk (prod (mk S1) (mk S2)))]) := by
  have z := sum_often (M := 6) (N := 1) lv6 lv1 lv6 (c := 0) (by unfold S31; decide) h1.bd.mk (by decide) (by decide) (by decide)
  rw [show (1 : Int) * 6 = 6 from rfl, mk_none (S := oft 0 (mk S1)) fun g _ => by rw [lin_oft, Int.zero_mul]] at z
  refine pl4 (pc2 rfl rfl (sums_added lv6 h1.bd.mk h2.bd.mk (by decide) (by decide))) (pc2 rfl rfl (sum_often (M := 6) (N := 6) lv6 lv6 lv36 (by unfold S31; omega) h1.bd.mk (by omega) (by decide) (by decide))) (pc2 (x := frD (nf 1 0)) rfl rfl z)
    (pc2 rfl rfl (sums_times lv6 lv6 lv36 (by omega) h1.bd.mk h2.bd.mk (by decide) (by decide) (by decide) (by decide)))
omit h3 in
theorem rr_due (s : Src) (a b c d : Cell) (h : Cell) {k : Int} (hk : k.natAbs ≤ 30) : pN dLst [pCall F__law_made [p2 dAdd (pVar 7) (pVar 8)], pCall F__law_often [pVar 3, pVar 7], pN dTup [], pCall F__law_product [pVar 7, pVar 8]] (rE s n a (.val (frD (nf 6 k))) b c d (.val (sD 6 (mk S1))) (.val (sD 6 (mk S2))) h) =
    some (.list [sD 6 (mk (mk S1 ++ mk S2)), sD 36 (mk (oft k (mk S1))), .tuple [], sD 36 (mk (prod (mk S1) (mk S2)))]) := by
  have hm := law_made lv6 ((h1.mk.app h2.mk).bd.sz (by decide) (by decide)) (X := sD 6 (mk S1 ++ mk S2)) rfl
  rw [sD_mk] at hm
  have ha : p2 dAdd (pVar 7) (pVar 8) (rE s n a (.val (frD (nf 6 k))) b c d (.val (sD 6 (mk S1))) (.val (sD 6 (mk S2))) h) = some (sD 6 (mk S1 ++ mk S2)) := by
    exact add_sD (by have := h1.mk.bd.len; have := h2.mk.bd.len; omega)
  refine pl4 (pc1 ha hm) (pc2 rfl rfl (law_often (M := 6) (N := 6) lv6 lv6 lv36 (by unfold S31; omega) h1.bd.mk (by omega) (by decide) (by decide))) rfl
    (pc2 rfl rfl (law_product lv6 lv6 lv36 (by omega) h1.bd.mk h2.bd.mk (by decide) (by decide) (by decide) (by decide)))
end
end K09
/-! k09, the plain law: the ring's laws, to the end. -/
namespace K09
open PySem PySem.Spec PyProof.Rows L2 L3
theorem gd_nil : Gd 3 (.tuple []) := ⟨rfl, by decide, by decide⟩
theorem run_bool {p : P} {ρ : L3.Env} {d : D} (h : p ρ = some d) : sRet (eP p) ρ = some (ρ, .rt (.val d)) := run_ret h
section
variable {n : Nat} {S1 S2 S3 : List Tm} (hn : n ≤ 4) (h1 : Bx n 120 4 2 S1) (h2 : Bx n 120 4 2 S2) (h3 : Bx n 120 4 2 S3) {k : Int} (hk : k.natAbs ≤ 30)
abbrev fD (S1 S2 : List Tm) (k : Int) : D := .list [sD 6 (mk (mk S1 ++ mk S2)), sD 36 (mk (oft k (mk S1))), .tuple [], sD 36 (mk (prod (mk S1) (mk S2)))]
abbrev rF (s : Src) (n : Nat) (S1 S2 S3 : List Tm) (k : Int) (a e : Cell) : L3.Env := rE s n a (.val (frD (nf 6 k))) (.val (fD S1 S2 k)) (.val (fD S1 S2 k)) e (.val (sD 6 (mk S1))) (.val (sD 6 (mk S2))) (.val (sD 6 (mk S3)))
include hn h1 h2 h3
omit h3 in
theorem prod_gd : Gd 256035 (sD 36 (mk (prod (mk S1) (mk S2)))) := (h1.mk.prod h2.mk).mk.gd lv36 hn (by decide) (by decide)
omit h3 in
include hk in
theorem rr8 (s : Src) (a e : Cell) : sIf (tP (tV (p2 dNe (pN (l1 dRepr) [pVar 4]) (pN (l1 dRepr) [pVar 5])))) (sRet (eP (pC (.bool false)))) (sNx) (rF s n S1 S2 S3 k a e) = some (rF s n S1 S2 S3 k a e, .nx) := by
  refine if_no (rne_same (d := fD S1 S2 k) rfl rfl ?_)
  have g := gd_list (w := 256035) (xs := [sD 6 (mk (mk S1 ++ mk S2)), sD 36 (mk (oft k (mk S1))), .tuple [], sD 36 (mk (prod (mk S1) (mk S2)))]) fun x hx => by
    simp only [List.mem_cons, List.not_mem_nil, or_false] at hx
    rcases hx with rfl | rfl | rfl | rfl
    · exact ⟨((h1.mk.app h2.mk).mk.gd lv6 hn (by decide) (by decide)).mono (by decide), Bx.dep _⟩
    · exact ⟨((h1.mk.oft k).mk.gd lv36 hn (by decide) (by omega)).mono (by decide), Bx.dep _⟩
    · exact ⟨gd_nil.mono (by decide), by decide⟩
    · exact ⟨prod_gd hn h1 h2, Bx.dep _⟩
  exact g.told (by simp)
theorem ix3 (s : Src) (a e : Cell) : p2 dIx (pVar 5) (pC (.int 3)) (rF s n S1 S2 S3 k a e) = some (sD 36 (mk (prod (mk S1) (mk S2)))) := rfl
theorem rr9 (s : Src) (a e : Cell) : sIf (tP (L3.tOr (tV (p2 dNe (pCall F_sums_times [pVar 8, pVar 7]) (p2 dIx (pVar 5) (pC (.int 3))))) (tV (p2 dNe (pCall F_sums_times [p2 dIx (pVar 5) (pC (.int 3)), pVar 9]) (pCall F_sums_times [pVar 7, pCall F_sums_times [pVar 8, pVar 9]]))))) (sRet (eP (pC (.bool false)))) (sNx) (rF s n S1 S2 S3 k a e) = some (rF s n S1 S2 S3 k a e, .nx) := by
  have b12 := (h1.mk.prod h2.mk).mk
  have b23 := (h2.mk.prod h3.mk).mk
  have t1 := sums_times lv6 lv6 lv36 (by omega) h2.bd.mk h1.bd.mk (by decide) (by decide) (by decide) (by decide)
  have t2 := sums_times lv36 lv6 lv216 (by omega) b12.bd h3.bd.mk (by decide) (by decide) (by decide) (by decide)
  have t3 := sums_times lv6 lv6 lv36 (by omega) h2.bd.mk h3.bd.mk (by decide) (by decide) (by decide) (by decide)
  have t4 := sums_times lv6 lv36 lv216 (by omega) h1.bd.mk b23.bd (by decide) (by decide) (by decide) (by decide)
  rw [mk_eq (prod_comm (mk S2) (mk S1))] at t1
  have e4 : mk (prod (mk S1) (mk (prod (mk S2) (mk S3)))) = mk (prod (mk (prod (mk S1) (mk S2))) (mk S3)) :=
    mk_eq (((Sim.refl _).prod (mk_sim _)).trans ((prod_assoc _ _ _).symm.trans ((mk_sim _).symm.prod (Sim.refl _))))
  rw [e4] at t4
  have g2 : Gd (64 * 16002 + 3) (sD 216 (mk (prod (mk (prod (mk S1) (mk S2))) (mk S3)))) := (b12.prod h3.mk).mk.gd lv216 hn (by decide) (by decide)
  refine if_no (or_no (ne_same (pc2 rfl rfl t1) (ix3 hn h1 h2 h3 s a e) (prod_gd hn h1 h2)) (ne_same (pc2 (ix3 hn h1 h2 h3 s a e) rfl t2) (pc2 rfl (pc2 rfl rfl t3) t4) g2))
omit h1 h2 h3 in
theorem rr10 (s : Src) (a : Cell) : sVal 6 (eP (pCall F_told_turns [pVar 1, pN dTup [pC (.int 1), pC (.int 1)]])) (rF s n S1 S2 S3 k a .un) = some (rF s n S1 S2 S3 k a (.val (sD 1 (mk [(zeros n, 0, 1)]))), .nx) :=
  val_ok (cc := .un) (pc2 (x := .int (n : Int)) (y := frD (nf 1 1)) rfl rfl (told_turns lv1 (by omega) (by unfold S31; decide))) rfl rfl
omit h2 h3 in
theorem rr11 (s : Src) (a : Cell) : sIf (tP (L3.tOr (tV (p2 dNe (pVar 6) (pN dTup [pN dTup [p2 dRepT (pN dTup [pC (.int 0)]) (pVar 1), pN dTup [pC (.int 0), pC (.int 1)], pN dTup [pC (.int 1), pC (.int 1)]]]))) (L3.tOr (tV (p2 dNe (pCall F_sums_times [pVar 6, pVar 7]) (pVar 7))) (tV (p2 dNe (pCall F_told_turns [pVar 1, pN dTup [pC (.int 0), pC (.int 1)]]) (pN dTup [])))))) (sRet (eP (pC (.bool false)))) (sNx) (rF s n S1 S2 S3 k a (.val (sD 1 (mk [(zeros n, 0, 1)])))) =
    some (rF s n S1 S2 S3 k a (.val (sD 1 (mk [(zeros n, 0, 1)]))), .nx) := by
  have hz := zeros_D n (by omega)
  have bz := (zeros_bx n 1).mk
  have em : mk [(zeros n, (0 : Int), (1 : Int))] = [(zeros n, 0, 1)] := mk_one (by decide) (by decide) (by decide)
  have q1 : pN dTup [pN dTup [p2 dRepT (pN dTup [pC (.int 0)]) (pVar 1), pN dTup [pC (.int 0), pC (.int 1)], pN dTup [pC (.int 1), pC (.int 1)]]] (rF s n S1 S2 S3 k a (.val (sD 1 (mk [(zeros n, 0, 1)])))) = some (sD 1 (mk [(zeros n, 0, 1)])) := by
    have hr : p2 dRepT (pN dTup [pC (.int 0)]) (pVar 1) (rF s n S1 S2 S3 k a (.val (sD 1 (mk [(zeros n, 0, 1)])))) = some (rowD (zeros n)) := hz
    have f1 : frD (pt 0) = .tuple [.int 0, .int 1] := rfl
    have f2 : frD (nf 1 1) = .tuple [.int 1, .int 1] := rfl
    rw [ev_pN, ev_evs1, ev_pN, ev_evs1, hr, em]
    simp [len24, sD, tmD, f1, f2]
  have t1 := sums_times lv1 lv6 lv6 (by omega) bz.bd h1.bd.mk (by decide) (by decide) (by decide) (by decide)
  rw [show (1 : Int) * 6 = 6 from rfl, mk_eq (((mk_sim _).prod (Sim.refl _)).trans ((prod_one h1.mk.bd.row).trans (mk_sim S1)))] at t1
  have t2 := told_turns lv1 (n := n) (by omega) (a := 0) (by unfold S31; decide)
  rw [mk_none (S := [(zeros n, 0, 0)]) fun g _ => by simp [lin]] at t2
  exact if_no (or_no (ne_same rfl q1 (bz.gd lv1 hn (by decide) (by decide))) (or_no (ne_same (pc2 rfl rfl t1) rfl (h1.mk.gd lv6 hn (by decide) (by decide))) (ne_same (pc2 (x := .int (n : Int)) (y := frD (nf 1 0)) rfl rfl t2) rfl gd_nil)))
theorem rr12 (s : Src) (a e : Cell) : sRet (eP (p2 dEq (pCall F_sums_times [pVar 7, pCall F_sums_added [pVar 8, pVar 9]]) (pCall F_sums_added [p2 dIx (pVar 5) (pC (.int 3)), pCall F_sums_times [pVar 7, pVar 9]]))) (rF s n S1 S2 S3 k a e) = some (rF s n S1 S2 S3 k a e, .rt (.val (.bool true))) := by
  have b12 := (h1.mk.prod h2.mk).mk
  have b13 := (h1.mk.prod h3.mk).mk
  have ba := (h2.mk.app h3.mk).mk
  have t1 := sums_added lv6 h2.bd.mk h3.bd.mk (by decide) (by decide)
  have t2 := sums_times lv6 lv6 lv36 (by omega) h1.bd.mk ba.bd (by decide) (by decide) (by decide) (by decide)
  have t3 := sums_times lv6 lv6 lv36 (by omega) h1.bd.mk h3.bd.mk (by decide) (by decide) (by decide) (by decide)
  have t4 := sums_added lv36 b12.bd b13.bd (by decide) (by decide)
  have e2 : mk (prod (mk S1) (mk (mk S2 ++ mk S3))) = mk (mk (prod (mk S1) (mk S2)) ++ mk (prod (mk S1) (mk S3))) :=
    mk_eq (((Sim.refl _).prod (mk_sim _)).trans ((prod_add _ _ _).trans ((mk_sim _).symm.app (mk_sim _).symm)))
  rw [e2] at t2
  exact run_ret (eq_same (pc2 rfl (pc2 rfl rfl t1) t2) (pc2 (ix3 hn h1 h2 h3 s a e) (pc2 rfl rfl t3) t4) ((b12.app b13).mk.gd lv36 hn (by decide) (by decide)))
end
theorem ring_right (s : Src) (n : Nat) (hn : n ≤ 4) : ∃ s', F__law_ring_right [.own true (.src s), .val (.int (n : Int))] = some ([.own true (.src s'), .un], .val (.bool true)) := by
  obtain ⟨s1, S1, S2, S3, e1, h1, h2, h3⟩ := rr1 s n hn
  have e2 := rr2 h1 h2 h3 s1
  have e3 := rr3 hn h1 h2 h3 s1 .un .un .un .un
  obtain ⟨s4, e4⟩ := rr4 hn h1 s1 (lT S2) (lT S3) .un .un .un .un (.val (sD 6 (mk S2))) (.val (sD 6 (mk S3)))
  obtain ⟨s5, k, e5, hk⟩ := rr5 (n := n) s4 (.val (.list [lT S1, lT S2, lT S3])) .un .un .un (.val (sD 6 (mk S1))) (.val (sD 6 (mk S2))) (.val (sD 6 (mk S3)))
  have e6 := val_ok (i := 4) (cc := .un) (rr_told hn h1 h2 s5 (.val (.list [lT S1, lT S2, lT S3])) .un .un .un (.val (sD 6 (mk S3))) hk) rfl rfl
  have e7 := val_ok (i := 5) (cc := .un) (rr_due hn h1 h2 s5 (.val (.list [lT S1, lT S2, lT S3])) (.val (fD S1 S2 k)) .un .un (.val (sD 6 (mk S3))) hk) rfl rfl
  have e8 := rr8 (S3 := S3) hn h1 h2 hk s5 (.val (.list [lT S1, lT S2, lT S3])) .un
  have e9 := rr9 (k := k) hn h1 h2 h3 s5 (.val (.list [lT S1, lT S2, lT S3])) .un
  have e10 := rr10 (S1 := S1) (S2 := S2) (S3 := S3) (k := k) hn s5 (.val (.list [lT S1, lT S2, lT S3]))
  have e11 := rr11 (S2 := S2) (S3 := S3) (k := k) hn h1 s5 (.val (.list [lT S1, lT S2, lT S3]))
  have e12 := rr12 (k := k) hn h1 h2 h3 s5 (.val (.list [lT S1, lT S2, lT S3])) (.val (sD 1 (mk [(zeros n, 0, 1)])))
  refine ⟨s5, run_fn (ρ0 := rE s n .un .un .un .un .un .un .un .un) rfl rfl (show g__law_ring_right _ = _ from (run_seq e1).trans ((run_seq e2).trans ((run_seq e3).trans ((run_seq e4).trans ((run_seq e5).trans ((run_seq e6).trans ((run_seq e7).trans ((run_seq e8).trans ((run_seq e9).trans ((run_seq e10).trans ((run_seq e11).trans e12))))))))))) rfl⟩
end K09
/-! k09, the plain law: cosine forms. -/
namespace K09
open PySem PySem.Spec PyProof.Rows L2 L3
def nzr (r : List Int) : List Int := r.filter fun x => decide (x ≠ 0)
def isHead (r : List Int) : Bool := match nzr r with
  | x :: _ => decide (0 < x)
  | [] => false
def isZ (r : List Int) : Bool := (nzr r).isEmpty
def wgt (r : List Int) (t : Int) : Int := if isHead r then 2 else if isZ r then (if t = 0 then 1 else if t < 630 then 2 else 0) else 0
/-- the terms of the cosine form -/
def fm (U : List Tm) : List Tm := (U.filter fun x => decide (wgt x.1 x.2.1 ≠ 0)).map fun x => (x.1, x.2.1, wgt x.1 x.2.1 * x.2.2)
theorem fm_cons (x : Tm) (U : List Tm) : fm (x :: U) = (if wgt x.1 x.2.1 ≠ 0 then [(x.1, x.2.1, wgt x.1 x.2.1 * x.2.2)] else []) ++ fm U := by
  unfold fm
  rw [List.filter_cons]
  by_cases h : wgt x.1 x.2.1 = 0 <;> simp [h]
theorem compNz {i : Nat} {ρ : L3.Env} (hi : ρ[i]? = some .un) : ∀ r : List Int, compP (.nm i) (tV (p2 dNe (pVar i) (pC (.int 0)))) (pVar i) ρ (r.map .int) = some ((nzr r).map .int)
  | [] => rfl
  | x :: r => by
    have ih := compNz hi r
    have hl : i < ρ.length := (List.getElem?_eq_some_iff.mp hi).1
    have hb : bind (.nm i) (.int x) ρ = some (ρ.set i (.val (.int x))) := by rw [ev_bind0]; exact put_no hi rfl
    have hv : pVar i (ρ.set i (.val (.int x))) = some (.int x) := by rw [ev_pVar, List.getElem?_set_self hl]
    have ht : tV (p2 dNe (pVar i) (pC (.int 0))) (ρ.set i (.val (.int x))) = some (!decide (x = 0)) := by
      rw [ev_tV, ev_p2, hv]
      simp
    rw [List.map_cons, compP, hb]
    dsimp only
    rw [ht]
    unfold nzr at ih ⊢
    rw [List.filter_cons]
    by_cases h : x = 0
    · have e : (!decide (x = 0)) = false := by simp [h]
      rw [e]
      dsimp only
      rw [ih, if_neg (by simp [h])]
    · have e : (!decide (x = 0)) = true := by simp [h]
      rw [e]
      dsimp only
      rw [hv]
      dsimp only
      rw [ih, if_pos (by simp [h])]
      rfl
theorem nz_comp {i j : Nat} {ρ : L3.Env} {r : List Int} (hj : pVar j ρ = some (rowD r)) (hf : freeAt [i] ρ = true) (hi : i < ρ.length) (hl : r.length ≤ 100) :
    pComp [i] (.nm i) (ipP (pVar j)) (tV (p2 dNe (pVar i) (pC (.int 0)))) (pVar i) ρ = some (.list ((nzr r).map .int)) := by
  have ha : ipP (pVar j) ρ = some (r.map .int) := by unfold ipP; rw [hj]; rfl
  unfold pComp
  rw [ha]
  dsimp only
  rw [hf, List.length_map, l24 (by omega), show wipeE [i] ρ = ρ.set i .un from rfl, compNz (List.getElem?_set_self hi)]
  rfl
theorem ne_nil (xs : List D) : dNe (.list xs) (.list []) = some (.bool (!xs.isEmpty)) := by
  unfold dNe
  rw [show emp (.list xs) (.list []) = true from rfl, Bool.or_true, if_pos rfl]
  cases xs <;> simp [PyData.eqv, PyData.eqvAll]
theorem eq_nil (xs : List D) : dEq (.list xs) (.list []) = some (.bool xs.isEmpty) := by
  unfold dEq
  rw [show emp (.list xs) (.list []) = true from rfl, Bool.or_true, if_pos rfl]
  cases xs <;> simp [PyData.eqv, PyData.eqvAll]
theorem head_test {ρ : L3.Env} {v : P} {r : List Int} (h : v ρ = some (.list ((nzr r).map .int))) : L3.tAnd (tV (p2 dNe v (pN dLst []))) (tV (p2 dGt (p2 dIx v (pC (.int 0))) (pC (.int 0)))) ρ = some (isHead r) := by
  have h1 : tV (p2 dNe v (pN dLst [])) ρ = some (!(nzr r).isEmpty) := by
    rw [ev_tV, ev_p2, h]
    show (match dNe (.list ((nzr r).map .int)) (.list []) with | some (.bool b) => some b | _ => none) = _
    rw [ne_nil]
    cases nzr r <;> rfl
  rw [ev_tAnd, h1]
  unfold isHead
  cases e : nzr r with
  | nil => rfl
  | cons x l =>
    rw [e] at h
    show tV (p2 dGt (p2 dIx v (pC (.int 0))) (pC (.int 0))) ρ = _
    rw [ev_tV, ev_p2, ev_p2, h]
    simp
theorem zero_test {ρ : L3.Env} {v : P} {r : List Int} (h : v ρ = some (.list ((nzr r).map .int))) : tV (p2 dEq v (pN dLst [])) ρ = some (isZ r) := by
  rw [ev_tV, ev_p2, h]
  show (match dEq (.list ((nzr r).map .int)) (.list []) with | some (.bool b) => some b | _ => none) = _
  rw [eq_nil]
  unfold isZ
  cases nzr r <;> rfl
theorem dEq_fr (x y : Int × Int) : dEq (frD x) (frD y) = some (.bool (decide (x = y))) := by
  have := dNe_fr x y
  unfold dNe at this
  unfold dEq
  have h1 : okD (frD x) = true := rfl
  have h2 : okD (frD y) = true := rfl
  rw [h1, h2] at this ⊢
  simp only [Bool.and_self, Bool.true_or, if_true, Option.some.injEq, PyData.bool.injEq] at this ⊢
  have := congrArg (!·) this
  simpa using this
section
variable {t : Int} (h0 : 0 ≤ t) (h1 : t < 1260)
include h0 h1
theorem pt_pos : (0 < 4 * (pt t).1) = (0 < t) := by
  obtain ⟨c1, c2⟩ := pt_val t
  rw [show t % 2520 = t by omega] at c1
  apply propext
  constructor
  · intro h
    rcases Int.lt_or_eq_of_le h0 with h | h
    · exact h
    · subst h
      rw [Int.zero_mul] at c1; omega
  · intro h
    have : 0 < t * (pt t).2 := Int.mul_pos h c2
    omega
theorem pt_quarter : (4 * (pt t).1 < (pt t).2) = (t < 630) := by
  obtain ⟨c1, c2⟩ := pt_val t
  rw [show t % 2520 = t by omega] at c1
  apply propext
  constructor
  · intro h
    by_cases z : t < 630
    · exact z
    · have : 630 * (pt t).2 ≤ t * (pt t).2 := Int.mul_le_mul_of_nonneg_right (by omega) (by omega)
      omega
  · intro h
    have : t * (pt t).2 ≤ 629 * (pt t).2 := Int.mul_le_mul_of_nonneg_right (by omega) (by omega)
    omega
theorem pt_zero : (pt t = (0, 1)) = (t = 0) := by
  apply propext
  constructor
  · intro h
    have := pt_inj (s := t) (t := 0) (h.trans (by decide))
    omega
  · intro h; rw [h]; decide
end
/-- what stands for a term in the form -/
theorem is_head_row {r : List Int} (hl : r.length ≤ 100) : F_is_head_row [.val (rowD r)] = some ([.un], .val (.bool (isHead r))) := by
  have hc := nz_comp (i := 2) (j := 0) (ρ := [.val (rowD r), .un, .un]) (r := r) rfl rfl (by simp) hl
  have e1 := val_ok (i := 1) (cc := .un) hc rfl rfl
  have e2 := head_test (ρ := [.val (rowD r), .val (.list ((nzr r).map .int)), .un]) (v := pVar 1) (r := r) rfl
  have e3 : pT (L3.tAnd (tV (p2 dNe (pVar 1) (pN dLst []))) (tV (p2 dGt (p2 dIx (pVar 1) (pC (.int 0))) (pC (.int 0))))) [.val (rowD r), .val (.list ((nzr r).map .int)), .un] = some (.bool (isHead r)) := by rw [ev_pT, e2]
  exact run_fn (ρ0 := [.val (rowD r), .un, .un]) rfl rfl (show g_is_head_row _ = _ from (run_seq e1).trans (run_ret e3)) rfl
theorem any_row : ∀ r : List Int, ((r.map PyData.int).all small1 = true) ∧ (r.map PyData.int).any PyData.truthy = !isZ r
  | [] => ⟨rfl, rfl⟩
  | x :: r => by
    obtain ⟨h1, h2⟩ := any_row r
    refine ⟨by rw [List.map_cons, List.all_cons, h1]; rfl, ?_⟩
    rw [List.map_cons, List.any_cons, h2]
    unfold isZ nzr
    rw [List.filter_cons]
    by_cases h : x = 0
    · subst h; simp [PyData.truthy]
    · simp [PyData.truthy, h]
def oftD (M : Int) (r : List Int) (t a : Int) : D := if wgt r t ≠ 0 then frD (nf M (wgt r t * a)) else .none
theorem head_not_zero {r : List Int} (h : isHead r = true) : isZ r = false := by
  unfold isHead at h
  unfold isZ
  cases e : nzr r with
  | nil => rw [e] at h; cases h
  | cons x l => rfl
theorem two_times {M : Int} (hM : Lv M) {a : Int} (ha : S31 a) : F_fraction_times [.val (frD (nf 1 2)), .val (frD (nf M a))] = some ([.un, .un], .val (frD (nf M (2 * a)))) := by
  have := nf_times lv1 hM (m := 2) (by unfold S31; decide) ha
  rwa [Int.one_mul] at this
theorem two_by {M : Int} (hM : Lv M) {a : Int} (ha : S31 a) : F__law_by [.val (frD (nf 1 2)), .val (frD (nf M a))] = some ([.un, .un], .val (frD (nf M (2 * a)))) := by
  have := law_times lv1 hM (m := 2) (by unfold S31; decide) ha
  rwa [Int.one_mul] at this
theorem two_D : (PyData.tuple [.int 2, .int 1]) = frD (nf 1 2) := rfl
theorem cosine_often {M : Int} (hM : Lv M) {r : List Int} {t a : Int} (hl : r.length ≤ 100) (h0 : 0 ≤ t) (h1 : t < 1260) (ha : S31 a) : F_cosine_often [.val (rowD r), .val (frD (pt t)), .val (frD (nf M a))] = some ([.un, .un, .un], .val (oftD M r t a)) := by
  have hh := is_head_row hl
  obtain ⟨a1, a2⟩ := any_row r
  have hany : dAny (rowD r) = some (.bool (!isZ r)) := by
    show (if (r.map PyData.int).all small1 = true then some (PyData.bool ((r.map PyData.int).any PyData.truthy)) else none) = _
    rw [a1, a2]
    rfl
  have ht := two_times hM ha
  have hm : mulOk 4 (pt t).1 = true := mulOk31 (by unfold S31; decide)
  have q1 : decide ((pt t).2 ≤ 4 * (pt t).1) = decide (¬ t < 630) := by
    have e : (4 * (pt t).1 < (pt t).2) ↔ t < 630 := by rw [pt_quarter h0 h1]
    exact decide_eq_decide.mpr (by omega)
  have q2 : decide ((pt t).1 = 0) = decide (t = 0) := by
    have := pt_pos h0 h1
    obtain ⟨c1, c2⟩ := pt_val t
    rw [show t % 2520 = t by omega] at c1
    have h3 : 0 ≤ t * (pt t).2 := Int.mul_nonneg h0 (by omega)
    have : (pt t).1 = 0 ↔ t = 0 := by
      have h4 : (0 < 4 * (pt t).1) ↔ 0 < t := by rw [this]
      omega
    exact decide_eq_decide.mpr this
  unfold F_cosine_often g_cosine_often oftD
  by_cases z : isHead r = true
  · have e : wgt r t = 2 := by unfold wgt; rw [if_pos z]
    simp [hh, z, len24, two_D, ht, e]
  · have z' : isHead r = false := by simpa using z
    by_cases y : isZ r = true
    · by_cases x : t < 630
      · by_cases w : t = 0
        · have e : wgt r t = 1 := by unfold wgt; rw [if_neg z, if_pos y, if_pos w]
          have q3 : decide ((pt t).1 = 0) = true := by rw [q2]; exact decide_eq_true w
          simp [hh, z', hany, y, hm, pair_ix0, pair_ix1, q1, q3, x, len24, e]
        · have e : wgt r t = 2 := by unfold wgt; rw [if_neg z, if_pos y, if_neg w, if_pos x]
          have q3 : decide ((pt t).1 = 0) = false := by rw [q2]; exact decide_eq_false w
          simp [hh, z', hany, y, hm, pair_ix0, pair_ix1, q1, q3, x, len24, two_D, ht, e]
      · have e : wgt r t = 0 := by unfold wgt; rw [if_neg z, if_pos y, if_neg (by omega), if_neg x]
        simp [hh, z', hany, y, hm, pair_ix0, pair_ix1, q1, x, e]
    · have y' : isZ r = false := by simpa using y
      have e : wgt r t = 0 := by unfold wgt; rw [if_neg z, if_neg y]
      simp [hh, z', hany, y', e]
end K09
/-! k09, the plain law: cosine forms, the loops. -/
namespace K09
open PySem PySem.Spec PyProof.Rows L2 L3
/-- what a term of a form asks -/
structure Oku (n : Nat) (x : Tm) : Prop where
  row : x.1.length = n
  s : S31 x.2.2
  lo : 0 ≤ x.2.1
  hi : x.2.1 < 1260
abbrev bCf : Sm := sSeq (sVal 5 (eP (pCall F_cosine_often [pVar 2, pVar 3, pVar 4])))
      (sIf (tP (tV (p2 dNotN (pVar 5) (pC .none)))) (sApp 1 (eP (pN dTup [pVar 2, pVar 3, pVar 5]))) (sNx))
section
variable {M : Int} {n : Nat} (hM : Lv M) (hn : n ≤ 100) (X0 : Cell)
include hM hn
theorem loop_cf : ∀ (U : List Tm) (xs : List D) (c2 c3 c4 c5 : Cell), (∀ x ∈ U, Oku n x) → isOwn c2 = false → isOwn c3 = false → isOwn c4 = false → isOwn c5 = false → xs.length + U.length < 16777216 →
    ∃ d2 d3 d4 d5, forL (.tp [.nm 2, .nm 3, .nm 4]) bCf (U.map (tmD M)) [X0, .own false (.lst xs), c2, c3, c4, c5] = some ([X0, .own false (.lst (xs ++ (fm U).map (tmD M))), d2, d3, d4, d5], .nx)
  | [], xs, c2, c3, c4, c5, _, _, _, _, _, _ => ⟨c2, c3, c4, c5, by rw [List.map_nil, forL]; simp [fm]⟩
  | x :: U, xs, c2, c3, c4, c5, hU, h2, h3, h4, h5, hl => by
    rw [List.length_cons] at hl
    have hx := hU x (List.mem_cons_self ..)
    have hc := cosine_often hM (r := x.1) (t := x.2.1) (a := x.2.2) (by rw [hx.row]; exact hn) hx.lo hx.hi hx.s
    have hb : bind (.tp [.nm 2, .nm 3, .nm 4]) (tmD M x) [X0, .own false (.lst xs), c2, c3, c4, c5] = some [X0, .own false (.lst xs), .val (rowD x.1), .val (frD (pt x.2.1)), .val (frD (nf M x.2.2)), c5] :=
      bind_three (by decide) (by decide) (by decide) rfl h2 rfl h3 rfl h4
    have e1 := val_ok (i := 5) (cc := c5) (ρ := [X0, .own false (.lst xs), .val (rowD x.1), .val (frD (pt x.2.1)), .val (frD (nf M x.2.2)), c5]) (pc3 (a := pVar 2) (b := pVar 3) (c := pVar 4) rfl rfl rfl hc) rfl h5
    have hbody : bCf [X0, .own false (.lst xs), .val (rowD x.1), .val (frD (pt x.2.1)), .val (frD (nf M x.2.2)), c5] = some ([X0, .own false (.lst (xs ++ (if wgt x.1 x.2.1 ≠ 0 then [(x.1, x.2.1, wgt x.1 x.2.1 * x.2.2)] else []).map (tmD M))), .val (rowD x.1), .val (frD (pt x.2.1)), .val (frD (nf M x.2.2)), .val (oftD M x.1 x.2.1 x.2.2)], .nx) := by
      refine (run_seq e1).trans ?_
      show sIf _ _ _ [X0, .own false (.lst xs), .val (rowD x.1), .val (frD (pt x.2.1)), .val (frD (nf M x.2.2)), .val (oftD M x.1 x.2.1 x.2.2)] = _
      unfold oftD
      by_cases z : wgt x.1 x.2.1 = 0
      · rw [if_neg (by simpa using z), if_neg (by simpa using z)]
        simp [dNotN]
      · rw [if_pos z, if_pos z]
        have ht : tV (p2 dNotN (pVar 5) (pC .none)) [X0, .own false (.lst xs), .val (rowD x.1), .val (frD (pt x.2.1)), .val (frD (nf M x.2.2)), .val (frD (nf M (wgt x.1 x.2.1 * x.2.2)))] = some true := rfl
        rw [ev_sIf, ev_tP, ht]
        dsimp only
        exact app_ok (i := 1) (d := tmD M (x.1, x.2.1, wgt x.1 x.2.1 * x.2.2)) rfl rfl (by omega)
    obtain ⟨d2, d3, d4, d5, e2⟩ := loop_cf U (xs ++ (if wgt x.1 x.2.1 ≠ 0 then [(x.1, x.2.1, wgt x.1 x.2.1 * x.2.2)] else []).map (tmD M)) (.val (rowD x.1)) (.val (frD (pt x.2.1))) (.val (frD (nf M x.2.2))) (.val (oftD M x.1 x.2.1 x.2.2)) (fun y hy => hU y (List.mem_cons_of_mem _ hy)) rfl rfl rfl rfl (by
      rw [List.length_append, List.length_map]
      split <;> simp <;> omega)
    refine ⟨d2, d3, d4, d5, ?_⟩
    rw [List.map_cons, forL, hb]
    dsimp only
    rw [hbody]
    dsimp only
    rw [e2, fm_cons, List.map_append, List.append_assoc]
theorem cosine_form {U : List Tm} (hU : ∀ x ∈ U, Oku n x) (hl : U.length < 16777216) : F_cosine_form [.val (sD M U)] = some ([.un], .val (sD M (fm U))) := by
  obtain ⟨d2, d3, d4, d5, e1⟩ := loop_cf hM hn (.val (sD M U)) U [] .un .un .un .un hU rfl rfl rfl rfl (by simpa using hl)
  have e0 : sOwn 1 (L3.eF (pN dLst [])) [.val (sD M U), .un, .un, .un, .un, .un] = some ([.val (sD M U), .own false (.lst []), .un, .un, .un, .un], .nx) := rfl
  have e1' : sFor (.tp [.nm 2, .nm 3, .nm 4]) (iP (pVar 0)) bCf [.val (sD M U), .own false (.lst []), .un, .un, .un, .un] = some ([.val (sD M U), .own false (.lst ((fm U).map (tmD M))), d2, d3, d4, d5], .nx) := by
    rw [ev_sFor]
    simp only [iP, ev_pVar, List.getElem?_cons_zero, seq_sD]
    exact e1
  have e2 : pN (l1 dTuple) [pOwn 1] [.val (sD M U), .own false (.lst ((fm U).map (tmD M))), d2, d3, d4, d5] = some (sD M (fm U)) := rfl
  exact run_fn (ρ0 := [.val (sD M U), .un, .un, .un, .un, .un]) rfl rfl (show g_cosine_form _ = _ from (run_seq e0).trans ((run_seq e1').trans (run_ret e2))) rfl
abbrev bLf : Sm := sSeq (sVal 5 (eP (pComp [6] (.nm 6) (ipP (pVar 2)) (tV (p2 dNe (pVar 6) (pC (.int 0)))) (pVar 6))))
      (sIf (tP (L3.tOr (L3.tAnd (tV (p2 dNe (pVar 5) (pN dLst []))) (tV (p2 dGt (p2 dIx (pVar 5) (pC (.int 0))) (pC (.int 0))))) (L3.tAnd (tV (p2 dEq (pVar 5) (pN dLst []))) (tV (pChain dLt dLt (pC (.int 0)) (p2 dMul (pC (.int 4)) (p2 dIx (pVar 3) (pC (.int 0)))) (p2 dIx (pVar 3) (pC (.int 1)))))))) (sApp 1 (eP (pN dTup [pVar 2, pVar 3, pCall F__law_by [pN dTup [pC (.int 2), pC (.int 1)], pVar 4]]))) (sIf (tP (L3.tAnd (tV (p2 dEq (pVar 5) (pN dLst []))) (tV (p2 dEq (pVar 3) (pN dTup [pC (.int 0), pC (.int 1)]))))) (sApp 1 (eP (pN dTup [pVar 2, pVar 3, pVar 4]))) (sNx)))
theorem loop_lf : ∀ (U : List Tm) (xs : List D) (c2 c3 c4 c5 : Cell), (∀ x ∈ U, Oku n x) → isOwn c2 = false → isOwn c3 = false → isOwn c4 = false → isOwn c5 = false → xs.length + U.length < 16777216 →
    ∃ d2 d3 d4 d5, forL (.tp [.nm 2, .nm 3, .nm 4]) bLf (U.map (tmD M)) [X0, .own false (.lst xs), c2, c3, c4, c5, .un] = some ([X0, .own false (.lst (xs ++ (fm U).map (tmD M))), d2, d3, d4, d5, .un], .nx)
  | [], xs, c2, c3, c4, c5, _, _, _, _, _, _ => ⟨c2, c3, c4, c5, by rw [List.map_nil, forL]; simp [fm]⟩
  | x :: U, xs, c2, c3, c4, c5, hU, h2, h3, h4, h5, hl => by
    rw [List.length_cons] at hl
    have hx := hU x (List.mem_cons_self ..)
    have hb : bind (.tp [.nm 2, .nm 3, .nm 4]) (tmD M x) [X0, .own false (.lst xs), c2, c3, c4, c5, .un] = some [X0, .own false (.lst xs), .val (rowD x.1), .val (frD (pt x.2.1)), .val (frD (nf M x.2.2)), c5, .un] :=
      bind_three (by decide) (by decide) (by decide) rfl h2 rfl h3 rfl h4
    have hc := nz_comp (i := 6) (j := 2) (ρ := [X0, .own false (.lst xs), .val (rowD x.1), .val (frD (pt x.2.1)), .val (frD (nf M x.2.2)), c5, .un]) (r := x.1) rfl rfl (by simp) (by rw [hx.row]; exact hn)
    have e1 := val_ok (i := 5) (cc := c5) hc rfl h5
    have hbody : bLf [X0, .own false (.lst xs), .val (rowD x.1), .val (frD (pt x.2.1)), .val (frD (nf M x.2.2)), c5, .un] = some ([X0, .own false (.lst (xs ++ (if wgt x.1 x.2.1 ≠ 0 then [(x.1, x.2.1, wgt x.1 x.2.1 * x.2.2)] else []).map (tmD M))), .val (rowD x.1), .val (frD (pt x.2.1)), .val (frD (nf M x.2.2)), .val (.list ((nzr x.1).map .int)), .un], .nx) := by
      refine (run_seq e1).trans ?_
      show sIf _ _ _ [X0, .own false (.lst xs), .val (rowD x.1), .val (frD (pt x.2.1)), .val (frD (nf M x.2.2)), .val (.list ((nzr x.1).map .int)), .un] = _
      have t1 := head_test (ρ := [X0, .own false (.lst xs), .val (rowD x.1), .val (frD (pt x.2.1)), .val (frD (nf M x.2.2)), .val (.list ((nzr x.1).map .int)), .un]) (v := pVar 5) (r := x.1) rfl
      have t2 := zero_test (ρ := [X0, .own false (.lst xs), .val (rowD x.1), .val (frD (pt x.2.1)), .val (frD (nf M x.2.2)), .val (.list ((nzr x.1).map .int)), .un]) (v := pVar 5) (r := x.1) rfl
      have hm : mulOk 4 (pt x.2.1).1 = true := mulOk31 (by unfold S31; decide)
      have p1 := pt_pos hx.lo hx.hi
      have p2' := pt_quarter hx.lo hx.hi
      have p3 := pt_zero hx.lo hx.hi
      have t3 : tV (pChain dLt dLt (pC (.int 0)) (L3.p2 dMul (pC (.int 4)) (L3.p2 dIx (pVar 3) (pC (.int 0)))) (L3.p2 dIx (pVar 3) (pC (.int 1)))) [X0, .own false (.lst xs), .val (rowD x.1), .val (frD (pt x.2.1)), .val (frD (nf M x.2.2)), .val (.list ((nzr x.1).map .int)), .un] = some (decide (0 < x.2.1 ∧ x.2.1 < 630)) := by
        by_cases q : 0 < x.2.1
        · have q' : 0 < 4 * (pt x.2.1).1 := by rw [p1]; exact q
          by_cases y : x.2.1 < 630
          · have y' : 4 * (pt x.2.1).1 < (pt x.2.1).2 := by rw [p2']; exact y
            simp [pair_ix0, pair_ix1, hm, q, y, y', decide_eq_true q']
          · have y' : ¬ 4 * (pt x.2.1).1 < (pt x.2.1).2 := by rw [p2']; exact y
            simp [pair_ix0, pair_ix1, hm, q, y, decide_eq_true q']
            omega
        · have q' : ¬ 0 < 4 * (pt x.2.1).1 := by rw [p1]; exact q
          simp [pair_ix0, pair_ix1, hm, decide_eq_false q']
          omega
      have t4 : tV (L3.p2 dEq (pVar 3) (pN dTup [pC (.int 0), pC (.int 1)])) [X0, .own false (.lst xs), .val (rowD x.1), .val (frD (pt x.2.1)), .val (frD (nf M x.2.2)), .val (.list ((nzr x.1).map .int)), .un] = some (decide (x.2.1 = 0)) := by
        have := dEq_fr (pt x.2.1) (0, 1)
        have e01 : (PyData.tuple [.int 0, .int 1]) = frD (0, 1) := rfl
        rw [ev_tV, ev_p2]
        show (match dEq (frD (pt x.2.1)) (.tuple [.int 0, .int 1]) with | some (.bool b) => some b | _ => none) = _
        rw [e01, this]
        show some (decide (pt x.2.1 = (0, 1))) = _
        rw [decide_eq_decide.mpr (iff_of_eq p3)]
      have hby := two_by hM hx.s
      have a1 : sApp 1 (eP (pN dTup [pVar 2, pVar 3, pCall F__law_by [pN dTup [pC (.int 2), pC (.int 1)], pVar 4]])) [X0, .own false (.lst xs), .val (rowD x.1), .val (frD (pt x.2.1)), .val (frD (nf M x.2.2)), .val (.list ((nzr x.1).map .int)), .un] = some ([X0, .own false (.lst (xs ++ [tmD M (x.1, x.2.1, 2 * x.2.2)])), .val (rowD x.1), .val (frD (pt x.2.1)), .val (frD (nf M x.2.2)), .val (.list ((nzr x.1).map .int)), .un], .nx) :=
        app_ok (i := 1) rfl (by simp [len24, two_D, hby, tmD]) (by omega)
      have a2 : sApp 1 (eP (pN dTup [pVar 2, pVar 3, pVar 4])) [X0, .own false (.lst xs), .val (rowD x.1), .val (frD (pt x.2.1)), .val (frD (nf M x.2.2)), .val (.list ((nzr x.1).map .int)), .un] = some ([X0, .own false (.lst (xs ++ [tmD M (x.1, x.2.1, 1 * x.2.2)])), .val (rowD x.1), .val (frD (pt x.2.1)), .val (frD (nf M x.2.2)), .val (.list ((nzr x.1).map .int)), .un], .nx) :=
        app_ok (i := 1) rfl (by simp [len24, tmD]) (by omega)
      rw [ev_sIf, ev_tP, ev_tOr, t1]
      by_cases z : isHead x.1 = true
      · have e : wgt x.1 x.2.1 = 2 := by unfold wgt; rw [if_pos z]
        rw [z, e, if_pos (by decide)]
        exact a1
      · have z' : isHead x.1 = false := by simpa using z
        rw [z']
        dsimp only
        rw [ev_tAnd, t2]
        by_cases y : isZ x.1 = true
        · rw [y]
          dsimp only
          rw [t3]
          by_cases w : x.2.1 = 0
          · have e : wgt x.1 x.2.1 = 1 := by unfold wgt; rw [if_neg z, if_pos y, if_pos w]
            rw [decide_eq_false (by omega)]
            dsimp only
            rw [ev_sIf, ev_tP, ev_tAnd, t2, y]
            dsimp only
            rw [t4, decide_eq_true w, e, if_pos (by decide)]
            exact a2
          · by_cases v : x.2.1 < 630
            · have e : wgt x.1 x.2.1 = 2 := by unfold wgt; rw [if_neg z, if_pos y, if_neg w, if_pos v]
              have := hx.lo
              rw [decide_eq_true ⟨by omega, v⟩, e, if_pos (by decide)]
              exact a1
            · have e : wgt x.1 x.2.1 = 0 := by unfold wgt; rw [if_neg z, if_pos y, if_neg w, if_neg v]
              rw [decide_eq_false (fun q => v q.2)]
              dsimp only
              rw [ev_sIf, ev_tP, ev_tAnd, t2, y]
              dsimp only
              rw [t4, decide_eq_false w, e, if_neg (by decide)]
              dsimp only
              rw [ev_sNx, List.map_nil, List.append_nil]
        · have y' : isZ x.1 = false := by simpa using y
          have e : wgt x.1 x.2.1 = 0 := by unfold wgt; rw [if_neg z, if_neg y]
          rw [y']
          dsimp only
          rw [ev_sIf, ev_tP, ev_tAnd, t2, y', e, if_neg (by decide)]
          dsimp only
          rw [ev_sNx, List.map_nil, List.append_nil]
    obtain ⟨d2, d3, d4, d5, e2⟩ := loop_lf U (xs ++ (if wgt x.1 x.2.1 ≠ 0 then [(x.1, x.2.1, wgt x.1 x.2.1 * x.2.2)] else []).map (tmD M)) (.val (rowD x.1)) (.val (frD (pt x.2.1))) (.val (frD (nf M x.2.2))) (.val (.list ((nzr x.1).map .int))) (fun y hy => hU y (List.mem_cons_of_mem _ hy)) rfl rfl rfl rfl (by
      rw [List.length_append, List.length_map]
      split <;> simp <;> omega)
    refine ⟨d2, d3, d4, d5, ?_⟩
    rw [List.map_cons, forL, hb]
    dsimp only
    rw [hbody]
    dsimp only
    rw [e2, fm_cons, List.map_append, List.append_assoc]
theorem law_form {U : List Tm} (hU : ∀ x ∈ U, Oku n x) (hl : U.length < 16777216) : F__law_form [.val (sD M U)] = some ([.un], .val (sD M (fm U))) := by
  obtain ⟨d2, d3, d4, d5, e1⟩ := loop_lf hM hn (.val (sD M U)) U [] .un .un .un .un hU rfl rfl rfl rfl (by simpa using hl)
  have e0 : sOwn 1 (L3.eF (pN dLst [])) [.val (sD M U), .un, .un, .un, .un, .un, .un] = some ([.val (sD M U), .own false (.lst []), .un, .un, .un, .un, .un], .nx) := rfl
  have e1' : sFor (.tp [.nm 2, .nm 3, .nm 4]) (iP (pVar 0)) bLf [.val (sD M U), .own false (.lst []), .un, .un, .un, .un, .un] = some ([.val (sD M U), .own false (.lst ((fm U).map (tmD M))), d2, d3, d4, d5, .un], .nx) := by
    rw [ev_sFor]
    simp only [iP, ev_pVar, List.getElem?_cons_zero, seq_sD]
    exact e1
  have e2 : pN (l1 dTuple) [pOwn 1] [.val (sD M U), .own false (.lst ((fm U).map (tmD M))), d2, d3, d4, d5, .un] = some (sD M (fm U)) := rfl
  exact run_fn (ρ0 := [.val (sD M U), .un, .un, .un, .un, .un, .un]) rfl rfl (show g__law_form _ = _ from (run_seq e0).trans ((run_seq e1').trans (run_ret e2))) rfl
end
end K09
/-! k09, the plain law: even sums. -/
namespace K09
open PySem PySem.Spec PyProof.Rows L2 L3
def tc1 (x : Tm) : List Tm := mk (oft x.2.2 (mk (cosT x.1 x.2.1)))
def tcT (V : List Tm) : List Tm := V.flatMap tc1
theorem lin_cos (g : Fl) (r : List Int) (t : Int) : lin g (cosT r t) = g r t + g (rneg r) (-t) := by
  unfold cosT
  simp [lin]
theorem lin_tc1 {g : Fl} (a : Anti g) (x : Tm) : lin g (tc1 x) = x.2.2 * (g x.1 x.2.1 + g (rneg x.1) (-x.2.1)) := by
  unfold tc1
  rw [lin_mk a, lin_oft, lin_mk a, lin_cos]
theorem lin_tcT {g : Fl} (a : Anti g) : ∀ V : List Tm, lin g (tcT V) = lin (fun r t => g r t + g (rneg r) (-t)) V
  | [] => rfl
  | x :: V => by
    have ih := lin_tcT a V
    unfold tcT at ih ⊢
    rw [List.flatMap_cons, lin_append, lin_tc1 a, lin, ih]
theorem lin_fm (h : Fl) : ∀ U : List Tm, lin h (fm U) = lin (fun r t => wgt r t * h r t) U
  | [] => rfl
  | x :: U => by
    rw [fm_cons, lin_append, lin_fm h U, lin]
    by_cases z : wgt x.1 x.2.1 = 0
    · rw [if_neg (by simpa using z), z]
      simp [lin]
    · rw [if_pos z]
      simp only [lin, Int.add_zero]
      rw [Int.mul_assoc, Int.mul_left_comm]
theorem nzr_neg (r : List Int) : nzr (rneg r) = rneg (nzr r) := by
  unfold nzr rneg
  rw [List.filter_map]
  congr 1
  refine List.filter_congr fun x _ => ?_
  show decide (-x ≠ 0) = decide (x ≠ 0)
  exact decide_eq_decide.mpr (by omega)
theorem nzr_mem {r : List Int} {x : Int} (h : x ∈ nzr r) : x ≠ 0 := of_decide_eq_true (List.mem_filter.mp h).2
theorem isZ_neg (r : List Int) : isZ (rneg r) = isZ r := by
  unfold isZ
  rw [nzr_neg]
  unfold rneg
  cases nzr r <;> rfl
theorem isHead_neg {r : List Int} (h : isZ r = false) : isHead (rneg r) = !isHead r := by
  unfold isHead
  rw [nzr_neg]
  unfold isZ at h
  cases e : nzr r with
  | nil => rw [e] at h; cases h
  | cons x l =>
    have hx := nzr_mem (r := r) (x := x) (by rw [e]; exact List.mem_cons_self ..)
    show decide (0 < -x) = !decide (0 < x)
    by_cases z : 0 < x
    · rw [decide_eq_true z, decide_eq_false (by omega)]; rfl
    · rw [decide_eq_false z, decide_eq_true (by omega)]; rfl
theorem zero_neg {r : List Int} (h : isZ r = true) : rneg r = r := by
  unfold isZ at h
  have hz : ∀ x ∈ r, x = 0 := fun x hx => by
    by_cases z : x = 0
    · exact z
    · have : x ∈ nzr r := List.mem_filter.mpr ⟨hx, decide_eq_true z⟩
      rw [List.isEmpty_iff.mp h] at this
      cases this
  unfold rneg
  exact (List.map_congr_left fun x hx => by rw [hz x hx]; rfl).trans (List.map_id r)
/-- 1 less the weight, for all of a term's parts -/
def vv (r : List Int) (t : Int) : Int := 1 - wgt r (t % 1260)
theorem vv_turn (r : List Int) (t : Int) : vv r (t + 1260) = vv r t := by
  unfold vv
  rw [show (t + 1260) % 1260 = t % 1260 by omega]
theorem vv_neg {g : Fl} (a : Anti g) (r : List Int) (t : Int) : vv (rneg r) (-t) * (g r t + g (rneg r) (-t)) = - (vv r t * (g r t + g (rneg r) (-t))) := by
  by_cases z : isZ r = true
  · have hr := zero_neg z
    have hh : isHead r = false := by
      by_cases q : isHead r = true
      · have := head_not_zero q
        rw [z] at this; cases this
      · simpa using q
    rw [hr]
    unfold vv wgt
    rw [hh, z]
    simp only [Bool.false_eq_true, if_false, if_true]
    by_cases t0 : t % 1260 = 0
    · rw [if_pos t0, if_pos (show (-t) % 1260 = 0 by omega)]; simp
    · rw [if_neg t0, if_neg (show ¬ (-t) % 1260 = 0 by omega)]
      by_cases t1 : t % 1260 < 630
      · rw [if_pos t1, if_neg (show ¬ (-t) % 1260 < 630 by omega)]
        omega
      · rw [if_neg t1]
        by_cases t2 : t % 1260 = 630
        · have h1 : g r (-t) = - g r t := by
            rw [← a r t]
            exact a.mod r (by omega)
          rw [h1, show g r t + -g r t = 0 by omega, Int.mul_zero, Int.mul_zero]
          rfl
        · rw [if_pos (show (-t) % 1260 < 630 by omega)]
          omega
  · have z' : isZ r = false := by simpa using z
    have e1 := isZ_neg r
    have e2 := isHead_neg z'
    unfold vv wgt
    rw [e1, e2, z']
    simp only [Bool.false_eq_true, if_false]
    cases isHead r
    · simp
    · simp
theorem even_form {U : List Tm} (lo : ∀ x ∈ U, 0 ≤ x.2.1 ∧ x.2.1 < 1260) (he : Sim (mir U) U) {g : Fl} (a : Anti g) : lin g (tcT (fm U)) = 2 * lin g U := by
  have ha : Anti fun r t => g r t + g (rneg r) (-t) := fun r t => by
    have h1 := a r t
    have h2 := anti_mir a r t
    dsimp only at h2 ⊢
    omega
  have hv : Anti fun r t => vv r t * (g r t + g (rneg r) (-t)) := fun r t => by
    have h1 := ha r t
    dsimp only at h1 ⊢
    rw [vv_turn, h1, Int.mul_neg]
  have h0 : lin (fun r t => vv r t * (g r t + g (rneg r) (-t))) U = 0 := by
    have h1 := he _ hv
    rw [lin_mir] at h1
    have h2 : lin (fun r t => (fun r t => vv r t * (g r t + g (rneg r) (-t))) (rneg r) (-t)) U = - lin (fun r t => vv r t * (g r t + g (rneg r) (-t))) U := by
      rw [← lin_neg]
      refine lin_congr fun x _ => ?_
      show vv (rneg x.1) (-x.2.1) * (g (rneg x.1) (-x.2.1) + g (rneg (rneg x.1)) (- -x.2.1)) = _
      rw [rneg_neg, Int.neg_neg, Int.add_comm (g (rneg x.1) _), vv_neg a]
    have h3 := h1.symm.trans h2
    omega
  rw [lin_tcT a, lin_fm]
  have h3 : lin (fun r t => g r t + g (rneg r) (-t)) U = 2 * lin g U := by
    have h4 := he g a
    rw [lin_mir] at h4
    rw [lin_add, h4]; omega
  have h5 : lin (fun r t => wgt r t * (g r t + g (rneg r) (-t))) U = lin (fun r t => (g r t + g (rneg r) (-t)) + - (vv r t * (g r t + g (rneg r) (-t)))) U := by
    refine lin_congr fun x hx => ?_
    have := lo x hx
    unfold vv
    rw [Int.emod_eq_of_lt this.1 this.2]
    generalize g x.1 x.2.1 + g (rneg x.1) (-x.2.1) = y
    rw [Int.sub_mul]
    omega
  rw [h5, lin_add, lin_neg, h0, h3]
  omega
theorem mk_lo (S : List Tm) : ∀ x ∈ mk S, 0 ≤ x.2.1 ∧ x.2.1 < 1260 := fun x hx => by
  obtain ⟨y, _, rfl⟩ := List.mem_map.mp hx
  show 0 ≤ (y.1.2.val : Int) ∧ (y.1.2.val : Int) < 1260
  have := y.1.2.isLt
  omega
/-- values that are the same are of terms that are the same -/
theorem tmD_inj {M : Int} (hM : Lv M) {x y : Tm} (h : tmD M x = tmD M y) : x.1 = y.1 ∧ x.2.1 % 2520 = y.2.1 % 2520 ∧ x.2.2 = y.2.2 := by
  unfold tmD at h
  injection h with h
  injection h with h1 h
  injection h with h2 h
  injection h with h3 h
  exact ⟨rowD_inj h1, pt_inj (frD_inj h2), nf_inj hM (frD_inj h3)⟩
theorem sD_sim {M : Int} (hM : Lv M) : ∀ {U V : List Tm}, sD M U = sD M V → Sim U V
  | [], [], _ => Sim.refl _
  | [], _ :: _, h => by unfold sD at h; injection h with h; cases h
  | _ :: _, [], h => by unfold sD at h; injection h with h; cases h
  | x :: U, y :: V, h => fun g a => by
    unfold sD at h
    injection h with h
    rw [List.map_cons, List.map_cons] at h
    injection h with h1 h2
    obtain ⟨e1, e2, e3⟩ := tmD_inj hM h1
    have ih := sD_sim hM (U := U) (V := V) (by unfold sD; rw [h2]) g a
    rw [lin, lin, ih, e1, e3, a.mod y.1 e2]
/-! ### turns of cosines -/
section
variable {M : Int} {n : Nat} (hM : Lv M) (hM2 : Lv (M * 2)) (hn : n ≤ 100) (X0 : Cell)
include hM hM2 hn
theorem loop_tc : ∀ (V : List Tm) (xs : List D) (c2 c3 c4 : Cell), (∀ x ∈ V, x.1.length = n ∧ x.2.2.natAbs < 536870912) → isOwn c2 = false → isOwn c3 = false → isOwn c4 = false → xs.length + 2 * V.length < 16777216 →
    ∃ d2 d3 d4, forL (.tp [.nm 2, .nm 3, .nm 4]) (sExtT 1 (eP (pCall F_sum_often [pVar 4, pCall F_cos_turns [pVar 2, pVar 3]]))) (V.map (tmD M)) [X0, .own false (.lst xs), c2, c3, c4] = some ([X0, .own false (.lst (xs ++ (tcT V).map (tmD (M * 2)))), d2, d3, d4], .nx)
  | [], xs, c2, c3, c4, _, _, _, _, _ => ⟨c2, c3, c4, by rw [List.map_nil, forL]; simp [tcT]⟩
  | x :: V, xs, c2, c3, c4, hV, h2, h3, h4, hl => by
    rw [List.length_cons] at hl
    obtain ⟨hx1, hx2⟩ := hV x (List.mem_cons_self ..)
    have hc := cos_turns (r := x.1) (by rw [hx1]; exact hn) x.2.1
    have hbc := (cos_bd hx1 x.2.1).mk
    have ho := sum_often (M := 2) (N := M) lv2 hM hM2 (c := x.2.2) (by unfold S31; omega) hbc (by omega) (by decide) (by decide)
    have hlen : (tc1 x).length ≤ 2 := (hbc.oft x.2.2).mk.len
    have hb : bind (.tp [.nm 2, .nm 3, .nm 4]) (tmD M x) [X0, .own false (.lst xs), c2, c3, c4] = some [X0, .own false (.lst xs), .val (rowD x.1), .val (frD (pt x.2.1)), .val (frD (nf M x.2.2))] :=
      bind_three (by decide) (by decide) (by decide) rfl h2 rfl h3 rfl h4
    have hp : pCall F_sum_often [pVar 4, pCall F_cos_turns [pVar 2, pVar 3]] [X0, .own false (.lst xs), .val (rowD x.1), .val (frD (pt x.2.1)), .val (frD (nf M x.2.2))] = some (sD (M * 2) (tc1 x)) :=
      pc2 (a := pVar 4) rfl (pc2 (a := pVar 2) (b := pVar 3) rfl rfl hc) ho
    have hst : sExtT 1 (eP (pCall F_sum_often [pVar 4, pCall F_cos_turns [pVar 2, pVar 3]])) [X0, .own false (.lst xs), .val (rowD x.1), .val (frD (pt x.2.1)), .val (frD (nf M x.2.2))] =
        some ([X0, .own false (.lst (xs ++ (tc1 x).map (tmD (M * 2)))), .val (rowD x.1), .val (frD (pt x.2.1)), .val (frD (nf M x.2.2))], .nx) := by
      unfold sExtT
      rw [show ([X0, .own false (.lst xs), .val (rowD x.1), .val (frD (pt x.2.1)), .val (frD (nf M x.2.2))] : L3.Env)[1]? = some (.own false (.lst xs)) from rfl, ev_isLst, if_pos rfl, ev_eP, hp]
      show (if len24 (xs.length + ((tc1 x).map (tmD (M * 2))).length) = true then some (([X0, .own false (.lst xs), .val (rowD x.1), .val (frD (pt x.2.1)), .val (frD (nf M x.2.2))] : L3.Env).set 1 (.own false (.lst (xs ++ (tc1 x).map (tmD (M * 2))))), Out.nx) else none) = _
      rw [List.length_map, l24 (by omega)]
      rfl
    obtain ⟨d2, d3, d4, e2⟩ := loop_tc V (xs ++ (tc1 x).map (tmD (M * 2))) (.val (rowD x.1)) (.val (frD (pt x.2.1))) (.val (frD (nf M x.2.2))) (fun y hy => hV y (List.mem_cons_of_mem _ hy)) rfl rfl rfl (by rw [List.length_append, List.length_map]; omega)
    refine ⟨d2, d3, d4, ?_⟩
    rw [List.map_cons, forL, hb]
    dsimp only
    rw [hst]
    dsimp only
    rw [e2, show tcT (x :: V) = tc1 x ++ tcT V from List.flatMap_cons .., List.map_append, List.append_assoc]
theorem tc_bd : ∀ {V : List Tm} {A L : Nat}, Bd n A L V → Bd n (2 * A) (2 * L) (tcT V)
  | [], A, L, _ => ⟨fun _ h => (by cases h), Nat.zero_le _, Nat.zero_le _⟩
  | x :: V, A, L, h => by
    have hx := h.row x (List.mem_cons_self ..)
    have b1 : Bd n (x.2.2.natAbs * 2) 2 (tc1 x) := ((cos_bd hx x.2.1).mk.oft x.2.2).mk
    have ha := h.a
    have hlen := h.len
    rw [A1] at ha
    rw [List.length_cons] at hlen
    have b2 := tc_bd (V := V) (A := A - x.2.2.natAbs) (L := L - 1) ⟨fun y hy => h.row y (List.mem_cons_of_mem _ hy), by omega, by omega⟩
    rw [show tcT (x :: V) = tc1 x ++ tcT V from List.flatMap_cons ..]
    exact (b1.app b2).mono (by omega) (by omega)
theorem turns_of_cosines {V : List Tm} {A L : Nat} (hV : Bd n A L V) (hA : A < 536870912) (hL : L < 4000000) : F_turns_of_cosines [.val (sD M V)] = some ([.un], .val (sD (M * 2) (mk (tcT V)))) := by
  obtain ⟨d2, d3, d4, e1⟩ := loop_tc hM hM2 hn (.val (sD M V)) V [] .un .un .un (fun x hx => ⟨hV.row x hx, Nat.lt_of_le_of_lt (Nat.le_trans (A1_mem hx) hV.a) hA⟩) rfl rfl rfl (by have := hV.len; simp; omega)
  have hm := terms_merged hM2 ((tc_bd hM hM2 hn hV).sz (by omega) (by omega)) (X := .list ((tcT V).map (tmD (M * 2)))) rfl
  rw [sD_mk] at hm
  have e0 : sOwn 1 (L3.eF (pN dLst [])) [.val (sD M V), .un, .un, .un, .un] = some ([.val (sD M V), .own false (.lst []), .un, .un, .un], .nx) := rfl
  have e1' : sFor (.tp [.nm 2, .nm 3, .nm 4]) (iP (pVar 0)) (sExtT 1 (eP (pCall F_sum_often [pVar 4, pCall F_cos_turns [pVar 2, pVar 3]]))) [.val (sD M V), .own false (.lst []), .un, .un, .un] = some ([.val (sD M V), .own false (.lst ((tcT V).map (tmD (M * 2)))), d2, d3, d4], .nx) := by
    rw [ev_sFor]
    simp only [iP, ev_pVar, List.getElem?_cons_zero, seq_sD]
    exact e1
  have e2 : sFrzs [1] (sRet (eP (pCall F_terms_merged [pVar 1]))) [.val (sD M V), .own false (.lst ((tcT V).map (tmD (M * 2)))), d2, d3, d4] = some ([.val (sD M V), .val (.list ((tcT V).map (tmD (M * 2)))), d2, d3, d4], .rt (.val (sD (M * 2) (mk (tcT V))))) := by
    show sRet _ [.val (sD M V), .val (.list ((tcT V).map (tmD (M * 2)))), d2, d3, d4] = _
    exact run_ret (pc1 rfl hm)
  exact run_fn (ρ0 := [.val (sD M V), .un, .un, .un, .un]) rfl rfl (show g_turns_of_cosines _ = _ from (run_seq e0).trans ((run_seq e1').trans e2)) rfl
end
end K09
/-! k09, the plain law: mirrors, a sum looked at. -/
namespace K09
open PySem PySem.Spec PyProof.Rows L2 L3
/-- a merged sum; e: it is even -/
def Cn (n : Nat) (e : Bool) (d : D) : Prop := ∃ M X, d = sD M (mk X) ∧ 0 < M ∧ M < 1000 ∧ Bx n 20000 100 10 X ∧ (e = true → Sim (mir X) X)
theorem Cn.weak {n : Nat} {e : Bool} {d : D} (h : Cn n e d) : Cn n false d := by
  obtain ⟨M, X, h1, h2, h3, h4, _⟩ := h
  exact ⟨M, X, h1, h2, h3, h4, fun q => by cases q⟩
theorem lvM {M : Int} (h : 0 < M) (k : M < 1000000) : Lv M := lv h (by omega)
theorem is_even {M : Int} {n : Nat} {X : List Tm} (hn : n ≤ 4) (h0 : 0 < M) (h1 : M < 1000) (hX : Bx n 20000 100 10 X) : F_is_even_sum [.val (sD M (mk X))] = some ([.un], .val (.bool (decide (sD M (mk (mir (mk X))) = sD M (mk X))))) := by
  have hM := lvM h0 (by omega)
  have hm := mirrored_sum hM (by omega) hX.bd.mk (by decide) (by decide)
  have g1 := hX.mk.gd hM hn (by decide) (by decide)
  have g2 := hX.mk.mir.mk.gd hM hn (by decide) (by decide)
  have := g2.eq g1
  unfold F_is_even_sum g_is_even_sum
  simp [hm, this]
theorem mir_even {M : Int} {X : List Tm} (h : Sim (mir X) X) : sD M (mk (mir (mk X))) = sD M (mk X) := by
  rw [mk_eq ((mk_sim X).mir.trans h)]
theorem even_of {M : Int} (hM : Lv M) {X : List Tm} (h : sD M (mk (mir (mk X))) = sD M (mk X)) : Sim (mir (mk X)) (mk X) := (mk_sim _).symm.trans (sD_sim hM h)
theorem told_bool (b : Bool) : Told (.bool b) := told_of rfl (by cases b <;> decide) (.inl rfl) (by show 5 ≤ _; decide)
abbrev mE (s : Src) (n : Nat) (a2 a3 a4 a5 a6 a7 a8 a9 a10 a11 a12 : Cell) : L3.Env := [.own true (.src s), .val (.int (n : Int)), a2, a3, a4, a5, a6, a7, a8, a9, a10, a11, a12]
abbrev bEa : Sm := sSeq (sVal 8 (eP (p2 dEq (pCall F__law_mirrored [pVar 5]) (pVar 5))))
      (sSeq (sIf (tP (tV (p2 dNe (pN (l1 dRepr) [pCall F_is_even_sum [pVar 5]]) (pN (l1 dRepr) [pVar 8])))) (sRet (eP (pC (.bool false)))) (sNx))
      (sSeq (sVal 9 (eP (pCall F__law_form [pVar 5])))
      (sIf (tP (L3.tAnd (tV (pVar 8)) (L3.tOr (tV (p2 dNe (pN (l1 dRepr) [pCall F_cosine_form [pVar 5]]) (pN (l1 dRepr) [pVar 9]))) (tV (p2 dNe (pN (l1 dRepr) [pCall F_turns_of_cosines [pVar 9]]) (pN (l1 dRepr) [pVar 5])))))) (sRet (eP (pC (.bool false)))) (sNx))))
theorem fm_bd {n A L b : Nat} {U : List Tm} (h : Bx n A L b U) : Bx n (2 * A) L b (fm U) := by
  refine ⟨⟨fun x hx => ?_, ?_, ?_⟩, fun x hx => ?_⟩
  · obtain ⟨y, hy, rfl⟩ := List.mem_map.mp hx
    exact h.bd.row y (List.mem_filter.mp hy).1
  · have : ∀ U : List Tm, A1 (fm U) ≤ 2 * A1 U := fun U => by
      induction U with
      | nil => exact Nat.zero_le _
      | cons x U ih =>
        rw [fm_cons, A1_append, A1]
        have hw : (wgt x.1 x.2.1).natAbs ≤ 2 := by
          unfold wgt
          split
          · decide
          · split
            · split
              · decide
              · split <;> decide
            · decide
        have h2 : (wgt x.1 x.2.1 * x.2.2).natAbs ≤ 2 * x.2.2.natAbs := by
          rw [Int.natAbs_mul]; exact Nat.mul_le_mul_right _ hw
        split
        · simp only [A1, Nat.add_zero]; omega
        · simp only [A1]; omega
    exact Nat.le_trans (this U) (Nat.mul_le_mul_left _ h.bd.a)
  · unfold fm
    rw [List.length_map]
    exact Nat.le_trans (List.length_filter_le _ _) h.bd.len
  · obtain ⟨y, hy, rfl⟩ := List.mem_map.mp hx
    exact h.rs y (List.mem_filter.mp hy).1
/-- one sum looked at -/
theorem each_ok {n : Nat} (hn : n ≤ 4) {d : D} (hd : Cn n false d) (s : Src) (a2 a3 a4 a6 a7 a8 a9 a10 a11 a12 : Cell) (h8 : isOwn a8 = false) (h9 : isOwn a9 = false) :
    ∃ b8 b9, bEa (mE s n a2 a3 a4 (.val d) a6 a7 a8 a9 a10 a11 a12) = some (mE s n a2 a3 a4 (.val d) a6 a7 b8 b9 a10 a11 a12, .nx) ∧ isOwn b8 = false ∧ isOwn b9 = false := by
  obtain ⟨M, X, rfl, h0, h1, hX, _⟩ := hd
  have hM := lvM h0 (by omega)
  have hM2 : Lv (M * 2) := lvM (by omega) (by omega)
  have g1 := hX.mk.gd hM hn (by decide) (by decide)
  have hlm := law_mirrored hM (by omega) hX.bd.mk (by decide) (by decide)
  have hie := is_even hn h0 h1 hX
  have hok : ∀ x ∈ mk X, Oku n x := fun x hx => ⟨hX.mk.bd.row x hx, hX.bd.mk.s31 (by decide) x hx, (mk_lo X x hx).1, (mk_lo X x hx).2⟩
  have hlen : (mk X).length < 16777216 := Nat.lt_of_le_of_lt hX.mk.bd.len (by decide)
  have hlf := law_form hM (n := n) (by omega) hok hlen
  have hcf := cosine_form hM (n := n) (by omega) hok hlen
  have hfb := fm_bd hX.mk
  have htc := turns_of_cosines hM hM2 (n := n) (by omega) hfb.bd (by decide) (by decide)
  have g2 := hX.mk.mir.mk.gd hM hn (by decide) (by decide)
  have heq := g2.eq g1
  generalize hev : decide (sD M (mk (mir (mk X))) = sD M (mk X)) = ev at *
  have e1 : sVal 8 (eP (p2 dEq (pCall F__law_mirrored [pVar 5]) (pVar 5))) (mE s n a2 a3 a4 (.val (sD M (mk X))) a6 a7 a8 a9 a10 a11 a12) = some (mE s n a2 a3 a4 (.val (sD M (mk X))) a6 a7 (.val (.bool ev)) a9 a10 a11 a12, .nx) := by
    refine val_ok (i := 8) (cc := a8) ?_ rfl h8
    have := pc1 (F := F__law_mirrored) (a := pVar 5) (ρ := mE s n a2 a3 a4 (.val (sD M (mk X))) a6 a7 a8 a9 a10 a11 a12) rfl hlm
    rw [ev_p2, this]
    exact heq
  have e2 : sIf (tP (tV (p2 dNe (pN (l1 dRepr) [pCall F_is_even_sum [pVar 5]]) (pN (l1 dRepr) [pVar 8])))) (sRet (eP (pC (.bool false)))) (sNx) (mE s n a2 a3 a4 (.val (sD M (mk X))) a6 a7 (.val (.bool ev)) a9 a10 a11 a12) = some (mE s n a2 a3 a4 (.val (sD M (mk X))) a6 a7 (.val (.bool ev)) a9 a10 a11 a12, .nx) :=
    if_no (rne_same (pc1 (a := pVar 5) rfl hie) rfl (told_bool ev))
  have e3 : sVal 9 (eP (pCall F__law_form [pVar 5])) (mE s n a2 a3 a4 (.val (sD M (mk X))) a6 a7 (.val (.bool ev)) a9 a10 a11 a12) = some (mE s n a2 a3 a4 (.val (sD M (mk X))) a6 a7 (.val (.bool ev)) (.val (sD M (fm (mk X)))) a10 a11 a12, .nx) :=
    val_ok (i := 9) (cc := a9) (pc1 (a := pVar 5) rfl hlf) rfl h9
  refine ⟨.val (.bool ev), .val (sD M (fm (mk X))), (run_seq e1).trans ((run_seq e2).trans ((run_seq e3).trans ?_)), rfl, rfl⟩
  refine if_no ?_
  have hv : tV (pVar 8) (mE s n a2 a3 a4 (.val (sD M (mk X))) a6 a7 (.val (.bool ev)) (.val (sD M (fm (mk X)))) a10 a11 a12) = some ev := rfl
  rw [ev_tAnd, hv]
  cases ev with
  | false => rfl
  | true =>
    have hs := even_of hM (of_decide_eq_true hev)
    have ht : sD (M * 2) (mk (tcT (fm (mk X)))) = sD M (mk (mk X)) := sD_eq h0 (by decide) fun g a => even_form (mk_lo X) hs a
    rw [ht, mk_eq (mk_sim X)] at htc
    refine or_no (rne_same (pc1 (a := pVar 5) rfl hcf) rfl ((hfb.gd hM hn (by decide) (by decide)).told (by decide))) (rne_same (pc1 (a := pVar 9) rfl htc) rfl (g1.told (by decide)))
/-- all of them -/
theorem all_ok {n : Nat} (hn : n ≤ 4) (s : Src) (a2 a3 a4 a6 a7 a10 a11 a12 : Cell) : ∀ (ds : List D) (a5 a8 a9 : Cell), (∀ d ∈ ds, Cn n false d) → isOwn a5 = false → isOwn a8 = false → isOwn a9 = false →
    ∃ b5 b8 b9, forL (.nm 5) bEa ds (mE s n a2 a3 a4 a5 a6 a7 a8 a9 a10 a11 a12) = some (mE s n a2 a3 a4 b5 a6 a7 b8 b9 a10 a11 a12, .nx) ∧ isOwn b5 = false
  | [], a5, a8, a9, _, h5, _, _ => ⟨a5, a8, a9, by rw [forL], h5⟩
  | d :: ds, a5, a8, a9, hd, h5, h8, h9 => by
    obtain ⟨b8, b9, e1, q8, q9⟩ := each_ok hn (hd d (List.mem_cons_self ..)) s a2 a3 a4 a6 a7 a8 a9 a10 a11 a12 h8 h9
    obtain ⟨c5, c8, c9, e2, q5⟩ := all_ok hn s a2 a3 a4 a6 a7 a10 a11 a12 ds (.val d) b8 b9 (fun x hx => hd x (List.mem_cons_of_mem _ hx)) rfl q8 q9
    refine ⟨c5, c8, c9, ?_, q5⟩
    have hb : bind (.nm 5) d (mE s n a2 a3 a4 a5 a6 a7 a8 a9 a10 a11 a12) = some (mE s n a2 a3 a4 (.val d) a6 a7 a8 a9 a10 a11 a12) := by
      rw [ev_bind0]
      exact put_no (c := a5) rfl h5
    rw [forL, hb]
    dsimp only
    rw [e1]
    exact e2
/-- none is not even -/
theorem comp_ev {n : Nat} (hn : n ≤ 4) (s : Src) (a2 a3 a4 a6 a7 a8 a9 a10 a11 a12 : Cell) : ∀ ds : List D, (∀ d ∈ ds, Cn n true d) →
    compP (.nm 5) (tV (p2 dNotT (pCall F_is_even_sum [pVar 5]) (pC (.bool true)))) (pVar 5) (mE s n a2 a3 a4 .un a6 a7 a8 a9 a10 a11 a12) ds = some []
  | [], _ => rfl
  | d :: ds, hd => by
    have ih := comp_ev hn s a2 a3 a4 a6 a7 a8 a9 a10 a11 a12 ds fun x hx => hd x (List.mem_cons_of_mem _ hx)
    obtain ⟨M, X, rfl, h0, h1, hX, he⟩ := hd d (List.mem_cons_self ..)
    have hie := is_even hn h0 h1 hX
    rw [decide_eq_true (mir_even (M := M) (he rfl))] at hie
    have hb : bind (.nm 5) (sD M (mk X)) (mE s n a2 a3 a4 .un a6 a7 a8 a9 a10 a11 a12) = some (mE s n a2 a3 a4 (.val (sD M (mk X))) a6 a7 a8 a9 a10 a11 a12) := rfl
    have hc := pc1 (F := F_is_even_sum) (a := pVar 5) (ρ := mE s n a2 a3 a4 (.val (sD M (mk X))) a6 a7 a8 a9 a10 a11 a12) rfl hie
    have ht : tV (p2 dNotT (pCall F_is_even_sum [pVar 5]) (pC (.bool true))) (mE s n a2 a3 a4 (.val (sD M (mk X))) a6 a7 a8 a9 a10 a11 a12) = some false := by
      rw [ev_tV, ev_p2, hc]
      rfl
    rw [compP, hb]
    dsimp only
    rw [ht]
    exact ih
end K09
/-! k09, the plain law: mirrors, to the end. -/
namespace K09
open PySem PySem.Spec PyProof.Rows L2 L3
theorem callRe {F : Fn} {i : Nat} {as : List E} {ρ ρ2 : L3.Env} {o o' : Own} {fx fx' : Bool} {ds : List D} {r : List Cell} {c : Cell} (h0 : ρ[i]? = some (.own fx o)) (ha : eevs as ρ = some (ρ, ds)) (hF : F (.own true o :: ds.map .val) = some (.own fx' o' :: r, c)) (hs : ρ.set i (.own fx o') = ρ2) :
    eCallR F i as ρ = some (ρ2, c) := by
  rw [callR h0 ha h0 hF, hs]
theorem mm1 (s : Src) (n : Nat) (hn : n ≤ 4) : ∃ s' S1 S2, sPat (.tl [.nm 6, .nm 7]) (eComp [10] (.nm 10) (iR (pC (.int 0)) (pC (.int 2))) (tYesE) (eCallV F__law_made [eCallR F__law_drawn_terms 0 [eP (pVar 1), eP (pC (.int 4))]])) (mE s n .un .un .un .un .un .un .un .un .un .un .un) =
    some (mE s' n .un .un .un .un (.val (sD 6 (mk S1))) (.val (sD 6 (mk S2))) .un .un .un .un .un, .nx) ∧ Bx n 120 4 2 S1 ∧ Bx n 120 4 2 S2 := by
  obtain ⟨s1, ds, e1, hl, hq⟩ := comp_draw2 (vs := [10]) (v := 10) (e := eCallV F__law_made [eCallR F__law_drawn_terms 0 [eP (pVar 1), eP (pC (.int 4))]]) (Q := fun d => ∃ S, d = sD 6 (mk S) ∧ Bx n 120 4 2 S)
    (fun s c => mE s n .un .un .un .un .un .un .un .un c .un .un) (fun s c x hc => by rw [ev_bind0]; exact put_no (c := c) rfl hc)
    (fun s x => by
      obtain ⟨s', S, e, h⟩ := drawn_terms s n 4 (by omega) (by decide)
      have hm := lm6 h.bx
      have hc : eCallR F__law_drawn_terms 0 [eP (pVar 1), eP (pC (.int 4))] (mE s n .un .un .un .un .un .un .un .un (.val x) .un .un) = some (mE s' n .un .un .un .un .un .un .un .un (.val x) .un .un, .own false (.lst (S.map (tmD 6)))) :=
        callRe (o := .src s) (ds := [.int (n : Int), .int 4]) rfl rfl e rfl
      refine ⟨s', .val (sD 6 (mk S)), _, ?_, rfl, S, rfl, h.bx⟩
      rw [ev_eCallV, ev_eevs1, hc]
      show (match F__law_made [.val (lT S)] with | some (_, c) => some (mE s' n .un .un .un .un .un .un .un .un (.val x) .un .un, c) | none => none) = _
      rw [hm]) (fun s c => rfl) (rangeD 0 2) s
  have hl2 : ds.length = 2 := hl
  obtain ⟨d1, d2, rfl⟩ : ∃ a b, ds = [a, b] := by
    match ds, hl2 with
    | [a, b], _ => exact ⟨a, b, rfl⟩
  obtain ⟨S1, rfl, h1⟩ := hq d1 (by simp)
  obtain ⟨S2, rfl, h2⟩ := hq d2 (by simp)
  refine ⟨s1, S1, S2, ?_, h1, h2⟩
  have hc : eComp [10] (.nm 10) (iR (pC (.int 0)) (pC (.int 2))) tYesE (eCallV F__law_made [eCallR F__law_drawn_terms 0 [eP (pVar 1), eP (pC (.int 4))]]) (mE s n .un .un .un .un .un .un .un .un .un .un .un) = some (mE s1 n .un .un .un .un .un .un .un .un .un .un .un, .own false (.lst [sD 6 (mk S1), sD 6 (mk S2)])) := by
    unfold eComp
    rw [show iR (pC (.int 0)) (pC (.int 2)) (mE s n .un .un .un .un .un .un .un .un .un .un .un) = some (mE s n .un .un .un .un .un .un .un .un .un .un .un, rangeD 0 2) from rfl]
    show (if (true && true) = true then (match compL [10] (.nm 10) tYesE _ (rangeD 0 2) (mE s n .un .un .un .un .un .un .un .un .un .un .un) with | some (ρ', ys) => some (restore [10] (mE s n .un .un .un .un .un .un .un .un .un .un .un) ρ', Cell.own false (.lst ys)) | none => none) else none) = _
    rw [e1]
    rfl
  rw [ev_sPat, hc]
  rfl
/-- what the sums are so far: the last one even, of twelfths -/
structure Ls (n : Nat) (k : Nat) (Y : List Tm) : Prop where of ::
  bx : Bx n (60 * k) (2 * k) 2 Y
  ev : Sim (mir Y) Y
theorem Ls.cn {n k : Nat} {Y : List Tm} (h : Ls n k Y) (hk : k ≤ 4) : Cn n true (sD 12 (mk Y)) := ⟨12, Y, rfl, by decide, by decide, h.bx.mono (by omega) (by omega) (by decide), fun _ => h.ev⟩
theorem atI_last (xs : List D) (d : D) : L2.atI (xs ++ [d]) (-1) = some d := by
  unfold L2.atI L2.ixN
  rw [List.length_append, List.length_cons, List.length_nil, if_neg (by decide), if_pos (by omega)]
  show (xs ++ [d])[((-1 : Int) + ((xs.length + (0 + 1) : Nat) : Int)).toNat]? = _
  rw [show ((-1 : Int) + ((xs.length + (0 + 1) : Nat) : Int)).toNat = xs.length by omega, List.getElem?_append_right (Nat.le_refl _), Nat.sub_self]
  rfl
theorem mir_cos (r : List Int) (t : Int) : Sim (mir (cosT r t)) (cosT r t) := fun g _ => by
  rw [lin_mir, lin_cos, lin_cos, rneg_neg, Int.neg_neg, Int.add_comm]
theorem mir_oft (c : Int) (S : List Tm) : mir (oft c S) = oft c (mir S) := by
  unfold mir oft
  rw [List.map_map, List.map_map]
  rfl
theorem lv12 : Lv 12 := lv (by decide) (by decide)
abbrev bMs : Sm := sSeq (sPar [11, 12] [eCallR F__law_drawn_row 0 [eP (pVar 1)], eCallR F__law_drawn_part 0 []])
      (sSeq (sApp 3 (eCallV F__law_made [e2 .f dAdd (eP (p2 dIx (pOwn 3) (p1 dNeg (pC (.int 1))))) (eCallV F__law_often [eCallR F__law_drawn_fraction 0 [], eP (pCall F__law_cos [pVar 11, pVar 12])])]))
      (sIf (tP (tV (p2 dNe (pN (l1 dRepr) [pN dLst [pCall F_cos_turns [pVar 11, pVar 12], pCall F_sin_turns [pVar 11, pVar 12]]]) (pN (l1 dRepr) [pN dLst [pCall F__law_cos [pVar 11, pVar 12], pCall F__law_sin [pVar 11, pVar 12]]])))) (sRet (eP (pC (.bool false)))) (sNx)))
theorem cos_bx {r : List Int} {n : Nat} (h : r.length = n) (hr : ∀ i ∈ r, i.natAbs ≤ 2) (t : Int) : Bx n 2 2 2 (cosT r t) := by
  refine ⟨cos_bd h t, fun x hx i hi => ?_⟩
  unfold cosT at hx
  rcases List.mem_cons.mp hx with rfl | hx
  · exact hr i hi
  · rw [List.mem_singleton.mp hx] at hi
    obtain ⟨j, hj, rfl⟩ := List.mem_map.mp hi
    rw [Int.natAbs_neg]
    exact hr j hj
theorem step_ms {n : Nat} (hn : n ≤ 4) {k : Nat} (hk : k ≤ 3) {Y : List Tm} (hY : Ls n k Y) (s : Src) (xs : List D) (hx : xs.length < 1000) (a2 a4 a5 a6 a7 a8 a9 a10 a11 a12 : Cell) (h11 : isOwn a11 = false) (h12 : isOwn a12 = false) :
    ∃ s' Y' b11 b12, bMs (mE s n a2 (.own false (.lst (xs ++ [sD 12 (mk Y)]))) a4 a5 a6 a7 a8 a9 a10 a11 a12) = some (mE s' n a2 (.own false (.lst (xs ++ [sD 12 (mk Y)] ++ [sD 12 (mk Y')]))) a4 a5 a6 a7 a8 a9 a10 b11 b12, .nx) ∧ Ls n (k + 1) Y' ∧ isOwn b11 = false ∧ isOwn b12 = false := by
  obtain ⟨s1, r, e1, hr1, hr2⟩ := drawn_row s n (by omega)
  obtain ⟨s2, t, z2⟩ := drawn_part s1
  obtain ⟨s3, a, e3, a1, a2'⟩ := drawn_fraction s2
  have hlr : r.length ≤ 100 := by rw [hr1]; omega
  have hc := law_cos hlr t
  have hcb := cos_bx hr1 hr2 t
  have ho := law_often (M := 2) (N := 6) lv2 lv6 lv12 (c := a) (by unfold S31; omega) hcb.bd.mk (by omega) (by decide) (by decide)
  rw [show (6 : Int) * 2 = 12 from rfl] at ho
  have hb2 : Bx n 60 2 2 (mk (oft a (mk (cosT r t)))) := ((hcb.mk.oft a).mk).mono (by omega) (Nat.le_refl _) (Nat.le_refl _)
  have hb := hY.bx.mk.app hb2
  have hm := law_made lv12 (hb.bd.sz (by omega) (by omega)) (X := sD 12 (mk Y ++ mk (oft a (mk (cosT r t))))) rfl
  rw [sD_mk] at hm
  have ha : dAdd (sD 12 (mk Y)) (sD 12 (mk (oft a (mk (cosT r t))))) = some (sD 12 (mk Y ++ mk (oft a (mk (cosT r t))))) := add_sD (by have := hY.bx.mk.bd.len; have := hb2.bd.len; omega)
  refine ⟨s3, mk Y ++ mk (oft a (mk (cosT r t))), .val (rowD r), .val (frD (pt t)), ?_, ⟨hb.mono (by omega) (by omega) (Nat.le_refl _), ?_⟩, rfl, rfl⟩
  · have q1 : sPar [11, 12] [eCallR F__law_drawn_row 0 [eP (pVar 1)], eCallR F__law_drawn_part 0 []] (mE s n a2 (.own false (.lst (xs ++ [sD 12 (mk Y)]))) a4 a5 a6 a7 a8 a9 a10 a11 a12) = some (mE s2 n a2 (.own false (.lst (xs ++ [sD 12 (mk Y)]))) a4 a5 a6 a7 a8 a9 a10 (.val (rowD r)) (.val (frD (pt t))), .nx) := by
      have c1 : eCallR F__law_drawn_row 0 [eP (pVar 1)] (mE s n a2 (.own false (.lst (xs ++ [sD 12 (mk Y)]))) a4 a5 a6 a7 a8 a9 a10 a11 a12) = some (mE s1 n a2 (.own false (.lst (xs ++ [sD 12 (mk Y)]))) a4 a5 a6 a7 a8 a9 a10 a11 a12, .val (rowD r)) := callRe (o := .src s) (ds := [.int (n : Int)]) rfl rfl e1 rfl
      have c2 : eCallR F__law_drawn_part 0 [] (mE s1 n a2 (.own false (.lst (xs ++ [sD 12 (mk Y)]))) a4 a5 a6 a7 a8 a9 a10 a11 a12) = some (mE s2 n a2 (.own false (.lst (xs ++ [sD 12 (mk Y)]))) a4 a5 a6 a7 a8 a9 a10 a11 a12, .val (frD (pt t))) := callRe (o := .src s1) (ds := []) rfl rfl z2 rfl
      rw [ev_sPar, ev_ecells1, c1]
      dsimp only
      rw [ev_ecells1, c2]
      dsimp only
      rw [ev_ecells0]
      dsimp only
      rw [ev_puts1, put_no (c := a11) rfl h11]
      dsimp only
      rw [ev_puts1, put_no (c := a12) rfl h12]
      rfl
    have q2 : sApp 3 (eCallV F__law_made [e2 .f dAdd (eP (p2 dIx (pOwn 3) (p1 dNeg (pC (.int 1))))) (eCallV F__law_often [eCallR F__law_drawn_fraction 0 [], eP (pCall F__law_cos [pVar 11, pVar 12])])]) (mE s2 n a2 (.own false (.lst (xs ++ [sD 12 (mk Y)]))) a4 a5 a6 a7 a8 a9 a10 (.val (rowD r)) (.val (frD (pt t)))) =
        some (mE s3 n a2 (.own false (.lst (xs ++ [sD 12 (mk Y)] ++ [sD 12 (mk (mk Y ++ mk (oft a (mk (cosT r t)))))]))) a4 a5 a6 a7 a8 a9 a10 (.val (rowD r)) (.val (frD (pt t))), .nx) := by
      have p1' : p2 dIx (pOwn 3) (p1 dNeg (pC (.int 1))) (mE s2 n a2 (.own false (.lst (xs ++ [sD 12 (mk Y)]))) a4 a5 a6 a7 a8 a9 a10 (.val (rowD r)) (.val (frD (pt t)))) = some (sD 12 (mk Y)) := atI_last xs _
      have c3 : eCallR F__law_drawn_fraction 0 [] (mE s2 n a2 (.own false (.lst (xs ++ [sD 12 (mk Y)]))) a4 a5 a6 a7 a8 a9 a10 (.val (rowD r)) (.val (frD (pt t)))) = some (mE s3 n a2 (.own false (.lst (xs ++ [sD 12 (mk Y)]))) a4 a5 a6 a7 a8 a9 a10 (.val (rowD r)) (.val (frD (pt t))), .val (frD (nf 6 a))) := callRe (o := .src s2) (ds := []) rfl rfl e3 rfl
      have c4 : pCall F__law_cos [pVar 11, pVar 12] (mE s3 n a2 (.own false (.lst (xs ++ [sD 12 (mk Y)]))) a4 a5 a6 a7 a8 a9 a10 (.val (rowD r)) (.val (frD (pt t)))) = some (sD 2 (mk (cosT r t))) := pc2 (a := pVar 11) (b := pVar 12) rfl rfl hc
      have c5 : eCallV F__law_often [eCallR F__law_drawn_fraction 0 [], eP (pCall F__law_cos [pVar 11, pVar 12])] (mE s2 n a2 (.own false (.lst (xs ++ [sD 12 (mk Y)]))) a4 a5 a6 a7 a8 a9 a10 (.val (rowD r)) (.val (frD (pt t)))) = some (mE s3 n a2 (.own false (.lst (xs ++ [sD 12 (mk Y)]))) a4 a5 a6 a7 a8 a9 a10 (.val (rowD r)) (.val (frD (pt t))), .val (sD 12 (mk (oft a (mk (cosT r t)))))) := by
        rw [ev_eCallV, ev_eevs1, c3]
        dsimp only
        rw [ev_toD_val]
        dsimp only
        rw [ev1P c4]
        dsimp only [List.map]
        rw [ho]
      have c6 : eCallV F__law_made [e2 .f dAdd (eP (p2 dIx (pOwn 3) (p1 dNeg (pC (.int 1))))) (eCallV F__law_often [eCallR F__law_drawn_fraction 0 [], eP (pCall F__law_cos [pVar 11, pVar 12])])] (mE s2 n a2 (.own false (.lst (xs ++ [sD 12 (mk Y)]))) a4 a5 a6 a7 a8 a9 a10 (.val (rowD r)) (.val (frD (pt t)))) = some (mE s3 n a2 (.own false (.lst (xs ++ [sD 12 (mk Y)]))) a4 a5 a6 a7 a8 a9 a10 (.val (rowD r)) (.val (frD (pt t))), .val (sD 12 (mk (mk Y ++ mk (oft a (mk (cosT r t))))))) := by
        have c7 : e2 .f dAdd (eP (p2 dIx (pOwn 3) (p1 dNeg (pC (.int 1))))) (eCallV F__law_often [eCallR F__law_drawn_fraction 0 [], eP (pCall F__law_cos [pVar 11, pVar 12])]) (mE s2 n a2 (.own false (.lst (xs ++ [sD 12 (mk Y)]))) a4 a5 a6 a7 a8 a9 a10 (.val (rowD r)) (.val (frD (pt t)))) = some (mE s3 n a2 (.own false (.lst (xs ++ [sD 12 (mk Y)]))) a4 a5 a6 a7 a8 a9 a10 (.val (rowD r)) (.val (frD (pt t))), .val (sD 12 (mk Y ++ mk (oft a (mk (cosT r t)))))) := by
          rw [ev_e2, ev_eP, p1']
          dsimp only
          rw [ev_toD_val]
          dsimp only
          rw [c5]
          dsimp only
          rw [ev_toD_val]
          dsimp only
          rw [ha]
          rfl
        rw [ev_eCallV, ev_eevs1, c7]
        dsimp only
        rw [ev_toD_val, ev_eevs0]
        dsimp only [List.map]
        rw [hm]
      rw [ev_sApp, show (mE s2 n a2 (.own false (.lst (xs ++ [sD 12 (mk Y)]))) a4 a5 a6 a7 a8 a9 a10 (.val (rowD r)) (.val (frD (pt t))))[3]? = some (.own false (.lst (xs ++ [sD 12 (mk Y)]))) from rfl, ev_isLst, if_pos rfl, c6]
      show (if decide ((xs ++ [sD 12 (mk Y)]).length < 16777216) = true then some ((mE s3 n a2 (.own false (.lst (xs ++ [sD 12 (mk Y)]))) a4 a5 a6 a7 a8 a9 a10 (.val (rowD r)) (.val (frD (pt t)))).set 3 (.own false (.lst (xs ++ [sD 12 (mk Y)] ++ [sD 12 (mk (mk Y ++ mk (oft a (mk (cosT r t)))))]))), Out.nx) else none) = _
      rw [if_pos (decide_eq_true (by rw [List.length_append, List.length_cons, List.length_nil]; omega))]
      rfl
    have q3 : sIf (tP (tV (p2 dNe (pN (l1 dRepr) [pN dLst [pCall F_cos_turns [pVar 11, pVar 12], pCall F_sin_turns [pVar 11, pVar 12]]]) (pN (l1 dRepr) [pN dLst [pCall F__law_cos [pVar 11, pVar 12], pCall F__law_sin [pVar 11, pVar 12]]])))) (sRet (eP (pC (.bool false)))) (sNx) (mE s3 n a2 (.own false (.lst (xs ++ [sD 12 (mk Y)] ++ [sD 12 (mk (mk Y ++ mk (oft a (mk (cosT r t)))))]))) a4 a5 a6 a7 a8 a9 a10 (.val (rowD r)) (.val (frD (pt t)))) =
        some (mE s3 n a2 (.own false (.lst (xs ++ [sD 12 (mk Y)] ++ [sD 12 (mk (mk Y ++ mk (oft a (mk (cosT r t)))))]))) a4 a5 a6 a7 a8 a9 a10 (.val (rowD r)) (.val (frD (pt t))), .nx) := by
      refine if_no (rne_same (pl2 (pc2 (a := pVar 11) (b := pVar 12) rfl rfl (cos_turns hlr t)) (pc2 (a := pVar 11) (b := pVar 12) rfl rfl (sin_turns hlr t))) (pl2 (pc2 (a := pVar 11) (b := pVar 12) rfl rfl hc) (pc2 (a := pVar 11) (b := pVar 12) rfl rfl (law_sin hlr t))) ?_)
      have g := gd_list (w := 32007) (xs := [sD 2 (mk (cosT r t)), sD 2 (mk (cosT r (t + 1890)))]) fun x hx => by
        simp only [List.mem_cons, List.not_mem_nil, or_false] at hx
        rcases hx with rfl | rfl
        · exact ⟨hcb.mk.gd lv2 hn (by decide) (by decide), Bx.dep _⟩
        · exact ⟨(cos_bx hr1 hr2 (t + 1890)).mk.gd lv2 hn (by decide) (by decide), Bx.dep _⟩
      exact g.told (by simp)
    exact (run_seq q1).trans ((run_seq q2).trans q3)
  · rw [mir_app]
    refine Sim.app ((mk_sim _).mir.trans (hY.ev.trans (mk_sim _).symm)) ?_
    refine (mk_sim _).mir.trans (Sim.trans ?_ (mk_sim _).symm)
    rw [mir_oft]
    exact ((mk_sim _).mir.trans ((mir_cos r t).trans (mk_sim _).symm)).oft a
end K09
/-! k09, the plain law: mirrors, put together. -/
namespace K09
open PySem PySem.Spec PyProof.Rows L2 L3
theorem mirrors_right (s : Src) (n : Nat) (hn : n ≤ 4) : ∃ s', F__law_mirrors_right [.own true (.src s), .val (.int (n : Int))] = some ([.own true (.src s'), .un], .val (.bool true)) := by
  obtain ⟨s1, S1, S2, m1, h1, h2⟩ := mm1 s n hn
  have b1 := h1.mk
  have bm := h1.mk.mir.mk
  have l1' := law_mirrored lv6 (n := n) (by omega) b1.bd (by decide) (by decide)
  have l2' := law_mirrored lv6 (n := n) (by omega) h2.mk.bd (by decide) (by decide)
  -- back
  have m2 : sVal 2 (eP (pCall F__law_mirrored [pVar 6])) (mE s1 n .un .un .un .un (.val (sD 6 (mk S1))) (.val (sD 6 (mk S2))) .un .un .un .un .un) = some (mE s1 n (.val (sD 6 (mk (mir (mk S1))))) .un .un .un (.val (sD 6 (mk S1))) (.val (sD 6 (mk S2))) .un .un .un .un .un, .nx) :=
    val_ok (i := 2) (cc := .un) (pc1 (a := pVar 6) rfl l1') rfl rfl
  have k1 := mirrored_sum lv6 (n := n) (by omega) b1.bd (by decide) (by decide)
  have k2 := mirrored_sum lv6 (n := n) (by omega) bm.bd (by decide) (by decide)
  have hmm : mk (mir (mk (mir (mk S1)))) = mk S1 := mk_eq ((mk_sim _).mir.trans (by rw [mir_mir]; exact mk_sim S1))
  rw [hmm] at k2
  have g1 : Gd 64011 (sD 6 (mk S1)) := b1.gd lv6 hn (by decide) (by decide)
  have gm : Gd 64011 (sD 6 (mk (mir (mk S1)))) := bm.gd lv6 hn (by decide) (by decide)
  have m3 : sIf (tP (tV (p2 dNe (pN (l1 dRepr) [pN dLst [pCall F_mirrored_sum [pVar 6], pCall F_mirrored_sum [pVar 2]]]) (pN (l1 dRepr) [pN dLst [pVar 2, pVar 6]])))) (sRet (eP (pC (.bool false)))) (sNx) (mE s1 n (.val (sD 6 (mk (mir (mk S1))))) .un .un .un (.val (sD 6 (mk S1))) (.val (sD 6 (mk S2))) .un .un .un .un .un) = some (mE s1 n (.val (sD 6 (mk (mir (mk S1))))) .un .un .un (.val (sD 6 (mk S1))) (.val (sD 6 (mk S2))) .un .un .un .un .un, .nx) := by
    refine if_no (rne_same (pl2 (pc1 (a := pVar 6) rfl k1) (pc1 (a := pVar 2) rfl k2)) (pl2 rfl rfl) ?_)
    have g := gd_list (w := 64011) (xs := [sD 6 (mk (mir (mk S1))), sD 6 (mk S1)]) fun x hx => by
      simp only [List.mem_cons, List.not_mem_nil, or_false] at hx
      rcases hx with rfl | rfl
      · exact ⟨gm, Bx.dep _⟩
      · exact ⟨g1, Bx.dep _⟩
    exact g.told (by simp)
  have bp := (b1.prod h2.mk).mk
  have k3 := law_product lv6 lv6 lv36 (n := n) (by omega) b1.bd h2.mk.bd (by decide) (by decide) (by decide) (by decide)
  have k4 := mirrored_sum lv36 (n := n) (by omega) bp.bd (by decide) (by decide)
  have k5 := law_product lv6 lv6 lv36 (n := n) (by omega) bm.bd h2.mk.mir.mk.bd (by decide) (by decide) (by decide) (by decide)
  have hpp : mk (prod (mk (mir (mk S1))) (mk (mir (mk S2)))) = mk (mir (mk (prod (mk S1) (mk S2)))) :=
    mk_eq (((mk_sim _).prod (mk_sim _)).trans ((mir_prod _ _).symm.trans (mk_sim _).symm.mir))
  rw [hpp] at k5
  have m4 : sIf (tP (tV (p2 dNe (pCall F_mirrored_sum [pCall F__law_product [pVar 6, pVar 7]]) (pCall F__law_product [pVar 2, pCall F__law_mirrored [pVar 7]])))) (sRet (eP (pC (.bool false)))) (sNx) (mE s1 n (.val (sD 6 (mk (mir (mk S1))))) .un .un .un (.val (sD 6 (mk S1))) (.val (sD 6 (mk S2))) .un .un .un .un .un) = some (mE s1 n (.val (sD 6 (mk (mir (mk S1))))) .un .un .un (.val (sD 6 (mk S1))) (.val (sD 6 (mk S2))) .un .un .un .un .un, .nx) :=
    if_no (ne_same (pc1 (pc2 (a := pVar 6) (b := pVar 7) rfl rfl k3) k4) (pc2 (a := pVar 2) rfl (pc1 (a := pVar 7) rfl l2') k5) (bp.mir.mk.gd lv36 hn (by decide) (by decide)))
  -- some
  have k6 := law_product lv6 lv6 lv36 (n := n) (by omega) b1.bd bm.bd (by decide) (by decide) (by decide) (by decide)
  have bs := b1.app bm
  have k7 := law_made lv6 (bs.bd.sz (by decide) (by decide)) (X := sD 6 (mk S1 ++ mk (mir (mk S1)))) rfl
  rw [sD_mk] at k7
  have hadd : dAdd (sD 6 (mk S1)) (sD 6 (mk (mir (mk S1)))) = some (sD 6 (mk S1 ++ mk (mir (mk S1)))) := add_sD (by have := b1.bd.len; have := bm.bd.len; omega)
  have e12 : (.tuple [] : D) = sD 12 (mk []) := by rw [mk_nil]; rfl
  have m5 : sOwn 3 (L3.eF (pN dLst [pVar 6, pCall F__law_product [pVar 6, pVar 2], pCall F__law_made [p2 dAdd (pVar 6) (pVar 2)], pN dTup []])) (mE s1 n (.val (sD 6 (mk (mir (mk S1))))) .un .un .un (.val (sD 6 (mk S1))) (.val (sD 6 (mk S2))) .un .un .un .un .un) =
      some (mE s1 n (.val (sD 6 (mk (mir (mk S1))))) (.own false (.lst ([sD 6 (mk S1), sD 36 (mk (prod (mk S1) (mk (mir (mk S1))))), sD 6 (mk (mk S1 ++ mk (mir (mk S1))))] ++ [sD 12 (mk [])]))) .un .un (.val (sD 6 (mk S1))) (.val (sD 6 (mk S2))) .un .un .un .un .un, .nx) := by
    have hp := pl4 (ρ := mE s1 n (.val (sD 6 (mk (mir (mk S1))))) .un .un .un (.val (sD 6 (mk S1))) (.val (sD 6 (mk S2))) .un .un .un .un .un) (a := pVar 6) (e := pN dTup []) (u := .tuple []) rfl (pc2 (a := pVar 6) (b := pVar 2) rfl rfl k6) (pc1 (a := p2 dAdd (pVar 6) (pVar 2)) hadd k7) rfl
    rw [e12] at hp
    rw [ev_sOwn, ev_eF, hp]
    rfl
  have hc1 : Cn n false (sD 6 (mk S1)) := ⟨6, S1, rfl, by decide, by decide, h1.mono (by decide) (by decide) (by decide), fun q => by cases q⟩
  have hc2 : Cn n true (sD 36 (mk (prod (mk S1) (mk (mir (mk S1)))))) := ⟨36, _, rfl, by decide, by decide, (b1.prod bm).mono (by decide) (by decide) (by decide), fun _ =>
    (mir_prod _ _).trans ((((Sim.refl (mir (mk S1))).prod ((mk_sim (mir (mk S1))).mir.trans (by rw [mir_mir]; exact Sim.refl _))).trans (prod_comm _ _)).trans ((Sim.refl _).prod (mk_sim _).symm))⟩
  have hc3 : Cn n true (sD 6 (mk (mk S1 ++ mk (mir (mk S1))))) := ⟨6, _, rfl, by decide, by decide, bs.mono (by decide) (by decide) (by decide), fun _ => fun g a => by
    rw [mir_app, lin_append, lin_append, ((mk_sim (mir (mk S1))).mir) g a, mir_mir, lin_mk a (mir (mk S1))]; omega⟩
  have y0 : Ls n 0 [] := ⟨⟨⟨fun _ h => (by cases h), Nat.zero_le _, Nat.zero_le _⟩, fun _ h => (by cases h)⟩, Sim.refl _⟩
  obtain ⟨s2, Y1, p11, p12, t1, y1, r11, r12⟩ := step_ms hn (k := 0) (by decide) y0 s1 [sD 6 (mk S1), sD 36 (mk (prod (mk S1) (mk (mir (mk S1))))), sD 6 (mk (mk S1 ++ mk (mir (mk S1))))] (by simp) (.val (sD 6 (mk (mir (mk S1))))) (.val (.int 0)) .un (.val (sD 6 (mk S1))) (.val (sD 6 (mk S2))) .un .un .un .un .un rfl rfl
  obtain ⟨s3, Y2, u11, u12, t2, y2, v11, v12⟩ := step_ms hn (k := 1) (by decide) y1 s2 ([sD 6 (mk S1), sD 36 (mk (prod (mk S1) (mk (mir (mk S1))))), sD 6 (mk (mk S1 ++ mk (mir (mk S1))))] ++ [sD 12 (mk [])]) (by simp) (.val (sD 6 (mk (mir (mk S1))))) (.val (.int 1)) .un (.val (sD 6 (mk S1))) (.val (sD 6 (mk S2))) .un .un .un p11 p12 r11 r12
  obtain ⟨s4, Y3, w11, w12, t3, y3, x11, x12⟩ := step_ms hn (k := 2) (by decide) y2 s3 ([sD 6 (mk S1), sD 36 (mk (prod (mk S1) (mk (mir (mk S1))))), sD 6 (mk (mk S1 ++ mk (mir (mk S1))))] ++ [sD 12 (mk [])] ++ [sD 12 (mk Y1)]) (by simp) (.val (sD 6 (mk (mir (mk S1))))) (.val (.int 2)) .un (.val (sD 6 (mk S1))) (.val (sD 6 (mk S2))) .un .un .un u11 u12 v11 v12
  generalize hxs : [sD 6 (mk S1), sD 36 (mk (prod (mk S1) (mk (mir (mk S1))))), sD 6 (mk (mk S1 ++ mk (mir (mk S1))))] ++ [sD 12 (mk [])] ++ [sD 12 (mk Y1)] ++ [sD 12 (mk Y2)] ++ [sD 12 (mk Y3)] = xs at t3
  have m6 : sFor (.nm 4) (iR (pC (.int 0)) (pC (.int 3))) bMs (mE s1 n (.val (sD 6 (mk (mir (mk S1))))) (.own false (.lst ([sD 6 (mk S1), sD 36 (mk (prod (mk S1) (mk (mir (mk S1))))), sD 6 (mk (mk S1 ++ mk (mir (mk S1))))] ++ [sD 12 (mk [])]))) .un .un (.val (sD 6 (mk S1))) (.val (sD 6 (mk S2))) .un .un .un .un .un) =
      some (mE s4 n (.val (sD 6 (mk (mir (mk S1))))) (.own false (.lst xs)) (.val (.int 2)) .un (.val (sD 6 (mk S1))) (.val (sD 6 (mk S2))) .un .un .un w11 w12, .nx) := by
    rw [ev_sFor, show iR (pC (.int 0)) (pC (.int 3)) (mE s1 n (.val (sD 6 (mk (mir (mk S1))))) (.own false (.lst ([sD 6 (mk S1), sD 36 (mk (prod (mk S1) (mk (mir (mk S1))))), sD 6 (mk (mk S1 ++ mk (mir (mk S1))))] ++ [sD 12 (mk [])]))) .un .un (.val (sD 6 (mk S1))) (.val (sD 6 (mk S2))) .un .un .un .un .un) = some (mE s1 n (.val (sD 6 (mk (mir (mk S1))))) (.own false (.lst ([sD 6 (mk S1), sD 36 (mk (prod (mk S1) (mk (mir (mk S1))))), sD 6 (mk (mk S1 ++ mk (mir (mk S1))))] ++ [sD 12 (mk [])]))) .un .un (.val (sD 6 (mk S1))) (.val (sD 6 (mk S2))) .un .un .un .un .un, [.int 0, .int 1, .int 2]) from rfl]
    dsimp only
    rw [forL]
    show (match bMs (mE s1 n (.val (sD 6 (mk (mir (mk S1))))) (.own false (.lst ([sD 6 (mk S1), sD 36 (mk (prod (mk S1) (mk (mir (mk S1))))), sD 6 (mk (mk S1 ++ mk (mir (mk S1))))] ++ [sD 12 (mk [])]))) (.val (.int 0)) .un (.val (sD 6 (mk S1))) (.val (sD 6 (mk S2))) .un .un .un .un .un) with
      | some (ρ2, .nx) => forL (.nm 4) bMs [.int 1, .int 2] ρ2 | some (ρ2, .ct) => forL (.nm 4) bMs [.int 1, .int 2] ρ2 | some (ρ2, .bk) => some (ρ2, .nx) | some (ρ2, .rt c) => some (ρ2, .rt c) | none => none) = _
    rw [t1]
    dsimp only
    rw [forL]
    show (match bMs (mE s2 n (.val (sD 6 (mk (mir (mk S1))))) (.own false (.lst ([sD 6 (mk S1), sD 36 (mk (prod (mk S1) (mk (mir (mk S1))))), sD 6 (mk (mk S1 ++ mk (mir (mk S1))))] ++ [sD 12 (mk [])] ++ [sD 12 (mk Y1)]))) (.val (.int 1)) .un (.val (sD 6 (mk S1))) (.val (sD 6 (mk S2))) .un .un .un p11 p12) with
      | some (ρ2, .nx) => forL (.nm 4) bMs [.int 2] ρ2 | some (ρ2, .ct) => forL (.nm 4) bMs [.int 2] ρ2 | some (ρ2, .bk) => some (ρ2, .nx) | some (ρ2, .rt c) => some (ρ2, .rt c) | none => none) = _
    rw [t2]
    dsimp only
    rw [forL]
    show (match bMs (mE s3 n (.val (sD 6 (mk (mir (mk S1))))) (.own false (.lst ([sD 6 (mk S1), sD 36 (mk (prod (mk S1) (mk (mir (mk S1))))), sD 6 (mk (mk S1 ++ mk (mir (mk S1))))] ++ [sD 12 (mk [])] ++ [sD 12 (mk Y1)] ++ [sD 12 (mk Y2)]))) (.val (.int 2)) .un (.val (sD 6 (mk S1))) (.val (sD 6 (mk S2))) .un .un .un u11 u12) with
      | some (ρ2, .nx) => forL (.nm 4) bMs [] ρ2 | some (ρ2, .ct) => forL (.nm 4) bMs [] ρ2 | some (ρ2, .bk) => some (ρ2, .nx) | some (ρ2, .rt c) => some (ρ2, .rt c) | none => none) = _
    rw [t3]
    dsimp only
    rw [forL]
  have hxs2 : xs = sD 6 (mk S1) :: [sD 36 (mk (prod (mk S1) (mk (mir (mk S1))))), sD 6 (mk (mk S1 ++ mk (mir (mk S1)))), sD 12 (mk []), sD 12 (mk Y1), sD 12 (mk Y2), sD 12 (mk Y3)] := hxs.symm
  have hev : ∀ d ∈ [sD 36 (mk (prod (mk S1) (mk (mir (mk S1))))), sD 6 (mk (mk S1 ++ mk (mir (mk S1)))), sD 12 (mk []), sD 12 (mk Y1), sD 12 (mk Y2), sD 12 (mk Y3)], Cn n true d := fun d hd => by
    simp only [List.mem_cons, List.not_mem_nil, or_false] at hd
    rcases hd with rfl | rfl | rfl | rfl | rfl | rfl
    · exact hc2
    · exact hc3
    · exact y0.cn (by decide)
    · exact y1.cn (by decide)
    · exact y2.cn (by decide)
    · exact y3.cn (by decide)
  have hall : ∀ d ∈ xs, Cn n false d := fun d hd => by
    rw [hxs2] at hd
    rcases List.mem_cons.mp hd with rfl | hd
    · exact hc1
    · exact (hev d hd).weak
  obtain ⟨b5, b8, b9, q1, q5⟩ := all_ok hn s4 (.val (sD 6 (mk (mir (mk S1))))) (.val (.list xs)) (.val (.int 2)) (.val (sD 6 (mk S1))) (.val (sD 6 (mk S2))) .un w11 w12 xs .un .un .un hall rfl rfl rfl
  have m7 : sFrzs [3] (sFor (.nm 5) (iP (pVar 3)) bEa) (mE s4 n (.val (sD 6 (mk (mir (mk S1))))) (.own false (.lst xs)) (.val (.int 2)) .un (.val (sD 6 (mk S1))) (.val (sD 6 (mk S2))) .un .un .un w11 w12) = some (mE s4 n (.val (sD 6 (mk (mir (mk S1))))) (.val (.list xs)) (.val (.int 2)) b5 (.val (sD 6 (mk S1))) (.val (sD 6 (mk S2))) b8 b9 .un w11 w12, .nx) := by
    show sFor (.nm 5) (iP (pVar 3)) bEa (mE s4 n (.val (sD 6 (mk (mir (mk S1))))) (.val (.list xs)) (.val (.int 2)) .un (.val (sD 6 (mk S1))) (.val (sD 6 (mk S2))) .un .un .un w11 w12) = _
    rw [ev_sFor, show iP (pVar 3) (mE s4 n (.val (sD 6 (mk (mir (mk S1))))) (.val (.list xs)) (.val (.int 2)) .un (.val (sD 6 (mk S1))) (.val (sD 6 (mk S2))) .un .un .un w11 w12) = some (mE s4 n (.val (sD 6 (mk (mir (mk S1))))) (.val (.list xs)) (.val (.int 2)) .un (.val (sD 6 (mk S1))) (.val (sD 6 (mk S2))) .un .un .un w11 w12, xs) from rfl]
    exact q1
  have m8 : sRet (eP (p2 dEq (pComp [5] (.nm 5) (ipP (pCut (pOwn 3) (some (pC (.int 1))) none)) (tV (p2 dNotT (pCall F_is_even_sum [pVar 5]) (pC (.bool true)))) (pVar 5)) (pN dLst []))) (mE s4 n (.val (sD 6 (mk (mir (mk S1))))) (.val (.list xs)) (.val (.int 2)) b5 (.val (sD 6 (mk S1))) (.val (sD 6 (mk S2))) b8 b9 .un w11 w12) = some (mE s4 n (.val (sD 6 (mk (mir (mk S1))))) (.val (.list xs)) (.val (.int 2)) b5 (.val (sD 6 (mk S1))) (.val (sD 6 (mk S2))) b8 b9 .un w11 w12, .rt (.val (.bool true))) := by
    refine run_ret ?_
    have hi : ipP (pCut (pOwn 3) (some (pC (.int 1))) none) (mE s4 n (.val (sD 6 (mk (mir (mk S1))))) (.val (.list xs)) (.val (.int 2)) b5 (.val (sD 6 (mk S1))) (.val (sD 6 (mk S2))) b8 b9 .un w11 w12) = some [sD 36 (mk (prod (mk S1) (mk (mir (mk S1))))), sD 6 (mk (mk S1 ++ mk (mir (mk S1)))), sD 12 (mk []), sD 12 (mk Y1), sD 12 (mk Y2), sD 12 (mk Y3)] := by
      rw [hxs2]
      rfl
    have hp : pComp [5] (.nm 5) (ipP (pCut (pOwn 3) (some (pC (.int 1))) none)) (tV (p2 dNotT (pCall F_is_even_sum [pVar 5]) (pC (.bool true)))) (pVar 5) (mE s4 n (.val (sD 6 (mk (mir (mk S1))))) (.val (.list xs)) (.val (.int 2)) b5 (.val (sD 6 (mk S1))) (.val (sD 6 (mk S2))) b8 b9 .un w11 w12) = some (.list []) := by
      unfold pComp
      rw [hi]
      dsimp only
      have hf : freeAt [5] (mE s4 n (.val (sD 6 (mk (mir (mk S1))))) (.val (.list xs)) (.val (.int 2)) b5 (.val (sD 6 (mk S1))) (.val (sD 6 (mk S2))) b8 b9 .un w11 w12) = true := by simp [freeAt, q5]
      rw [hf, show wipeE [5] (mE s4 n (.val (sD 6 (mk (mir (mk S1))))) (.val (.list xs)) (.val (.int 2)) b5 (.val (sD 6 (mk S1))) (.val (sD 6 (mk S2))) b8 b9 .un w11 w12) = mE s4 n (.val (sD 6 (mk (mir (mk S1))))) (.val (.list xs)) (.val (.int 2)) .un (.val (sD 6 (mk S1))) (.val (sD 6 (mk S2))) b8 b9 .un w11 w12 from rfl, comp_ev hn s4 _ _ _ _ _ _ _ _ _ _ _ hev]
      rfl
    rw [ev_p2, hp]
    exact eq_nil []
  exact ⟨s4, run_fn (ρ0 := mE s n .un .un .un .un .un .un .un .un .un .un .un) rfl rfl (show g__law_mirrors_right _ = _ from (run_seq m1).trans ((run_seq m2).trans ((run_seq m3).trans ((run_seq m4).trans ((run_seq m5).trans ((run_seq m6).trans ((run_seq m7).trans m8))))))) rfl⟩
end K09
/-! k09, the plain law: multiples of one row, as polynomials. -/
namespace K09
open PySem PySem.Spec PyProof.Rows L2 L3
/-- so often a row -/
def rmul (e : Int) (r : List Int) : List Int := r.map fun x => e * x
theorem rmul_one (r : List Int) : rmul 1 r = r := (List.map_congr_left fun x _ => Int.one_mul x).trans (List.map_id r)
theorem rmul_neg (r : List Int) : rmul (-1) r = rneg r := List.map_congr_left fun x _ => by rw [Int.neg_mul, Int.one_mul]
theorem rmul_negk (k : Int) (r : List Int) : rmul (-k) r = rneg (rmul k r) := by
  unfold rmul rneg
  rw [List.map_map]
  exact List.map_congr_left fun x _ => Int.neg_mul k x
theorem rmul_zero (r : List Int) : rmul 0 r = zeros r.length := by
  unfold rmul zeros
  induction r with
  | nil => rfl
  | cons x r ih => rw [List.map_cons, ih, Int.zero_mul]; rfl
theorem rmul_add (e f : Int) (r : List Int) : radd (rmul e r) (rmul f r) = rmul (e + f) r := by
  unfold radd rmul
  induction r with
  | nil => rfl
  | cons x r ih => rw [List.map_cons, List.map_cons, List.zipWith_cons_cons, ih, List.map_cons, Int.add_mul]
abbrev Pl := List (Int × Int)
def toT (r : List Int) (t : Int) (P : Pl) : List Tm := P.map fun p => (rmul p.1 r, p.1 * t, p.2)
def linP (φ : Int → Int) : Pl → Int
  | [] => 0
  | p :: P => p.2 * φ p.1 + linP φ P
theorem lin_toT (g : Fl) (r : List Int) (t : Int) : ∀ P : Pl, lin g (toT r t P) = linP (fun e => g (rmul e r) (e * t)) P
  | [] => rfl
  | p :: P => by
    have ih := lin_toT g r t P
    unfold toT at ih ⊢
    rw [List.map_cons, lin, linP, ih]
def mulP (P Q : Pl) : Pl := P.flatMap fun p => Q.map fun q => (p.1 + q.1, p.2 * q.2)
theorem toT_append (r : List Int) (t : Int) (P Q : Pl) : toT r t (P ++ Q) = toT r t P ++ toT r t Q := List.map_append ..
theorem toT_mul (r : List Int) (t : Int) (Q : Pl) : ∀ P : Pl, prod (toT r t P) (toT r t Q) = toT r t (mulP P Q)
  | [] => rfl
  | p :: P => by
    have ih := toT_mul r t Q P
    rw [show toT r t (p :: P) = (rmul p.1 r, p.1 * t, p.2) :: toT r t P from rfl, prod_cons, ih, show mulP (p :: P) Q = (Q.map fun q => (p.1 + q.1, p.2 * q.2)) ++ mulP P Q from List.flatMap_cons .., toT_append]
    congr 1
    unfold rowT toT
    rw [List.map_map, List.map_map]
    refine List.map_congr_left fun q _ => ?_
    show (radd (rmul p.1 r) (rmul q.1 r), p.1 * t + q.1 * t, p.2 * q.2) = (rmul (p.1 + q.1) r, (p.1 + q.1) * t, p.2 * q.2)
    rw [rmul_add, Int.add_mul]
def cosP : Pl := [(1, 1), (-1, 1)]
theorem cos_toT (r : List Int) (t : Int) : cosT r t = toT r t cosP := by
  unfold cosT toT cosP
  simp only [List.map_cons, List.map_nil]
  rw [rmul_one, rmul_neg, Int.one_mul, Int.neg_mul, Int.one_mul]
theorem cos_toTk (k : Int) (r : List Int) (t : Int) : cosT (rmul k r) (k * t) = toT r t [(k, 1), (-k, 1)] := by
  unfold cosT toT
  simp only [List.map_cons, List.map_nil]
  rw [rmul_negk, Int.neg_mul]
theorem one_toT (r : List Int) (t : Int) (a : Int) : [(zeros r.length, 0, a)] = toT r t [(0, a)] := by
  unfold toT
  simp only [List.map_cons, List.map_nil]
  rw [rmul_zero, Int.zero_mul]
/-- how often a power stands there -/
def cntP (e : Int) (P : Pl) : Int := linP (fun f => if f = e then 1 else 0) P
/-- all powers from -m to m -/
def sumP (φ : Int → Int) (P : Pl) : List Int → Int
  | [] => 0
  | e :: es => cntP e P * φ e + sumP φ P es
theorem sumP_nil (φ : Int → Int) : ∀ es, sumP φ [] es = 0
  | [] => rfl
  | e :: es => by rw [sumP, sumP_nil φ es]; simp [cntP, linP]
theorem sumP_cons (φ : Int → Int) (p : Int × Int) (P : Pl) : ∀ es, sumP φ (p :: P) es = sumP φ [p] es + sumP φ P es
  | [] => rfl
  | e :: es => by
    rw [sumP, sumP, sumP, sumP_cons φ p P es]
    have : cntP e (p :: P) = cntP e [p] + cntP e P := by unfold cntP; simp only [linP, Int.add_zero]
    rw [this, Int.add_mul]; omega
theorem sumP_one (φ : Int → Int) (p : Int × Int) : ∀ es : List Int, es.Nodup → sumP φ [p] es = if p.1 ∈ es then p.2 * φ p.1 else 0
  | [], _ => rfl
  | e :: es, h => by
    obtain ⟨h1, h2⟩ := List.nodup_cons.mp h
    rw [sumP, sumP_one φ p es h2]
    have hc : cntP e [p] = if p.1 = e then p.2 else 0 := by
      unfold cntP
      simp only [linP, Int.add_zero]
      split <;> simp
    rw [hc]
    by_cases z : p.1 = e
    · subst z
      simp [h1]
    · have : (p.1 ∈ e :: es) ↔ p.1 ∈ es := by simp [z]
      simp [z, this]
theorem linP_sum (φ : Int → Int) (es : List Int) (hn : es.Nodup) : ∀ P : Pl, (∀ p ∈ P, p.1 ∈ es) → linP φ P = sumP φ P es
  | [], _ => (sumP_nil φ es).symm
  | p :: P, h => by
    rw [linP, sumP_cons, sumP_one φ p es hn, if_pos (h p (List.mem_cons_self ..)), linP_sum φ es hn P fun q hq => h q (List.mem_cons_of_mem _ hq)]
theorem sumP_congr (φ : Int → Int) {P Q : Pl} : ∀ es : List Int, (∀ e ∈ es, cntP e P = cntP e Q) → sumP φ P es = sumP φ Q es
  | [], _ => rfl
  | e :: es, h => by rw [sumP, sumP, h e (List.mem_cons_self ..), sumP_congr φ es fun f hf => h f (List.mem_cons_of_mem _ hf)]
def exps : List Int := [-8, -7, -6, -5, -4, -3, -2, -1, 0, 1, 2, 3, 4, 5, 6, 7, 8]
/-- two polynomials that are the same, looked at -/
def sameP (P Q : Pl) : Bool := P.all (fun p => exps.contains p.1) && Q.all (fun p => exps.contains p.1) && exps.all fun e => decide (cntP e P = cntP e Q)
theorem sim_P {P Q : Pl} (h : sameP P Q = true) (r : List Int) (t : Int) : Sim (toT r t P) (toT r t Q) := fun g _ => by
  unfold sameP at h
  rw [Bool.and_eq_true, Bool.and_eq_true] at h
  obtain ⟨⟨h1, h2⟩, h3⟩ := h
  have hn : exps.Nodup := by decide
  rw [lin_toT, lin_toT, linP_sum _ exps hn P fun p hp => by simpa using List.all_eq_true.mp h1 p hp, linP_sum _ exps hn Q fun p hp => by simpa using List.all_eq_true.mp h2 p hp]
  exact sumP_congr _ _ fun e he => of_decide_eq_true (List.all_eq_true.mp h3 e he)
def powP : Nat → Pl
  | 0 => [(0, 1)]
  | j + 1 => mulP (powP j) cosP
/-- by counts of lots -/
def chs (k i : Nat) : Int := match k, i with
  | _, 0 => 1
  | 0, _ + 1 => 0
  | k + 1, i + 1 => chs k i + chs k (i + 1)
def cntsP (k : Nat) : Pl := (List.range (k + 1)).map fun (i : Nat) => ((k : Int) - 2 * (i : Int), chs k i)
def numsT : Nat → List Int
  | 0 => [2]
  | 1 => [0, 1]
  | 2 => [-2, 0, 1]
  | 3 => [0, -3, 0, 1]
  | 4 => [2, 0, -4, 0, 1]
  | 5 => [0, 5, 0, -5, 0, 1]
  | 6 => [-2, 0, 9, 0, -6, 0, 1]
  | 7 => [0, -7, 0, 14, 0, -7, 0, 1]
  | _ => [2, 0, -16, 0, 20, 0, -8, 0, 1]
/-- the polynomial's way, the last number first -/
def horP : List Int → Pl
  | [] => []
  | n :: ns => mulP (horP ns) cosP ++ [(0, n)]
theorem same_cnts : ∀ k, k < 9 → sameP (powP k) (cntsP k) = true := by decide +kernel
theorem same_hor : ∀ k, k < 9 → sameP (horP (numsT k)) [((k : Int), (1 : Int)), (-(k : Int), 1)] = true := by decide +kernel
end K09
/-! k09, the plain law: powers. -/
namespace K09
open PySem PySem.Spec PyProof.Rows L2 L3
def intOf : Option (List Cell × Cell) → Option Int
  | some (_, .val (.int n)) => some n
  | _ => none
theorem intOf_inv {r : Option (List Cell × Cell)} {n : Int} (h : intOf r = some n) : ∃ rs, r = some (rs, .val (.int n)) := by
  unfold intOf at h
  split at h
  · cases h; exact ⟨_, rfl⟩
  · cases h
theorem chosen : ∀ k : Nat, k < 9 → ∀ i : Nat, i < k + 1 → intOf (F_chosen_out_of [.val (.int (k : Int)), .val (.int (i : Int))]) = some (chs k i) := by decide +kernel
theorem chs_small : ∀ k, k < 9 → ∀ i, i < k + 1 → (chs k i).natAbs ≤ 70 := by decide +kernel
theorem rangeD_nat (n : Nat) : rangeD 0 (n : Int) = (List.range n).map fun (i : Nat) => PyData.int (i : Int) := by
  unfold rangeD
  rw [Int.sub_zero, Int.toNat_natCast]
  exact List.map_congr_left fun i _ => by rw [Int.zero_add]
theorem nf1 (c : Int) : frD (nf 1 c) = .tuple [.int c, .int 1] := by
  have : nf 1 c = (c, 1) := by
    unfold nf
    rw [norm_q (by decide), Int.gcd_one]
    simp
  rw [this]
  rfl
/-- how great, how many -/
def absP : Pl → Nat
  | [] => 0
  | p :: P => p.2.natAbs + absP P
theorem A1_toT (r : List Int) (t : Int) : ∀ P : Pl, A1 (toT r t P) = absP P
  | [] => rfl
  | p :: P => by
    have ih := A1_toT r t P
    unfold toT at ih ⊢
    rw [List.map_cons, A1, absP, ih]
theorem toT_bx {r : List Int} {n : Nat} (hr : r.length = n) (h2 : ∀ i ∈ r, i.natAbs ≤ 2) (t : Int) {P : Pl} {A L : Nat} (he : ∀ p ∈ P, p.1.natAbs ≤ 8) (hA : absP P ≤ A) (hL : P.length ≤ L) : Bx n A L 16 (toT r t P) := by
  refine ⟨⟨fun x hx => ?_, by rw [A1_toT]; exact hA, by unfold toT; rw [List.length_map]; exact hL⟩, fun x hx i hi => ?_⟩
  · obtain ⟨p, _, rfl⟩ := List.mem_map.mp hx
    show (rmul p.1 r).length = n
    unfold rmul
    rw [List.length_map]
    exact hr
  · obtain ⟨p, hp, rfl⟩ := List.mem_map.mp hx
    obtain ⟨j, hj, rfl⟩ := List.mem_map.mp hi
    rw [Int.natAbs_mul]
    exact Nat.mul_le_mul (he p hp) (h2 j hj)
def okP (A L : Nat) (P : Pl) : Bool := P.all (fun p => decide (p.1.natAbs ≤ 8)) && decide (absP P ≤ A) && decide (P.length ≤ L)
theorem okP_bx {r : List Int} {n : Nat} (hr : r.length = n) (h2 : ∀ i ∈ r, i.natAbs ≤ 2) (t : Int) {P : Pl} {A L : Nat} (h : okP A L P = true) : Bx n A L 16 (toT r t P) := by
  unfold okP at h
  rw [Bool.and_eq_true, Bool.and_eq_true, decide_eq_true_eq, decide_eq_true_eq] at h
  exact toT_bx hr h2 t (fun p hp => of_decide_eq_true (List.all_eq_true.mp h.1.1 p hp)) h.1.2 h.2
theorem pow_ok : ∀ k, k < 9 → okP 256 256 (powP k) = true := by decide +kernel
section
variable {r : List Int} {n : Nat} (hr : r.length = n) (h2 : ∀ i ∈ r, i.natAbs ≤ 2) (hn : n ≤ 4) (t : Int)
include hr h2 hn
theorem pow_bx {k : Nat} (hk : k < 9) : Bx n 256 256 16 (toT r t (powP k)) := okP_bx hr h2 t (pow_ok k hk)
omit hr h2 hn in
theorem pow_sim (k : Nat) : mk (prod (mk (toT r t (powP k))) (mk (cosT r t))) = mk (toT r t (powP (k + 1))) := by
  rw [mk_eq ((mk_sim _).prod (mk_sim _)), cos_toT, toT_mul]
  rfl
theorem pow_step {k : Nat} (hk : k < 8) : F_sums_times [.val (sD 1 (mk (toT r t (powP k)))), .val (sD 1 (mk (cosT r t)))] = some ([.un, .un], .val (sD 1 (mk (toT r t (powP (k + 1)))))) := by
  have := sums_times lv1 lv1 lv1 (n := n) (by omega) (pow_bx hr h2 hn t (k := k) (by omega)).bd.mk (cos_bd hr t).mk (by decide) (by decide) (by decide) (by decide)
  rwa [pow_sim] at this
theorem pow_stepL {k : Nat} (hk : k < 8) : F__law_product [.val (sD 1 (mk (toT r t (powP k)))), .val (sD 1 (mk (cosT r t)))] = some ([.un, .un], .val (sD 1 (mk (toT r t (powP (k + 1)))))) := by
  have := law_product lv1 lv1 lv1 (n := n) (by omega) (pow_bx hr h2 hn t (k := k) (by omega)).bd.mk (cos_bd hr t).mk (by decide) (by decide) (by decide) (by decide)
  rwa [pow_sim] at this
omit hr h2 hn in
theorem double_eq : sD 2 (mk (oft 2 (mk (cosT r t)))) = sD 1 (mk (cosT r t)) := sD_eq (M := 1) (c := 2) (by decide) (by decide) fun g a => by rw [lin_oft, lin_mk a]
theorem two_cosines : F_two_cosines [.val (rowD r), .val (frD (pt t))] = some ([.un, .un], .val (sD 1 (mk (cosT r t)))) := by
  have h := cos_turns (r := r) (by omega) t
  have k := sum_often (M := 2) (N := 1) lv2 lv1 lv2 (c := 2) (by unfold S31; decide) (cos_bd hr t).mk (by decide) (by decide) (by decide)
  rw [show (1 : Int) * 2 = 2 from rfl, double_eq] at k
  unfold F_two_cosines g_two_cosines
  simp [len24, h, two_D, k]
theorem law_two : F__law_often [.val (frD (nf 1 2)), .val (sD 2 (mk (cosT r t)))] = some ([.un, .un], .val (sD 1 (mk (cosT r t)))) := by
  have k := law_often (M := 2) (N := 1) lv2 lv1 lv2 (c := 2) (by unfold S31; decide) (cos_bd hr t).mk (by decide) (by decide) (by decide)
  rwa [show (1 : Int) * 2 = 2 from rfl, double_eq] at k
omit h2 hn in
theorem one_eq : [(zeros n, (0 : Int), (1 : Int))] = toT r t (powP 0) := by
  rw [← hr, one_toT r t]
  rfl
theorem loop_sp (X0 X2 : Cell) : ∀ (m j : Nat) (c : Cell), j + m < 9 → isOwn c = false → ∃ d, forL (.nm 4) (sVal 3 (eP (pCall F_sums_times [pVar 3, pVar 1]))) ((List.range' j m).map fun (i : Nat) => PyData.int (i : Int)) [X0, .val (sD 1 (mk (cosT r t))), X2, .val (sD 1 (mk (toT r t (powP j)))), c] = some ([X0, .val (sD 1 (mk (cosT r t))), X2, .val (sD 1 (mk (toT r t (powP (j + m))))), d], .nx)
  | 0, j, c, _, _ => ⟨c, by rw [List.range'_zero, List.map_nil, forL]; rfl⟩
  | m + 1, j, c, hj, hc => by
    obtain ⟨d, e⟩ := loop_sp X0 X2 m (j + 1) (.val (.int (j : Int))) (by omega) rfl
    refine ⟨d, ?_⟩
    rw [List.range'_succ, List.map_cons, forL, ev_bind0, put_no (c := c) rfl hc]
    show (match sVal 3 (eP (pCall F_sums_times [pVar 3, pVar 1])) [X0, .val (sD 1 (mk (cosT r t))), X2, .val (sD 1 (mk (toT r t (powP j)))), .val (.int (j : Int))] with | some (ρ2, .nx) => forL _ _ _ ρ2 | some (ρ2, .ct) => forL _ _ _ ρ2 | some (ρ2, .bk) => some (ρ2, .nx) | some (ρ2, .rt c) => some (ρ2, .rt c) | none => none) = _
    rw [val_ok (i := 3) (cc := .val (sD 1 (mk (toT r t (powP j))))) (pc2 (a := pVar 3) (b := pVar 1) rfl rfl (pow_step hr h2 hn t (k := j) (by omega))) rfl rfl]
    dsimp only [List.set]
    rw [e, show j + 1 + m = j + (m + 1) by omega]
theorem sum_power {k : Nat} (hk : k < 9) : F_sum_power [.val (.int (n : Int)), .val (sD 1 (mk (cosT r t))), .val (.int (k : Int))] = some ([.un, .un, .un], .val (sD 1 (mk (toT r t (powP k))))) := by
  have h := told_turns lv1 (n := n) (by omega) (a := 1) (by unfold S31; decide)
  rw [one_eq hr t] at h
  obtain ⟨d, e⟩ := loop_sp hr h2 hn t (.val (.int (n : Int))) (.val (.int (k : Int))) k 0 .un (by omega) rfl
  rw [Nat.zero_add, ← List.range_eq_range', ← rangeD_nat] at e
  have e1 := val_ok (i := 3) (cc := .un) (ρ := [.val (.int (n : Int)), .val (sD 1 (mk (cosT r t))), .val (.int (k : Int)), .un, .un]) (pc2 (a := pVar 0) (b := pN dTup [pC (.int 1), pC (.int 1)]) (y := frD (nf 1 1)) rfl rfl h) rfl rfl
  have e2 : sFor (.nm 4) (iR (pC (.int 0)) (pVar 2)) (sVal 3 (eP (pCall F_sums_times [pVar 3, pVar 1]))) [.val (.int (n : Int)), .val (sD 1 (mk (cosT r t))), .val (.int (k : Int)), .val (sD 1 (mk (toT r t (powP 0)))), .un] = some ([.val (.int (n : Int)), .val (sD 1 (mk (cosT r t))), .val (.int (k : Int)), .val (sD 1 (mk (toT r t (powP k)))), d], .nx) := by
    rw [ev_sFor, iR_nat (n := k) rfl rfl (by omega)]
    exact e
  exact run_fn (ρ0 := [.val (.int (n : Int)), .val (sD 1 (mk (cosT r t))), .val (.int (k : Int)), .un, .un]) rfl rfl (show g_sum_power _ = _ from (run_seq e1).trans ((run_seq e2).trans (run_ret (p := pVar 3) rfl))) rfl
abbrev bPc : Sm := sSeq (sVal 5 (eP (p2 dSub (pVar 2) (p2 dMul (pC (.int 2)) (pVar 4)))))
      (sApp 3 (eP (pN dTup [pCall F_row_times [pVar 5, pVar 0], pCall F_part_times [pVar 5, pVar 1], pN dTup [pCall F_chosen_out_of [pVar 2, pVar 4], pC (.int 1)]])))
theorem loop_pc {k : Nat} (hk : k < 9) : ∀ (L : List Nat) (xs : List D) (c4 c5 : Cell), (∀ i ∈ L, i < k + 1) → isOwn c4 = false → isOwn c5 = false → xs.length + L.length < 16777216 →
    ∃ d4 d5, forL (.nm 4) bPc (L.map fun (i : Nat) => PyData.int (i : Int)) [.val (rowD r), .val (frD (pt t)), .val (.int (k : Int)), .own false (.lst xs), c4, c5] = some ([.val (rowD r), .val (frD (pt t)), .val (.int (k : Int)), .own false (.lst (xs ++ (toT r t (L.map fun (i : Nat) => ((k : Int) - 2 * (i : Int), chs k i))).map (tmD 1))), d4, d5], .nx)
  | [], xs, c4, c5, _, _, _, _ => ⟨c4, c5, by rw [List.map_nil, forL]; simp [toT]⟩
  | i :: L, xs, c4, c5, hL, h4, h5, hl => by
    rw [List.length_cons] at hl
    have hi := hL i (List.mem_cons_self ..)
    obtain ⟨rs, hc⟩ := intOf_inv (chosen k hk i hi)
    have h1 := row_times ((k : Int) - 2 * (i : Int)) (r := r) (by unfold S31; omega) (by omega)
    have h2' := pt_times ((k : Int) - 2 * (i : Int)) t
    have hm : mulOk 2 (i : Int) = true := mulOk31 (by unfold S31; decide)
    obtain ⟨d4, d5, e⟩ := loop_pc hk L (xs ++ [tmD 1 (rmul ((k : Int) - 2 * (i : Int)) r, ((k : Int) - 2 * (i : Int)) * t, chs k i)]) (.val (.int (i : Int))) (.val (.int ((k : Int) - 2 * (i : Int)))) (fun j hj => hL j (List.mem_cons_of_mem _ hj)) rfl rfl (by rw [List.length_append, List.length_cons, List.length_nil]; omega)
    refine ⟨d4, d5, ?_⟩
    have e1 : sVal 5 (eP (p2 dSub (pVar 2) (p2 dMul (pC (.int 2)) (pVar 4)))) [.val (rowD r), .val (frD (pt t)), .val (.int (k : Int)), .own false (.lst xs), .val (.int (i : Int)), c5] = some ([.val (rowD r), .val (frD (pt t)), .val (.int (k : Int)), .own false (.lst xs), .val (.int (i : Int)), .val (.int ((k : Int) - 2 * (i : Int)))], .nx) :=
      val_ok (i := 5) (cc := c5) (by simp [hm]) rfl h5
    have hp : pN dTup [pCall F_row_times [pVar 5, pVar 0], pCall F_part_times [pVar 5, pVar 1], pN dTup [pCall F_chosen_out_of [pVar 2, pVar 4], pC (.int 1)]] [.val (rowD r), .val (frD (pt t)), .val (.int (k : Int)), .own false (.lst xs), .val (.int (i : Int)), .val (.int ((k : Int) - 2 * (i : Int)))] = some (tmD 1 (rmul ((k : Int) - 2 * (i : Int)) r, ((k : Int) - 2 * (i : Int)) * t, chs k i)) := by
      simp [h1, h2', hc, len24, tmD, nf1, rmul]
    have e2 := app_ok (i := 3) (ρ := [.val (rowD r), .val (frD (pt t)), .val (.int (k : Int)), .own false (.lst xs), .val (.int (i : Int)), .val (.int ((k : Int) - 2 * (i : Int)))]) rfl hp (by omega)
    have e3 := (run_seq e1).trans e2
    rw [List.map_cons, forL, ev_bind0, put_no (c := c4) rfl h4]
    show (match bPc [.val (rowD r), .val (frD (pt t)), .val (.int (k : Int)), .own false (.lst xs), .val (.int (i : Int)), c5] with | some (ρ2, .nx) => forL _ _ _ ρ2 | some (ρ2, .ct) => forL _ _ _ ρ2 | some (ρ2, .bk) => some (ρ2, .nx) | some (ρ2, .rt c) => some (ρ2, .rt c) | none => none) = _
    rw [show bPc _ = _ from e3]
    dsimp only [List.set]
    rw [e, List.append_assoc]
    rfl
omit hr h2 hn in
theorem cnts_ok : ∀ k, k < 9 → okP 256 9 (cntsP k) = true := by decide +kernel
theorem power_by_counts {k : Nat} (hk : k < 9) : F_power_by_counts [.val (rowD r), .val (frD (pt t)), .val (.int (k : Int))] = some ([.un, .un, .un], .val (sD 1 (mk (toT r t (powP k))))) := by
  obtain ⟨d4, d5, e⟩ := loop_pc hr h2 hn t hk (List.range (k + 1)) [] .un .un (fun i hi => List.mem_range.mp hi) rfl rfl (by rw [List.length_range]; simp; omega)
  rw [← rangeD_nat] at e
  have hbx : Bx n 256 9 16 (toT r t (cntsP k)) := okP_bx hr h2 t (cnts_ok k hk)
  have hm := terms_merged lv1 (hbx.bd.sz (by decide) (by decide)) (X := .list ((toT r t (cntsP k)).map (tmD 1))) rfl
  rw [sD_mk, ← mk_eq (sim_P (same_cnts k hk) r t)] at hm
  have e0 : sOwn 3 (L3.eF (pN dLst [])) [.val (rowD r), .val (frD (pt t)), .val (.int (k : Int)), .un, .un, .un] = some ([.val (rowD r), .val (frD (pt t)), .val (.int (k : Int)), .own false (.lst []), .un, .un], .nx) := rfl
  have e1 : sFor (.nm 4) (iR (pC (.int 0)) (p2 dAdd (pVar 2) (pC (.int 1)))) bPc [.val (rowD r), .val (frD (pt t)), .val (.int (k : Int)), .own false (.lst []), .un, .un] = some ([.val (rowD r), .val (frD (pt t)), .val (.int (k : Int)), .own false (.lst ((toT r t (cntsP k)).map (tmD 1))), d4, d5], .nx) := by
    rw [ev_sFor, iR_nat (n := k + 1) rfl (by simp) (by omega)]
    exact e
  have e2 : sFrzs [3] (sRet (eP (pCall F_terms_merged [pVar 3]))) [.val (rowD r), .val (frD (pt t)), .val (.int (k : Int)), .own false (.lst ((toT r t (cntsP k)).map (tmD 1))), d4, d5] = some ([.val (rowD r), .val (frD (pt t)), .val (.int (k : Int)), .val (.list ((toT r t (cntsP k)).map (tmD 1))), d4, d5], .rt (.val (sD 1 (mk (toT r t (powP k)))))) := by
    show sRet _ [.val (rowD r), .val (frD (pt t)), .val (.int (k : Int)), .val (.list ((toT r t (cntsP k)).map (tmD 1))), d4, d5] = _
    exact run_ret (pc1 (a := pVar 3) rfl hm)
  exact run_fn (ρ0 := [.val (rowD r), .val (frD (pt t)), .val (.int (k : Int)), .un, .un, .un]) rfl rfl (show g_power_by_counts _ = _ from (run_seq e0).trans ((run_seq e1).trans e2)) rfl
end
end K09
/-! k09, the plain law: polynomials at sums. -/
namespace K09
open PySem PySem.Spec PyProof.Rows L2 L3
def tupOf : Option (List Cell × Cell) → Option (List Int)
  | some (_, .val (.tuple xs)) => intsOf xs
  | _ => none
theorem intsOf_inv : ∀ {xs : List D} {ns : List Int}, intsOf xs = some ns → xs = ns.map .int
  | [], ns, h => by cases h; rfl
  | x :: xs, ns, h => by
    unfold intsOf at h
    split at h
    · rename_i heq; cases heq
    · rename_i n r heq
      cases heq
      split at h
      · rename_i ms hm
        cases h
        rw [intsOf_inv hm]
        rfl
      · cases h
    · cases h
theorem tupOf_inv {r : Option (List Cell × Cell)} {ns : List Int} (h : tupOf r = some ns) : ∃ rs, r = some (rs, .val (.tuple (ns.map .int))) := by
  unfold tupOf at h
  split at h
  · rw [intsOf_inv h]; exact ⟨_, rfl⟩
  · cases h
theorem multiple_numbers : ∀ k : Nat, k < 9 → tupOf (F_multiple_numbers [.val (.int (k : Int))]) = some (numsT k) := by decide +kernel
/-! ### the polynomial at a sum -/
section
variable {n : Nat} (hn : n ≤ 4) {m : Int} (S : List Tm)
/-- the polynomial's value, and its level; the numbers behind are done -/
def hor (n : Nat) (m : Int) (S : List Tm) : List Int → List Tm
  | [] => []
  | k :: ns => prod (hor n m S ns) S ++ [(zeros n, 0, m ^ (ns.length + 1) * k)]
def horA (m N AS : Nat) : Nat → Nat
  | 0 => 0
  | j + 1 => horA m N AS j * AS + m ^ (j + 1) * N
def horL (LS : Nat) : Nat → Nat
  | 0 => 0
  | j + 1 => horL LS j * LS + 1
/-- all of the way is small enough -/
def horOk (m N AS LS : Nat) (j : Nat) : Bool := (List.range (j + 1)).all fun i => decide (horA m N AS i < 2147483648) && decide (horL LS i < 16777216) && decide (m ^ i < 2147483648) && decide (horA m N AS i * AS < 2147483648) && decide (horL LS i * LS < 16777216)
theorem hor_bx {N AS LS b : Nat} {μ : Nat} (hS : Bx n AS LS b S) (ns : List Int) (hN : ∀ k ∈ ns, k.natAbs ≤ N) : Bx n (horA μ N AS ns.length) (horL LS ns.length) (ns.length * b) (hor n (μ : Int) S ns) := by
  induction ns with
  | nil => exact ⟨⟨fun _ h => (by cases h), Nat.zero_le _, Nat.zero_le _⟩, fun _ h => (by cases h)⟩
  | cons k ns ih =>
    have h1 := (ih fun i hi => hN i (List.mem_cons_of_mem _ hi)).prod hS
    have h2 : Bx n (μ ^ (ns.length + 1) * N) 1 ((ns.length + 1) * b) [(zeros n, 0, (μ : Int) ^ (ns.length + 1) * k)] := by
      refine (zeros_bx n _).mono ?_ (Nat.le_refl _) (Nat.zero_le _)
      rw [Int.natAbs_mul, Int.natAbs_pow, Int.natAbs_natCast]
      exact Nat.mul_le_mul_left _ (hN k (List.mem_cons_self ..))
    have h3 : Bx n (horA μ N AS ns.length * AS) (horL LS ns.length * LS) ((ns.length + 1) * b) (prod (hor n (μ : Int) S ns) S) := h1.mono (Nat.le_refl _) (Nat.le_refl _) (by rw [Nat.succ_mul]; exact Nat.le_refl _)
    exact h3.app h2
include hn in
theorem loop_hor {N AS LS b : Nat} {μ : Nat} (hμ : 0 < μ) (hS : Bx n AS LS b S) {tot : Nat} (hok : horOk μ N AS LS tot = true) (hN : N < 1000000) (hAS : AS < 2147483648) (X1 : Cell) : ∀ (l ns : List Int) (c : Cell), (∀ k ∈ l, k.natAbs ≤ N) → (∀ k ∈ ns, k.natAbs ≤ N) → l.length + ns.length ≤ tot → isOwn c = false →
    ∃ d, forL (.nm 4) (sVal 3 (eP (pCall F_sums_added [pCall F_sums_times [pVar 3, pVar 2], pCall F_told_turns [pVar 0, pN dTup [pVar 4, pC (.int 1)]]]))) (l.map .int) [.val (.int (n : Int)), X1, .val (sD (μ : Int) (mk S)), .val (sD ((μ : Int) ^ ns.length) (mk (hor n (μ : Int) S ns))), c] =
      some ([.val (.int (n : Int)), X1, .val (sD (μ : Int) (mk S)), .val (sD ((μ : Int) ^ (l.length + ns.length)) (mk (hor n (μ : Int) S (l.reverse ++ ns)))), d], .nx)
  | [], ns, c, _, _, _, _ => ⟨c, by rw [List.map_nil, forL]; simp⟩
  | k :: l, ns, c, hl, hns, ht, hc => by
    rw [List.length_cons] at ht
    have hk := hl k (List.mem_cons_self ..)
    obtain ⟨d, e⟩ := loop_hor hμ hS hok hN hAS X1 l (k :: ns) (.val (.int k)) (fun i hi => hl i (List.mem_cons_of_mem _ hi)) (fun i hi => by
      rcases List.mem_cons.mp hi with rfl | hi
      · exact hk
      · exact hns i hi) (by rw [List.length_cons]; omega) rfl
    refine ⟨d, ?_⟩
    have o1 := List.all_eq_true.mp hok ns.length (List.mem_range.mpr (by omega))
    have o2 := List.all_eq_true.mp hok (ns.length + 1) (List.mem_range.mpr (by omega))
    simp only [Bool.and_eq_true, decide_eq_true_eq] at o1 o2
    obtain ⟨⟨⟨⟨a1, a2⟩, a3⟩, a4⟩, a5⟩ := o1
    obtain ⟨⟨⟨⟨b1, b2⟩, b3⟩, b4⟩, b5⟩ := o2
    have pz : ∀ i, 0 < (μ : Int) ^ i := fun i => Int.pow_pos (by omega)
    have pn : ∀ i, ((μ : Int) ^ i).natAbs = μ ^ i := fun i => by rw [Int.natAbs_pow, Int.natAbs_natCast]
    have v0 : Lv ((μ : Int) ^ ns.length) := lv (pz _) (by rw [pn]; exact a3)
    have v1 : Lv ((μ : Int) ^ (ns.length + 1)) := lv (pz _) (by rw [pn]; exact b3)
    have vm : Lv (μ : Int) := lv (by omega) (by
      have h1 : μ ≤ μ ^ (ns.length + 1) := by
        rw [Nat.pow_succ]
        exact Nat.le_mul_of_pos_left _ (Nat.pow_pos hμ)
      omega)
    have hH := hor_bx S (μ := μ) hS ns hns
    have hb : bind (.nm 4) (.int k) [.val (.int (n : Int)), X1, .val (sD (μ : Int) (mk S)), .val (sD ((μ : Int) ^ ns.length) (mk (hor n (μ : Int) S ns))), c] = some [.val (.int (n : Int)), X1, .val (sD (μ : Int) (mk S)), .val (sD ((μ : Int) ^ ns.length) (mk (hor n (μ : Int) S ns))), .val (.int k)] := by
      rw [ev_bind0]
      exact put_no (c := c) rfl hc
    have t1 := sums_times v0 vm (by rw [← Int.pow_succ]; exact v1) (n := n) (by omega) hH.bd.mk hS.bd.mk a1 hAS a4 a5
    rw [← Int.pow_succ] at t1
    have t2 := told_turns lv1 (n := n) (by omega) (a := k) (by unfold S31; omega)
    have e2 : sD 1 (mk [(zeros n, (0 : Int), k)]) = sD ((μ : Int) ^ (ns.length + 1)) (oft ((μ : Int) ^ (ns.length + 1)) (mk [(zeros n, 0, k)])) := by
      rw [← sD_oft (M := 1) (c := (μ : Int) ^ (ns.length + 1)) (by decide) (pz _), Int.one_mul]
    rw [e2] at t2
    have hz : Bx n (μ ^ (ns.length + 1) * N) 1 0 (oft ((μ : Int) ^ (ns.length + 1)) (mk [(zeros n, 0, k)])) := by
      refine ((zeros_bx n k).mk.oft _).mono ?_ (Nat.le_refl _) (Nat.le_refl _)
      rw [pn]
      exact Nat.mul_le_mul_left _ hk
    have hP := (hH.mk.prod hS.mk).mk
    have t3 := sums_added v1 hP.bd hz.bd b1 b2
    have e3 : mk (mk (prod (mk (hor n (μ : Int) S ns)) (mk S)) ++ oft ((μ : Int) ^ (ns.length + 1)) (mk [(zeros n, 0, k)])) = mk (hor n (μ : Int) S (k :: ns)) :=
      mk_eq (((mk_sim _).trans ((mk_sim _).prod (mk_sim _))).app ((mk_sim _).oft _))
    rw [e3] at t3
    rw [List.map_cons, forL, hb]
    show (match sVal 3 (eP (pCall F_sums_added [pCall F_sums_times [pVar 3, pVar 2], pCall F_told_turns [pVar 0, pN dTup [pVar 4, pC (.int 1)]]])) [.val (.int (n : Int)), X1, .val (sD (μ : Int) (mk S)), .val (sD ((μ : Int) ^ ns.length) (mk (hor n (μ : Int) S ns))), .val (.int k)] with | some (ρ2, .nx) => forL _ _ _ ρ2 | some (ρ2, .ct) => forL _ _ _ ρ2 | some (ρ2, .bk) => some (ρ2, .nx) | some (ρ2, .rt c) => some (ρ2, .rt c) | none => none) = _
    have hq : pN dTup [pVar 4, pC (.int 1)] [.val (.int (n : Int)), X1, .val (sD (μ : Int) (mk S)), .val (sD ((μ : Int) ^ ns.length) (mk (hor n (μ : Int) S ns))), .val (.int k)] = some (frD (nf 1 k)) := by
      rw [nf1]; rfl
    rw [val_ok (i := 3) (cc := .val (sD ((μ : Int) ^ ns.length) (mk (hor n (μ : Int) S ns)))) (pc2 (pc2 (a := pVar 3) (b := pVar 2) rfl rfl t1) (pc2 (a := pVar 0) rfl hq t2) t3) rfl rfl]
    dsimp only [List.set]
    rw [List.length_cons] at e
    rw [e, List.reverse_cons, List.append_assoc, List.length_cons, show l.length + (ns.length + 1) = l.length + 1 + ns.length by omega]
    rfl
include hn in
theorem sum_at {N AS LS b : Nat} {μ : Nat} (hμ : 0 < μ) (hS : Bx n AS LS b S) (ns : List Int) (hN : ∀ k ∈ ns, k.natAbs ≤ N) (hok : horOk μ N AS LS ns.length = true) (hN2 : N < 1000000) (hAS : AS < 2147483648) :
    F_sum_at_polynomial [.val (.int (n : Int)), .val (.tuple (ns.map .int)), .val (sD (μ : Int) (mk S))] = some ([.un, .un, .un], .val (sD ((μ : Int) ^ ns.length) (mk (hor n (μ : Int) S ns)))) := by
  obtain ⟨d, e⟩ := loop_hor hn S (tot := ns.length) hμ hS hok hN2 hAS (.val (.tuple (ns.map .int))) ns.reverse [] .un (fun k hk => hN k (List.mem_reverse.mp hk)) (fun _ h => (by cases h)) (by simp) rfl
  rw [List.reverse_reverse, List.append_nil, List.length_nil, Int.pow_zero, List.length_reverse, Nat.add_zero] at e
  have e0 : sVal 3 (eP (pN dTup [])) [.val (.int (n : Int)), .val (.tuple (ns.map .int)), .val (sD (μ : Int) (mk S)), .un, .un] = some ([.val (.int (n : Int)), .val (.tuple (ns.map .int)), .val (sD (μ : Int) (mk S)), .val (sD 1 (mk (hor n (μ : Int) S []))), .un], .nx) := by
    rw [show mk (hor n (μ : Int) S []) = [] from mk_nil]
    rfl
  have e1 : sFor (.nm 4) (iP (p1 dRevT (pVar 1))) (sVal 3 (eP (pCall F_sums_added [pCall F_sums_times [pVar 3, pVar 2], pCall F_told_turns [pVar 0, pN dTup [pVar 4, pC (.int 1)]]]))) [.val (.int (n : Int)), .val (.tuple (ns.map .int)), .val (sD (μ : Int) (mk S)), .val (sD 1 (mk (hor n (μ : Int) S []))), .un] = some ([.val (.int (n : Int)), .val (.tuple (ns.map .int)), .val (sD (μ : Int) (mk S)), .val (sD ((μ : Int) ^ ns.length) (mk (hor n (μ : Int) S ns))), d], .nx) := by
    rw [ev_sFor, show iP (p1 dRevT (pVar 1)) [.val (.int (n : Int)), .val (.tuple (ns.map .int)), .val (sD (μ : Int) (mk S)), .val (sD 1 (mk (hor n (μ : Int) S []))), .un] = some ([.val (.int (n : Int)), .val (.tuple (ns.map .int)), .val (sD (μ : Int) (mk S)), .val (sD 1 (mk (hor n (μ : Int) S []))), .un], (ns.map PyData.int).reverse) from rfl, ← List.map_reverse]
    exact e
  exact run_fn (ρ0 := [.val (.int (n : Int)), .val (.tuple (ns.map .int)), .val (sD (μ : Int) (mk S)), .un, .un]) rfl rfl (show g_sum_at_polynomial _ = _ from (run_seq e0).trans ((run_seq e1).trans (run_ret (p := pVar 3) rfl))) rfl
end
theorem hor_P {r : List Int} {n : Nat} (hr : r.length = n) (t : Int) : ∀ ns : List Int, hor n 1 (cosT r t) ns = toT r t (horP ns)
  | [] => rfl
  | k :: ns => by
    rw [hor, horP, hor_P hr t ns, toT_append, ← toT_mul, ← cos_toT, Int.one_pow, Int.one_mul, ← hr, one_toT r t]
theorem nums_ok : ∀ k : Nat, k < 9 → (∀ x ∈ numsT k, x.natAbs ≤ 20) ∧ horOk 1 20 2 2 (numsT k).length = true := by decide +kernel
theorem at_double {r : List Int} {n k : Nat} (hr : r.length = n) (h2 : ∀ i ∈ r, i.natAbs ≤ 2) (hn : n ≤ 4) (t : Int) (hk : k < 9) :
    F_sum_at_polynomial [.val (.int (n : Int)), .val (.tuple ((numsT k).map .int)), .val (sD 1 (mk (cosT r t)))] = some ([.un, .un, .un], .val (sD 1 (mk (cosT (rmul (k : Int) r) ((k : Int) * t))))) := by
  obtain ⟨h3, h4⟩ := nums_ok k hk
  have := sum_at hn (μ := 1) (cosT r t) (by decide) (cos_bx hr h2 t) (numsT k) h3 h4 (by decide) (by decide)
  rw [show ((1 : Nat) : Int) = 1 from rfl, Int.one_pow, hor_P hr, mk_eq (sim_P (same_hor k hk) r t), ← cos_toTk] at this
  exact this
end K09
/-! k09, the plain law: the numbers of a multiple, by the law's own way. -/
namespace K09
open PySem PySem.Spec PyProof.Rows L2 L3
abbrev pE (s : Src) (n : Nat) (a2 a3 a4 a5 a6 a7 a8 a9 a10 a11 a12 a13 a14 a15 a16 a17 a18 a19 : Cell) : L3.Env :=
  [.own true (.src s), .val (.int (n : Int)), a2, a3, a4, a5, a6, a7, a8, a9, a10, a11, a12, a13, a14, a15, a16, a17, a18, a19]
abbrev bNm : Sm := sSeq (sVal 12 (eP (pC (.int 1))))
      (sSeq (sFor (.nm 13) (iR (pC (.int 0)) (pVar 4)) (sVal 12 (eP (p2 dFdiv (p2 dMul (pVar 12) (p2 dSub (p2 dSub (pVar 9) (pVar 4)) (pVar 13))) (p2 dAdd (pVar 13) (pC (.int 1)))))))
      (sLSet 3 (p2 dSub (pVar 9) (p2 dMul (pC (.int 2)) (pVar 4))) (p2 dMul (pIf (tV (p2 dGt (pVar 9) (pC (.int 0)))) (p2 dFdiv (p2 dMul (pVar 12) (pVar 9)) (p2 dSub (pVar 9) (pVar 4))) (pC (.int 2))) (pIf (tV (p2 dEq (p2 dMod (pN (l1 dInt) [pVar 4]) (pC (.int 2))) (pC (.int 0)))) (pC (.int 1)) (p1 dNeg (pC (.int 1)))))))
abbrev sNm : Sm := sFor (.nm 4) (iR (pC (.int 0)) (p2 dAdd (p2 dFdiv (pVar 9) (pC (.int 2))) (pC (.int 1)))) bNm
theorem nums_loop (s : Src) (n : Nat) (a2 a5 a6 a7 a8 a10 a11 a14 a15 a16 a17 a18 a19 : Cell) : ∀ k : Nat, k < 9 → ∃ c4 c12 c13, sNm (pE s n a2 (.own false (.lst (List.replicate (k + 1) (.int 0)))) .un a5 a6 a7 a8 (.val (.int (k : Int))) a10 a11 .un .un a14 a15 a16 a17 a18 a19) =
    some (pE s n a2 (.own false (.lst ((numsT k).map .int))) c4 a5 a6 a7 a8 (.val (.int (k : Int))) a10 a11 c12 c13 a14 a15 a16 a17 a18 a19, .nx)
  | 0, _ => ⟨.val (.int 0), .val (.int 1), .un, by kernel_rfl⟩
  | 1, _ => ⟨.val (.int 0), .val (.int 1), .un, by kernel_rfl⟩
  | 2, _ => ⟨.val (.int 1), .val (.int 1), .val (.int 0), by kernel_rfl⟩
  | 3, _ => ⟨.val (.int 1), .val (.int 2), .val (.int 0), by kernel_rfl⟩
  | 4, _ => ⟨.val (.int 2), .val (.int 1), .val (.int 1), by kernel_rfl⟩
  | 5, _ => ⟨.val (.int 2), .val (.int 3), .val (.int 1), by kernel_rfl⟩
  | 6, _ => ⟨.val (.int 3), .val (.int 1), .val (.int 2), by kernel_rfl⟩
  | 7, _ => ⟨.val (.int 3), .val (.int 4), .val (.int 2), by kernel_rfl⟩
  | 8, _ => ⟨.val (.int 4), .val (.int 1), .val (.int 3), by kernel_rfl⟩
  | k + 9, h => by omega
end K09
/-! k09, the plain law: powers and multiples, statement by statement. -/
namespace K09
open PySem PySem.Spec PyProof.Rows L2 L3
theorem cos_bxb {r : List Int} {n b : Nat} (h : r.length = n) (hr : ∀ i ∈ r, i.natAbs ≤ b) (t : Int) : Bx n 2 2 b (cosT r t) := by
  refine ⟨cos_bd h t, fun x hx i hi => ?_⟩
  unfold cosT at hx
  rcases List.mem_cons.mp hx with rfl | hx
  · exact hr i hi
  · rw [List.mem_singleton.mp hx] at hi
    obtain ⟨j, hj, rfl⟩ := List.mem_map.mp hi
    rw [Int.natAbs_neg]
    exact hr j hj
theorem law_twoR {r : List Int} {n : Nat} (hr : r.length = n) (t : Int) : F__law_often [.val (frD (nf 1 2)), .val (sD 2 (mk (cosT r t)))] = some ([.un, .un], .val (sD 1 (mk (cosT r t)))) := by
  have k := law_often (M := 2) (N := 1) lv2 lv1 lv2 (c := 2) (by unfold S31; decide) (cos_bd hr t).mk (by decide) (by decide) (by decide)
  rwa [show (1 : Int) * 2 = 2 from rfl, double_eq] at k
theorem made_one {n : Nat} (hn : n ≤ 4) : F__law_made [.val (.list [.tuple [rowD (zeros n), .tuple [.int 0, .int 1], .tuple [.int 1, .int 1]]])] = some ([.un], .val (sD 1 (mk [(zeros n, 0, 1)]))) := by
  have hm := law_made lv1 ((zeros_bx n 1).bd.sz (by decide) (by decide)) (X := .list ([(zeros n, (0 : Int), (1 : Int))].map (tmD 1))) rfl
  rw [sD_mk] at hm
  have f1 : frD (pt 0) = .tuple [.int 0, .int 1] := rfl
  have f2 : frD (nf 1 1) = .tuple [.int 1, .int 1] := rfl
  simp only [List.map_cons, List.map_nil, tmD, f1, f2] at hm
  exact hm
theorem pw1 (s : Src) (n : Nat) (hn : n ≤ 4) : ∃ s' r t k, sPat (.tp [.nm 7, .nm 8, .nm 9]) (eN .c dTup [eCallR F__law_drawn_row 0 [eP (pVar 1)], eCallR F__law_drawn_part 0 [], eCallR F__law_pick 0 [eP (pC (.int 9))]]) (pE s n .un .un .un .un .un .un .un .un .un .un .un .un .un .un .un .un .un .un) =
    some (pE s' n .un .un .un .un .un (.val (rowD r)) (.val (frD (pt t))) (.val (.int ((k : Nat) : Int))) .un .un .un .un .un .un .un .un .un .un, .nx) ∧ r.length = n ∧ (∀ i ∈ r, i.natAbs ≤ 2) ∧ k < 9 := by
  obtain ⟨s1, r, e1, hr1, hr2⟩ := drawn_row s n (by omega)
  obtain ⟨s2, t, z2⟩ := drawn_part s1
  obtain ⟨s3, k, e3, hk⟩ := pickL s2 9 (by decide) (by decide)
  refine ⟨s3, r, t, k, ?_, hr1, hr2, hk⟩
  have c1 : eCallR F__law_drawn_row 0 [eP (pVar 1)] (pE s n .un .un .un .un .un .un .un .un .un .un .un .un .un .un .un .un .un .un) = some (pE s1 n .un .un .un .un .un .un .un .un .un .un .un .un .un .un .un .un .un .un, .val (rowD r)) := callRe (o := .src s) (ds := [.int (n : Int)]) rfl rfl e1 rfl
  have c2 : eCallR F__law_drawn_part 0 [] (pE s1 n .un .un .un .un .un .un .un .un .un .un .un .un .un .un .un .un .un .un) = some (pE s2 n .un .un .un .un .un .un .un .un .un .un .un .un .un .un .un .un .un .un, .val (frD (pt t))) := callRe (o := .src s1) (ds := []) rfl rfl z2 rfl
  have c3 : eCallR F__law_pick 0 [eP (pC (.int 9))] (pE s2 n .un .un .un .un .un .un .un .un .un .un .un .un .un .un .un .un .un .un) = some (pE s3 n .un .un .un .un .un .un .un .un .un .un .un .un .un .un .un .un .un .un, .val (.int (k : Int))) := callRe (o := .src s2) (ds := [.int 9]) rfl rfl e3 rfl
  have c4 : eN .c dTup [eCallR F__law_drawn_row 0 [eP (pVar 1)], eCallR F__law_drawn_part 0 [], eCallR F__law_pick 0 [eP (pC (.int 9))]] (pE s n .un .un .un .un .un .un .un .un .un .un .un .un .un .un .un .un .un .un) = some (pE s3 n .un .un .un .un .un .un .un .un .un .un .un .un .un .un .un .un .un .un, .val (.tuple [rowD r, frD (pt t), .int (k : Int)])) := by
    rw [ev_eN, ev_eevs1, c1]
    dsimp only
    rw [ev_toD_val]
    dsimp only
    rw [ev_eevs1, c2]
    dsimp only
    rw [ev_toD_val]
    dsimp only
    rw [ev_eevs1, c3]
    rfl
  rw [ev_sPat, c4]
  dsimp only
  rw [ev_toD_val]
  dsimp only
  rw [bind_three (ci := .un) (cj := .un) (ck := .un) (by decide) (by decide) (by decide) rfl rfl rfl rfl rfl rfl]
  rfl
section
variable {r : List Int} {n : Nat} (hr : r.length = n) (h2 : ∀ i ∈ r, i.natAbs ≤ 2) (hn : n ≤ 4) (t : Int)
include hr h2 hn
theorem pw2 (s : Src) (k : Nat) : sPar [10, 11] [eP (pCall F__law_often [pN dTup [pC (.int 2), pC (.int 1)], pCall F__law_cos [pVar 7, pVar 8]]), eP (pCall F__law_made [pN dLst [pN dTup [p2 dRepT (pN dTup [pC (.int 0)]) (pVar 1), pN dTup [pC (.int 0), pC (.int 1)], pN dTup [pC (.int 1), pC (.int 1)]]]])] (pE s n .un .un .un .un .un (.val (rowD r)) (.val (frD (pt t))) (.val (.int ((k : Nat) : Int))) .un .un .un .un .un .un .un .un .un .un) =
    some (pE s n .un .un .un .un .un (.val (rowD r)) (.val (frD (pt t))) (.val (.int ((k : Nat) : Int))) (.val (sD 1 (mk (cosT r t)))) (.val (sD 1 (mk (toT r t (powP 0))))) .un .un .un .un .un .un .un .un, .nx) := by
  have q1 := pc2 (F := F__law_often) (ρ := pE s n .un .un .un .un .un (.val (rowD r)) (.val (frD (pt t))) (.val (.int ((k : Nat) : Int))) .un .un .un .un .un .un .un .un .un .un) (a := pN dTup [pC (.int 2), pC (.int 1)]) (x := frD (nf 1 2)) rfl (pc2 (a := pVar 7) (b := pVar 8) rfl rfl (law_cos (r := r) (by omega) t)) (law_twoR hr t)
  have hz : p2 dRepT (pN dTup [pC (.int 0)]) (pVar 1) (pE s n .un .un .un .un .un (.val (rowD r)) (.val (frD (pt t))) (.val (.int ((k : Nat) : Int))) .un .un .un .un .un .un .un .un .un .un) = some (rowD (zeros n)) := zeros_D n (by omega)
  have q2 : pCall F__law_made [pN dLst [pN dTup [p2 dRepT (pN dTup [pC (.int 0)]) (pVar 1), pN dTup [pC (.int 0), pC (.int 1)], pN dTup [pC (.int 1), pC (.int 1)]]]] (pE s n .un .un .un .un .un (.val (rowD r)) (.val (frD (pt t))) (.val (.int ((k : Nat) : Int))) .un .un .un .un .un .un .un .un .un .un) = some (sD 1 (mk (toT r t (powP 0)))) := by
    have hm := made_one hn
    rw [one_eq hr t] at hm
    refine pc1 ?_ hm
    rw [ev_pN, ev_evs1, ev_pN, ev_evs1, hz]
    rfl
  rw [ev_sPar, ev_ecells1, ev_eP, q1]
  dsimp only
  rw [ev_ecells1, ev_eP, q2]
  rfl
theorem pw3_loop (s : Src) (K : Cell) (a3 a4 a5 a6 a7 a8 a12 a13 a14 a15 a16 a17 a18 a19 : Cell) : ∀ (m j : Nat) (c : Cell), j + m < 9 → isOwn c = false → ∃ d, forL (.nm 2) (sVal 11 (eP (pCall F__law_product [pVar 11, pVar 10]))) ((List.range' j m).map fun (i : Nat) => PyData.int (i : Int)) (pE s n c a3 a4 a5 a6 a7 a8 K (.val (sD 1 (mk (cosT r t)))) (.val (sD 1 (mk (toT r t (powP j))))) a12 a13 a14 a15 a16 a17 a18 a19) =
    some (pE s n d a3 a4 a5 a6 a7 a8 K (.val (sD 1 (mk (cosT r t)))) (.val (sD 1 (mk (toT r t (powP (j + m)))))) a12 a13 a14 a15 a16 a17 a18 a19, .nx) ∧ isOwn d = false
  | 0, j, c, _, hc => ⟨c, by rw [List.range'_zero, List.map_nil, forL]; rfl, hc⟩
  | m + 1, j, c, hj, hc => by
    obtain ⟨d, e, hd⟩ := pw3_loop s K a3 a4 a5 a6 a7 a8 a12 a13 a14 a15 a16 a17 a18 a19 m (j + 1) (.val (.int (j : Int))) (by omega) rfl
    refine ⟨d, ?_, hd⟩
    rw [List.range'_succ, List.map_cons, forL, ev_bind0, put_no (c := c) rfl hc]
    show (match sVal 11 (eP (pCall F__law_product [pVar 11, pVar 10])) (pE s n (.val (.int (j : Int))) a3 a4 a5 a6 a7 a8 K (.val (sD 1 (mk (cosT r t)))) (.val (sD 1 (mk (toT r t (powP j))))) a12 a13 a14 a15 a16 a17 a18 a19) with | some (ρ2, .nx) => forL _ _ _ ρ2 | some (ρ2, .ct) => forL _ _ _ ρ2 | some (ρ2, .bk) => some (ρ2, .nx) | some (ρ2, .rt c) => some (ρ2, .rt c) | none => none) = _
    rw [val_ok (i := 11) (cc := .val (sD 1 (mk (toT r t (powP j))))) (pc2 (a := pVar 11) (b := pVar 10) rfl rfl (pow_stepL hr h2 hn t (k := j) (by omega))) rfl rfl]
    dsimp only [List.set]
    rw [e, show j + 1 + m = j + (m + 1) by omega]
theorem pw3 (s : Src) {k : Nat} (hk : k < 9) (a3 a4 a5 a6 a7 a8 a12 a13 a14 a15 a16 a17 a18 a19 : Cell) : ∃ d, sFor (.nm 2) (iR (pC (.int 0)) (pVar 9)) (sVal 11 (eP (pCall F__law_product [pVar 11, pVar 10]))) (pE s n .un a3 a4 a5 a6 a7 a8 (.val (.int (k : Int))) (.val (sD 1 (mk (cosT r t)))) (.val (sD 1 (mk (toT r t (powP 0))))) a12 a13 a14 a15 a16 a17 a18 a19) =
    some (pE s n d a3 a4 a5 a6 a7 a8 (.val (.int (k : Int))) (.val (sD 1 (mk (cosT r t)))) (.val (sD 1 (mk (toT r t (powP k))))) a12 a13 a14 a15 a16 a17 a18 a19, .nx) ∧ isOwn d = false := by
  obtain ⟨d, e, hd⟩ := pw3_loop hr h2 hn t s (.val (.int (k : Int))) a3 a4 a5 a6 a7 a8 a12 a13 a14 a15 a16 a17 a18 a19 k 0 .un (by omega) rfl
  rw [Nat.zero_add, ← List.range_eq_range', ← rangeD_nat] at e
  refine ⟨d, ?_, hd⟩
  rw [ev_sFor, iR_nat (n := k) rfl rfl (by omega)]
  exact e
theorem pow_gd {k : Nat} (hk : k < 9) : Gd 4096515 (sD 1 (mk (toT r t (powP k)))) := (pow_bx hr h2 hn t hk).mk.gd lv1 hn (by decide) (by decide)
theorem pw4 (s : Src) {k : Nat} (hk : k < 9) (a2 a3 a4 a5 a6 a12 a13 a14 a15 a16 a17 a18 a19 : Cell) : sIf (tP (tV (p2 dNe (pN (l1 dRepr) [pN dLst [pCall F_two_cosines [pVar 7, pVar 8], pCall F_sum_power [pVar 1, pVar 10, pVar 9]]]) (pN (l1 dRepr) [pN dLst [pVar 10, pVar 11]])))) (sRet (eP (pC (.bool false)))) (sNx) (pE s n a2 a3 a4 a5 a6 (.val (rowD r)) (.val (frD (pt t))) (.val (.int (k : Int))) (.val (sD 1 (mk (cosT r t)))) (.val (sD 1 (mk (toT r t (powP k))))) a12 a13 a14 a15 a16 a17 a18 a19) =
    some (pE s n a2 a3 a4 a5 a6 (.val (rowD r)) (.val (frD (pt t))) (.val (.int (k : Int))) (.val (sD 1 (mk (cosT r t)))) (.val (sD 1 (mk (toT r t (powP k))))) a12 a13 a14 a15 a16 a17 a18 a19, .nx) := by
  refine if_no (rne_same (pl2 (pc2 (a := pVar 7) (b := pVar 8) rfl rfl (two_cosines hr h2 hn t)) (pc3 (a := pVar 1) (b := pVar 10) (c := pVar 9) rfl rfl rfl (sum_power hr h2 hn t hk))) (pl2 (a := pVar 10) (b := pVar 11) rfl rfl) ?_)
  have g := gd_list (w := 4096515) (xs := [sD 1 (mk (cosT r t)), sD 1 (mk (toT r t (powP k)))]) fun x hx => by
    simp only [List.mem_cons, List.not_mem_nil, or_false] at hx
    rcases hx with rfl | rfl
    · exact ⟨((cos_bx hr h2 t).mk.gd lv1 hn (by decide) (by decide)).mono (by decide), Bx.dep _⟩
    · exact ⟨pow_gd hr h2 hn t hk, Bx.dep _⟩
  exact g.told (by simp)
theorem pw5 (s : Src) {k : Nat} (hk : k < 9) (a2 a3 a4 a5 a6 a10 a12 a13 a14 a15 a16 a17 a18 a19 : Cell) : sIf (tP (tV (p2 dNe (pN (l1 dRepr) [pCall F_power_by_counts [pVar 7, pVar 8, pVar 9]]) (pN (l1 dRepr) [pVar 11])))) (sRet (eP (pC (.bool false)))) (sNx) (pE s n a2 a3 a4 a5 a6 (.val (rowD r)) (.val (frD (pt t))) (.val (.int (k : Int))) a10 (.val (sD 1 (mk (toT r t (powP k))))) a12 a13 a14 a15 a16 a17 a18 a19) =
    some (pE s n a2 a3 a4 a5 a6 (.val (rowD r)) (.val (frD (pt t))) (.val (.int (k : Int))) a10 (.val (sD 1 (mk (toT r t (powP k))))) a12 a13 a14 a15 a16 a17 a18 a19, .nx) :=
  if_no (rne_same (pc3 (a := pVar 7) (b := pVar 8) (c := pVar 9) rfl rfl rfl (power_by_counts hr h2 hn t hk)) rfl ((pow_gd hr h2 hn t hk).told (by decide)))
omit hr h2 hn in
theorem pw6 (s : Src) {k : Nat} (hk : k < 9) (a2 a4 a5 a6 a7 a8 a10 a11 a12 a13 a14 a15 a16 a17 a18 a19 : Cell) : sOwn 3 (L3.eF (p2 dRep (pN dLst [pC (.int 0)]) (p2 dAdd (pVar 9) (pC (.int 1))))) (pE s n a2 .un a4 a5 a6 a7 a8 (.val (.int (k : Int))) a10 a11 a12 a13 a14 a15 a16 a17 a18 a19) =
    some (pE s n a2 (.own false (.lst (List.replicate (k + 1) (.int 0)))) a4 a5 a6 a7 a8 (.val (.int (k : Int))) a10 a11 a12 a13 a14 a15 a16 a17 a18 a19, .nx) := by
  have h : dRep (.list [.int 0]) (.int ((k : Int) + 1)) = some (.list (List.replicate (k + 1) (.int 0))) := by
    show (if (decide (((k : Int) + 1).natAbs < 9223372036854775808) && len24 (([PyData.int 0] : List D).length * ((k : Int) + 1).toNat)) = true then some (PyData.list (List.replicate ((k : Int) + 1).toNat [PyData.int 0]).flatten) else none) = _
    rw [if_pos (by rw [Bool.and_eq_true, decide_eq_true_eq]; exact ⟨by omega, l24 (by simp; omega)⟩), show ((k : Int) + 1).toNat = k + 1 by omega]
    simp
  have hp : p2 dRep (pN dLst [pC (.int 0)]) (p2 dAdd (pVar 9) (pC (.int 1))) (pE s n a2 .un a4 a5 a6 a7 a8 (.val (.int (k : Int))) a10 a11 a12 a13 a14 a15 a16 a17 a18 a19) = some (.list (List.replicate (k + 1) (.int 0))) := h
  rw [ev_sOwn, ev_eF, hp]
  rfl
omit hr h2 hn in
theorem nums_gd {k : Nat} (hk : k < 9) : Gd 20000 (.tuple ((numsT k).map .int)) := by
  have h := (nums_ok k hk).1
  have hl : (numsT k).length ≤ 9 := by
    have : ∀ k : Nat, k < 9 → (numsT k).length ≤ 9 := by decide
    exact this k hk
  refine ⟨?_, ?_, ?_⟩
  · exact pI_row (r := numsT k) fun x hx => Nat.lt_of_le_of_lt (h x hx) (by decide)
  · rw [show PyData.tuple ((numsT k).map .int) = rowD (numsT k) from rfl, depth_row]; decide
  · have := wt_row (r := numsT k)
    show wt (rowD (numsT k)) ≤ _
    omega
omit hr h2 hn in
theorem pw8 (s : Src) {k : Nat} (hk : k < 9) (a2 a4 a5 a6 a7 a8 a10 a11 a12 a13 a14 a15 a16 a17 a18 a19 : Cell) : sIf (tP (tV (p2 dNe (pN (l1 dRepr) [pCall F_multiple_numbers [pVar 9]]) (pN (l1 dRepr) [pN (l1 dTuple) [pOwn 3]])))) (sRet (eP (pC (.bool false)))) (sNx) (pE s n a2 (.own false (.lst ((numsT k).map .int))) a4 a5 a6 a7 a8 (.val (.int (k : Int))) a10 a11 a12 a13 a14 a15 a16 a17 a18 a19) =
    some (pE s n a2 (.own false (.lst ((numsT k).map .int))) a4 a5 a6 a7 a8 (.val (.int (k : Int))) a10 a11 a12 a13 a14 a15 a16 a17 a18 a19, .nx) := by
  obtain ⟨rs, h⟩ := tupOf_inv (multiple_numbers k hk)
  exact if_no (rne_same (pc1 (a := pVar 9) rfl h) rfl ((nums_gd hk).told (by decide)))
omit h2 in
theorem pw9 (s : Src) {k : Nat} (hk : k < 9) (a2 a3 a4 a6 a10 a11 a12 a13 a14 a15 a16 a17 a18 : Cell) : sVal 5 (eP (pCall F__law_cos [pN (l1 dTuple) [pComp [19] (.nm 19) (ipP (pVar 7)) (tYesP) (p2 dMul (pVar 9) (pVar 19))], pCall F__law_part [p2 dMul (pVar 9) (p2 dIx (pVar 8) (pC (.int 0))), p2 dIx (pVar 8) (pC (.int 1))]])) (pE s n a2 a3 a4 .un a6 (.val (rowD r)) (.val (frD (pt t))) (.val (.int (k : Int))) a10 a11 a12 a13 a14 a15 a16 a17 a18 .un) =
    some (pE s n a2 a3 a4 (.val (sD 2 (mk (cosT (rmul (k : Int) r) ((k : Int) * t))))) a6 (.val (rowD r)) (.val (frD (pt t))) (.val (.int (k : Int))) a10 a11 a12 a13 a14 a15 a16 a17 a18 .un, .nx) := by
  have hk31 : S31 (k : Int) := by unfold S31; omega
  have h1 := row_comp (i := 19) (j := 7) (ρ := pE s n a2 a3 a4 .un a6 (.val (rowD r)) (.val (frD (pt t))) (.val (.int (k : Int))) a10 a11 a12 a13 a14 a15 a16 a17 a18 .un) (e := p2 dMul (pVar 9) (pVar 19)) (f := fun x => (k : Int) * x) (r := r) rfl rfl (by omega) (by simp) fun x => by
    show dMul (.int (k : Int)) (.int x) = _
    rw [od_mul, mulOk31 hk31]
    rfl
  have h3 := law_pt_times (k : Int) t
  have h4 := law_cos (r := rmul (k : Int) r) (by unfold rmul; rw [List.length_map]; omega) ((k : Int) * t)
  refine val_ok (i := 5) (cc := .un) (pc2 (x := rowD (rmul (k : Int) r)) h1 (pc2 (x := .int ((k : Int) * (pt t).1)) (y := .int (pt t).2) ?_ rfl h3) h4) rfl rfl
  show dMul (.int (k : Int)) (.int (pt t).1) = _
  rw [od_mul, mulOk31 hk31]
  rfl
theorem pw10 (s : Src) {k : Nat} (hk : k < 9) (a2 a4 a6 a7 a8 a9 a11 a12 a13 a14 a15 a16 a17 a18 a19 : Cell) : sIf (tP (tV (p2 dNe (pN (l1 dRepr) [pCall F_sum_at_polynomial [pVar 1, pN (l1 dTuple) [pOwn 3], pVar 10]]) (pN (l1 dRepr) [pCall F__law_often [pN dTup [pC (.int 2), pC (.int 1)], pVar 5]])))) (sRet (eP (pC (.bool false)))) (sNx) (pE s n a2 (.own false (.lst ((numsT k).map .int))) a4 (.val (sD 2 (mk (cosT (rmul (k : Int) r) ((k : Int) * t))))) a6 a7 a8 a9 (.val (sD 1 (mk (cosT r t)))) a11 a12 a13 a14 a15 a16 a17 a18 a19) =
    some (pE s n a2 (.own false (.lst ((numsT k).map .int))) a4 (.val (sD 2 (mk (cosT (rmul (k : Int) r) ((k : Int) * t))))) a6 a7 a8 a9 (.val (sD 1 (mk (cosT r t)))) a11 a12 a13 a14 a15 a16 a17 a18 a19, .nx) := by
  have hl : (rmul (k : Int) r).length = n := by unfold rmul; rw [List.length_map]; exact hr
  have hb := cos_bxb (b := 16) hl (fun i hi => by
    obtain ⟨j, hj, rfl⟩ := List.mem_map.mp hi
    rw [Int.natAbs_mul]
    have := Nat.mul_le_mul (show (k : Int).natAbs ≤ 8 by omega) (h2 j hj)
    exact this) ((k : Int) * t)
  exact if_no (rne_same (pc3 (a := pVar 1) (b := pN (l1 dTuple) [pOwn 3]) (c := pVar 10) rfl rfl rfl (at_double hr h2 hn t hk)) (pc2 (a := pN dTup [pC (.int 2), pC (.int 1)]) (b := pVar 5) (x := frD (nf 1 2)) rfl rfl (law_twoR hl _)) ((hb.mk.gd lv1 hn (by decide) (by decide)).told (by decide)))
end
end K09
/-! k09, the plain law: polynomials at drawn sums. -/
namespace K09
open PySem PySem.Spec PyProof.Rows L2 L3
theorem pw11 (s : Src) (n : Nat) (hn : n ≤ 4) (a2 a3 a4 a5 a6 a7 a8 a9 a10 a11 a12 a13 a16 a17 a19 : Cell) : ∃ s' S n0 n1 n2 n3, sPar [14, 15] [eCallV F__law_made [eCallR F__law_drawn_terms 0 [eP (pVar 1), eP (pC (.int 2))]], eComp [18] (.nm 18) (iR (pC (.int 0)) (pC (.int 4))) (tYesE) (e2 .c dSub (eCallR F__law_pick 0 [eP (pC (.int 7))]) (eP (pC (.int 3))))] (pE s n a2 a3 a4 a5 a6 a7 a8 a9 a10 a11 a12 a13 .un .un a16 a17 .un a19) =
    some (pE s' n a2 a3 a4 a5 a6 a7 a8 a9 a10 a11 a12 a13 (.val (sD 6 (mk S))) (.own false (.lst [.int n0, .int n1, .int n2, .int n3])) a16 a17 .un a19, .nx) ∧ Bx n 60 2 2 S ∧ n0.natAbs ≤ 3 ∧ n1.natAbs ≤ 3 ∧ n2.natAbs ≤ 3 ∧ n3.natAbs ≤ 3 := by
  obtain ⟨s1, S, e1, hS⟩ := drawn_terms s n 2 (by omega) (by decide)
  have hb : Bx n 60 2 2 S := hS.bx
  have hm := law_made lv6 (hb.bd.sz (by decide) (by decide)) (X := .list (S.map (tmD 6))) rfl
  rw [sD_mk] at hm
  obtain ⟨s2, ds, z2, hl, hq⟩ := comp_draw (vs := [18]) (v := 18) (e := e2 .c dSub (eCallR F__law_pick 0 [eP (pC (.int 7))]) (eP (pC (.int 3)))) (Q := fun d => ∃ i : Int, d = .int i ∧ i.natAbs ≤ 3)
    (fun s c => pE s n a2 a3 a4 a5 a6 a7 a8 a9 a10 a11 a12 a13 .un .un a16 a17 c a19) (fun s c x hc => by rw [ev_bind0]; exact put_no (c := c) rfl hc)
    (fun s x => by
      obtain ⟨s', i, e, h1, h2⟩ := pick s 7 (by decide)
      have c1 : eCallR F__law_pick 0 [eP (pC (.int 7))] (pE s n a2 a3 a4 a5 a6 a7 a8 a9 a10 a11 a12 a13 .un .un a16 a17 (.val x) a19) = some (pE s' n a2 a3 a4 a5 a6 a7 a8 a9 a10 a11 a12 a13 .un .un a16 a17 (.val x) a19, .val (.int i)) := callRe (o := .src s) (ds := [.int 7]) rfl rfl e rfl
      refine ⟨s', .int (i - 3), ?_, i - 3, rfl, by omega⟩
      rw [ev_e2, c1]
      rfl) (fun s c => rfl) (rangeD 0 4) s1
  have hl4 : ds.length = 4 := hl
  obtain ⟨d0, d1, d2, d3, rfl⟩ : ∃ a b c d, ds = [a, b, c, d] := by
    match ds, hl4 with
    | [a, b, c, d], _ => exact ⟨a, b, c, d, rfl⟩
  obtain ⟨n0, rfl, h0⟩ := hq d0 (by simp)
  obtain ⟨n1, rfl, h1⟩ := hq d1 (by simp)
  obtain ⟨n2, rfl, h2⟩ := hq d2 (by simp)
  obtain ⟨n3, rfl, h3⟩ := hq d3 (by simp)
  refine ⟨s2, S, n0, n1, n2, n3, ?_, hb, h0, h1, h2, h3⟩
  have c0 : eCallR F__law_drawn_terms 0 [eP (pVar 1), eP (pC (.int 2))] (pE s n a2 a3 a4 a5 a6 a7 a8 a9 a10 a11 a12 a13 .un .un a16 a17 .un a19) = some (pE s1 n a2 a3 a4 a5 a6 a7 a8 a9 a10 a11 a12 a13 .un .un a16 a17 .un a19, .own false (.lst (S.map (tmD 6)))) :=
    callRe (o := .src s) (ds := [.int (n : Int), .int 2]) rfl rfl e1 rfl
  have c1 : eCallV F__law_made [eCallR F__law_drawn_terms 0 [eP (pVar 1), eP (pC (.int 2))]] (pE s n a2 a3 a4 a5 a6 a7 a8 a9 a10 a11 a12 a13 .un .un a16 a17 .un a19) = some (pE s1 n a2 a3 a4 a5 a6 a7 a8 a9 a10 a11 a12 a13 .un .un a16 a17 .un a19, .val (sD 6 (mk S))) := by
    rw [ev_eCallV, ev_eevs1, c0]
    show (match F__law_made [.val (.list (S.map (tmD 6)))] with | some (_, c) => some (pE s1 n a2 a3 a4 a5 a6 a7 a8 a9 a10 a11 a12 a13 .un .un a16 a17 .un a19, c) | none => none) = _
    rw [hm]
  have c2 : eComp [18] (.nm 18) (iR (pC (.int 0)) (pC (.int 4))) (tYesE) (e2 .c dSub (eCallR F__law_pick 0 [eP (pC (.int 7))]) (eP (pC (.int 3)))) (pE s1 n a2 a3 a4 a5 a6 a7 a8 a9 a10 a11 a12 a13 .un .un a16 a17 .un a19) = some (pE s2 n a2 a3 a4 a5 a6 a7 a8 a9 a10 a11 a12 a13 .un .un a16 a17 .un a19, .own false (.lst [.int n0, .int n1, .int n2, .int n3])) := by
    unfold eComp
    rw [show iR (pC (.int 0)) (pC (.int 4)) (pE s1 n a2 a3 a4 a5 a6 a7 a8 a9 a10 a11 a12 a13 .un .un a16 a17 .un a19) = some (pE s1 n a2 a3 a4 a5 a6 a7 a8 a9 a10 a11 a12 a13 .un .un a16 a17 .un a19, rangeD 0 4) from rfl]
    show (if (true && true) = true then (match compL [18] (.nm 18) tYesE _ (rangeD 0 4) (pE s1 n a2 a3 a4 a5 a6 a7 a8 a9 a10 a11 a12 a13 .un .un a16 a17 .un a19) with | some (ρ', ys) => some (restore [18] (pE s1 n a2 a3 a4 a5 a6 a7 a8 a9 a10 a11 a12 a13 .un .un a16 a17 .un a19) ρ', Cell.own false (.lst ys)) | none => none) else none) = _
    rw [z2]
    rfl
  rw [ev_sPar, ev_ecells1, c1]
  dsimp only
  rw [ev_ecells1, c2]
  rfl
theorem pw12 (s : Src) {n : Nat} (hn : n ≤ 4) (a2 a3 a4 a5 a6 a7 a8 a9 a10 a11 a12 a13 a14 a15 a18 a19 : Cell) : sPar [16, 17] [eP (pN dTup []), eP (pCall F__law_made [pN dLst [pN dTup [p2 dRepT (pN dTup [pC (.int 0)]) (pVar 1), pN dTup [pC (.int 0), pC (.int 1)], pN dTup [pC (.int 1), pC (.int 1)]]]])] (pE s n a2 a3 a4 a5 a6 a7 a8 a9 a10 a11 a12 a13 a14 a15 .un .un a18 a19) =
    some (pE s n a2 a3 a4 a5 a6 a7 a8 a9 a10 a11 a12 a13 a14 a15 (.val (sD 1 [])) (.val (sD 1 (mk [(zeros n, 0, 1)]))) a18 a19, .nx) := by
  have hz : p2 dRepT (pN dTup [pC (.int 0)]) (pVar 1) (pE s n a2 a3 a4 a5 a6 a7 a8 a9 a10 a11 a12 a13 a14 a15 .un .un a18 a19) = some (rowD (zeros n)) := zeros_D n (by omega)
  have q2 : pCall F__law_made [pN dLst [pN dTup [p2 dRepT (pN dTup [pC (.int 0)]) (pVar 1), pN dTup [pC (.int 0), pC (.int 1)], pN dTup [pC (.int 1), pC (.int 1)]]]] (pE s n a2 a3 a4 a5 a6 a7 a8 a9 a10 a11 a12 a13 a14 a15 .un .un a18 a19) = some (sD 1 (mk [(zeros n, 0, 1)])) := by
    refine pc1 ?_ (made_one hn)
    rw [ev_pN, ev_evs1, ev_pN, ev_evs1, hz]
    rfl
  rw [ev_sPar, ev_ecells1, ev_eP, show pN dTup [] (pE s n a2 a3 a4 a5 a6 a7 a8 a9 a10 a11 a12 a13 a14 a15 .un .un a18 a19) = some (sD 1 []) from rfl]
  dsimp only
  rw [ev_ecells1, ev_eP, q2]
  rfl
abbrev bDu : Sm := sSeq (sVal 16 (eP (pCall F__law_made [p2 dAdd (pVar 16) (pCall F__law_often [pN dTup [pVar 6, pC (.int 1)], pVar 17])])))
      (sVal 17 (eP (pCall F__law_product [pVar 17, pVar 14])))
theorem du_step (s : Src) {n : Nat} (hn : n ≤ 4) {M : Int} (hM : Lv M) (hM6 : Lv (M * 6)) {S E W : List Tm} {AE LE bE AW LW bW : Nat} (hS : Bx n 60 2 2 S) (hE : Bx n AE LE bE E) (hW : Bx n AW LW bW W) {k : Int} (hk : k.natAbs ≤ 3) (b1 : AE + 3 * AW < 2147483648) (b2 : AW * 60 < 2147483648) (b3 : LE + LW < 1000) (b4 : LW * 2 < 1000)
    (a2 a3 a4 a5 a6 a7 a8 a9 a10 a11 a12 a13 a15 a18 a19 : Cell) (h6 : isOwn a6 = false) (xs : List D) : forL (.nm 6) bDu (.int k :: xs) (pE s n a2 a3 a4 a5 a6 a7 a8 a9 a10 a11 a12 a13 (.val (sD 6 (mk S))) a15 (.val (sD M E)) (.val (sD M (mk W))) a18 a19) =
    forL (.nm 6) bDu xs (pE s n a2 a3 a4 a5 (.val (.int k)) a7 a8 a9 a10 a11 a12 a13 (.val (sD 6 (mk S))) a15 (.val (sD M (mk (E ++ mk (oft k (mk W)))))) (.val (sD (M * 6) (mk (prod W S)))) a18 a19) := by
  have o := law_often hM lv1 (by rw [Int.one_mul]; exact hM) (c := k) (by unfold S31; omega) hW.bd.mk (Nat.lt_of_le_of_lt (Nat.mul_le_mul_right _ hk) (by omega)) (by omega) (by omega)
  rw [Int.one_mul] at o
  have hO : Bd n (3 * AW) LW (mk (oft k (mk W))) := ((hW.bd.mk.oft k).mk).mono (Nat.mul_le_mul_right _ hk) (Nat.le_refl _)
  have hm := law_made hM ((hE.bd.app hO).sz b1 (by omega)) (X := sD M (E ++ mk (oft k (mk W)))) rfl
  rw [sD_mk] at hm
  have ha : dAdd (sD M E) (sD M (mk (oft k (mk W)))) = some (sD M (E ++ mk (oft k (mk W)))) := add_sD (by have := hE.bd.len; have := hO.len; omega)
  have hp := law_product hM lv6 hM6 (n := n) (by omega) hW.bd.mk hS.bd.mk (by omega) (by decide) b2 (by omega)
  rw [mk_eq ((mk_sim W).prod (mk_sim S))] at hp
  have hb : bind (.nm 6) (.int k) (pE s n a2 a3 a4 a5 a6 a7 a8 a9 a10 a11 a12 a13 (.val (sD 6 (mk S))) a15 (.val (sD M E)) (.val (sD M (mk W))) a18 a19) = some (pE s n a2 a3 a4 a5 (.val (.int k)) a7 a8 a9 a10 a11 a12 a13 (.val (sD 6 (mk S))) a15 (.val (sD M E)) (.val (sD M (mk W))) a18 a19) := by
    rw [ev_bind0]
    exact put_no (c := a6) rfl h6
  have q0 : pN dTup [pVar 6, pC (.int 1)] (pE s n a2 a3 a4 a5 (.val (.int k)) a7 a8 a9 a10 a11 a12 a13 (.val (sD 6 (mk S))) a15 (.val (sD M E)) (.val (sD M (mk W))) a18 a19) = some (frD (nf 1 k)) := by
    rw [nf1]; rfl
  have q1 : p2 dAdd (pVar 16) (pCall F__law_often [pN dTup [pVar 6, pC (.int 1)], pVar 17]) (pE s n a2 a3 a4 a5 (.val (.int k)) a7 a8 a9 a10 a11 a12 a13 (.val (sD 6 (mk S))) a15 (.val (sD M E)) (.val (sD M (mk W))) a18 a19) = some (sD M (E ++ mk (oft k (mk W)))) := by
    rw [ev_p2, pc2 q0 rfl o]
    exact ha
  have e1 := val_ok (i := 16) (cc := .val (sD M E)) (pc1 q1 hm) rfl rfl
  have q2 := pc2 (F := F__law_product) (a := pVar 17) (b := pVar 14) (ρ := pE s n a2 a3 a4 a5 (.val (.int k)) a7 a8 a9 a10 a11 a12 a13 (.val (sD 6 (mk S))) a15 (.val (sD M (mk (E ++ mk (oft k (mk W)))))) (.val (sD M (mk W))) a18 a19) rfl rfl hp
  have e2' := val_ok (i := 17) (cc := .val (sD M (mk W))) q2 rfl rfl
  have e3 : bDu (pE s n a2 a3 a4 a5 (.val (.int k)) a7 a8 a9 a10 a11 a12 a13 (.val (sD 6 (mk S))) a15 (.val (sD M E)) (.val (sD M (mk W))) a18 a19) = some (pE s n a2 a3 a4 a5 (.val (.int k)) a7 a8 a9 a10 a11 a12 a13 (.val (sD 6 (mk S))) a15 (.val (sD M (mk (E ++ mk (oft k (mk W)))))) (.val (sD (M * 6) (mk (prod W S)))) a18 a19, .nx) := (run_seq e1).trans e2'
  rw [forL, hb]
  dsimp only
  rw [e3]
/-- the functional behind one factor more -/
def opT (S : List Tm) (g : Fl) : Fl := fun r t => lin (fun r' t' => g (radd r r') (t + t')) S
theorem lin_opT (S : List Tm) (g : Fl) (H : List Tm) : lin g (prod H S) = lin (opT S g) H := lin_prod g S H
theorem opT_anti {S : List Tm} {g : Fl} (a : Anti g) : Anti (opT S g) := anti_out a S
section
variable {n : Nat} (hn : n ≤ 4) {S : List Tm} (hS : Bx n 60 2 2 S) {n0 n1 n2 n3 : Int} (h0 : n0.natAbs ≤ 3) (h1 : n1.natAbs ≤ 3) (h2 : n2.natAbs ≤ 3) (h3 : n3.natAbs ≤ 3)
include hn hS h0 h1 h2 h3
theorem pw13 (s : Src) (a2 a3 a4 a5 a6 a7 a8 a9 a10 a11 a12 a13 a18 a19 : Cell) (h6 : isOwn a6 = false) : ∃ F c6 c17, sFrzs [15] (sFor (.nm 6) (iP (pVar 15)) bDu) (pE s n a2 a3 a4 a5 a6 a7 a8 a9 a10 a11 a12 a13 (.val (sD 6 (mk S))) (.own false (.lst [.int n0, .int n1, .int n2, .int n3])) (.val (sD 1 [])) (.val (sD 1 (mk [(zeros n, 0, 1)]))) a18 a19) =
    some (pE s n a2 a3 a4 a5 c6 a7 a8 a9 a10 a11 a12 a13 (.val (sD 6 (mk S))) (.val (.list [.int n0, .int n1, .int n2, .int n3])) (.val (sD 216 (mk F))) c17 a18 a19, .nx) ∧ (∀ g, Anti g → lin g (hor n 6 S [n0, n1, n2, n3]) = 6 * lin g F) ∧ Bx n 100000000 100 100 F := by
  have z0 := zeros_bx n 1
  have z0' : Bx n 1 1 0 [(zeros n, 0, 1)] := z0
  have w1 := (z0'.prod hS).mono (A' := 60) (L' := 2) (b' := 2) (by decide) (by decide) (by decide)
  have w2 := (w1.prod hS).mono (A' := 3600) (L' := 4) (b' := 4) (by decide) (by decide) (by decide)
  have w3 := (w2.prod hS).mono (A' := 216000) (L' := 8) (b' := 6) (by decide) (by decide) (by decide)
  have bo : ∀ {k : Int} {A L b : Nat} {W : List Tm}, k.natAbs ≤ 3 → Bx n A L b W → Bx n (3 * A) L b (mk (oft k (mk W))) := fun hk hW => ((hW.mk.oft _).mk).mono (Nat.mul_le_mul_right _ hk) (Nat.le_refl _) (Nat.le_refl _)
  have g0 : Bx n 0 0 2 [] := ⟨⟨fun _ h => (by cases h), Nat.zero_le _, Nat.zero_le _⟩, fun _ h => (by cases h)⟩
  -- 1
  have f1 : Bx n 18 1 2 (oft 6 (mk ([] ++ mk (oft n0 (mk [(zeros n, 0, 1)]))))) := (((g0.app ((bo h0 z0').mono (Nat.le_refl _) (Nat.le_refl _) (by decide))).mk).oft 6).mono (by decide) (by decide) (by decide)
  have f2 : Bx n 1188 3 4 (oft 6 (mk (oft 6 (mk ([] ++ mk (oft n0 (mk [(zeros n, 0, 1)])))) ++ mk (oft n1 (mk (prod [(zeros n, 0, 1)] S)))))) := ((((f1.mono (Nat.le_refl _) (Nat.le_refl _) (b' := 4) (by decide)).app ((bo h1 w1).mono (Nat.le_refl _) (Nat.le_refl _) (by decide))).mk).oft 6).mono (by decide) (by decide) (by decide)
  have f3 : Bx n 71928 7 6 (oft 6 (mk (oft 6 (mk (oft 6 (mk ([] ++ mk (oft n0 (mk [(zeros n, 0, 1)])))) ++ mk (oft n1 (mk (prod [(zeros n, 0, 1)] S))))) ++ mk (oft n2 (mk (prod (prod [(zeros n, 0, 1)] S) S)))))) := ((((f2.mono (Nat.le_refl _) (Nat.le_refl _) (b' := 6) (by decide)).app ((bo h2 w2).mono (Nat.le_refl _) (Nat.le_refl _) (by decide))).mk).oft 6).mono (by decide) (by decide) (by decide)
  have f4 := (f3.mono (Nat.le_refl _) (Nat.le_refl _) (b' := 6) (by decide)).app ((bo h3 w3).mono (Nat.le_refl _) (Nat.le_refl _) (by decide))
  have lift : ∀ {M : Int} (U : List Tm), 0 < M → sD M U = sD (M * 6) (oft 6 U) := fun U h => (sD_oft h (by decide) U).symm
  refine ⟨_, .val (.int n3), .val (sD 1296 (mk (prod (prod (prod (prod [(zeros n, 0, 1)] S) S) S) S))), ?_, ?_, f4.mono (by decide) (by decide) (by decide)⟩
  · show sFor (.nm 6) (iP (pVar 15)) bDu (pE s n a2 a3 a4 a5 a6 a7 a8 a9 a10 a11 a12 a13 (.val (sD 6 (mk S))) (.val (.list [.int n0, .int n1, .int n2, .int n3])) (.val (sD 1 [])) (.val (sD 1 (mk [(zeros n, 0, 1)]))) a18 a19) = _
    rw [ev_sFor, show iP (pVar 15) (pE s n a2 a3 a4 a5 a6 a7 a8 a9 a10 a11 a12 a13 (.val (sD 6 (mk S))) (.val (.list [.int n0, .int n1, .int n2, .int n3])) (.val (sD 1 [])) (.val (sD 1 (mk [(zeros n, 0, 1)]))) a18 a19) = some (pE s n a2 a3 a4 a5 a6 a7 a8 a9 a10 a11 a12 a13 (.val (sD 6 (mk S))) (.val (.list [.int n0, .int n1, .int n2, .int n3])) (.val (sD 1 [])) (.val (sD 1 (mk [(zeros n, 0, 1)]))) a18 a19, [.int n0, .int n1, .int n2, .int n3]) from rfl]
    dsimp only
    rw [du_step s hn lv1 lv6 hS g0 z0' h0 (by decide) (by decide) (by decide) (by decide) a2 a3 a4 a5 a6 a7 a8 a9 a10 a11 a12 a13 _ a18 a19 h6]
    rw [lift (M := 1) _ (by decide), show (1 : Int) * 6 = 6 from rfl]
    rw [du_step s hn lv6 lv36 hS f1 w1 h1 (by decide) (by decide) (by decide) (by decide) a2 a3 a4 a5 _ a7 a8 a9 a10 a11 a12 a13 _ a18 a19 rfl]
    rw [lift (M := 6) (mk (_ ++ _)) (by decide), show (6 : Int) * 6 = 36 from rfl]
    rw [du_step s hn lv36 lv216 hS f2 w2 h2 (by decide) (by decide) (by decide) (by decide) a2 a3 a4 a5 _ a7 a8 a9 a10 a11 a12 a13 _ a18 a19 rfl]
    rw [lift (M := 36) (mk (_ ++ _)) (by decide), show (36 : Int) * 6 = 216 from rfl]
    rw [du_step s hn lv216 (lv (by decide) (by decide)) hS f3 w3 h3 (by decide) (by decide) (by decide) (by decide) a2 a3 a4 a5 _ a7 a8 a9 a10 a11 a12 a13 _ a18 a19 rfl]
    rw [forL]
    rfl
  · intro g a
    have a1 := opT_anti (S := S) a
    have a2 := opT_anti (S := S) a1
    have a3 := opT_anti (S := S) a2
    simp only [hor, lin_append, lin_opT, lin, lin_oft, lin_mk a, List.length_cons, List.length_nil, List.nil_append]
    generalize opT S (opT S (opT S g)) (zeros n) 0 = y3
    generalize opT S (opT S g) (zeros n) 0 = y2
    generalize opT S g (zeros n) 0 = y1
    generalize g (zeros n) 0 = y0
    grind
end
end K09
/-! k09, the plain law: powers and multiples, put together. -/
namespace K09
open PySem PySem.Spec PyProof.Rows L2 L3
theorem req_same {a b : P} {ρ : L3.Env} {d : D} (ha : a ρ = some d) (hb : b ρ = some d) (h : Told d) : p2 dEq (pN (l1 dRepr) [a]) (pN (l1 dRepr) [b]) ρ = some (.bool true) := by
  obtain ⟨t, ht⟩ := h
  rw [ev_p2, ev_pN, ev_pN, ev_evs1, ev_evs1, ha, hb, ev_evs0]
  dsimp only
  rw [ev_l1, ht]
  dsimp only
  unfold dEq
  have h1 : okD (.str t) = true := rfl
  rw [h1]
  simp [PyData.eqv]
theorem hor_ok : horOk 6 3 60 2 4 = true := by decide +kernel
theorem pw14 {n : Nat} (hn : n ≤ 4) {S F : List Tm} (hS : Bx n 60 2 2 S) {n0 n1 n2 n3 : Int} (h0 : n0.natAbs ≤ 3) (h1 : n1.natAbs ≤ 3) (h2 : n2.natAbs ≤ 3) (h3 : n3.natAbs ≤ 3) (hF : ∀ g, Anti g → lin g (hor n 6 S [n0, n1, n2, n3]) = 6 * lin g F) (bF : Bx n 100000000 100 100 F)
    (s : Src) (a2 a3 a4 a5 a6 a7 a8 a9 a10 a11 a12 a13 a17 a18 a19 : Cell) : sRet (eP (p2 dEq (pN (l1 dRepr) [pCall F_sum_at_polynomial [pVar 1, pN (l1 dTuple) [pOwn 15], pVar 14]]) (pN (l1 dRepr) [pVar 16]))) (pE s n a2 a3 a4 a5 a6 a7 a8 a9 a10 a11 a12 a13 (.val (sD 6 (mk S))) (.val (.list [.int n0, .int n1, .int n2, .int n3])) (.val (sD 216 (mk F))) a17 a18 a19) =
      some (pE s n a2 a3 a4 a5 a6 a7 a8 a9 a10 a11 a12 a13 (.val (sD 6 (mk S))) (.val (.list [.int n0, .int n1, .int n2, .int n3])) (.val (sD 216 (mk F))) a17 a18 a19, .rt (.val (.bool true))) := by
  have h := sum_at hn (μ := 6) S (by decide) hS [n0, n1, n2, n3] (fun k hk => by
    simp only [List.mem_cons, List.not_mem_nil, or_false] at hk
    rcases hk with rfl | rfl | rfl | rfl <;> assumption) hor_ok (by decide) (by decide)
  have e : sD (((6 : Nat) : Int) ^ 4) (mk (hor n ((6 : Nat) : Int) S [n0, n1, n2, n3])) = sD 216 (mk F) := by
    rw [show ((6 : Nat) : Int) ^ 4 = 216 * 6 from by decide]
    exact sD_eq (by decide) (by decide) hF
  have h' : F_sum_at_polynomial [.val (.int (n : Int)), .val (.tuple [.int n0, .int n1, .int n2, .int n3]), .val (sD 6 (mk S))] = some ([.un, .un, .un], .val (sD 216 (mk F))) := by
    rw [← e]
    exact h
  exact run_ret (req_same (pc3 (a := pVar 1) (b := pN (l1 dTuple) [pOwn 15]) (c := pVar 14) rfl rfl rfl h') rfl ((bF.mk.gd lv216 hn (by decide) (by decide)).told (by decide)))
theorem powers_right (s : Src) (n : Nat) (hn : n ≤ 4) : ∃ s', F__law_powers_right [.own true (.src s), .val (.int (n : Int))] = some ([.own true (.src s'), .un], .val (.bool true)) := by
  obtain ⟨s1, r, t, k, e1, hr, hr2, hk⟩ := pw1 s n hn
  have e2 := pw2 hr hr2 hn t s1 k
  obtain ⟨d2, e3, _⟩ := pw3 hr hr2 hn t s1 hk .un .un .un .un (.val (rowD r)) (.val (frD (pt t))) .un .un .un .un .un .un .un .un
  have e4 := pw4 hr hr2 hn t s1 hk d2 .un .un .un .un .un .un .un .un .un .un .un .un
  have e5 := pw5 hr hr2 hn t s1 hk d2 .un .un .un .un (.val (sD 1 (mk (cosT r t)))) .un .un .un .un .un .un .un .un
  have e6 := pw6 (n := n) s1 hk d2 .un .un .un (.val (rowD r)) (.val (frD (pt t))) (.val (sD 1 (mk (cosT r t)))) (.val (sD 1 (mk (toT r t (powP k))))) .un .un .un .un .un .un .un .un
  obtain ⟨c4, c12, c13, e7⟩ := nums_loop s1 n d2 .un .un (.val (rowD r)) (.val (frD (pt t))) (.val (sD 1 (mk (cosT r t)))) (.val (sD 1 (mk (toT r t (powP k))))) .un .un .un .un .un .un k hk
  have e8 := pw8 (n := n) s1 hk d2 c4 .un .un (.val (rowD r)) (.val (frD (pt t))) (.val (sD 1 (mk (cosT r t)))) (.val (sD 1 (mk (toT r t (powP k))))) c12 c13 .un .un .un .un .un .un
  have e9 := pw9 hr hn t s1 hk d2 (.own false (.lst ((numsT k).map .int))) c4 .un (.val (sD 1 (mk (cosT r t)))) (.val (sD 1 (mk (toT r t (powP k))))) c12 c13 .un .un .un .un .un
  have e10 := pw10 hr hr2 hn t s1 hk d2 c4 .un (.val (rowD r)) (.val (frD (pt t))) (.val (.int (k : Int))) (.val (sD 1 (mk (toT r t (powP k))))) c12 c13 .un .un .un .un .un .un
  obtain ⟨s2, S, n0, n1, n2, n3, e11, hS, h0, h1, h2, h3⟩ := pw11 s1 n hn d2 (.own false (.lst ((numsT k).map .int))) c4 (.val (sD 2 (mk (cosT (rmul (k : Int) r) ((k : Int) * t))))) .un (.val (rowD r)) (.val (frD (pt t))) (.val (.int (k : Int))) (.val (sD 1 (mk (cosT r t)))) (.val (sD 1 (mk (toT r t (powP k))))) c12 c13 .un .un .un
  have e12 := pw12 s2 hn d2 (.own false (.lst ((numsT k).map .int))) c4 (.val (sD 2 (mk (cosT (rmul (k : Int) r) ((k : Int) * t))))) .un (.val (rowD r)) (.val (frD (pt t))) (.val (.int (k : Int))) (.val (sD 1 (mk (cosT r t)))) (.val (sD 1 (mk (toT r t (powP k))))) c12 c13 (.val (sD 6 (mk S))) (.own false (.lst [.int n0, .int n1, .int n2, .int n3])) .un .un
  obtain ⟨F, c6, c17, e13, hF, bF⟩ := pw13 hn hS h0 h1 h2 h3 s2 d2 (.own false (.lst ((numsT k).map .int))) c4 (.val (sD 2 (mk (cosT (rmul (k : Int) r) ((k : Int) * t))))) .un (.val (rowD r)) (.val (frD (pt t))) (.val (.int (k : Int))) (.val (sD 1 (mk (cosT r t)))) (.val (sD 1 (mk (toT r t (powP k))))) c12 c13 .un .un rfl
  have e14 := pw14 hn hS h0 h1 h2 h3 hF bF s2 d2 (.own false (.lst ((numsT k).map .int))) c4 (.val (sD 2 (mk (cosT (rmul (k : Int) r) ((k : Int) * t))))) c6 (.val (rowD r)) (.val (frD (pt t))) (.val (.int (k : Int))) (.val (sD 1 (mk (cosT r t)))) (.val (sD 1 (mk (toT r t (powP k))))) c12 c13 c17 .un .un
  exact ⟨s2, run_fn (ρ0 := pE s n .un .un .un .un .un .un .un .un .un .un .un .un .un .un .un .un .un .un) rfl rfl (show g__law_powers_right _ = _ from (run_seq e1).trans ((run_seq e2).trans ((run_seq e3).trans ((run_seq e4).trans ((run_seq e5).trans ((run_seq e6).trans ((run_seq e7).trans ((run_seq e8).trans ((run_seq e9).trans ((run_seq e10).trans ((run_seq e11).trans ((run_seq e12).trans ((run_seq e13).trans e14))))))))))))) rfl⟩
end K09
/-! k09, the plain law. -/
namespace K09
open PySem PySem.Spec PyProof.Rows L2 L3
abbrev lE (ns : List Int) (s : Src) (a2 a3 a4 a5 a6 : Cell) : L3.Env := [.scr ns, .own false (.src s), a2, a3, a4, a5, a6]
abbrev bLw : Sm := sSeq (sVal 3 (eCallR F__law_of 1 [eP (pN dLst [pC (.int 0), pC (.int 1), pC (.int 2), pC (.int 3), pC (.int 4)])]))
      (sSeq (sIf (tOrE (tNotE (tVE (eCallR F__law_ring_right 1 [eP (pVar 3)]))) (tOrE (tNotE (tVE (eCallR F__law_mirrors_right 1 [eP (pVar 3)]))) (tNotE (tVE (eCallR F__law_powers_right 1 [eP (pVar 3)]))))) (sRet (eP (pC (.bool false)))) (sNx))
      (sSeq (sPar [4, 5, 6] [eCallR F__law_drawn_row 1 [eP (pVar 3)], eCallR F__law_drawn_part 1 [], eCallR F__law_drawn_fraction 1 []])
      (sIf (tP (tV (p2 dNe (pN (l1 dRepr) [pCall F_turn_sum [pVar 4, pVar 5, pVar 6]]) (pN (l1 dRepr) [pCall F__law_made [pN dLst [pN dTup [pVar 4, pVar 5, pVar 6]]]])))) (sRet (eP (pC (.bool false)))) (sNx))))
theorem lap_ok (ns : List Int) (s : Src) (a2 a3 a4 a5 a6 : Cell) (h3 : isOwn a3 = false) (h4 : isOwn a4 = false) (h5 : isOwn a5 = false) (h6 : isOwn a6 = false) :
    ∃ s' b3 b4 b5 b6, bLw (lE ns s a2 a3 a4 a5 a6) = some (lE ns s' a2 b3 b4 b5 b6, .nx) ∧ isOwn b3 = false ∧ isOwn b4 = false ∧ isOwn b5 = false ∧ isOwn b6 = false := by
  obtain ⟨s1, x, e1, hx⟩ := law_of s [.int 0, .int 1, .int 2, .int 3, .int 4] (by simp) (by decide)
  obtain ⟨n, rfl, hn⟩ : ∃ n : Nat, x = .int (n : Int) ∧ n ≤ 4 := by
    simp only [List.mem_cons, List.not_mem_nil, or_false] at hx
    rcases hx with rfl | rfl | rfl | rfl | rfl
    · exact ⟨0, rfl, by decide⟩
    · exact ⟨1, rfl, by decide⟩
    · exact ⟨2, rfl, by decide⟩
    · exact ⟨3, rfl, by decide⟩
    · exact ⟨4, rfl, by decide⟩
  obtain ⟨s2, r2⟩ := ring_right s1 n hn
  obtain ⟨s3, r3⟩ := mirrors_right s2 n hn
  obtain ⟨s4, r4⟩ := powers_right s3 n hn
  obtain ⟨s5, r, e5, hr1, hr2⟩ := drawn_row s4 n (by omega)
  obtain ⟨s6, t, e6⟩ := drawn_part s5
  obtain ⟨s7, a, e7, a1, a2'⟩ := drawn_fraction s6
  refine ⟨s7, .val (.int (n : Int)), .val (rowD r), .val (frD (pt t)), .val (frD (nf 6 a)), ?_, rfl, rfl, rfl, rfl⟩
  have c1 : eCallR F__law_of 1 [eP (pN dLst [pC (.int 0), pC (.int 1), pC (.int 2), pC (.int 3), pC (.int 4)])] (lE ns s a2 a3 a4 a5 a6) = some (lE ns s1 a2 a3 a4 a5 a6, .val (.int (n : Int))) := callRe (o := .src s) (ds := [.list [.int 0, .int 1, .int 2, .int 3, .int 4]]) rfl rfl e1 rfl
  have q1 : sVal 3 (eCallR F__law_of 1 [eP (pN dLst [pC (.int 0), pC (.int 1), pC (.int 2), pC (.int 3), pC (.int 4)])]) (lE ns s a2 a3 a4 a5 a6) = some (lE ns s1 a2 (.val (.int (n : Int))) a4 a5 a6, .nx) := by
    rw [ev_sVal, c1]
    dsimp only
    rw [ev_toD_val]
    dsimp only
    rw [put_no (c := a3) rfl h3]
    rfl
  have c2 : eCallR F__law_ring_right 1 [eP (pVar 3)] (lE ns s1 a2 (.val (.int (n : Int))) a4 a5 a6) = some (lE ns s2 a2 (.val (.int (n : Int))) a4 a5 a6, .val (.bool true)) := callRe (o := .src s1) (ds := [.int (n : Int)]) rfl rfl r2 rfl
  have c3 : eCallR F__law_mirrors_right 1 [eP (pVar 3)] (lE ns s2 a2 (.val (.int (n : Int))) a4 a5 a6) = some (lE ns s3 a2 (.val (.int (n : Int))) a4 a5 a6, .val (.bool true)) := callRe (o := .src s2) (ds := [.int (n : Int)]) rfl rfl r3 rfl
  have c4 : eCallR F__law_powers_right 1 [eP (pVar 3)] (lE ns s3 a2 (.val (.int (n : Int))) a4 a5 a6) = some (lE ns s4 a2 (.val (.int (n : Int))) a4 a5 a6, .val (.bool true)) := callRe (o := .src s3) (ds := [.int (n : Int)]) rfl rfl r4 rfl
  have q2 : sIf (tOrE (tNotE (tVE (eCallR F__law_ring_right 1 [eP (pVar 3)]))) (tOrE (tNotE (tVE (eCallR F__law_mirrors_right 1 [eP (pVar 3)]))) (tNotE (tVE (eCallR F__law_powers_right 1 [eP (pVar 3)]))))) (sRet (eP (pC (.bool false)))) (sNx) (lE ns s1 a2 (.val (.int (n : Int))) a4 a5 a6) = some (lE ns s4 a2 (.val (.int (n : Int))) a4 a5 a6, .nx) := by
    have t1 : tNotE (tVE (eCallR F__law_ring_right 1 [eP (pVar 3)])) (lE ns s1 a2 (.val (.int (n : Int))) a4 a5 a6) = some (lE ns s2 a2 (.val (.int (n : Int))) a4 a5 a6, false) := by rw [ev_tNotE, ev_tVE, c2]; rfl
    have t2 : tNotE (tVE (eCallR F__law_mirrors_right 1 [eP (pVar 3)])) (lE ns s2 a2 (.val (.int (n : Int))) a4 a5 a6) = some (lE ns s3 a2 (.val (.int (n : Int))) a4 a5 a6, false) := by rw [ev_tNotE, ev_tVE, c3]; rfl
    have t3 : tNotE (tVE (eCallR F__law_powers_right 1 [eP (pVar 3)])) (lE ns s3 a2 (.val (.int (n : Int))) a4 a5 a6) = some (lE ns s4 a2 (.val (.int (n : Int))) a4 a5 a6, false) := by rw [ev_tNotE, ev_tVE, c4]; rfl
    rw [ev_sIf, ev_tOrE, t1]
    dsimp only
    rw [ev_tOrE, t2]
    dsimp only
    rw [t3]
    rfl
  have c5 : eCallR F__law_drawn_row 1 [eP (pVar 3)] (lE ns s4 a2 (.val (.int (n : Int))) a4 a5 a6) = some (lE ns s5 a2 (.val (.int (n : Int))) a4 a5 a6, .val (rowD r)) := callRe (o := .src s4) (ds := [.int (n : Int)]) rfl rfl e5 rfl
  have c6 : eCallR F__law_drawn_part 1 [] (lE ns s5 a2 (.val (.int (n : Int))) a4 a5 a6) = some (lE ns s6 a2 (.val (.int (n : Int))) a4 a5 a6, .val (frD (pt t))) := callRe (o := .src s5) (ds := []) rfl rfl e6 rfl
  have c7 : eCallR F__law_drawn_fraction 1 [] (lE ns s6 a2 (.val (.int (n : Int))) a4 a5 a6) = some (lE ns s7 a2 (.val (.int (n : Int))) a4 a5 a6, .val (frD (nf 6 a))) := callRe (o := .src s6) (ds := []) rfl rfl e7 rfl
  have q3 : sPar [4, 5, 6] [eCallR F__law_drawn_row 1 [eP (pVar 3)], eCallR F__law_drawn_part 1 [], eCallR F__law_drawn_fraction 1 []] (lE ns s4 a2 (.val (.int (n : Int))) a4 a5 a6) = some (lE ns s7 a2 (.val (.int (n : Int))) (.val (rowD r)) (.val (frD (pt t))) (.val (frD (nf 6 a))), .nx) := by
    rw [ev_sPar, ev_ecells1, c5]
    dsimp only
    rw [ev_ecells1, c6]
    dsimp only
    rw [ev_ecells1, c7]
    dsimp only
    rw [ev_ecells0]
    dsimp only
    rw [ev_puts1, put_no (c := a4) rfl h4]
    dsimp only
    rw [ev_puts1, put_no (c := a5) rfl h5]
    dsimp only
    rw [ev_puts1, put_no (c := a6) rfl h6]
    rfl
  have b1 := one_bx n t a r hr1 2 hr2
  have f1 := turn_sum lv6 (r := r) (t := t) (a := a) (by unfold S31; omega)
  have f2 := law_made lv6 (b1.bd.sz (by omega) (by decide)) (X := .list ([(r, t, a)].map (tmD 6))) rfl
  rw [sD_mk] at f2
  have q4 : sIf (tP (tV (p2 dNe (pN (l1 dRepr) [pCall F_turn_sum [pVar 4, pVar 5, pVar 6]]) (pN (l1 dRepr) [pCall F__law_made [pN dLst [pN dTup [pVar 4, pVar 5, pVar 6]]]])))) (sRet (eP (pC (.bool false)))) (sNx) (lE ns s7 a2 (.val (.int (n : Int))) (.val (rowD r)) (.val (frD (pt t))) (.val (frD (nf 6 a)))) = some (lE ns s7 a2 (.val (.int (n : Int))) (.val (rowD r)) (.val (frD (pt t))) (.val (frD (nf 6 a))), .nx) :=
    if_no (rne_same (pc3 (a := pVar 4) (b := pVar 5) (c := pVar 6) rfl rfl rfl f1) (pc1 (a := pN dLst [pN dTup [pVar 4, pVar 5, pVar 6]]) rfl f2) ((b1.mk.gd lv6 hn (by decide) (by omega)).told (by decide)))
  exact (run_seq q1).trans ((run_seq q2).trans ((run_seq q3).trans q4))
theorem laps (ns : List Int) : ∀ (xs : List D) (s : Src) (a2 a3 a4 a5 a6 : Cell), isOwn a2 = false → isOwn a3 = false → isOwn a4 = false → isOwn a5 = false → isOwn a6 = false →
    ∃ s' b2 b3 b4 b5 b6, forL (.nm 2) bLw xs (lE ns s a2 a3 a4 a5 a6) = some (lE ns s' b2 b3 b4 b5 b6, .nx)
  | [], s, a2, a3, a4, a5, a6, _, _, _, _, _ => ⟨s, a2, a3, a4, a5, a6, by rw [forL]⟩
  | x :: xs, s, a2, a3, a4, a5, a6, h2, h3, h4, h5, h6 => by
    obtain ⟨s1, b3, b4, b5, b6, e1, k3, k4, k5, k6⟩ := lap_ok ns s (.val x) a3 a4 a5 a6 h3 h4 h5 h6
    obtain ⟨s2, c2, c3, c4, c5, c6, e2⟩ := laps ns xs s1 (.val x) b3 b4 b5 b6 rfl k3 k4 k5 k6
    refine ⟨s2, c2, c3, c4, c5, c6, ?_⟩
    have hb : bind (.nm 2) x (lE ns s a2 a3 a4 a5 a6) = some (lE ns s (.val x) a3 a4 a5 a6) := by
      rw [ev_bind0]
      exact put_no (c := a2) rfl h2
    rw [forL, hb]
    dsimp only
    rw [e1]
    exact e2
theorem cos_told : mk (cosT [1] 0) = [([-1], 0, 1), ([1], 0, 1)] := by
  have h : mg ((cosT [1] 0).map nz) = [(kk [-1] 0, 1), (kk [1] 0, 1)] := by
    refine up_ext (mg_up _) ?_ (fun x hx => (mg_mem _ x hx).1) (fun x hx => ?_) fun k => ?_
    · refine List.pairwise_cons.mpr ⟨fun y hy => ?_, List.pairwise_singleton _ _⟩
      rw [List.mem_singleton.mp hy]
      exact ⟨by decide +kernel, by decide⟩
    · simp only [List.mem_cons, List.not_mem_nil, or_false] at hx
      rcases hx with rfl | rfl <;> decide
    · rw [coef_lin, mg_lin, ← coef_lin]
      show (if kk [1] 0 = k then 1 else 0) + ((if kk [-1] 0 = k then 1 else 0) + 0) = (if kk [-1] 0 = k then 1 else 0) + ((if kk [1] 0 = k then 1 else 0) + (0 : Int))
      omega
  unfold mk
  rw [h]
  rfl
theorem pure_law (ns : List Int) (hl : ns.length ≤ 63) : ∃ cs', F_law [.scr ns] = some (cs', .val (.bool true)) := by
  obtain ⟨s0, e0⟩ := source ns hl
  obtain ⟨s1, b2, b3, b4, b5, b6, e1⟩ := laps ns (rangeD 0 3) s0 .un .un .un .un .un rfl rfl rfl rfl rfl
  have q0 : sOwn 1 (eCallS F__law_open_cells 0) [.scr ns, .un, .un, .un, .un, .un, .un] = some (lE ns s0 .un .un .un .un .un, .nx) := by
    have c0 : eCallS F__law_open_cells 0 [.scr ns, .un, .un, .un, .un, .un, .un] = some ([.scr ns, .un, .un, .un, .un, .un, .un], .own false (.src s0)) := by
      rw [ev_eCallS, show ([.scr ns, .un, .un, .un, .un, .un, .un] : L3.Env)[0]? = some (.scr ns) from rfl]
      dsimp only
      rw [e0]
    rw [ev_sOwn, c0]
    rfl
  have q1 : sFor (.nm 2) (iR (pC (.int 0)) (pC (.int 3))) bLw (lE ns s0 .un .un .un .un .un) = some (lE ns s1 b2 b3 b4 b5 b6, .nx) := by
    rw [ev_sFor, show iR (pC (.int 0)) (pC (.int 3)) (lE ns s0 .un .un .un .un .un) = some (lE ns s0 .un .un .un .un .un, rangeD 0 3) from rfl]
    exact e1
  have hc := cos_turns (r := [1]) (by decide) 0
  rw [cos_told] at hc
  have f1 : frD (pt 0) = .tuple [.int 0, .int 1] := rfl
  have f2 : frD (nf 2 1) = .tuple [.int 1, .int 2] := rfl
  have eD : sD 2 [([-1], 0, 1), ([1], 0, 1)] = .tuple [.tuple [.tuple [.int (-1)], .tuple [.int 0, .int 1], .tuple [.int 1, .int 2]], .tuple [.tuple [.int 1], .tuple [.int 0, .int 1], .tuple [.int 1, .int 2]]] := by
    unfold sD
    simp only [List.map_cons, List.map_nil, tmD, f1, f2]
    rfl
  have hr : rowD [1] = .tuple [.int 1] := rfl
  rw [eD, hr, f1] at hc
  have q2 : sRet (eP (p2 dEq (pCall F_cos_turns [pN dTup [pC (.int 1)], pN dTup [pC (.int 0), pC (.int 1)]]) (pN dTup [pN dTup [pN dTup [p1 dNeg (pC (.int 1))], pN dTup [pC (.int 0), pC (.int 1)], pN dTup [pC (.int 1), pC (.int 2)]], pN dTup [pN dTup [pC (.int 1)], pN dTup [pC (.int 0), pC (.int 1)], pN dTup [pC (.int 1), pC (.int 2)]]]))) (lE ns s1 b2 b3 b4 b5 b6) = some (lE ns s1 b2 b3 b4 b5 b6, .rt (.val (.bool true))) := by
    refine run_ret ?_
    rw [ev_p2, pc2 (F := F_cos_turns) (a := pN dTup [pC (.int 1)]) (b := pN dTup [pC (.int 0), pC (.int 1)]) rfl rfl hc]
    rfl
  exact ⟨_, run_fn (ρ0 := [.scr ns, .un, .un, .un, .un, .un, .un]) rfl rfl (show g_law _ = _ from (run_seq q0).trans ((run_seq q1).trans q2)) rfl⟩
end K09
namespace K09
open PySem PySem.Spec PyProof.Rows L2 L3
/-! ### the text -/
def top (i : Nat) : Stmt := PySem.Challenge.pw_turnsthatfit_k09_whole_sums_of_turns.main.body.getD i (.Pass ⟨0, 0, 0, 0⟩)
abbrev st_common_divisor : Stmt := top 1
abbrev st_fraction_of : Stmt := top 2
abbrev st_fraction_sum : Stmt := top 3
abbrev st_fraction_times : Stmt := top 4
abbrev st_fraction_turned : Stmt := top 5
abbrev st_part_of : Stmt := top 6
abbrev st_part_sum : Stmt := top 7
abbrev st_part_times : Stmt := top 8
abbrev st_part_turned : Stmt := top 9
abbrev st_half_of : Stmt := top 10
abbrev st_row_sum : Stmt := top 12
abbrev st_row_times : Stmt := top 13
abbrev st_terms_merged : Stmt := top 17
abbrev st_turn_sum : Stmt := top 18
abbrev st_sums_added : Stmt := top 19
abbrev st_sum_often : Stmt := top 20
abbrev st_sums_times : Stmt := top 21
abbrev st_cos_turns : Stmt := top 22
abbrev st_sin_turns : Stmt := top 23
abbrev st_told_turns : Stmt := top 24
abbrev st_mirrored_sum : Stmt := top 26
abbrev st_is_even_sum : Stmt := top 27
abbrev st_is_head_row : Stmt := top 28
abbrev st_cosine_often : Stmt := top 29
abbrev st_cosine_form : Stmt := top 30
abbrev st_turns_of_cosines : Stmt := top 31
abbrev st_sum_power : Stmt := top 33
abbrev st_two_cosines : Stmt := top 34
abbrev st_chosen_out_of : Stmt := top 35
abbrev st_power_by_counts : Stmt := top 36
abbrev st_next_numbers : Stmt := top 37
abbrev st_multiple_numbers : Stmt := top 38
abbrev st_sum_at_polynomial : Stmt := top 39
abbrev st__law_open_cells : Stmt := top 41
abbrev st__law_pick : Stmt := top 42
abbrev st__law_any_order : Stmt := top 43
abbrev st__law_of : Stmt := top 44
abbrev st__law_low : Stmt := top 45
abbrev st__law_plus : Stmt := top 46
abbrev st__law_by : Stmt := top 47
abbrev st__law_part : Stmt := top 48
abbrev st__law_made : Stmt := top 49
abbrev st__law_product : Stmt := top 50
abbrev st__law_often : Stmt := top 51
abbrev st__law_mirrored : Stmt := top 52
abbrev st__law_cos : Stmt := top 53
abbrev st__law_sin : Stmt := top 54
abbrev st__law_drawn_part : Stmt := top 55
abbrev st__law_drawn_fraction : Stmt := top 56
abbrev st__law_drawn_row : Stmt := top 57
abbrev st__law_drawn_terms : Stmt := top 58
abbrev st__law_form : Stmt := top 59
abbrev st__law_ring_right : Stmt := top 60
abbrev st__law_mirrors_right : Stmt := top 61
abbrev st__law_powers_right : Stmt := top 62
abbrev st_law : Stmt := top 63
section
variable {P : Program} {w : World} {K : PySem.W.Frag} {mg : Str → Option Value} {base : Heap} {f : Addr} {fd : FuncData}
theorem nd_common_divisor : (N_common_divisor).Nodup := by decide +kernel
theorem c_common_divisor (D0 : FnP K "common_divisor" st_common_divisor f fd) (hm : mg "common_divisor" = some (.ref f)) (m_abs : mg "abs" = none) : Cg P w K mg base 1 "common_divisor" F_common_divisor := by
  refine cg_fun (k := 0) (N := N_common_divisor) (ps := ["a", "b"]) D0 hm (D0.bindsN fun _ _ _ _ _ _ us hl => match us, hl with | [_, _], _ => rfl) (by decide +kernel) fun cdv A outer s H hr hgd => ?_
  have hu := hr.units
  have nd := nd_common_divisor
  exact ssCons (sPar2 rfl nd (jacCons (jP (jB cAbs m_abs (jaCons (jVar 0) (jaNil)))) (jacCons (jP (jB cAbs m_abs (jaCons (jVar 1) (jaNil)))) (jacNil))))
      (ssCons (sWhileS PassesOwn.never (jtP (jtCmp oGt (jVar 1) (jInt))) (ssOne (sPar2 rfl nd (jacCons (jP (jVar 1)) (jacCons (jP (j2 oMod (jVar 0) (jVar 1))) (jacNil))))))
      (ssOne (sReturn (jP (jVar 0)))))
theorem nd_fraction_of : (N_fraction_of).Nodup := by decide +kernel
theorem c_fraction_of (D0 : FnP K "fraction_of" st_fraction_of f fd) (hm : mg "fraction_of" = some (.ref f)) (h_common_divisor : Cg P w K mg base 1 "common_divisor" F_common_divisor) : Cg P w K mg base 2 "fraction_of" F_fraction_of := by
  refine cg_fun (k := 1) (N := N_fraction_of) (ps := ["p", "q"]) D0 hm (D0.bindsN fun _ _ _ _ _ _ us hl => match us, hl with | [_, _], _ => rfl) (by decide +kernel) fun cdv A outer s H hr hgd => ?_
  have hu := hr.units
  have nd := nd_fraction_of
  exact ssCons (sSetV (i := 2) nd (jP (jIf (jtCmp oGt (jVar 1) (jInt)) (jpCall h_common_divisor hr hgd (jaCons (jVar 0) (jaCons (jVar 1) (jaNil)))) (jNeg oNeg (jpCall h_common_divisor hr hgd (jaCons (jVar 0) (jaCons (jVar 1) (jaNil))))))))
      (ssOne (sReturn (jP (jTup (jaCons (j2 oFdiv (jVar 0) (jVar 2)) (jaCons (j2 oFdiv (jVar 1) (jVar 2)) (jaNil)))))))
theorem nd_fraction_sum : (N_fraction_sum).Nodup := by decide +kernel
theorem c_fraction_sum (D0 : FnP K "fraction_sum" st_fraction_sum f fd) (hm : mg "fraction_sum" = some (.ref f)) (h_fraction_of : Cg P w K mg base 2 "fraction_of" F_fraction_of) : Cg P w K mg base 3 "fraction_sum" F_fraction_sum := by
  refine cg_fun (k := 2) (N := N_fraction_sum) (ps := ["x", "y"]) D0 hm (D0.bindsN fun _ _ _ _ _ _ us hl => match us, hl with | [_, _], _ => rfl) (by decide +kernel) fun cdv A outer s H hr hgd => ?_
  have hu := hr.units
  have nd := nd_fraction_sum
  exact ssOne (sReturn (jP (jpCall h_fraction_of hr hgd (jaCons (j2 oAdd (j2 oMul (jIx (jVar 0) (jInt)) (jIx (jVar 1) (jInt))) (j2 oMul (jIx (jVar 1) (jInt)) (jIx (jVar 0) (jInt)))) (jaCons (j2 oMul (jIx (jVar 0) (jInt)) (jIx (jVar 1) (jInt))) (jaNil))))))
theorem nd_fraction_times : (N_fraction_times).Nodup := by decide +kernel
theorem c_fraction_times (D0 : FnP K "fraction_times" st_fraction_times f fd) (hm : mg "fraction_times" = some (.ref f)) (h_fraction_of : Cg P w K mg base 2 "fraction_of" F_fraction_of) : Cg P w K mg base 3 "fraction_times" F_fraction_times := by
  refine cg_fun (k := 2) (N := N_fraction_times) (ps := ["x", "y"]) D0 hm (D0.bindsN fun _ _ _ _ _ _ us hl => match us, hl with | [_, _], _ => rfl) (by decide +kernel) fun cdv A outer s H hr hgd => ?_
  have hu := hr.units
  have nd := nd_fraction_times
  exact ssOne (sReturn (jP (jpCall h_fraction_of hr hgd (jaCons (j2 oMul (jIx (jVar 0) (jInt)) (jIx (jVar 1) (jInt))) (jaCons (j2 oMul (jIx (jVar 0) (jInt)) (jIx (jVar 1) (jInt))) (jaNil))))))
theorem nd_fraction_turned : (N_fraction_turned).Nodup := by decide +kernel
theorem c_fraction_turned (D0 : FnP K "fraction_turned" st_fraction_turned f fd) (hm : mg "fraction_turned" = some (.ref f)) : Cg P w K mg base 1 "fraction_turned" F_fraction_turned := by
  refine cg_fun (k := 0) (N := N_fraction_turned) (ps := ["x"]) D0 hm (D0.bindsN fun _ _ _ _ _ _ us hl => match us, hl with | [_], _ => rfl) (by decide +kernel) fun cdv A outer s H hr hgd => ?_
  have hu := hr.units
  have nd := nd_fraction_turned
  exact ssOne (sReturn (jP (jTup (jaCons (jNeg oNeg (jIx (jVar 0) (jInt))) (jaCons (jIx (jVar 0) (jInt)) (jaNil))))))
theorem nd_part_of : (N_part_of).Nodup := by decide +kernel
theorem c_part_of (D0 : FnP K "part_of" st_part_of f fd) (hm : mg "part_of" = some (.ref f)) (h_fraction_of : Cg P w K mg base 2 "fraction_of" F_fraction_of) : Cg P w K mg base 3 "part_of" F_part_of := by
  refine cg_fun (k := 2) (N := N_part_of) (ps := ["p", "q"]) D0 hm (D0.bindsN fun _ _ _ _ _ _ us hl => match us, hl with | [_, _], _ => rfl) (by decide +kernel) fun cdv A outer s H hr hgd => ?_
  have hu := hr.units
  have nd := nd_part_of
  exact ssCons (sAsg (jP (jpCall h_fraction_of hr hgd (jaCons (jVar 0) (jaCons (jVar 1) (jaNil))))) (gTp rfl (gsCons (gNm nd) (gsCons (gNm nd) (gsNil)))))
      (ssOne (sReturn (jP (jpCall h_fraction_of hr hgd (jaCons (j2 oMod (jVar 2) (jVar 3)) (jaCons (jVar 3) (jaNil)))))))
theorem nd_part_sum : (N_part_sum).Nodup := by decide +kernel
theorem c_part_sum (D0 : FnP K "part_sum" st_part_sum f fd) (hm : mg "part_sum" = some (.ref f)) (h_part_of : Cg P w K mg base 3 "part_of" F_part_of) : Cg P w K mg base 4 "part_sum" F_part_sum := by
  refine cg_fun (k := 3) (N := N_part_sum) (ps := ["one", "other"]) D0 hm (D0.bindsN fun _ _ _ _ _ _ us hl => match us, hl with | [_, _], _ => rfl) (by decide +kernel) fun cdv A outer s H hr hgd => ?_
  have hu := hr.units
  have nd := nd_part_sum
  exact ssOne (sReturn (jP (jpCall h_part_of hr hgd (jaCons (j2 oAdd (j2 oMul (jIx (jVar 0) (jInt)) (jIx (jVar 1) (jInt))) (j2 oMul (jIx (jVar 1) (jInt)) (jIx (jVar 0) (jInt)))) (jaCons (j2 oMul (jIx (jVar 0) (jInt)) (jIx (jVar 1) (jInt))) (jaNil))))))
theorem nd_part_times : (N_part_times).Nodup := by decide +kernel
theorem c_part_times (D0 : FnP K "part_times" st_part_times f fd) (hm : mg "part_times" = some (.ref f)) (h_part_of : Cg P w K mg base 3 "part_of" F_part_of) : Cg P w K mg base 4 "part_times" F_part_times := by
  refine cg_fun (k := 3) (N := N_part_times) (ps := ["k", "part"]) D0 hm (D0.bindsN fun _ _ _ _ _ _ us hl => match us, hl with | [_, _], _ => rfl) (by decide +kernel) fun cdv A outer s H hr hgd => ?_
  have hu := hr.units
  have nd := nd_part_times
  exact ssOne (sReturn (jP (jpCall h_part_of hr hgd (jaCons (j2 oMul (jVar 0) (jIx (jVar 1) (jInt))) (jaCons (jIx (jVar 1) (jInt)) (jaNil))))))
theorem nd_part_turned : (N_part_turned).Nodup := by decide +kernel
theorem c_part_turned (D0 : FnP K "part_turned" st_part_turned f fd) (hm : mg "part_turned" = some (.ref f)) (h_part_of : Cg P w K mg base 3 "part_of" F_part_of) : Cg P w K mg base 4 "part_turned" F_part_turned := by
  refine cg_fun (k := 3) (N := N_part_turned) (ps := ["part"]) D0 hm (D0.bindsN fun _ _ _ _ _ _ us hl => match us, hl with | [_], _ => rfl) (by decide +kernel) fun cdv A outer s H hr hgd => ?_
  have hu := hr.units
  have nd := nd_part_turned
  exact ssOne (sReturn (jP (jpCall h_part_of hr hgd (jaCons (jNeg oNeg (jIx (jVar 0) (jInt))) (jaCons (jIx (jVar 0) (jInt)) (jaNil))))))
theorem nd_half_of : (N_half_of).Nodup := by decide +kernel
theorem c_half_of (D0 : FnP K "half_of" st_half_of f fd) (hm : mg "half_of" = some (.ref f)) (h_part_sum : Cg P w K mg base 4 "part_sum" F_part_sum) (h_fraction_turned : Cg P w K mg base 1 "fraction_turned" F_fraction_turned) : Cg P w K mg base 5 "half_of" F_half_of := by
  refine cg_fun (k := 4) (N := N_half_of) (ps := ["part", "c"]) D0 hm (D0.bindsN fun _ _ _ _ _ _ us hl => match us, hl with | [_, _], _ => rfl) (by decide +kernel) fun cdv A outer s H hr hgd => ?_
  have hu := hr.units
  have nd := nd_half_of
  exact ssCons (sIfS (jtP (jtCmp oLt (j2 oMul (jInt) (jIx (jVar 0) (jInt))) (jIx (jVar 0) (jInt)))) (ssOne (sReturn (jP (jTup (jaCons (jVar 0) (jaCons (jVar 1) (jaNil))))))) (ssNil))
      (ssOne (sReturn (jP (jTup (jaCons (jpCall h_part_sum hr hgd (jaCons (jVar 0) (jaCons (jTup (jaCons (jInt) (jaCons (jInt) (jaNil)))) (jaNil)))) (jaCons (jpCall h_fraction_turned hr hgd (jaCons (jVar 1) (jaNil))) (jaNil)))))))
theorem nd_row_sum : (N_row_sum).Nodup := by decide +kernel
theorem c_row_sum (D0 : FnP K "row_sum" st_row_sum f fd) (hm : mg "row_sum" = some (.ref f)) (m_tuple : mg "tuple" = none) (m_zip : mg "zip" = none) : Cg P w K mg base 1 "row_sum" F_row_sum := by
  refine cg_fun (k := 0) (N := N_row_sum) (ps := ["one", "other"]) D0 hm (D0.bindsN fun _ _ _ _ _ _ us hl => match us, hl with | [_, _], _ => rfl) (by decide +kernel) fun cdv A outer s H hr hgd => ?_
  have hu := hr.units
  have nd := nd_row_sum
  exact ssOne (sReturn (jP (jTy cTuple m_tuple (jaCons (jComp (own := [("a", 2), ("b", 3)]) rfl nd (ipZipS m_zip (jVar 0) (jVar 1)) (by first | (show blkC N_row_sum (defScope st_row_sum) _ _ = true; decide +kernel) | rfl) (fun _ _ _ _ _ => gTp rfl (gsCons (gNm nd) (gsCons (gNm nd) (gsNil)))) (fun _ _ _ _ _ => jtsNil) (fun _ _ _ _ _ => j2 oAdd (jVar 2) (jVar 3))) (jaNil)))))
theorem nd_row_times : (N_row_times).Nodup := by decide +kernel
theorem c_row_times (D0 : FnP K "row_times" st_row_times f fd) (hm : mg "row_times" = some (.ref f)) (m_tuple : mg "tuple" = none) : Cg P w K mg base 1 "row_times" F_row_times := by
  refine cg_fun (k := 0) (N := N_row_times) (ps := ["k", "row"]) D0 hm (D0.bindsN fun _ _ _ _ _ _ us hl => match us, hl with | [_, _], _ => rfl) (by decide +kernel) fun cdv A outer s H hr hgd => ?_
  have hu := hr.units
  have nd := nd_row_times
  exact ssOne (sReturn (jP (jTy cTuple m_tuple (jaCons (jComp (own := [("a", 2)]) rfl nd (ipSeq (jVar 1)) (by first | (show blkC N_row_times (defScope st_row_times) _ _ = true; decide +kernel) | rfl) (fun _ _ _ _ _ => gNm nd) (fun _ _ _ _ _ => jtsNil) (fun _ _ _ _ _ => j2 oMul (jVar 0) (jVar 2))) (jaNil)))))
theorem nd_terms_merged : (N_terms_merged).Nodup := by decide +kernel
theorem c_terms_merged (D0 : FnP K "terms_merged" st_terms_merged f fd) (hm : mg "terms_merged" = some (.ref f)) (h_half_of : Cg P w K mg base 5 "half_of" F_half_of) (h_fraction_sum : Cg P w K mg base 3 "fraction_sum" F_fraction_sum) (m_tuple : mg "tuple" = none) (m_sorted : mg "sorted" = none) : Cg P w K mg base 6 "terms_merged" F_terms_merged := by
  refine cg_fun (k := 5) (N := N_terms_merged) (ps := ["terms"]) D0 hm (D0.bindsN fun _ _ _ _ _ _ us hl => match us, hl with | [_], _ => rfl) (by decide +kernel) fun cdv A outer s H hr hgd => ?_
  have hu := hr.units
  have nd := nd_terms_merged
  exact ssCons (sSetO (i := 1) nd (jF (jDict0)))
      (ssCons (sForS PassesOwn.never rfl (iSeq (jVar 0)) (gTp rfl (gsCons (gNm nd) (gsCons (gNm nd) (gsCons (gNm nd) (gsNil))))) (ssCons (sAsg (jP (jpCall h_half_of hr hgd (jaCons (jVar 3) (jaCons (jVar 4) (jaNil))))) (gTp rfl (gsCons (gNm nd) (gsCons (gNm nd) (gsNil)))))
      (ssOne (sDPutS (i := 1) hu (jpCall h_fraction_sum hr hgd (jaCons (jGet2 hu (jOwn 1) (jTup (jaCons (jVar 2) (jaCons (jVar 5) (jaNil)))) (jTup (jaCons (jInt) (jaCons (jInt) (jaNil))))) (jaCons (jVar 6) (jaNil)))) (jTup (jaCons (jVar 2) (jaCons (jVar 5) (jaNil))))))))
      (ssOne (sReturn (jP (jTy cTuple m_tuple (jaCons (jComp (own := [("row", 2), ("part", 3)]) rfl nd (ipSeq (jB (cSorted rfl hu) m_sorted (jaCons (jOwn 1) (jaNil)))) (by first | (show blkC N_terms_merged (defScope st_terms_merged) _ _ = true; decide +kernel) | rfl) (fun _ _ _ _ _ => gTp rfl (gsCons (gNm nd) (gsCons (gNm nd) (gsNil)))) (fun _ _ _ _ _ => jtsOne (jtCmp (oNe hu) (jIxK hu (jOwn 1) (jTup (jaCons (jVar 2) (jaCons (jVar 3) (jaNil))))) (jTup (jaCons (jInt) (jaCons (jInt) (jaNil)))))) (fun _ _ _ _ _ => jTup (jaCons (jVar 2) (jaCons (jVar 3) (jaCons (jIxK hu (jOwn 1) (jTup (jaCons (jVar 2) (jaCons (jVar 3) (jaNil))))) (jaNil)))))) (jaNil)))))))
theorem nd_turn_sum : (N_turn_sum).Nodup := by decide +kernel
theorem c_turn_sum (D0 : FnP K "turn_sum" st_turn_sum f fd) (hm : mg "turn_sum" = some (.ref f)) (h_terms_merged : Cg P w K mg base 6 "terms_merged" F_terms_merged) : Cg P w K mg base 7 "turn_sum" F_turn_sum := by
  refine cg_fun (k := 6) (N := N_turn_sum) (ps := ["row", "part", "c"]) D0 hm (D0.bindsN fun _ _ _ _ _ _ us hl => match us, hl with | [_, _, _], _ => rfl) (by decide +kernel) fun cdv A outer s H hr hgd => ?_
  have hu := hr.units
  have nd := nd_turn_sum
  exact ssOne (sReturn (jP (jpCall h_terms_merged hr hgd (jaCons (jLst (jaCons (jTup (jaCons (jVar 0) (jaCons (jVar 1) (jaCons (jVar 2) (jaNil))))) (jaNil))) (jaNil)))))
theorem nd_sums_added : (N_sums_added).Nodup := by decide +kernel
theorem c_sums_added (D0 : FnP K "sums_added" st_sums_added f fd) (hm : mg "sums_added" = some (.ref f)) (h_terms_merged : Cg P w K mg base 6 "terms_merged" F_terms_merged) : Cg P w K mg base 7 "sums_added" F_sums_added := by
  refine cg_fun (k := 6) (N := N_sums_added) (ps := ["one", "other"]) D0 hm (D0.bindsN fun _ _ _ _ _ _ us hl => match us, hl with | [_, _], _ => rfl) (by decide +kernel) fun cdv A outer s H hr hgd => ?_
  have hu := hr.units
  have nd := nd_sums_added
  exact ssOne (sReturn (jP (jpCall h_terms_merged hr hgd (jaCons (j2 oAdd (jVar 0) (jVar 1)) (jaNil)))))
theorem nd_sum_often : (N_sum_often).Nodup := by decide +kernel
theorem c_sum_often (D0 : FnP K "sum_often" st_sum_often f fd) (hm : mg "sum_often" = some (.ref f)) (h_terms_merged : Cg P w K mg base 6 "terms_merged" F_terms_merged) (h_fraction_times : Cg P w K mg base 3 "fraction_times" F_fraction_times) : Cg P w K mg base 7 "sum_often" F_sum_often := by
  refine cg_fun (k := 6) (N := N_sum_often) (ps := ["c", "one"]) D0 hm (D0.bindsN fun _ _ _ _ _ _ us hl => match us, hl with | [_, _], _ => rfl) (by decide +kernel) fun cdv A outer s H hr hgd => ?_
  have hu := hr.units
  have nd := nd_sum_often
  exact ssOne (sReturn (jP (jpCall h_terms_merged hr hgd (jaCons (jComp (own := [("row", 2), ("part", 3), ("d", 4)]) rfl nd (ipSeq (jVar 1)) (by first | (show blkC N_sum_often (defScope st_sum_often) _ _ = true; decide +kernel) | rfl) (fun _ _ _ _ _ => gTp rfl (gsCons (gNm nd) (gsCons (gNm nd) (gsCons (gNm nd) (gsNil))))) (fun _ _ _ _ _ => jtsNil) (fun _ _ _ _ _ => jTup (jaCons (jVar 2) (jaCons (jVar 3) (jaCons (jpCall h_fraction_times hr hgd (jaCons (jVar 0) (jaCons (jVar 4) (jaNil)))) (jaNil)))))) (jaNil)))))
theorem nd_sums_times : (N_sums_times).Nodup := by decide +kernel
theorem c_sums_times (D0 : FnP K "sums_times" st_sums_times f fd) (hm : mg "sums_times" = some (.ref f)) (h_terms_merged : Cg P w K mg base 6 "terms_merged" F_terms_merged) (h_row_sum : Cg P w K mg base 1 "row_sum" F_row_sum) (h_part_sum : Cg P w K mg base 4 "part_sum" F_part_sum) (h_fraction_times : Cg P w K mg base 3 "fraction_times" F_fraction_times) : Cg P w K mg base 7 "sums_times" F_sums_times := by
  refine cg_fun (k := 6) (N := N_sums_times) (ps := ["one", "other"]) D0 hm (D0.bindsN fun _ _ _ _ _ _ us hl => match us, hl with | [_, _], _ => rfl) (by decide +kernel) fun cdv A outer s H hr hgd => ?_
  have hu := hr.units
  have nd := nd_sums_times
  exact ssCons (sSetO (i := 2) nd (jF (jLst (jaNil))))
      (ssCons (sForS PassesOwn.never rfl (iSeq (jVar 0)) (gTp rfl (gsCons (gNm nd) (gsCons (gNm nd) (gsCons (gNm nd) (gsNil))))) (ssOne (sForS PassesOwn.never rfl (iSeq (jVar 1)) (gTp rfl (gsCons (gNm nd) (gsCons (gNm nd) (gsCons (gNm nd) (gsNil))))) (ssOne (sAppS (i := 2) (jP (jTup (jaCons (jpCall h_row_sum hr hgd (jaCons (jVar 3) (jaCons (jVar 6) (jaNil)))) (jaCons (jpCall h_part_sum hr hgd (jaCons (jVar 4) (jaCons (jVar 7) (jaNil)))) (jaCons (jpCall h_fraction_times hr hgd (jaCons (jVar 5) (jaCons (jVar 8) (jaNil)))) (jaNil)))))))))))
      (ssOne (sFrz1 (sReturn (jP (jpCall h_terms_merged hr hgd (jaCons (jVar 2) (jaNil))))))))
theorem nd_cos_turns : (N_cos_turns).Nodup := by decide +kernel
theorem c_cos_turns (D0 : FnP K "cos_turns" st_cos_turns f fd) (hm : mg "cos_turns" = some (.ref f)) (h_terms_merged : Cg P w K mg base 6 "terms_merged" F_terms_merged) (h_part_turned : Cg P w K mg base 4 "part_turned" F_part_turned) (m_tuple : mg "tuple" = none) (g_HALF : ∃ u, mg "HALF" = some u ∧ constB K G_HALF u = true) : Cg P w K mg base 7 "cos_turns" F_cos_turns := by
  refine cg_fun (k := 6) (N := N_cos_turns) (ps := ["row", "part"]) D0 hm (D0.bindsN fun _ _ _ _ _ _ us hl => match us, hl with | [_, _], _ => rfl) (by decide +kernel) fun cdv A outer s H hr hgd => ?_
  have hu := hr.units
  have nd := nd_cos_turns
  exact ssOne (sReturn (jP (jpCall h_terms_merged hr hgd (jaCons (jLst (jaCons (jTup (jaCons (jVar 0) (jaCons (jVar 1) (jaCons (jGlo g_HALF) (jaNil))))) (jaCons (jTup (jaCons (jTy cTuple m_tuple (jaCons (jComp (own := [("x", 2)]) rfl nd (ipSeq (jVar 0)) (by first | (show blkC N_cos_turns (defScope st_cos_turns) _ _ = true; decide +kernel) | rfl) (fun _ _ _ _ _ => gNm nd) (fun _ _ _ _ _ => jtsNil) (fun _ _ _ _ _ => jNeg oNeg (jVar 2))) (jaNil))) (jaCons (jpCall h_part_turned hr hgd (jaCons (jVar 1) (jaNil))) (jaCons (jGlo g_HALF) (jaNil))))) (jaNil)))) (jaNil)))))
theorem nd_sin_turns : (N_sin_turns).Nodup := by decide +kernel
theorem c_sin_turns (D0 : FnP K "sin_turns" st_sin_turns f fd) (hm : mg "sin_turns" = some (.ref f)) (h_cos_turns : Cg P w K mg base 7 "cos_turns" F_cos_turns) (h_part_sum : Cg P w K mg base 4 "part_sum" F_part_sum) : Cg P w K mg base 8 "sin_turns" F_sin_turns := by
  refine cg_fun (k := 7) (N := N_sin_turns) (ps := ["row", "part"]) D0 hm (D0.bindsN fun _ _ _ _ _ _ us hl => match us, hl with | [_, _], _ => rfl) (by decide +kernel) fun cdv A outer s H hr hgd => ?_
  have hu := hr.units
  have nd := nd_sin_turns
  exact ssOne (sReturn (jP (jpCall h_cos_turns hr hgd (jaCons (jVar 0) (jaCons (jpCall h_part_sum hr hgd (jaCons (jVar 1) (jaCons (jTup (jaCons (jInt) (jaCons (jInt) (jaNil)))) (jaNil)))) (jaNil))))))
theorem nd_told_turns : (N_told_turns).Nodup := by decide +kernel
theorem c_told_turns (D0 : FnP K "told_turns" st_told_turns f fd) (hm : mg "told_turns" = some (.ref f)) (h_turn_sum : Cg P w K mg base 7 "turn_sum" F_turn_sum) (g_NO_PART : ∃ u, mg "NO_PART" = some u ∧ constB K G_NO_PART u = true) : Cg P w K mg base 8 "told_turns" F_told_turns := by
  refine cg_fun (k := 7) (N := N_told_turns) (ps := ["n", "c"]) D0 hm (D0.bindsN fun _ _ _ _ _ _ us hl => match us, hl with | [_, _], _ => rfl) (by decide +kernel) fun cdv A outer s H hr hgd => ?_
  have hu := hr.units
  have nd := nd_told_turns
  exact ssOne (sReturn (jP (jpCall h_turn_sum hr hgd (jaCons (j2 oRepT (jTup (jaCons (jInt) (jaNil))) (jVar 0)) (jaCons (jGlo g_NO_PART) (jaCons (jVar 1) (jaNil)))))))
theorem nd_mirrored_sum : (N_mirrored_sum).Nodup := by decide +kernel
theorem c_mirrored_sum (D0 : FnP K "mirrored_sum" st_mirrored_sum f fd) (hm : mg "mirrored_sum" = some (.ref f)) (h_terms_merged : Cg P w K mg base 6 "terms_merged" F_terms_merged) (h_part_turned : Cg P w K mg base 4 "part_turned" F_part_turned) (m_tuple : mg "tuple" = none) : Cg P w K mg base 7 "mirrored_sum" F_mirrored_sum := by
  refine cg_fun (k := 6) (N := N_mirrored_sum) (ps := ["one"]) D0 hm (D0.bindsN fun _ _ _ _ _ _ us hl => match us, hl with | [_], _ => rfl) (by decide +kernel) fun cdv A outer s H hr hgd => ?_
  have hu := hr.units
  have nd := nd_mirrored_sum
  exact ssOne (sReturn (jP (jpCall h_terms_merged hr hgd (jaCons (jComp (own := [("row", 1), ("part", 2), ("c", 3)]) rfl nd (ipSeq (jVar 0)) (by first | (show blkC N_mirrored_sum (defScope st_mirrored_sum) _ _ = true; decide +kernel) | rfl) (fun _ _ _ _ _ => gTp rfl (gsCons (gNm nd) (gsCons (gNm nd) (gsCons (gNm nd) (gsNil))))) (fun _ _ _ _ _ => jtsNil) (fun _ _ _ _ _ => jTup (jaCons (jTy cTuple m_tuple (jaCons (jComp (own := [("x", 4)]) rfl nd (ipSeq (jVar 1)) (by first | (show blkC N_mirrored_sum (defScope st_mirrored_sum) _ _ = true; decide +kernel) | rfl) (fun _ _ _ _ _ => gNm nd) (fun _ _ _ _ _ => jtsNil) (fun _ _ _ _ _ => jNeg oNeg (jVar 4))) (jaNil))) (jaCons (jpCall h_part_turned hr hgd (jaCons (jVar 2) (jaNil))) (jaCons (jVar 3) (jaNil)))))) (jaNil)))))
theorem nd_is_even_sum : (N_is_even_sum).Nodup := by decide +kernel
theorem c_is_even_sum (D0 : FnP K "is_even_sum" st_is_even_sum f fd) (hm : mg "is_even_sum" = some (.ref f)) (h_mirrored_sum : Cg P w K mg base 7 "mirrored_sum" F_mirrored_sum) : Cg P w K mg base 8 "is_even_sum" F_is_even_sum := by
  refine cg_fun (k := 7) (N := N_is_even_sum) (ps := ["one"]) D0 hm (D0.bindsN fun _ _ _ _ _ _ us hl => match us, hl with | [_], _ => rfl) (by decide +kernel) fun cdv A outer s H hr hgd => ?_
  have hu := hr.units
  have nd := nd_is_even_sum
  exact ssOne (sReturn (jP (jCmp (oEq hu) (jpCall h_mirrored_sum hr hgd (jaCons (jVar 0) (jaNil))) (jVar 0))))
theorem nd_is_head_row : (N_is_head_row).Nodup := by decide +kernel
theorem c_is_head_row (D0 : FnP K "is_head_row" st_is_head_row f fd) (hm : mg "is_head_row" = some (.ref f)) : Cg P w K mg base 1 "is_head_row" F_is_head_row := by
  refine cg_fun (k := 0) (N := N_is_head_row) (ps := ["row"]) D0 hm (D0.bindsN fun _ _ _ _ _ _ us hl => match us, hl with | [_], _ => rfl) (by decide +kernel) fun cdv A outer s H hr hgd => ?_
  have hu := hr.units
  have nd := nd_is_head_row
  exact ssCons (sSetC (fr := false) (i := 1) (own := [("x", 2)]) rfl nd rfl rfl (sw_true rfl rfl rfl rfl) (ipSeq (jVar 0)) (by first | (show blkC N_is_head_row (defScope st_is_head_row) _ _ = true; decide +kernel) | rfl) (fun _ _ _ _ _ => gNm nd) (fun _ _ _ _ _ => jtsOne (jtCmp (oNe hu) (jVar 2) (jInt))) (fun _ _ _ _ _ => jVar 2))
      (ssOne (sReturn (jP (jbV (jbAnd (jbOf (jCmp (oNe hu) (jVar 1) (jLst (jaNil)))) (jbOne (jbOf (jCmp oGt (jIx (jVar 1) (jInt)) (jInt)))))))))
theorem nd_cosine_often : (N_cosine_often).Nodup := by decide +kernel
theorem c_cosine_often (D0 : FnP K "cosine_often" st_cosine_often f fd) (hm : mg "cosine_often" = some (.ref f)) (h_is_head_row : Cg P w K mg base 1 "is_head_row" F_is_head_row) (h_fraction_times : Cg P w K mg base 3 "fraction_times" F_fraction_times) (m_any : mg "any" = none) : Cg P w K mg base 4 "cosine_often" F_cosine_often := by
  refine cg_fun (k := 3) (N := N_cosine_often) (ps := ["row", "part", "c"]) D0 hm (D0.bindsN fun _ _ _ _ _ _ us hl => match us, hl with | [_, _, _], _ => rfl) (by decide +kernel) fun cdv A outer s H hr hgd => ?_
  have hu := hr.units
  have nd := nd_cosine_often
  exact ssCons (sIfS (jtP (jtVal (jpCall h_is_head_row hr hgd (jaCons (jVar 0) (jaNil))))) (ssOne (sReturn (jP (jpCall h_fraction_times hr hgd (jaCons (jTup (jaCons (jInt) (jaCons (jInt) (jaNil)))) (jaCons (jVar 2) (jaNil))))))) (ssNil))
      (ssCons (sIfS (jtP (jtW (jwOr (jtVal (jB (cAny rfl) m_any (jaCons (jVar 0) (jaNil)))) (jwOr1 (jtCmp oGe (j2 oMul (jInt) (jIx (jVar 1) (jInt))) (jIx (jVar 1) (jInt))))))) (ssOne (sReturn (jP (jNon)))) (ssNil))
      (ssOne (sReturn (jP (jIf (jtCmp (oEq hu) (jIx (jVar 1) (jInt)) (jInt)) (jVar 2) (jpCall h_fraction_times hr hgd (jaCons (jTup (jaCons (jInt) (jaCons (jInt) (jaNil)))) (jaCons (jVar 2) (jaNil)))))))))
theorem nd_cosine_form : (N_cosine_form).Nodup := by decide +kernel
theorem c_cosine_form (D0 : FnP K "cosine_form" st_cosine_form f fd) (hm : mg "cosine_form" = some (.ref f)) (h_cosine_often : Cg P w K mg base 4 "cosine_often" F_cosine_often) (m_tuple : mg "tuple" = none) : Cg P w K mg base 5 "cosine_form" F_cosine_form := by
  refine cg_fun (k := 4) (N := N_cosine_form) (ps := ["one"]) D0 hm (D0.bindsN fun _ _ _ _ _ _ us hl => match us, hl with | [_], _ => rfl) (by decide +kernel) fun cdv A outer s H hr hgd => ?_
  have hu := hr.units
  have nd := nd_cosine_form
  exact ssCons (sSetO (i := 1) nd (jF (jLst (jaNil))))
      (ssCons (sForS PassesOwn.never rfl (iSeq (jVar 0)) (gTp rfl (gsCons (gNm nd) (gsCons (gNm nd) (gsCons (gNm nd) (gsNil))))) (ssCons (sSetV (i := 5) nd (jP (jpCall h_cosine_often hr hgd (jaCons (jVar 2) (jaCons (jVar 3) (jaCons (jVar 4) (jaNil)))))))
      (ssOne (sIfS (jtP (jtCmp oNotN (jVar 5) (jNon))) (ssOne (sAppS (i := 1) (jP (jTup (jaCons (jVar 2) (jaCons (jVar 3) (jaCons (jVar 5) (jaNil)))))))) (ssNil)))))
      (ssOne (sReturn (jP (jTy cTuple m_tuple (jaCons (jOwn 1) (jaNil)))))))
theorem nd_turns_of_cosines : (N_turns_of_cosines).Nodup := by decide +kernel
theorem c_turns_of_cosines (D0 : FnP K "turns_of_cosines" st_turns_of_cosines f fd) (hm : mg "turns_of_cosines" = some (.ref f)) (h_terms_merged : Cg P w K mg base 6 "terms_merged" F_terms_merged) (h_sum_often : Cg P w K mg base 7 "sum_often" F_sum_often) (h_cos_turns : Cg P w K mg base 7 "cos_turns" F_cos_turns) : Cg P w K mg base 8 "turns_of_cosines" F_turns_of_cosines := by
  refine cg_fun (k := 7) (N := N_turns_of_cosines) (ps := ["form"]) D0 hm (D0.bindsN fun _ _ _ _ _ _ us hl => match us, hl with | [_], _ => rfl) (by decide +kernel) fun cdv A outer s H hr hgd => ?_
  have hu := hr.units
  have nd := nd_turns_of_cosines
  exact ssCons (sSetO (i := 1) nd (jF (jLst (jaNil))))
      (ssCons (sForS PassesOwn.never rfl (iSeq (jVar 0)) (gTp rfl (gsCons (gNm nd) (gsCons (gNm nd) (gsCons (gNm nd) (gsNil))))) (ssOne (sExtTS (i := 1) (jP (jpCall h_sum_often hr hgd (jaCons (jVar 4) (jaCons (jpCall h_cos_turns hr hgd (jaCons (jVar 2) (jaCons (jVar 3) (jaNil)))) (jaNil))))))))
      (ssOne (sFrz1 (sReturn (jP (jpCall h_terms_merged hr hgd (jaCons (jVar 1) (jaNil))))))))
theorem nd_sum_power : (N_sum_power).Nodup := by decide +kernel
theorem c_sum_power (D0 : FnP K "sum_power" st_sum_power f fd) (hm : mg "sum_power" = some (.ref f)) (h_told_turns : Cg P w K mg base 8 "told_turns" F_told_turns) (h_sums_times : Cg P w K mg base 7 "sums_times" F_sums_times) (m_range : mg "range" = none) : Cg P w K mg base 9 "sum_power" F_sum_power := by
  refine cg_fun (k := 8) (N := N_sum_power) (ps := ["n", "one", "k"]) D0 hm (D0.bindsN fun _ _ _ _ _ _ us hl => match us, hl with | [_, _, _], _ => rfl) (by decide +kernel) fun cdv A outer s H hr hgd => ?_
  have hu := hr.units
  have nd := nd_sum_power
  exact ssCons (sSetV (i := 3) nd (jP (jpCall h_told_turns hr hgd (jaCons (jVar 0) (jaCons (jTup (jaCons (jInt) (jaCons (jInt) (jaNil)))) (jaNil))))))
      (ssCons (sForS PassesOwn.never rfl (iR1 m_range (jVar 2)) (gNm nd) (ssOne (sSetV (i := 3) nd (jP (jpCall h_sums_times hr hgd (jaCons (jVar 3) (jaCons (jVar 1) (jaNil))))))))
      (ssOne (sReturn (jP (jVar 3)))))
theorem nd_two_cosines : (N_two_cosines).Nodup := by decide +kernel
theorem c_two_cosines (D0 : FnP K "two_cosines" st_two_cosines f fd) (hm : mg "two_cosines" = some (.ref f)) (h_sum_often : Cg P w K mg base 7 "sum_often" F_sum_often) (h_cos_turns : Cg P w K mg base 7 "cos_turns" F_cos_turns) : Cg P w K mg base 8 "two_cosines" F_two_cosines := by
  refine cg_fun (k := 7) (N := N_two_cosines) (ps := ["row", "part"]) D0 hm (D0.bindsN fun _ _ _ _ _ _ us hl => match us, hl with | [_, _], _ => rfl) (by decide +kernel) fun cdv A outer s H hr hgd => ?_
  have hu := hr.units
  have nd := nd_two_cosines
  exact ssOne (sReturn (jP (jpCall h_sum_often hr hgd (jaCons (jTup (jaCons (jInt) (jaCons (jInt) (jaNil)))) (jaCons (jpCall h_cos_turns hr hgd (jaCons (jVar 0) (jaCons (jVar 1) (jaNil)))) (jaNil))))))
theorem nd_chosen_out_of : (N_chosen_out_of).Nodup := by decide +kernel
theorem c_chosen_out_of (D0 : FnP K "chosen_out_of" st_chosen_out_of f fd) (hm : mg "chosen_out_of" = some (.ref f)) (m_range : mg "range" = none) : Cg P w K mg base 1 "chosen_out_of" F_chosen_out_of := by
  refine cg_fun (k := 0) (N := N_chosen_out_of) (ps := ["k", "i"]) D0 hm (D0.bindsN fun _ _ _ _ _ _ us hl => match us, hl with | [_, _], _ => rfl) (by decide +kernel) fun cdv A outer s H hr hgd => ?_
  have hu := hr.units
  have nd := nd_chosen_out_of
  exact ssCons (sSetV (i := 2) nd (jP (jInt)))
      (ssCons (sForS PassesOwn.never rfl (iR1 m_range (jVar 1)) (gNm nd) (ssOne (sSetV (i := 2) nd (jP (j2 oFdiv (j2 oMul (jVar 2) (j2 oSub (jVar 0) (jVar 3))) (j2 oAdd (jVar 3) (jInt)))))))
      (ssOne (sReturn (jP (jVar 2)))))
theorem nd_power_by_counts : (N_power_by_counts).Nodup := by decide +kernel
theorem c_power_by_counts (D0 : FnP K "power_by_counts" st_power_by_counts f fd) (hm : mg "power_by_counts" = some (.ref f)) (h_terms_merged : Cg P w K mg base 6 "terms_merged" F_terms_merged) (h_row_times : Cg P w K mg base 1 "row_times" F_row_times) (h_part_times : Cg P w K mg base 4 "part_times" F_part_times) (h_chosen_out_of : Cg P w K mg base 1 "chosen_out_of" F_chosen_out_of) (m_range : mg "range" = none) : Cg P w K mg base 7 "power_by_counts" F_power_by_counts := by
  refine cg_fun (k := 6) (N := N_power_by_counts) (ps := ["row", "part", "k"]) D0 hm (D0.bindsN fun _ _ _ _ _ _ us hl => match us, hl with | [_, _, _], _ => rfl) (by decide +kernel) fun cdv A outer s H hr hgd => ?_
  have hu := hr.units
  have nd := nd_power_by_counts
  exact ssCons (sSetO (i := 3) nd (jF (jLst (jaNil))))
      (ssCons (sForS PassesOwn.never rfl (iR1 m_range (j2 oAdd (jVar 2) (jInt))) (gNm nd) (ssCons (sSetV (i := 5) nd (jP (j2 oSub (jVar 2) (j2 oMul (jInt) (jVar 4)))))
      (ssOne (sAppS (i := 3) (jP (jTup (jaCons (jpCall h_row_times hr hgd (jaCons (jVar 5) (jaCons (jVar 0) (jaNil)))) (jaCons (jpCall h_part_times hr hgd (jaCons (jVar 5) (jaCons (jVar 1) (jaNil)))) (jaCons (jTup (jaCons (jpCall h_chosen_out_of hr hgd (jaCons (jVar 2) (jaCons (jVar 4) (jaNil)))) (jaCons (jInt) (jaNil)))) (jaNil))))))))))
      (ssOne (sFrz1 (sReturn (jP (jpCall h_terms_merged hr hgd (jaCons (jVar 3) (jaNil))))))))
theorem nd_next_numbers : (N_next_numbers).Nodup := by decide +kernel
theorem c_next_numbers (D0 : FnP K "next_numbers" st_next_numbers f fd) (hm : mg "next_numbers" = some (.ref f)) (m_zip : mg "zip" = none) (m_len : mg "len" = none) : Cg P w K mg base 1 "next_numbers" F_next_numbers := by
  refine cg_fun (k := 0) (N := N_next_numbers) (ps := ["older", "here"]) D0 hm (D0.bindsN fun _ _ _ _ _ _ us hl => match us, hl with | [_, _], _ => rfl) (by decide +kernel) fun cdv A outer s H hr hgd => ?_
  have hu := hr.units
  have nd := nd_next_numbers
  exact ssCons (sSetV (i := 2) nd (jP (jLstS (jsCons (jInt) (jsStar (jVar 1) (jsNil))))))
      (ssOne (sReturn (jP (jComp (own := [("x", 3), ("y", 4)]) rfl nd (ipZip m_zip (jVar 2) (j2 oAdd (jVar 0) (j2 oRep (jLst (jaCons (jInt) (jaNil))) (j2 oSub (jB cLen m_len (jaCons (jVar 2) (jaNil))) (jB cLen m_len (jaCons (jVar 0) (jaNil))))))) (by first | (show blkC N_next_numbers (defScope st_next_numbers) _ _ = true; decide +kernel) | rfl) (fun _ _ _ _ _ => gTp rfl (gsCons (gNm nd) (gsCons (gNm nd) (gsNil)))) (fun _ _ _ _ _ => jtsNil) (fun _ _ _ _ _ => j2 oSub (jVar 3) (jVar 4))))))
theorem nd_multiple_numbers : (N_multiple_numbers).Nodup := by decide +kernel
theorem c_multiple_numbers (D0 : FnP K "multiple_numbers" st_multiple_numbers f fd) (hm : mg "multiple_numbers" = some (.ref f)) (h_next_numbers : Cg P w K mg base 1 "next_numbers" F_next_numbers) (m_range : mg "range" = none) (m_tuple : mg "tuple" = none) : Cg P w K mg base 2 "multiple_numbers" F_multiple_numbers := by
  refine cg_fun (k := 1) (N := N_multiple_numbers) (ps := ["k"]) D0 hm (D0.bindsN fun _ _ _ _ _ _ us hl => match us, hl with | [_], _ => rfl) (by decide +kernel) fun cdv A outer s H hr hgd => ?_
  have hu := hr.units
  have nd := nd_multiple_numbers
  exact ssCons (sPar2 rfl nd (jacCons (jP (jLst (jaCons (jInt) (jaNil)))) (jacCons (jP (jLst (jaCons (jInt) (jaCons (jInt) (jaNil))))) (jacNil))))
      (ssCons (sForS PassesOwn.never rfl (iR1 m_range (jVar 0)) (gNm nd) (ssOne (sPar2 rfl nd (jacCons (jP (jVar 3)) (jacCons (jP (jpCall h_next_numbers hr hgd (jaCons (jVar 2) (jaCons (jVar 3) (jaNil))))) (jacNil))))))
      (ssOne (sReturn (jP (jTy cTuple m_tuple (jaCons (jVar 2) (jaNil)))))))
theorem nd_sum_at_polynomial : (N_sum_at_polynomial).Nodup := by decide +kernel
theorem c_sum_at_polynomial (D0 : FnP K "sum_at_polynomial" st_sum_at_polynomial f fd) (hm : mg "sum_at_polynomial" = some (.ref f)) (h_sums_added : Cg P w K mg base 7 "sums_added" F_sums_added) (h_sums_times : Cg P w K mg base 7 "sums_times" F_sums_times) (h_told_turns : Cg P w K mg base 8 "told_turns" F_told_turns) : Cg P w K mg base 9 "sum_at_polynomial" F_sum_at_polynomial := by
  refine cg_fun (k := 8) (N := N_sum_at_polynomial) (ps := ["n", "numbers", "one"]) D0 hm (D0.bindsN fun _ _ _ _ _ _ us hl => match us, hl with | [_, _, _], _ => rfl) (by decide +kernel) fun cdv A outer s H hr hgd => ?_
  have hu := hr.units
  have nd := nd_sum_at_polynomial
  exact ssCons (sSetV (i := 3) nd (jP (jTup (jaNil))))
      (ssCons (sForS PassesOwn.never rfl (iSeq (jRevT (jVar 1))) (gNm nd) (ssOne (sSetV (i := 3) nd (jP (jpCall h_sums_added hr hgd (jaCons (jpCall h_sums_times hr hgd (jaCons (jVar 3) (jaCons (jVar 2) (jaNil)))) (jaCons (jpCall h_told_turns hr hgd (jaCons (jVar 0) (jaCons (jTup (jaCons (jVar 4) (jaCons (jInt) (jaNil)))) (jaNil)))) (jaNil))))))))
      (ssOne (sReturn (jP (jVar 3)))))
theorem nd__law_open_cells : (N__law_open_cells).Nodup := by decide +kernel
theorem c__law_open_cells (D0 : FnP K "_law_open_cells" st__law_open_cells f fd) (hm : mg "_law_open_cells" = some (.ref f)) (m_abs : mg "abs" = none) (m_int : mg "int" = none) : Cg P w K mg base 1 "_law_open_cells" F__law_open_cells := by
  refine cg_fun (k := 0) (N := N__law_open_cells) (ps := ["script"]) D0 hm (D0.bindsN fun _ _ _ _ _ _ us hl => match us, hl with | [_], _ => rfl) (by decide +kernel) fun cdv A outer s H hr hgd => ?_
  have hu := hr.units
  have nd := nd__law_open_cells
  exact ssCons (sSetV (i := 1) nd (jP (jInt)))
      (ssCons (sForS PassesOwn.never rfl (iScrI (i := 0)) (gNm nd) (ssOne (sSetV (i := 1) nd (jP (j2 oMod (jTy cInt m_int (jaCons (j2 oAdd (j2 oAdd (j2 oMul (jVar 1) (jInt)) (j2 oMul (jVar 2) (jInt))) (jInt)) (jaNil))) (jInt))))))
      (ssCons (sSetC (fr := false) (i := 3) (own := [("cell", 2)]) rfl nd rfl rfl (sw_true rfl rfl rfl rfl) (ipScrI (i := 0)) (by first | (show blkC N__law_open_cells (defScope st__law_open_cells) _ _ = true; decide +kernel) | rfl) (fun _ _ _ _ _ => gNm nd) (fun _ _ _ _ _ => jtsNil) (fun _ _ _ _ _ => jB cAbs m_abs (jaCons (jVar 2) (jaNil))))
      (ssOne (sReturn (jSrcNew (jRevL (jVar 3)) (jInt) (jVar 1) (jInt))))))
theorem nd__law_pick : (N__law_pick).Nodup := by decide +kernel
theorem c__law_pick (D0 : FnP K "_law_pick" st__law_pick f fd) (hm : mg "_law_pick" = some (.ref f)) (m_int : mg "int" = none) (m_len : mg "len" = none) : Cg P w K mg base 1 "_law_pick" F__law_pick := by
  refine cg_fun (k := 0) (N := N__law_pick) (ps := ["source", "most"]) D0 hm (D0.bindsN fun _ _ _ _ _ _ us hl => match us, hl with | [_, _], _ => rfl) (by decide +kernel) fun cdv A outer s H hr hgd => ?_
  have hu := hr.units
  have nd := nd__law_pick
  exact ssCons (sIfS (jtP (jtCmp oLt (jVar 1) (jInt))) (ssOne (sReturn (jP (jInt)))) (ssNil))
      (ssAlias (i := 0) (j := 2) PassesOwn.never hu nd (jtCmp oLt (jSrc (i := 0) hu) (jInt)) m_len
      (ssCons (sSetV (i := 3) nd (jP (jSrc (i := 0) hu)))
      (ssCons (sIfS (jtP (jtCmp oGt (jVar 3) (jInt))) (ssCons (sSrcPutS (i := 0) hu (j2 oFdiv (jVar 3) (jVar 1)))
      (ssOne (sReturn (jP (j2 oMod (jTy cInt m_int (jaCons (jVar 3) (jaNil))) (jVar 1)))))) (ssNil))
      (ssCons (sSrcPutS (i := 0) hu (j2 oAdd (jSrc (i := 0) hu) (jInt)))
      (ssCons (sSetV (i := 4) nd (jP (jSrc (i := 0) hu)))
      (ssCons (sSetV (i := 5) nd (jP (j2 oMod (jTy cInt m_int (jaCons (j2 oAdd (jSrc (i := 0) hu) (j2 oMul (jVar 4) (jInt))) (jaNil))) (jInt))))
      (ssCons (sSetV (i := 5) nd (jP (j2 oMod (jTy cInt m_int (jaCons (j2 oAdd (j2 oMul (jVar 5) (jVar 5)) (j2 oMul (jVar 4) (jInt))) (jaNil))) (jInt))))
      (ssOne (sReturn (jP (j2 oMod (jTy cInt m_int (jaCons (j2 oFdiv (jVar 5) (jInt)) (jaNil))) (jVar 1))))))))))))
theorem nd__law_any_order : (N__law_any_order).Nodup := by decide +kernel
theorem c__law_any_order (D0 : FnP K "_law_any_order" st__law_any_order f fd) (hm : mg "_law_any_order" = some (.ref f)) (h__law_pick : Cg P w K mg base 1 "_law_pick" F__law_pick) (m_list : mg "list" = none) (m_range : mg "range" = none) (m_len : mg "len" = none) : Cg P w K mg base 2 "_law_any_order" F__law_any_order := by
  refine cg_fun (k := 1) (N := N__law_any_order) (ps := ["source", "things"]) D0 hm (D0.bindsN fun _ _ _ _ _ _ us hl => match us, hl with | [_, _], _ => rfl) (by decide +kernel) fun cdv A outer s H hr hgd => ?_
  have hu := hr.units
  have nd := nd__law_any_order
  exact ssCons (sSetO (i := 2) nd (jF (jTy cList m_list (jaCons (jVar 1) (jaNil)))))
      (ssOne (sReturn (jEComp (own := [("lap", 3)]) rfl nd (iR1 m_range (jB cLen m_len (jaCons (jOwn 2) (jaNil)))) (by first | (show blkC N__law_any_order (defScope st__law_any_order) _ _ = true; decide +kernel) | rfl) (fun _ _ _ _ _ => gNm nd) (fun _ _ _ _ _ => jtseNil) (fun _ _ _ _ _ => jPopI (i := 2) (jCallR (i := 0) h__law_pick hr hgd (jaeCons (jP (jB cLen m_len (jaCons (jOwn 2) (jaNil)))) (jaeNil)))))))
theorem nd__law_of : (N__law_of).Nodup := by decide +kernel
theorem c__law_of (D0 : FnP K "_law_of" st__law_of f fd) (hm : mg "_law_of" = some (.ref f)) (h__law_pick : Cg P w K mg base 1 "_law_pick" F__law_pick) (m_len : mg "len" = none) : Cg P w K mg base 2 "_law_of" F__law_of := by
  refine cg_fun (k := 1) (N := N__law_of) (ps := ["source", "some"]) D0 hm (D0.bindsN fun _ _ _ _ _ _ us hl => match us, hl with | [_, _], _ => rfl) (by decide +kernel) fun cdv A outer s H hr hgd => ?_
  have hu := hr.units
  have nd := nd__law_of
  exact ssOne (sReturn (jEIx (jP (jVar 1)) (jCallR (i := 0) h__law_pick hr hgd (jaeCons (jP (jB cLen m_len (jaCons (jVar 1) (jaNil)))) (jaeNil)))))
theorem nd__law_low : (N__law_low).Nodup := by decide +kernel
theorem c__law_low (D0 : FnP K "_law_low" st__law_low f fd) (hm : mg "_law_low" = some (.ref f)) (m_abs : mg "abs" = none) (m_int : mg "int" = none) : Cg P w K mg base 1 "_law_low" F__law_low := by
  refine cg_fun (k := 0) (N := N__law_low) (ps := ["p", "q"]) D0 hm (D0.bindsN fun _ _ _ _ _ _ us hl => match us, hl with | [_, _], _ => rfl) (by decide +kernel) fun cdv A outer s H hr hgd => ?_
  have hu := hr.units
  have nd := nd__law_low
  exact ssCons (sPar2 rfl nd (jacCons (jP (jB cAbs m_abs (jaCons (jVar 0) (jaNil)))) (jacCons (jP (jVar 1)) (jacNil))))
      (ssCons (sWhileS PassesOwn.never (jtP (jtCmp oGt (jVar 3) (jInt))) (ssOne (sPar2 rfl nd (jacCons (jP (jVar 3)) (jacCons (jP (j2 oMod (jTy cInt m_int (jaCons (jVar 2) (jaNil))) (jVar 3))) (jacNil))))))
      (ssOne (sReturn (jP (jTup (jaCons (j2 oFdiv (jVar 0) (jVar 2)) (jaCons (j2 oFdiv (jVar 1) (jVar 2)) (jaNil))))))))
theorem nd__law_plus : (N__law_plus).Nodup := by decide +kernel
theorem c__law_plus (D0 : FnP K "_law_plus" st__law_plus f fd) (hm : mg "_law_plus" = some (.ref f)) (h__law_low : Cg P w K mg base 1 "_law_low" F__law_low) : Cg P w K mg base 2 "_law_plus" F__law_plus := by
  refine cg_fun (k := 1) (N := N__law_plus) (ps := ["x", "y"]) D0 hm (D0.bindsN fun _ _ _ _ _ _ us hl => match us, hl with | [_, _], _ => rfl) (by decide +kernel) fun cdv A outer s H hr hgd => ?_
  have hu := hr.units
  have nd := nd__law_plus
  exact ssOne (sReturn (jP (jpCall h__law_low hr hgd (jaCons (j2 oAdd (j2 oMul (jIx (jVar 0) (jInt)) (jIx (jVar 1) (jInt))) (j2 oMul (jIx (jVar 1) (jInt)) (jIx (jVar 0) (jInt)))) (jaCons (j2 oMul (jIx (jVar 0) (jInt)) (jIx (jVar 1) (jInt))) (jaNil))))))
theorem nd__law_by : (N__law_by).Nodup := by decide +kernel
theorem c__law_by (D0 : FnP K "_law_by" st__law_by f fd) (hm : mg "_law_by" = some (.ref f)) (h__law_low : Cg P w K mg base 1 "_law_low" F__law_low) : Cg P w K mg base 2 "_law_by" F__law_by := by
  refine cg_fun (k := 1) (N := N__law_by) (ps := ["x", "y"]) D0 hm (D0.bindsN fun _ _ _ _ _ _ us hl => match us, hl with | [_, _], _ => rfl) (by decide +kernel) fun cdv A outer s H hr hgd => ?_
  have hu := hr.units
  have nd := nd__law_by
  exact ssOne (sReturn (jP (jpCall h__law_low hr hgd (jaCons (j2 oMul (jIx (jVar 0) (jInt)) (jIx (jVar 1) (jInt))) (jaCons (j2 oMul (jIx (jVar 0) (jInt)) (jIx (jVar 1) (jInt))) (jaNil))))))
theorem nd__law_part : (N__law_part).Nodup := by decide +kernel
theorem c__law_part (D0 : FnP K "_law_part" st__law_part f fd) (hm : mg "_law_part" = some (.ref f)) (h__law_low : Cg P w K mg base 1 "_law_low" F__law_low) (m_int : mg "int" = none) : Cg P w K mg base 2 "_law_part" F__law_part := by
  refine cg_fun (k := 1) (N := N__law_part) (ps := ["p", "q"]) D0 hm (D0.bindsN fun _ _ _ _ _ _ us hl => match us, hl with | [_, _], _ => rfl) (by decide +kernel) fun cdv A outer s H hr hgd => ?_
  have hu := hr.units
  have nd := nd__law_part
  exact ssOne (sReturn (jP (jpCall h__law_low hr hgd (jaCons (j2 oMod (jTy cInt m_int (jaCons (jVar 0) (jaNil))) (jVar 1)) (jaCons (jVar 1) (jaNil))))))
theorem nd__law_made : (N__law_made).Nodup := by decide +kernel
theorem c__law_made (D0 : FnP K "_law_made" st__law_made f fd) (hm : mg "_law_made" = some (.ref f)) (h__law_plus : Cg P w K mg base 2 "_law_plus" F__law_plus) (h__law_low : Cg P w K mg base 1 "_law_low" F__law_low) (m_tuple : mg "tuple" = none) (m_sorted : mg "sorted" = none) : Cg P w K mg base 3 "_law_made" F__law_made := by
  refine cg_fun (k := 2) (N := N__law_made) (ps := ["terms"]) D0 hm (D0.bindsN fun _ _ _ _ _ _ us hl => match us, hl with | [_], _ => rfl) (by decide +kernel) fun cdv A outer s H hr hgd => ?_
  have hu := hr.units
  have nd := nd__law_made
  exact ssCons (sSetO (i := 1) nd (jF (jDict0)))
      (ssCons (sForS PassesOwn.never rfl (iSeq (jVar 0)) (gTp rfl (gsCons (gNm nd) (gsCons (gTp rfl (gsCons (gNm nd) (gsCons (gNm nd) (gsNil)))) (gsCons (gNm nd) (gsNil))))) (ssCons (sIfS (jtP (jtCmp oGe (j2 oMul (jInt) (jVar 5)) (jVar 6))) (ssOne (sPar3 rfl nd (jacCons (jP (j2 oSub (j2 oMul (jInt) (jVar 5)) (jVar 6))) (jacCons (jP (j2 oMul (jInt) (jVar 6))) (jacCons (jP (jTup (jaCons (j2 oSub (jInt) (jIx (jVar 3) (jInt))) (jaCons (jIx (jVar 3) (jInt)) (jaNil))))) (jacNil)))))) (ssNil))
      (ssCons (sSetV (i := 4) nd (jP (jTup (jaCons (jVar 2) (jaCons (jpCall h__law_low hr hgd (jaCons (jVar 5) (jaCons (jVar 6) (jaNil)))) (jaNil))))))
      (ssOne (sDPutS (i := 1) hu (jpCall h__law_plus hr hgd (jaCons (jGet2 hu (jOwn 1) (jVar 4) (jTup (jaCons (jInt) (jaCons (jInt) (jaNil))))) (jaCons (jVar 3) (jaNil)))) (jVar 4))))))
      (ssOne (sReturn (jP (jTy cTuple m_tuple (jaCons (jComp (own := [("key", 4)]) rfl nd (ipSeq (jB (cSorted rfl hu) m_sorted (jaCons (jOwn 1) (jaNil)))) (by first | (show blkC N__law_made (defScope st__law_made) _ _ = true; decide +kernel) | rfl) (fun _ _ _ _ _ => gNm nd) (fun _ _ _ _ _ => jtsOne (jtCmp (oNe hu) (jIx (jIxK hu (jOwn 1) (jVar 4)) (jInt)) (jInt))) (fun _ _ _ _ _ => j2 oAdd (jVar 4) (jTup (jaCons (jIxK hu (jOwn 1) (jVar 4)) (jaNil))))) (jaNil)))))))
theorem nd__law_product : (N__law_product).Nodup := by decide +kernel
theorem c__law_product (D0 : FnP K "_law_product" st__law_product f fd) (hm : mg "_law_product" = some (.ref f)) (h__law_made : Cg P w K mg base 3 "_law_made" F__law_made) (h__law_plus : Cg P w K mg base 2 "_law_plus" F__law_plus) (h__law_part : Cg P w K mg base 2 "_law_part" F__law_part) (h__law_by : Cg P w K mg base 2 "_law_by" F__law_by) (m_tuple : mg "tuple" = none) (m_zip : mg "zip" = none) : Cg P w K mg base 4 "_law_product" F__law_product := by
  refine cg_fun (k := 3) (N := N__law_product) (ps := ["one", "other"]) D0 hm (D0.bindsN fun _ _ _ _ _ _ us hl => match us, hl with | [_, _], _ => rfl) (by decide +kernel) fun cdv A outer s H hr hgd => ?_
  have hu := hr.units
  have nd := nd__law_product
  exact ssCons (sSetO (i := 2) nd (jF (jLst (jaNil))))
      (ssCons (sForS PassesOwn.never rfl (iSeq (jVar 0)) (gTp rfl (gsCons (gNm nd) (gsCons (gNm nd) (gsCons (gNm nd) (gsNil))))) (ssOne (sForS PassesOwn.never rfl (iSeq (jVar 1)) (gTp rfl (gsCons (gNm nd) (gsCons (gNm nd) (gsCons (gNm nd) (gsNil))))) (ssCons (sAsg (jP (jpCall h__law_plus hr hgd (jaCons (jVar 4) (jaCons (jVar 7) (jaNil))))) (gTp rfl (gsCons (gNm nd) (gsCons (gNm nd) (gsNil)))))
      (ssOne (sAppS (i := 2) (jP (jTup (jaCons (jTy cTuple m_tuple (jaCons (jComp (own := [("x", 11), ("y", 12)]) rfl nd (ipZip m_zip (jVar 3) (jVar 6)) (by first | (show blkC N__law_product (defScope st__law_product) _ _ = true; decide +kernel) | rfl) (fun _ _ _ _ _ => gTp rfl (gsCons (gNm nd) (gsCons (gNm nd) (gsNil)))) (fun _ _ _ _ _ => jtsNil) (fun _ _ _ _ _ => j2 oAdd (jVar 11) (jVar 12))) (jaNil))) (jaCons (jpCall h__law_part hr hgd (jaCons (jVar 9) (jaCons (jVar 10) (jaNil)))) (jaCons (jpCall h__law_by hr hgd (jaCons (jVar 5) (jaCons (jVar 8) (jaNil)))) (jaNil))))))))))))
      (ssOne (sFrz1 (sReturn (jP (jpCall h__law_made hr hgd (jaCons (jVar 2) (jaNil))))))))
theorem nd__law_often : (N__law_often).Nodup := by decide +kernel
theorem c__law_often (D0 : FnP K "_law_often" st__law_often f fd) (hm : mg "_law_often" = some (.ref f)) (h__law_made : Cg P w K mg base 3 "_law_made" F__law_made) (h__law_by : Cg P w K mg base 2 "_law_by" F__law_by) : Cg P w K mg base 4 "_law_often" F__law_often := by
  refine cg_fun (k := 3) (N := N__law_often) (ps := ["c", "one"]) D0 hm (D0.bindsN fun _ _ _ _ _ _ us hl => match us, hl with | [_, _], _ => rfl) (by decide +kernel) fun cdv A outer s H hr hgd => ?_
  have hu := hr.units
  have nd := nd__law_often
  exact ssOne (sReturn (jP (jpCall h__law_made hr hgd (jaCons (jComp (own := [("row", 2), ("part", 3), ("d", 4)]) rfl nd (ipSeq (jVar 1)) (by first | (show blkC N__law_often (defScope st__law_often) _ _ = true; decide +kernel) | rfl) (fun _ _ _ _ _ => gTp rfl (gsCons (gNm nd) (gsCons (gNm nd) (gsCons (gNm nd) (gsNil))))) (fun _ _ _ _ _ => jtsNil) (fun _ _ _ _ _ => jTup (jaCons (jVar 2) (jaCons (jVar 3) (jaCons (jpCall h__law_by hr hgd (jaCons (jVar 0) (jaCons (jVar 4) (jaNil)))) (jaNil)))))) (jaNil)))))
theorem nd__law_mirrored : (N__law_mirrored).Nodup := by decide +kernel
theorem c__law_mirrored (D0 : FnP K "_law_mirrored" st__law_mirrored f fd) (hm : mg "_law_mirrored" = some (.ref f)) (h__law_made : Cg P w K mg base 3 "_law_made" F__law_made) (h__law_part : Cg P w K mg base 2 "_law_part" F__law_part) (m_tuple : mg "tuple" = none) : Cg P w K mg base 4 "_law_mirrored" F__law_mirrored := by
  refine cg_fun (k := 3) (N := N__law_mirrored) (ps := ["one"]) D0 hm (D0.bindsN fun _ _ _ _ _ _ us hl => match us, hl with | [_], _ => rfl) (by decide +kernel) fun cdv A outer s H hr hgd => ?_
  have hu := hr.units
  have nd := nd__law_mirrored
  exact ssOne (sReturn (jP (jpCall h__law_made hr hgd (jaCons (jComp (own := [("row", 1), ("c", 2), ("p", 3), ("q", 4)]) rfl nd (ipSeq (jVar 0)) (by first | (show blkC N__law_mirrored (defScope st__law_mirrored) _ _ = true; decide +kernel) | rfl) (fun _ _ _ _ _ => gTp rfl (gsCons (gNm nd) (gsCons (gTp rfl (gsCons (gNm nd) (gsCons (gNm nd) (gsNil)))) (gsCons (gNm nd) (gsNil))))) (fun _ _ _ _ _ => jtsNil) (fun _ _ _ _ _ => jTup (jaCons (jTy cTuple m_tuple (jaCons (jComp (own := [("x", 5)]) rfl nd (ipSeq (jVar 1)) (by first | (show blkC N__law_mirrored (defScope st__law_mirrored) _ _ = true; decide +kernel) | rfl) (fun _ _ _ _ _ => gNm nd) (fun _ _ _ _ _ => jtsNil) (fun _ _ _ _ _ => j2 oSub (jInt) (jVar 5))) (jaNil))) (jaCons (jpCall h__law_part hr hgd (jaCons (j2 oSub (jInt) (jVar 3)) (jaCons (jVar 4) (jaNil)))) (jaCons (jVar 2) (jaNil)))))) (jaNil)))))
theorem nd__law_cos : (N__law_cos).Nodup := by decide +kernel
theorem c__law_cos (D0 : FnP K "_law_cos" st__law_cos f fd) (hm : mg "_law_cos" = some (.ref f)) (h__law_made : Cg P w K mg base 3 "_law_made" F__law_made) (h__law_part : Cg P w K mg base 2 "_law_part" F__law_part) (m_tuple : mg "tuple" = none) : Cg P w K mg base 4 "_law_cos" F__law_cos := by
  refine cg_fun (k := 3) (N := N__law_cos) (ps := ["row", "part"]) D0 hm (D0.bindsN fun _ _ _ _ _ _ us hl => match us, hl with | [_, _], _ => rfl) (by decide +kernel) fun cdv A outer s H hr hgd => ?_
  have hu := hr.units
  have nd := nd__law_cos
  exact ssOne (sReturn (jP (jpCall h__law_made hr hgd (jaCons (jLst (jaCons (jTup (jaCons (jVar 0) (jaCons (jVar 1) (jaCons (jTup (jaCons (jInt) (jaCons (jInt) (jaNil)))) (jaNil))))) (jaCons (jTup (jaCons (jTy cTuple m_tuple (jaCons (jComp (own := [("x", 2)]) rfl nd (ipSeq (jVar 0)) (by first | (show blkC N__law_cos (defScope st__law_cos) _ _ = true; decide +kernel) | rfl) (fun _ _ _ _ _ => gNm nd) (fun _ _ _ _ _ => jtsNil) (fun _ _ _ _ _ => j2 oSub (jInt) (jVar 2))) (jaNil))) (jaCons (jpCall h__law_part hr hgd (jaCons (j2 oSub (jInt) (jIx (jVar 1) (jInt))) (jaCons (jIx (jVar 1) (jInt)) (jaNil)))) (jaCons (jTup (jaCons (jInt) (jaCons (jInt) (jaNil)))) (jaNil))))) (jaNil)))) (jaNil)))))
theorem nd__law_sin : (N__law_sin).Nodup := by decide +kernel
theorem c__law_sin (D0 : FnP K "_law_sin" st__law_sin f fd) (hm : mg "_law_sin" = some (.ref f)) (h__law_plus : Cg P w K mg base 2 "_law_plus" F__law_plus) (h__law_cos : Cg P w K mg base 4 "_law_cos" F__law_cos) (h__law_part : Cg P w K mg base 2 "_law_part" F__law_part) : Cg P w K mg base 5 "_law_sin" F__law_sin := by
  refine cg_fun (k := 4) (N := N__law_sin) (ps := ["row", "part"]) D0 hm (D0.bindsN fun _ _ _ _ _ _ us hl => match us, hl with | [_, _], _ => rfl) (by decide +kernel) fun cdv A outer s H hr hgd => ?_
  have hu := hr.units
  have nd := nd__law_sin
  exact ssCons (sAsg (jP (jpCall h__law_plus hr hgd (jaCons (jVar 1) (jaCons (jTup (jaCons (jInt) (jaCons (jInt) (jaNil)))) (jaNil))))) (gTp rfl (gsCons (gNm nd) (gsCons (gNm nd) (gsNil)))))
      (ssOne (sReturn (jP (jpCall h__law_cos hr hgd (jaCons (jVar 0) (jaCons (jpCall h__law_part hr hgd (jaCons (jVar 2) (jaCons (jVar 3) (jaNil)))) (jaNil)))))))
theorem nd__law_drawn_part : (N__law_drawn_part).Nodup := by decide +kernel
theorem c__law_drawn_part (D0 : FnP K "_law_drawn_part" st__law_drawn_part f fd) (hm : mg "_law_drawn_part" = some (.ref f)) (h__law_of : Cg P w K mg base 2 "_law_of" F__law_of) (h__law_part : Cg P w K mg base 2 "_law_part" F__law_part) (h__law_pick : Cg P w K mg base 1 "_law_pick" F__law_pick) : Cg P w K mg base 3 "_law_drawn_part" F__law_drawn_part := by
  refine cg_fun (k := 2) (N := N__law_drawn_part) (ps := ["source"]) D0 hm (D0.bindsN fun _ _ _ _ _ _ us hl => match us, hl with | [_], _ => rfl) (by decide +kernel) fun cdv A outer s H hr hgd => ?_
  have hu := hr.units
  have nd := nd__law_drawn_part
  exact ssCons (sSetV (i := 1) nd (jCallR (i := 0) h__law_of hr hgd (jaeCons (jP (jLst (jaCons (jInt) (jaCons (jInt) (jaCons (jInt) (jaCons (jInt) (jaCons (jInt) (jaCons (jInt) (jaCons (jInt) (jaCons (jInt) (jaCons (jInt) (jaCons (jInt) (jaCons (jInt) (jaNil)))))))))))))) (jaeNil))))
      (ssOne (sReturn (jCallV h__law_part hr hgd (jaeCons (jCallR (i := 0) h__law_pick hr hgd (jaeCons (jP (jVar 1)) (jaeNil))) (jaeCons (jP (jVar 1)) (jaeNil))))))
theorem nd__law_drawn_fraction : (N__law_drawn_fraction).Nodup := by decide +kernel
theorem c__law_drawn_fraction (D0 : FnP K "_law_drawn_fraction" st__law_drawn_fraction f fd) (hm : mg "_law_drawn_fraction" = some (.ref f)) (h__law_low : Cg P w K mg base 1 "_law_low" F__law_low) (h__law_of : Cg P w K mg base 2 "_law_of" F__law_of) : Cg P w K mg base 3 "_law_drawn_fraction" F__law_drawn_fraction := by
  refine cg_fun (k := 2) (N := N__law_drawn_fraction) (ps := ["source"]) D0 hm (D0.bindsN fun _ _ _ _ _ _ us hl => match us, hl with | [_], _ => rfl) (by decide +kernel) fun cdv A outer s H hr hgd => ?_
  have hu := hr.units
  have nd := nd__law_drawn_fraction
  exact ssOne (sReturn (jCallV h__law_low hr hgd (jaeCons (jCallR (i := 0) h__law_of hr hgd (jaeCons (jP (jLst (jaCons (jInt) (jaCons (jNeg oNeg (jInt)) (jaCons (jInt) (jaCons (jNeg oNeg (jInt)) (jaCons (jInt) (jaCons (jNeg oNeg (jInt)) (jaNil))))))))) (jaeNil))) (jaeCons (jCallR (i := 0) h__law_of hr hgd (jaeCons (jP (jLst (jaCons (jInt) (jaCons (jInt) (jaCons (jInt) (jaCons (jInt) (jaNil))))))) (jaeNil))) (jaeNil)))))
theorem nd__law_drawn_row : (N__law_drawn_row).Nodup := by decide +kernel
theorem c__law_drawn_row (D0 : FnP K "_law_drawn_row" st__law_drawn_row f fd) (hm : mg "_law_drawn_row" = some (.ref f)) (h__law_pick : Cg P w K mg base 1 "_law_pick" F__law_pick) (m_tuple : mg "tuple" = none) (m_range : mg "range" = none) : Cg P w K mg base 2 "_law_drawn_row" F__law_drawn_row := by
  refine cg_fun (k := 1) (N := N__law_drawn_row) (ps := ["source", "n"]) D0 hm (D0.bindsN fun _ _ _ _ _ _ us hl => match us, hl with | [_, _], _ => rfl) (by decide +kernel) fun cdv A outer s H hr hgd => ?_
  have hu := hr.units
  have nd := nd__law_drawn_row
  exact ssOne (sReturn (jETy cTuple m_tuple (jaeCons (jEComp (own := [("place", 2)]) rfl nd (iR1 m_range (jVar 1)) (by first | (show blkC N__law_drawn_row (defScope st__law_drawn_row) _ _ = true; decide +kernel) | rfl) (fun _ _ _ _ _ => gNm nd) (fun _ _ _ _ _ => jtseNil) (fun _ _ _ _ _ => jE2 oSub (jCallR (i := 0) h__law_pick hr hgd (jaeCons (jP (jInt)) (jaeNil))) (jP (jInt)))) (jaeNil))))
theorem nd__law_drawn_terms : (N__law_drawn_terms).Nodup := by decide +kernel
theorem c__law_drawn_terms (D0 : FnP K "_law_drawn_terms" st__law_drawn_terms f fd) (hm : mg "_law_drawn_terms" = some (.ref f)) (h__law_drawn_row : Cg P w K mg base 2 "_law_drawn_row" F__law_drawn_row) (h__law_pick : Cg P w K mg base 1 "_law_pick" F__law_pick) (h__law_of : Cg P w K mg base 2 "_law_of" F__law_of) (h__law_drawn_part : Cg P w K mg base 3 "_law_drawn_part" F__law_drawn_part) (h__law_drawn_fraction : Cg P w K mg base 3 "_law_drawn_fraction" F__law_drawn_fraction) (m_range : mg "range" = none) : Cg P w K mg base 4 "_law_drawn_terms" F__law_drawn_terms := by
  refine cg_fun (k := 3) (N := N__law_drawn_terms) (ps := ["source", "n", "most"]) D0 hm (D0.bindsN fun _ _ _ _ _ _ us hl => match us, hl with | [_, _, _], _ => rfl) (by decide +kernel) fun cdv A outer s H hr hgd => ?_
  have hu := hr.units
  have nd := nd__law_drawn_terms
  exact ssCons (sSetCE (fr := false) (i := 3) (own := [("turn", 5)]) rfl nd rfl rfl (sw_true rfl rfl rfl rfl) (iR1 m_range (jInt)) (by first | (show blkC N__law_drawn_terms (defScope st__law_drawn_terms) _ _ = true; decide +kernel) | rfl) (fun _ _ _ _ _ => gNm nd) (fun _ _ _ _ _ => jtseNil) (fun _ _ _ _ _ => jCallR (i := 0) h__law_drawn_row hr hgd (jaeCons (jP (jVar 1)) (jaeNil))))
      (ssCons (sSetO (i := 4) nd (jF (jLst (jaNil))))
      (ssCons (sForS PassesOwn.never rfl (iRE1 m_range (jCallR (i := 0) h__law_pick hr hgd (jaeCons (jP (j2 oAdd (jVar 2) (jInt))) (jaeNil)))) (gNm nd) (ssOne (sAppS (i := 4) (jETup (jaeCons (jCallR (i := 0) h__law_of hr hgd (jaeCons (jP (jVar 3)) (jaeNil))) (jaeCons (jCallR (i := 0) h__law_drawn_part hr hgd (jaeNil)) (jaeCons (jCallR (i := 0) h__law_drawn_fraction hr hgd (jaeNil)) (jaeNil))))))))
      (ssOne (sReturn (jMv (i := 4))))))
theorem nd__law_form : (N__law_form).Nodup := by decide +kernel
theorem c__law_form (D0 : FnP K "_law_form" st__law_form f fd) (hm : mg "_law_form" = some (.ref f)) (h__law_by : Cg P w K mg base 2 "_law_by" F__law_by) (m_tuple : mg "tuple" = none) : Cg P w K mg base 3 "_law_form" F__law_form := by
  refine cg_fun (k := 2) (N := N__law_form) (ps := ["even"]) D0 hm (D0.bindsN fun _ _ _ _ _ _ us hl => match us, hl with | [_], _ => rfl) (by decide +kernel) fun cdv A outer s H hr hgd => ?_
  have hu := hr.units
  have nd := nd__law_form
  exact ssCons (sSetO (i := 1) nd (jF (jLst (jaNil))))
      (ssCons (sForS PassesOwn.never rfl (iSeq (jVar 0)) (gTp rfl (gsCons (gNm nd) (gsCons (gNm nd) (gsCons (gNm nd) (gsNil))))) (ssCons (sSetC (fr := false) (i := 5) (own := [("x", 6)]) rfl nd rfl rfl (sw_true rfl rfl rfl rfl) (ipSeq (jVar 2)) (by first | (show blkC N__law_form (defScope st__law_form) _ _ = true; decide +kernel) | rfl) (fun _ _ _ _ _ => gNm nd) (fun _ _ _ _ _ => jtsOne (jtCmp (oNe hu) (jVar 6) (jInt))) (fun _ _ _ _ _ => jVar 6))
      (ssOne (sIfS (jtP (jtW (jwOr (jtW (jwAnd (jtCmp (oNe hu) (jVar 5) (jLst (jaNil))) (jwAnd1 (jtCmp oGt (jIx (jVar 5) (jInt)) (jInt))))) (jwOr1 (jtW (jwAnd (jtCmp (oEq hu) (jVar 5) (jLst (jaNil))) (jwAnd1 (jtChain oLt oLt (jInt) (j2 oMul (jInt) (jIx (jVar 3) (jInt))) (jIx (jVar 3) (jInt)))))))))) (ssOne (sAppS (i := 1) (jP (jTup (jaCons (jVar 2) (jaCons (jVar 3) (jaCons (jpCall h__law_by hr hgd (jaCons (jTup (jaCons (jInt) (jaCons (jInt) (jaNil)))) (jaCons (jVar 4) (jaNil)))) (jaNil)))))))) (ssOne (sIfS (jtP (jtW (jwAnd (jtCmp (oEq hu) (jVar 5) (jLst (jaNil))) (jwAnd1 (jtCmp (oEq hu) (jVar 3) (jTup (jaCons (jInt) (jaCons (jInt) (jaNil))))))))) (ssOne (sAppS (i := 1) (jP (jTup (jaCons (jVar 2) (jaCons (jVar 3) (jaCons (jVar 4) (jaNil)))))))) (ssNil)))))))
      (ssOne (sReturn (jP (jTy cTuple m_tuple (jaCons (jOwn 1) (jaNil)))))))
theorem nd__law_ring_right : (N__law_ring_right).Nodup := by decide +kernel
theorem c__law_ring_right (D0 : FnP K "_law_ring_right" st__law_ring_right f fd) (hm : mg "_law_ring_right" = some (.ref f)) (h__law_drawn_fraction : Cg P w K mg base 3 "_law_drawn_fraction" F__law_drawn_fraction) (h_told_turns : Cg P w K mg base 8 "told_turns" F_told_turns) (h__law_drawn_terms : Cg P w K mg base 4 "_law_drawn_terms" F__law_drawn_terms) (h__law_made : Cg P w K mg base 3 "_law_made" F__law_made) (h_sums_added : Cg P w K mg base 7 "sums_added" F_sums_added) (h_sum_often : Cg P w K mg base 7 "sum_often" F_sum_often) (h_sums_times : Cg P w K mg base 7 "sums_times" F_sums_times) (h__law_often : Cg P w K mg base 4 "_law_often" F__law_often) (h__law_product : Cg P w K mg base 4 "_law_product" F__law_product) (h_terms_merged : Cg P w K mg base 6 "terms_merged" F_terms_merged) (h__law_any_order : Cg P w K mg base 2 "_law_any_order" F__law_any_order) (m_repr : mg "repr" = none) (m_range : mg "range" = none) (m_tuple : mg "tuple" = none) : Cg P w K mg base 9 "_law_ring_right" F__law_ring_right := by
  refine cg_fun (k := 8) (N := N__law_ring_right) (ps := ["source", "n"]) D0 hm (D0.bindsN fun _ _ _ _ _ _ us hl => match us, hl with | [_, _], _ => rfl) (by decide +kernel) fun cdv A outer s H hr hgd => ?_
  have hu := hr.units
  have nd := nd__law_ring_right
  exact ssCons (sSetCE (fr := false) (i := 2) (own := [("lap", 10)]) rfl nd rfl rfl (sw_true rfl rfl rfl rfl) (iR1 m_range (jInt)) (by first | (show blkC N__law_ring_right (defScope st__law_ring_right) _ _ = true; decide +kernel) | rfl) (fun _ _ _ _ _ => gNm nd) (fun _ _ _ _ _ => jtseNil) (fun _ _ _ _ _ => jCallR (i := 0) h__law_drawn_terms hr hgd (jaeCons (jP (jVar 1)) (jaeCons (jP (jInt)) (jaeNil)))))
      (ssCons (sAsg (jP (jComp (own := [("terms", 11)]) rfl nd (ipSeq (jVar 2)) (by first | (show blkC N__law_ring_right (defScope st__law_ring_right) _ _ = true; decide +kernel) | rfl) (fun _ _ _ _ _ => gNm nd) (fun _ _ _ _ _ => jtsNil) (fun _ _ _ _ _ => jpCall h__law_made hr hgd (jaCons (jVar 11) (jaNil))))) (gTl rfl (gsCons (gNm nd) (gsCons (gNm nd) (gsCons (gNm nd) (gsNil))))))
      (ssCons (sIfS (jtP (jtCmp (oNe hu) (jB (cRepr hu hgd) m_repr (jaCons (jComp (own := [("terms", 11)]) rfl nd (ipSeq (jVar 2)) (by first | (show blkC N__law_ring_right (defScope st__law_ring_right) _ _ = true; decide +kernel) | rfl) (fun _ _ _ _ _ => gNm nd) (fun _ _ _ _ _ => jtsNil) (fun _ _ _ _ _ => jpCall h_terms_merged hr hgd (jaCons (jVar 11) (jaNil)))) (jaNil))) (jB (cRepr hu hgd) m_repr (jaCons (jLst (jaCons (jVar 7) (jaCons (jVar 8) (jaCons (jVar 9) (jaNil))))) (jaNil))))) (ssOne (sReturn (jP (jBl)))) (ssNil))
      (ssCons (sIfS (jtVEc (oNe hu) (jEB (cRepr hu hgd) m_repr (jaeCons (jCallV h_terms_merged hr hgd (jaeCons (jETy cTuple m_tuple (jaeCons (jCallR (i := 0) h__law_any_order hr hgd (jaeCons (jP (j2 oAdd (jIx (jVar 2) (jInt)) (jIx (jVar 2) (jInt)))) (jaeNil))) (jaeNil))) (jaeNil))) (jaeNil))) (jP (jB (cRepr hu hgd) m_repr (jaCons (jpCall h__law_often hr hgd (jaCons (jTup (jaCons (jInt) (jaCons (jInt) (jaNil)))) (jaCons (jVar 7) (jaNil)))) (jaNil))))) (ssOne (sReturn (jP (jBl)))) (ssNil))
      (ssCons (sSetV (i := 3) nd (jCallR (i := 0) h__law_drawn_fraction hr hgd (jaeNil)))
      (ssCons (sSetV (i := 4) nd (jP (jLst (jaCons (jpCall h_sums_added hr hgd (jaCons (jVar 7) (jaCons (jVar 8) (jaNil)))) (jaCons (jpCall h_sum_often hr hgd (jaCons (jVar 3) (jaCons (jVar 7) (jaNil)))) (jaCons (jpCall h_sum_often hr hgd (jaCons (jTup (jaCons (jInt) (jaCons (jInt) (jaNil)))) (jaCons (jVar 7) (jaNil)))) (jaCons (jpCall h_sums_times hr hgd (jaCons (jVar 7) (jaCons (jVar 8) (jaNil)))) (jaNil))))))))
      (ssCons (sSetV (i := 5) nd (jP (jLst (jaCons (jpCall h__law_made hr hgd (jaCons (j2 oAdd (jVar 7) (jVar 8)) (jaNil))) (jaCons (jpCall h__law_often hr hgd (jaCons (jVar 3) (jaCons (jVar 7) (jaNil)))) (jaCons (jTup (jaNil)) (jaCons (jpCall h__law_product hr hgd (jaCons (jVar 7) (jaCons (jVar 8) (jaNil)))) (jaNil))))))))
      (ssCons (sIfS (jtP (jtCmp (oNe hu) (jB (cRepr hu hgd) m_repr (jaCons (jVar 4) (jaNil))) (jB (cRepr hu hgd) m_repr (jaCons (jVar 5) (jaNil))))) (ssOne (sReturn (jP (jBl)))) (ssNil))
      (ssCons (sIfS (jtP (jtW (jwOr (jtCmp (oNe hu) (jpCall h_sums_times hr hgd (jaCons (jVar 8) (jaCons (jVar 7) (jaNil)))) (jIx (jVar 5) (jInt))) (jwOr1 (jtCmp (oNe hu) (jpCall h_sums_times hr hgd (jaCons (jIx (jVar 5) (jInt)) (jaCons (jVar 9) (jaNil)))) (jpCall h_sums_times hr hgd (jaCons (jVar 7) (jaCons (jpCall h_sums_times hr hgd (jaCons (jVar 8) (jaCons (jVar 9) (jaNil)))) (jaNil))))))))) (ssOne (sReturn (jP (jBl)))) (ssNil))
      (ssCons (sSetV (i := 6) nd (jP (jpCall h_told_turns hr hgd (jaCons (jVar 1) (jaCons (jTup (jaCons (jInt) (jaCons (jInt) (jaNil)))) (jaNil))))))
      (ssCons (sIfS (jtP (jtW (jwOr (jtCmp (oNe hu) (jVar 6) (jTup (jaCons (jTup (jaCons (j2 oRepT (jTup (jaCons (jInt) (jaNil))) (jVar 1)) (jaCons (jTup (jaCons (jInt) (jaCons (jInt) (jaNil)))) (jaCons (jTup (jaCons (jInt) (jaCons (jInt) (jaNil)))) (jaNil))))) (jaNil)))) (jwOr (jtCmp (oNe hu) (jpCall h_sums_times hr hgd (jaCons (jVar 6) (jaCons (jVar 7) (jaNil)))) (jVar 7)) (jwOr1 (jtCmp (oNe hu) (jpCall h_told_turns hr hgd (jaCons (jVar 1) (jaCons (jTup (jaCons (jInt) (jaCons (jInt) (jaNil)))) (jaNil)))) (jTup (jaNil)))))))) (ssOne (sReturn (jP (jBl)))) (ssNil))
      (ssOne (sReturn (jP (jCmp (oEq hu) (jpCall h_sums_times hr hgd (jaCons (jVar 7) (jaCons (jpCall h_sums_added hr hgd (jaCons (jVar 8) (jaCons (jVar 9) (jaNil)))) (jaNil)))) (jpCall h_sums_added hr hgd (jaCons (jIx (jVar 5) (jInt)) (jaCons (jpCall h_sums_times hr hgd (jaCons (jVar 7) (jaCons (jVar 9) (jaNil)))) (jaNil))))))))))))))))))
theorem nd__law_mirrors_right : (N__law_mirrors_right).Nodup := by decide +kernel
theorem c__law_mirrors_right (D0 : FnP K "_law_mirrors_right" st__law_mirrors_right f fd) (hm : mg "_law_mirrors_right" = some (.ref f)) (h__law_mirrored : Cg P w K mg base 4 "_law_mirrored" F__law_mirrored) (h__law_made : Cg P w K mg base 3 "_law_made" F__law_made) (h_mirrored_sum : Cg P w K mg base 7 "mirrored_sum" F_mirrored_sum) (h__law_product : Cg P w K mg base 4 "_law_product" F__law_product) (h__law_form : Cg P w K mg base 3 "_law_form" F__law_form) (h__law_drawn_terms : Cg P w K mg base 4 "_law_drawn_terms" F__law_drawn_terms) (h__law_drawn_row : Cg P w K mg base 2 "_law_drawn_row" F__law_drawn_row) (h__law_drawn_part : Cg P w K mg base 3 "_law_drawn_part" F__law_drawn_part) (h_is_even_sum : Cg P w K mg base 8 "is_even_sum" F_is_even_sum) (h__law_often : Cg P w K mg base 4 "_law_often" F__law_often) (h_cos_turns : Cg P w K mg base 7 "cos_turns" F_cos_turns) (h_sin_turns : Cg P w K mg base 8 "sin_turns" F_sin_turns) (h__law_cos : Cg P w K mg base 4 "_law_cos" F__law_cos) (h__law_sin : Cg P w K mg base 5 "_law_sin" F__law_sin) (h__law_drawn_fraction : Cg P w K mg base 3 "_law_drawn_fraction" F__law_drawn_fraction) (h_cosine_form : Cg P w K mg base 5 "cosine_form" F_cosine_form) (h_turns_of_cosines : Cg P w K mg base 8 "turns_of_cosines" F_turns_of_cosines) (m_range : mg "range" = none) (m_repr : mg "repr" = none) : Cg P w K mg base 9 "_law_mirrors_right" F__law_mirrors_right := by
  refine cg_fun (k := 8) (N := N__law_mirrors_right) (ps := ["source", "n"]) D0 hm (D0.bindsN fun _ _ _ _ _ _ us hl => match us, hl with | [_, _], _ => rfl) (by decide +kernel) fun cdv A outer s H hr hgd => ?_
  have hu := hr.units
  have nd := nd__law_mirrors_right
  exact ssCons (sAsg (jEComp (own := [("lap", 10)]) rfl nd (iR1 m_range (jInt)) (by first | (show blkC N__law_mirrors_right (defScope st__law_mirrors_right) _ _ = true; decide +kernel) | rfl) (fun _ _ _ _ _ => gNm nd) (fun _ _ _ _ _ => jtseNil) (fun _ _ _ _ _ => jCallV h__law_made hr hgd (jaeCons (jCallR (i := 0) h__law_drawn_terms hr hgd (jaeCons (jP (jVar 1)) (jaeCons (jP (jInt)) (jaeNil)))) (jaeNil)))) (gTl rfl (gsCons (gNm nd) (gsCons (gNm nd) (gsNil)))))
      (ssCons (sSetV (i := 2) nd (jP (jpCall h__law_mirrored hr hgd (jaCons (jVar 6) (jaNil)))))
      (ssCons (sIfS (jtP (jtCmp (oNe hu) (jB (cRepr hu hgd) m_repr (jaCons (jLst (jaCons (jpCall h_mirrored_sum hr hgd (jaCons (jVar 6) (jaNil))) (jaCons (jpCall h_mirrored_sum hr hgd (jaCons (jVar 2) (jaNil))) (jaNil)))) (jaNil))) (jB (cRepr hu hgd) m_repr (jaCons (jLst (jaCons (jVar 2) (jaCons (jVar 6) (jaNil)))) (jaNil))))) (ssOne (sReturn (jP (jBl)))) (ssNil))
      (ssCons (sIfS (jtP (jtCmp (oNe hu) (jpCall h_mirrored_sum hr hgd (jaCons (jpCall h__law_product hr hgd (jaCons (jVar 6) (jaCons (jVar 7) (jaNil)))) (jaNil))) (jpCall h__law_product hr hgd (jaCons (jVar 2) (jaCons (jpCall h__law_mirrored hr hgd (jaCons (jVar 7) (jaNil))) (jaNil)))))) (ssOne (sReturn (jP (jBl)))) (ssNil))
      (ssCons (sSetO (i := 3) nd (jF (jLst (jaCons (jVar 6) (jaCons (jpCall h__law_product hr hgd (jaCons (jVar 6) (jaCons (jVar 2) (jaNil)))) (jaCons (jpCall h__law_made hr hgd (jaCons (j2 oAdd (jVar 6) (jVar 2)) (jaNil))) (jaCons (jTup (jaNil)) (jaNil))))))))
      (ssCons (sForS PassesOwn.never rfl (iR1 m_range (jInt)) (gNm nd) (ssCons (sPar2 rfl nd (jacCons (jCallR (i := 0) h__law_drawn_row hr hgd (jaeCons (jP (jVar 1)) (jaeNil))) (jacCons (jCallR (i := 0) h__law_drawn_part hr hgd (jaeNil)) (jacNil))))
      (ssCons (sAppS (i := 3) (jCallV h__law_made hr hgd (jaeCons (jE2 oAdd (jP (jIx (jOwn 3) (jNeg oNeg (jInt)))) (jCallV h__law_often hr hgd (jaeCons (jCallR (i := 0) h__law_drawn_fraction hr hgd (jaeNil)) (jaeCons (jP (jpCall h__law_cos hr hgd (jaCons (jVar 11) (jaCons (jVar 12) (jaNil))))) (jaeNil))))) (jaeNil))))
      (ssOne (sIfS (jtP (jtCmp (oNe hu) (jB (cRepr hu hgd) m_repr (jaCons (jLst (jaCons (jpCall h_cos_turns hr hgd (jaCons (jVar 11) (jaCons (jVar 12) (jaNil)))) (jaCons (jpCall h_sin_turns hr hgd (jaCons (jVar 11) (jaCons (jVar 12) (jaNil)))) (jaNil)))) (jaNil))) (jB (cRepr hu hgd) m_repr (jaCons (jLst (jaCons (jpCall h__law_cos hr hgd (jaCons (jVar 11) (jaCons (jVar 12) (jaNil)))) (jaCons (jpCall h__law_sin hr hgd (jaCons (jVar 11) (jaCons (jVar 12) (jaNil)))) (jaNil)))) (jaNil))))) (ssOne (sReturn (jP (jBl)))) (ssNil))))))
      (ssCons (sFrz1 (sForS PassesOwn.never rfl (iSeq (jVar 3)) (gNm nd) (ssCons (sSetV (i := 8) nd (jP (jCmp (oEq hu) (jpCall h__law_mirrored hr hgd (jaCons (jVar 5) (jaNil))) (jVar 5))))
      (ssCons (sIfS (jtP (jtCmp (oNe hu) (jB (cRepr hu hgd) m_repr (jaCons (jpCall h_is_even_sum hr hgd (jaCons (jVar 5) (jaNil))) (jaNil))) (jB (cRepr hu hgd) m_repr (jaCons (jVar 8) (jaNil))))) (ssOne (sReturn (jP (jBl)))) (ssNil))
      (ssCons (sSetV (i := 9) nd (jP (jpCall h__law_form hr hgd (jaCons (jVar 5) (jaNil)))))
      (ssOne (sIfS (jtP (jtW (jwAnd (jtVal (jVar 8)) (jwAnd1 (jtW (jwOr (jtCmp (oNe hu) (jB (cRepr hu hgd) m_repr (jaCons (jpCall h_cosine_form hr hgd (jaCons (jVar 5) (jaNil))) (jaNil))) (jB (cRepr hu hgd) m_repr (jaCons (jVar 9) (jaNil)))) (jwOr1 (jtCmp (oNe hu) (jB (cRepr hu hgd) m_repr (jaCons (jpCall h_turns_of_cosines hr hgd (jaCons (jVar 9) (jaNil))) (jaNil))) (jB (cRepr hu hgd) m_repr (jaCons (jVar 5) (jaNil))))))))))) (ssOne (sReturn (jP (jBl)))) (ssNil))))))))
      (ssOne (sReturn (jP (jCmp (oEq hu) (jComp (own := [("each", 5)]) rfl nd (ipSeq (jCut (jOwn 3) (poSome (jInt)) poNone)) (by first | (show blkC N__law_mirrors_right (defScope st__law_mirrors_right) _ _ = true; decide +kernel) | rfl) (fun _ _ _ _ _ => gNm nd) (fun _ _ _ _ _ => jtsOne (jtCmp oNotT (jpCall h_is_even_sum hr hgd (jaCons (jVar 5) (jaNil))) (jBl))) (fun _ _ _ _ _ => jVar 5)) (jLst (jaNil))))))))))))
theorem nd__law_powers_right : (N__law_powers_right).Nodup := by decide +kernel
theorem c__law_powers_right (D0 : FnP K "_law_powers_right" st__law_powers_right f fd) (hm : mg "_law_powers_right" = some (.ref f)) (h__law_cos : Cg P w K mg base 4 "_law_cos" F__law_cos) (h__law_drawn_row : Cg P w K mg base 2 "_law_drawn_row" F__law_drawn_row) (h__law_drawn_part : Cg P w K mg base 3 "_law_drawn_part" F__law_drawn_part) (h__law_pick : Cg P w K mg base 1 "_law_pick" F__law_pick) (h__law_often : Cg P w K mg base 4 "_law_often" F__law_often) (h__law_made : Cg P w K mg base 3 "_law_made" F__law_made) (h__law_product : Cg P w K mg base 4 "_law_product" F__law_product) (h__law_part : Cg P w K mg base 2 "_law_part" F__law_part) (h_power_by_counts : Cg P w K mg base 7 "power_by_counts" F_power_by_counts) (h_multiple_numbers : Cg P w K mg base 2 "multiple_numbers" F_multiple_numbers) (h_sum_at_polynomial : Cg P w K mg base 9 "sum_at_polynomial" F_sum_at_polynomial) (h__law_drawn_terms : Cg P w K mg base 4 "_law_drawn_terms" F__law_drawn_terms) (h_two_cosines : Cg P w K mg base 8 "two_cosines" F_two_cosines) (h_sum_power : Cg P w K mg base 9 "sum_power" F_sum_power) (m_range : mg "range" = none) (m_repr : mg "repr" = none) (m_tuple : mg "tuple" = none) (m_int : mg "int" = none) : Cg P w K mg base 10 "_law_powers_right" F__law_powers_right := by
  refine cg_fun (k := 9) (N := N__law_powers_right) (ps := ["source", "n"]) D0 hm (D0.bindsN fun _ _ _ _ _ _ us hl => match us, hl with | [_, _], _ => rfl) (by decide +kernel) fun cdv A outer s H hr hgd => ?_
  have hu := hr.units
  have nd := nd__law_powers_right
  exact ssCons (sAsg (jETup (jaeCons (jCallR (i := 0) h__law_drawn_row hr hgd (jaeCons (jP (jVar 1)) (jaeNil))) (jaeCons (jCallR (i := 0) h__law_drawn_part hr hgd (jaeNil)) (jaeCons (jCallR (i := 0) h__law_pick hr hgd (jaeCons (jP (jInt)) (jaeNil))) (jaeNil))))) (gTp rfl (gsCons (gNm nd) (gsCons (gNm nd) (gsCons (gNm nd) (gsNil))))))
      (ssCons (sPar2 rfl nd (jacCons (jP (jpCall h__law_often hr hgd (jaCons (jTup (jaCons (jInt) (jaCons (jInt) (jaNil)))) (jaCons (jpCall h__law_cos hr hgd (jaCons (jVar 7) (jaCons (jVar 8) (jaNil)))) (jaNil))))) (jacCons (jP (jpCall h__law_made hr hgd (jaCons (jLst (jaCons (jTup (jaCons (j2 oRepT (jTup (jaCons (jInt) (jaNil))) (jVar 1)) (jaCons (jTup (jaCons (jInt) (jaCons (jInt) (jaNil)))) (jaCons (jTup (jaCons (jInt) (jaCons (jInt) (jaNil)))) (jaNil))))) (jaNil))) (jaNil)))) (jacNil))))
      (ssCons (sForS PassesOwn.never rfl (iR1 m_range (jVar 9)) (gNm nd) (ssOne (sSetV (i := 11) nd (jP (jpCall h__law_product hr hgd (jaCons (jVar 11) (jaCons (jVar 10) (jaNil))))))))
      (ssCons (sIfS (jtP (jtCmp (oNe hu) (jB (cRepr hu hgd) m_repr (jaCons (jLst (jaCons (jpCall h_two_cosines hr hgd (jaCons (jVar 7) (jaCons (jVar 8) (jaNil)))) (jaCons (jpCall h_sum_power hr hgd (jaCons (jVar 1) (jaCons (jVar 10) (jaCons (jVar 9) (jaNil))))) (jaNil)))) (jaNil))) (jB (cRepr hu hgd) m_repr (jaCons (jLst (jaCons (jVar 10) (jaCons (jVar 11) (jaNil)))) (jaNil))))) (ssOne (sReturn (jP (jBl)))) (ssNil))
      (ssCons (sIfS (jtP (jtCmp (oNe hu) (jB (cRepr hu hgd) m_repr (jaCons (jpCall h_power_by_counts hr hgd (jaCons (jVar 7) (jaCons (jVar 8) (jaCons (jVar 9) (jaNil))))) (jaNil))) (jB (cRepr hu hgd) m_repr (jaCons (jVar 11) (jaNil))))) (ssOne (sReturn (jP (jBl)))) (ssNil))
      (ssCons (sSetO (i := 3) nd (jF (j2 oRep (jLst (jaCons (jInt) (jaNil))) (j2 oAdd (jVar 9) (jInt)))))
      (ssCons (sForS PassesOwn.never rfl (iR1 m_range (j2 oAdd (j2 oFdiv (jVar 9) (jInt)) (jInt))) (gNm nd) (ssCons (sSetV (i := 12) nd (jP (jInt)))
      (ssCons (sForS PassesOwn.never rfl (iR1 m_range (jVar 4)) (gNm nd) (ssOne (sSetV (i := 12) nd (jP (j2 oFdiv (j2 oMul (jVar 12) (j2 oSub (j2 oSub (jVar 9) (jVar 4)) (jVar 13))) (j2 oAdd (jVar 13) (jInt)))))))
      (ssOne (sLSetS (i := 3) (j2 oMul (jIf (jtCmp oGt (jVar 9) (jInt)) (j2 oFdiv (j2 oMul (jVar 12) (jVar 9)) (j2 oSub (jVar 9) (jVar 4))) (jInt)) (jIf (jtCmp (oEq hu) (j2 oMod (jTy cInt m_int (jaCons (jVar 4) (jaNil))) (jInt)) (jInt)) (jInt) (jNeg oNeg (jInt)))) (j2 oSub (jVar 9) (j2 oMul (jInt) (jVar 4))))))))
      (ssCons (sIfS (jtP (jtCmp (oNe hu) (jB (cRepr hu hgd) m_repr (jaCons (jpCall h_multiple_numbers hr hgd (jaCons (jVar 9) (jaNil))) (jaNil))) (jB (cRepr hu hgd) m_repr (jaCons (jTy cTuple m_tuple (jaCons (jOwn 3) (jaNil))) (jaNil))))) (ssOne (sReturn (jP (jBl)))) (ssNil))
      (ssCons (sSetV (i := 5) nd (jP (jpCall h__law_cos hr hgd (jaCons (jTy cTuple m_tuple (jaCons (jComp (own := [("x", 19)]) rfl nd (ipSeq (jVar 7)) (by first | (show blkC N__law_powers_right (defScope st__law_powers_right) _ _ = true; decide +kernel) | rfl) (fun _ _ _ _ _ => gNm nd) (fun _ _ _ _ _ => jtsNil) (fun _ _ _ _ _ => j2 oMul (jVar 9) (jVar 19))) (jaNil))) (jaCons (jpCall h__law_part hr hgd (jaCons (j2 oMul (jVar 9) (jIx (jVar 8) (jInt))) (jaCons (jIx (jVar 8) (jInt)) (jaNil)))) (jaNil))))))
      (ssCons (sIfS (jtP (jtCmp (oNe hu) (jB (cRepr hu hgd) m_repr (jaCons (jpCall h_sum_at_polynomial hr hgd (jaCons (jVar 1) (jaCons (jTy cTuple m_tuple (jaCons (jOwn 3) (jaNil))) (jaCons (jVar 10) (jaNil))))) (jaNil))) (jB (cRepr hu hgd) m_repr (jaCons (jpCall h__law_often hr hgd (jaCons (jTup (jaCons (jInt) (jaCons (jInt) (jaNil)))) (jaCons (jVar 5) (jaNil)))) (jaNil))))) (ssOne (sReturn (jP (jBl)))) (ssNil))
      (ssCons (sPar2 rfl nd (jacCons (jCallV h__law_made hr hgd (jaeCons (jCallR (i := 0) h__law_drawn_terms hr hgd (jaeCons (jP (jVar 1)) (jaeCons (jP (jInt)) (jaeNil)))) (jaeNil))) (jacCons (jEComp (own := [("place", 18)]) rfl nd (iR1 m_range (jInt)) (by first | (show blkC N__law_powers_right (defScope st__law_powers_right) _ _ = true; decide +kernel) | rfl) (fun _ _ _ _ _ => gNm nd) (fun _ _ _ _ _ => jtseNil) (fun _ _ _ _ _ => jE2 oSub (jCallR (i := 0) h__law_pick hr hgd (jaeCons (jP (jInt)) (jaeNil))) (jP (jInt)))) (jacNil))))
      (ssCons (sPar2 rfl nd (jacCons (jP (jTup (jaNil))) (jacCons (jP (jpCall h__law_made hr hgd (jaCons (jLst (jaCons (jTup (jaCons (j2 oRepT (jTup (jaCons (jInt) (jaNil))) (jVar 1)) (jaCons (jTup (jaCons (jInt) (jaCons (jInt) (jaNil)))) (jaCons (jTup (jaCons (jInt) (jaCons (jInt) (jaNil)))) (jaNil))))) (jaNil))) (jaNil)))) (jacNil))))
      (ssCons (sFrz1 (sForS PassesOwn.never rfl (iSeq (jVar 15)) (gNm nd) (ssCons (sSetV (i := 16) nd (jP (jpCall h__law_made hr hgd (jaCons (j2 oAdd (jVar 16) (jpCall h__law_often hr hgd (jaCons (jTup (jaCons (jVar 6) (jaCons (jInt) (jaNil)))) (jaCons (jVar 17) (jaNil))))) (jaNil)))))
      (ssOne (sSetV (i := 17) nd (jP (jpCall h__law_product hr hgd (jaCons (jVar 17) (jaCons (jVar 14) (jaNil))))))))))
      (ssOne (sReturn (jP (jCmp (oEq hu) (jB (cRepr hu hgd) m_repr (jaCons (jpCall h_sum_at_polynomial hr hgd (jaCons (jVar 1) (jaCons (jTy cTuple m_tuple (jaCons (jOwn 15) (jaNil))) (jaCons (jVar 14) (jaNil))))) (jaNil))) (jB (cRepr hu hgd) m_repr (jaCons (jVar 16) (jaNil)))))))))))))))))))
theorem nd_law : (N_law).Nodup := by decide +kernel
theorem c_law (D0 : FnP K "law" st_law f fd) (h__law_open_cells : Cg P w K mg base 1 "_law_open_cells" F__law_open_cells) (h__law_of : Cg P w K mg base 2 "_law_of" F__law_of) (h_cos_turns : Cg P w K mg base 7 "cos_turns" F_cos_turns) (h__law_drawn_row : Cg P w K mg base 2 "_law_drawn_row" F__law_drawn_row) (h__law_drawn_part : Cg P w K mg base 3 "_law_drawn_part" F__law_drawn_part) (h__law_drawn_fraction : Cg P w K mg base 3 "_law_drawn_fraction" F__law_drawn_fraction) (h__law_ring_right : Cg P w K mg base 9 "_law_ring_right" F__law_ring_right) (h__law_mirrors_right : Cg P w K mg base 9 "_law_mirrors_right" F__law_mirrors_right) (h__law_powers_right : Cg P w K mg base 10 "_law_powers_right" F__law_powers_right) (h_turn_sum : Cg P w K mg base 7 "turn_sum" F_turn_sum) (h__law_made : Cg P w K mg base 3 "_law_made" F__law_made) (m_range : mg "range" = none) (m_repr : mg "repr" = none) : GnOk P w K mg base 11 f fd ["script"] F_law := by
  refine gn_fun (k := 10) (N := N_law) (ps := ["script"]) D0 (by decide +kernel) fun cdv A outer s H hr hgd => ?_
  have hu := hr.units
  have nd := nd_law
  exact ssCons (sSetO (i := 1) nd (jCallS (i := 0) h__law_open_cells hr hgd))
      (ssCons (sForS PassesOwn.never rfl (iR1 m_range (jInt)) (gNm nd) (ssCons (sSetV (i := 3) nd (jCallR (i := 1) h__law_of hr hgd (jaeCons (jP (jLst (jaCons (jInt) (jaCons (jInt) (jaCons (jInt) (jaCons (jInt) (jaCons (jInt) (jaNil)))))))) (jaeNil))))
      (ssCons (sIfS (jtWe (jweOr (jtNotE (jtVE (jCallR (i := 1) h__law_ring_right hr hgd (jaeCons (jP (jVar 3)) (jaeNil))))) (jweOr (jtNotE (jtVE (jCallR (i := 1) h__law_mirrors_right hr hgd (jaeCons (jP (jVar 3)) (jaeNil))))) (jweOr1 (jtNotE (jtVE (jCallR (i := 1) h__law_powers_right hr hgd (jaeCons (jP (jVar 3)) (jaeNil))))))))) (ssOne (sReturn (jP (jBl)))) (ssNil))
      (ssCons (sPar3 rfl nd (jacCons (jCallR (i := 1) h__law_drawn_row hr hgd (jaeCons (jP (jVar 3)) (jaeNil))) (jacCons (jCallR (i := 1) h__law_drawn_part hr hgd (jaeNil)) (jacCons (jCallR (i := 1) h__law_drawn_fraction hr hgd (jaeNil)) (jacNil)))))
      (ssOne (sIfS (jtP (jtCmp (oNe hu) (jB (cRepr hu hgd) m_repr (jaCons (jpCall h_turn_sum hr hgd (jaCons (jVar 4) (jaCons (jVar 5) (jaCons (jVar 6) (jaNil))))) (jaNil))) (jB (cRepr hu hgd) m_repr (jaCons (jpCall h__law_made hr hgd (jaCons (jLst (jaCons (jTup (jaCons (jVar 4) (jaCons (jVar 5) (jaCons (jVar 6) (jaNil))))) (jaNil))) (jaNil))) (jaNil))))) (ssOne (sReturn (jP (jBl)))) (ssNil)))))))
      (ssOne (sReturn (jP (jCmp (oEq hu) (jpCall h_cos_turns hr hgd (jaCons (jTup (jaCons (jInt) (jaNil))) (jaCons (jTup (jaCons (jInt) (jaCons (jInt) (jaNil)))) (jaNil)))) (jTup (jaCons (jTup (jaCons (jTup (jaCons (jNeg oNeg (jInt)) (jaNil))) (jaCons (jTup (jaCons (jInt) (jaCons (jInt) (jaNil)))) (jaCons (jTup (jaCons (jInt) (jaCons (jInt) (jaNil)))) (jaNil))))) (jaCons (jTup (jaCons (jTup (jaCons (jInt) (jaNil))) (jaCons (jTup (jaCons (jInt) (jaCons (jInt) (jaNil)))) (jaCons (jTup (jaCons (jInt) (jaCons (jInt) (jaNil)))) (jaNil))))) (jaNil)))))))))
end
end K09
namespace K09
open PySem PySem.Spec PyProof.Rows L2 L3
def d_common_divisor : He.DefD := ⟨("common_divisor", none), "common_divisor", "common_divisor", defArgs st_common_divisor, defBody st_common_divisor, defScope st_common_divisor, [], []⟩
def d_fraction_of : He.DefD := ⟨("fraction_of", none), "fraction_of", "fraction_of", defArgs st_fraction_of, defBody st_fraction_of, defScope st_fraction_of, [], []⟩
def d_fraction_sum : He.DefD := ⟨("fraction_sum", none), "fraction_sum", "fraction_sum", defArgs st_fraction_sum, defBody st_fraction_sum, defScope st_fraction_sum, [], []⟩
def d_fraction_times : He.DefD := ⟨("fraction_times", none), "fraction_times", "fraction_times", defArgs st_fraction_times, defBody st_fraction_times, defScope st_fraction_times, [], []⟩
def d_fraction_turned : He.DefD := ⟨("fraction_turned", none), "fraction_turned", "fraction_turned", defArgs st_fraction_turned, defBody st_fraction_turned, defScope st_fraction_turned, [], []⟩
def d_part_of : He.DefD := ⟨("part_of", none), "part_of", "part_of", defArgs st_part_of, defBody st_part_of, defScope st_part_of, [], []⟩
def d_part_sum : He.DefD := ⟨("part_sum", none), "part_sum", "part_sum", defArgs st_part_sum, defBody st_part_sum, defScope st_part_sum, [], []⟩
def d_part_times : He.DefD := ⟨("part_times", none), "part_times", "part_times", defArgs st_part_times, defBody st_part_times, defScope st_part_times, [], []⟩
def d_part_turned : He.DefD := ⟨("part_turned", none), "part_turned", "part_turned", defArgs st_part_turned, defBody st_part_turned, defScope st_part_turned, [], []⟩
def d_half_of : He.DefD := ⟨("half_of", none), "half_of", "half_of", defArgs st_half_of, defBody st_half_of, defScope st_half_of, [], []⟩
def d_row_sum : He.DefD := ⟨("row_sum", none), "row_sum", "row_sum", defArgs st_row_sum, defBody st_row_sum, defScope st_row_sum, [], []⟩
def d_row_times : He.DefD := ⟨("row_times", none), "row_times", "row_times", defArgs st_row_times, defBody st_row_times, defScope st_row_times, [], []⟩
def d_terms_merged : He.DefD := ⟨("terms_merged", none), "terms_merged", "terms_merged", defArgs st_terms_merged, defBody st_terms_merged, defScope st_terms_merged, [], []⟩
def d_turn_sum : He.DefD := ⟨("turn_sum", none), "turn_sum", "turn_sum", defArgs st_turn_sum, defBody st_turn_sum, defScope st_turn_sum, [], []⟩
def d_sums_added : He.DefD := ⟨("sums_added", none), "sums_added", "sums_added", defArgs st_sums_added, defBody st_sums_added, defScope st_sums_added, [], []⟩
def d_sum_often : He.DefD := ⟨("sum_often", none), "sum_often", "sum_often", defArgs st_sum_often, defBody st_sum_often, defScope st_sum_often, [], []⟩
def d_sums_times : He.DefD := ⟨("sums_times", none), "sums_times", "sums_times", defArgs st_sums_times, defBody st_sums_times, defScope st_sums_times, [], []⟩
def d_cos_turns : He.DefD := ⟨("cos_turns", none), "cos_turns", "cos_turns", defArgs st_cos_turns, defBody st_cos_turns, defScope st_cos_turns, [], []⟩
def d_sin_turns : He.DefD := ⟨("sin_turns", none), "sin_turns", "sin_turns", defArgs st_sin_turns, defBody st_sin_turns, defScope st_sin_turns, [], []⟩
def d_told_turns : He.DefD := ⟨("told_turns", none), "told_turns", "told_turns", defArgs st_told_turns, defBody st_told_turns, defScope st_told_turns, [], []⟩
def d_mirrored_sum : He.DefD := ⟨("mirrored_sum", none), "mirrored_sum", "mirrored_sum", defArgs st_mirrored_sum, defBody st_mirrored_sum, defScope st_mirrored_sum, [], []⟩
def d_is_even_sum : He.DefD := ⟨("is_even_sum", none), "is_even_sum", "is_even_sum", defArgs st_is_even_sum, defBody st_is_even_sum, defScope st_is_even_sum, [], []⟩
def d_is_head_row : He.DefD := ⟨("is_head_row", none), "is_head_row", "is_head_row", defArgs st_is_head_row, defBody st_is_head_row, defScope st_is_head_row, [], []⟩
def d_cosine_often : He.DefD := ⟨("cosine_often", none), "cosine_often", "cosine_often", defArgs st_cosine_often, defBody st_cosine_often, defScope st_cosine_often, [], []⟩
def d_cosine_form : He.DefD := ⟨("cosine_form", none), "cosine_form", "cosine_form", defArgs st_cosine_form, defBody st_cosine_form, defScope st_cosine_form, [], []⟩
def d_turns_of_cosines : He.DefD := ⟨("turns_of_cosines", none), "turns_of_cosines", "turns_of_cosines", defArgs st_turns_of_cosines, defBody st_turns_of_cosines, defScope st_turns_of_cosines, [], []⟩
def d_sum_power : He.DefD := ⟨("sum_power", none), "sum_power", "sum_power", defArgs st_sum_power, defBody st_sum_power, defScope st_sum_power, [], []⟩
def d_two_cosines : He.DefD := ⟨("two_cosines", none), "two_cosines", "two_cosines", defArgs st_two_cosines, defBody st_two_cosines, defScope st_two_cosines, [], []⟩
def d_chosen_out_of : He.DefD := ⟨("chosen_out_of", none), "chosen_out_of", "chosen_out_of", defArgs st_chosen_out_of, defBody st_chosen_out_of, defScope st_chosen_out_of, [], []⟩
def d_power_by_counts : He.DefD := ⟨("power_by_counts", none), "power_by_counts", "power_by_counts", defArgs st_power_by_counts, defBody st_power_by_counts, defScope st_power_by_counts, [], []⟩
def d_next_numbers : He.DefD := ⟨("next_numbers", none), "next_numbers", "next_numbers", defArgs st_next_numbers, defBody st_next_numbers, defScope st_next_numbers, [], []⟩
def d_multiple_numbers : He.DefD := ⟨("multiple_numbers", none), "multiple_numbers", "multiple_numbers", defArgs st_multiple_numbers, defBody st_multiple_numbers, defScope st_multiple_numbers, [], []⟩
def d_sum_at_polynomial : He.DefD := ⟨("sum_at_polynomial", none), "sum_at_polynomial", "sum_at_polynomial", defArgs st_sum_at_polynomial, defBody st_sum_at_polynomial, defScope st_sum_at_polynomial, [], []⟩
def d__law_open_cells : He.DefD := ⟨("_law_open_cells", none), "_law_open_cells", "_law_open_cells", defArgs st__law_open_cells, defBody st__law_open_cells, defScope st__law_open_cells, [], []⟩
def d__law_pick : He.DefD := ⟨("_law_pick", none), "_law_pick", "_law_pick", defArgs st__law_pick, defBody st__law_pick, defScope st__law_pick, [], []⟩
def d__law_any_order : He.DefD := ⟨("_law_any_order", none), "_law_any_order", "_law_any_order", defArgs st__law_any_order, defBody st__law_any_order, defScope st__law_any_order, [], []⟩
def d__law_of : He.DefD := ⟨("_law_of", none), "_law_of", "_law_of", defArgs st__law_of, defBody st__law_of, defScope st__law_of, [], []⟩
def d__law_low : He.DefD := ⟨("_law_low", none), "_law_low", "_law_low", defArgs st__law_low, defBody st__law_low, defScope st__law_low, [], []⟩
def d__law_plus : He.DefD := ⟨("_law_plus", none), "_law_plus", "_law_plus", defArgs st__law_plus, defBody st__law_plus, defScope st__law_plus, [], []⟩
def d__law_by : He.DefD := ⟨("_law_by", none), "_law_by", "_law_by", defArgs st__law_by, defBody st__law_by, defScope st__law_by, [], []⟩
def d__law_part : He.DefD := ⟨("_law_part", none), "_law_part", "_law_part", defArgs st__law_part, defBody st__law_part, defScope st__law_part, [], []⟩
def d__law_made : He.DefD := ⟨("_law_made", none), "_law_made", "_law_made", defArgs st__law_made, defBody st__law_made, defScope st__law_made, [], []⟩
def d__law_product : He.DefD := ⟨("_law_product", none), "_law_product", "_law_product", defArgs st__law_product, defBody st__law_product, defScope st__law_product, [], []⟩
def d__law_often : He.DefD := ⟨("_law_often", none), "_law_often", "_law_often", defArgs st__law_often, defBody st__law_often, defScope st__law_often, [], []⟩
def d__law_mirrored : He.DefD := ⟨("_law_mirrored", none), "_law_mirrored", "_law_mirrored", defArgs st__law_mirrored, defBody st__law_mirrored, defScope st__law_mirrored, [], []⟩
def d__law_cos : He.DefD := ⟨("_law_cos", none), "_law_cos", "_law_cos", defArgs st__law_cos, defBody st__law_cos, defScope st__law_cos, [], []⟩
def d__law_sin : He.DefD := ⟨("_law_sin", none), "_law_sin", "_law_sin", defArgs st__law_sin, defBody st__law_sin, defScope st__law_sin, [], []⟩
def d__law_drawn_part : He.DefD := ⟨("_law_drawn_part", none), "_law_drawn_part", "_law_drawn_part", defArgs st__law_drawn_part, defBody st__law_drawn_part, defScope st__law_drawn_part, [], []⟩
def d__law_drawn_fraction : He.DefD := ⟨("_law_drawn_fraction", none), "_law_drawn_fraction", "_law_drawn_fraction", defArgs st__law_drawn_fraction, defBody st__law_drawn_fraction, defScope st__law_drawn_fraction, [], []⟩
def d__law_drawn_row : He.DefD := ⟨("_law_drawn_row", none), "_law_drawn_row", "_law_drawn_row", defArgs st__law_drawn_row, defBody st__law_drawn_row, defScope st__law_drawn_row, [], []⟩
def d__law_drawn_terms : He.DefD := ⟨("_law_drawn_terms", none), "_law_drawn_terms", "_law_drawn_terms", defArgs st__law_drawn_terms, defBody st__law_drawn_terms, defScope st__law_drawn_terms, [], []⟩
def d__law_form : He.DefD := ⟨("_law_form", none), "_law_form", "_law_form", defArgs st__law_form, defBody st__law_form, defScope st__law_form, [], []⟩
def d__law_ring_right : He.DefD := ⟨("_law_ring_right", none), "_law_ring_right", "_law_ring_right", defArgs st__law_ring_right, defBody st__law_ring_right, defScope st__law_ring_right, [], []⟩
def d__law_mirrors_right : He.DefD := ⟨("_law_mirrors_right", none), "_law_mirrors_right", "_law_mirrors_right", defArgs st__law_mirrors_right, defBody st__law_mirrors_right, defScope st__law_mirrors_right, [], []⟩
def d__law_powers_right : He.DefD := ⟨("_law_powers_right", none), "_law_powers_right", "_law_powers_right", defArgs st__law_powers_right, defBody st__law_powers_right, defScope st__law_powers_right, [], []⟩
def d_law : He.DefD := ⟨("law", none), "law", "law", defArgs st_law, defBody st_law, defScope st_law, [], []⟩
def fn : List He.DefD := [d_common_divisor, d_fraction_of, d_fraction_sum, d_fraction_times, d_fraction_turned, d_part_of, d_part_sum, d_part_times, d_part_turned, d_half_of, d_row_sum, d_row_times, d_terms_merged, d_turn_sum, d_sums_added, d_sum_often, d_sums_times, d_cos_turns, d_sin_turns, d_told_turns, d_mirrored_sum, d_is_even_sum, d_is_head_row, d_cosine_often, d_cosine_form, d_turns_of_cosines, d_sum_power, d_two_cosines, d_chosen_out_of, d_power_by_counts, d_next_numbers, d_multiple_numbers, d_sum_at_polynomial, d__law_open_cells, d__law_pick, d__law_any_order, d__law_of, d__law_low, d__law_plus, d__law_by, d__law_part, d__law_made, d__law_product, d__law_often, d__law_mirrored, d__law_cos, d__law_sin, d__law_drawn_part, d__law_drawn_fraction, d__law_drawn_row, d__law_drawn_terms, d__law_form, d__law_ring_right, d__law_mirrors_right, d__law_powers_right, d_law]
def fa : List He.Fa := [.glo "common_divisor", .glo "fraction_of", .glo "fraction_sum", .glo "fraction_times", .glo "fraction_turned", .glo "part_of", .glo "part_sum", .glo "part_times", .glo "part_turned", .glo "half_of", .glo "row_sum", .glo "row_times", .glo "terms_merged", .glo "turn_sum", .glo "sums_added", .glo "sum_often", .glo "sums_times", .glo "cos_turns", .glo "sin_turns", .glo "told_turns", .glo "mirrored_sum", .glo "is_even_sum", .glo "is_head_row", .glo "cosine_often", .glo "cosine_form", .glo "turns_of_cosines", .glo "sum_power", .glo "two_cosines", .glo "chosen_out_of", .glo "power_by_counts", .glo "next_numbers", .glo "multiple_numbers", .glo "sum_at_polynomial", .glo "_law_open_cells", .glo "_law_pick", .glo "_law_any_order", .glo "_law_of", .glo "_law_low", .glo "_law_plus", .glo "_law_by", .glo "_law_part", .glo "_law_made", .glo "_law_product", .glo "_law_often", .glo "_law_mirrored", .glo "_law_cos", .glo "_law_sin", .glo "_law_drawn_part", .glo "_law_drawn_fraction", .glo "_law_drawn_row", .glo "_law_drawn_terms", .glo "_law_form", .glo "_law_ring_right", .glo "_law_mirrors_right", .glo "_law_powers_right", .glo "law", .free "abs", .free "tuple", .free "zip", .free "sorted", .free "any", .free "range", .free "len", .free "int", .free "list", .free "repr"]
abbrev RowO : PySem.W.OpenRow := PySem.W.OpenLaw.row PySem.Challenge.rw_turnsthatfit_k09_whole_sums_of_turns
def ex (K : PySem.W.Frag) : Bool := gloB K "HALF" (fun u => constB K G_HALF u) && (gloB K "NO_PART" (fun u => constB K G_NO_PART u) && (true))
abbrev hk : PySem.W.Hook := hookE 4 fa fn ex
def ob (s : PySem.W.SharedT) : He.AlD × Bool := obsE 4 fa fn ex (HandSHeadRun.getT s)
theorem ob_eq (s : PySem.W.SharedT) : ob s = hk.obs s.abs := obsE_eq (HandSHeadRun.getT_eq s)
def loose : List PySem.Str := (["common_divisor", "fraction_of", "fraction_sum", "fraction_times", "fraction_turned", "part_of", "part_sum", "part_times", "part_turned", "half_of", "row_sum", "row_times", "terms_merged", "turn_sum", "sums_added", "sum_often", "sums_times", "cos_turns", "sin_turns", "told_turns", "mirrored_sum", "is_even_sum", "is_head_row", "cosine_often", "cosine_form", "turns_of_cosines", "sum_power", "two_cosines", "chosen_out_of", "power_by_counts"] : List PySem.Str) ++ (["next_numbers", "multiple_numbers", "sum_at_polynomial", "_law_open_cells", "_law_pick", "_law_any_order", "_law_of", "_law_low", "_law_plus", "_law_by", "_law_part", "_law_made", "_law_product", "_law_often", "_law_mirrored", "_law_cos", "_law_sin", "_law_drawn_part", "_law_drawn_fraction", "_law_drawn_row", "_law_drawn_terms", "_law_form", "_law_ring_right", "_law_mirrors_right", "_law_powers_right", "NO_PART", "HALF"] : List PySem.Str)
theorem run (w : World) : HandSHeadRun.RunEq RowO (PySem.W.view RowO.prog [63]) hk ob 6000 loose w := by
  intro os
  kernel_rfl
theorem facts {P : Program} {w : World} {K : PySem.W.Frag} {h : Heap} {mg : Str → Option Value} {f : Addr} (X : K.In h) (G : h.Ns mainGlobals mg) (hfa : mg ("law" : Str) = some (.ref f)) (c : He.SaysD fa fn K) (ce : ex K = true) :
    ∃ fd : FuncData, (∀ (s : Shared) (v : Value), BindsTo s fd ⟨[v], []⟩ [("script", v)]) ∧ ∀ base : Heap, K.In base → base.Ns mainGlobals mg → GnOk P w K mg base 11 f fd ["script"] F_law := by
  obtain ⟨_, f_common_divisor⟩ := c.def_ 0 (d := d_common_divisor) rfl
  have z_common_divisor := He.glo_ok X G (c.fact 0 (f := .glo "common_divisor") rfl)
  obtain ⟨_, f_fraction_of⟩ := c.def_ 1 (d := d_fraction_of) rfl
  have z_fraction_of := He.glo_ok X G (c.fact 1 (f := .glo "fraction_of") rfl)
  obtain ⟨_, f_fraction_sum⟩ := c.def_ 2 (d := d_fraction_sum) rfl
  have z_fraction_sum := He.glo_ok X G (c.fact 2 (f := .glo "fraction_sum") rfl)
  obtain ⟨_, f_fraction_times⟩ := c.def_ 3 (d := d_fraction_times) rfl
  have z_fraction_times := He.glo_ok X G (c.fact 3 (f := .glo "fraction_times") rfl)
  obtain ⟨_, f_fraction_turned⟩ := c.def_ 4 (d := d_fraction_turned) rfl
  have z_fraction_turned := He.glo_ok X G (c.fact 4 (f := .glo "fraction_turned") rfl)
  obtain ⟨_, f_part_of⟩ := c.def_ 5 (d := d_part_of) rfl
  have z_part_of := He.glo_ok X G (c.fact 5 (f := .glo "part_of") rfl)
  obtain ⟨_, f_part_sum⟩ := c.def_ 6 (d := d_part_sum) rfl
  have z_part_sum := He.glo_ok X G (c.fact 6 (f := .glo "part_sum") rfl)
  obtain ⟨_, f_part_times⟩ := c.def_ 7 (d := d_part_times) rfl
  have z_part_times := He.glo_ok X G (c.fact 7 (f := .glo "part_times") rfl)
  obtain ⟨_, f_part_turned⟩ := c.def_ 8 (d := d_part_turned) rfl
  have z_part_turned := He.glo_ok X G (c.fact 8 (f := .glo "part_turned") rfl)
  obtain ⟨_, f_half_of⟩ := c.def_ 9 (d := d_half_of) rfl
  have z_half_of := He.glo_ok X G (c.fact 9 (f := .glo "half_of") rfl)
  obtain ⟨_, f_row_sum⟩ := c.def_ 10 (d := d_row_sum) rfl
  have z_row_sum := He.glo_ok X G (c.fact 10 (f := .glo "row_sum") rfl)
  obtain ⟨_, f_row_times⟩ := c.def_ 11 (d := d_row_times) rfl
  have z_row_times := He.glo_ok X G (c.fact 11 (f := .glo "row_times") rfl)
  obtain ⟨_, f_terms_merged⟩ := c.def_ 12 (d := d_terms_merged) rfl
  have z_terms_merged := He.glo_ok X G (c.fact 12 (f := .glo "terms_merged") rfl)
  obtain ⟨_, f_turn_sum⟩ := c.def_ 13 (d := d_turn_sum) rfl
  have z_turn_sum := He.glo_ok X G (c.fact 13 (f := .glo "turn_sum") rfl)
  obtain ⟨_, f_sums_added⟩ := c.def_ 14 (d := d_sums_added) rfl
  have z_sums_added := He.glo_ok X G (c.fact 14 (f := .glo "sums_added") rfl)
  obtain ⟨_, f_sum_often⟩ := c.def_ 15 (d := d_sum_often) rfl
  have z_sum_often := He.glo_ok X G (c.fact 15 (f := .glo "sum_often") rfl)
  obtain ⟨_, f_sums_times⟩ := c.def_ 16 (d := d_sums_times) rfl
  have z_sums_times := He.glo_ok X G (c.fact 16 (f := .glo "sums_times") rfl)
  obtain ⟨_, f_cos_turns⟩ := c.def_ 17 (d := d_cos_turns) rfl
  have z_cos_turns := He.glo_ok X G (c.fact 17 (f := .glo "cos_turns") rfl)
  obtain ⟨_, f_sin_turns⟩ := c.def_ 18 (d := d_sin_turns) rfl
  have z_sin_turns := He.glo_ok X G (c.fact 18 (f := .glo "sin_turns") rfl)
  obtain ⟨_, f_told_turns⟩ := c.def_ 19 (d := d_told_turns) rfl
  have z_told_turns := He.glo_ok X G (c.fact 19 (f := .glo "told_turns") rfl)
  obtain ⟨_, f_mirrored_sum⟩ := c.def_ 20 (d := d_mirrored_sum) rfl
  have z_mirrored_sum := He.glo_ok X G (c.fact 20 (f := .glo "mirrored_sum") rfl)
  obtain ⟨_, f_is_even_sum⟩ := c.def_ 21 (d := d_is_even_sum) rfl
  have z_is_even_sum := He.glo_ok X G (c.fact 21 (f := .glo "is_even_sum") rfl)
  obtain ⟨_, f_is_head_row⟩ := c.def_ 22 (d := d_is_head_row) rfl
  have z_is_head_row := He.glo_ok X G (c.fact 22 (f := .glo "is_head_row") rfl)
  obtain ⟨_, f_cosine_often⟩ := c.def_ 23 (d := d_cosine_often) rfl
  have z_cosine_often := He.glo_ok X G (c.fact 23 (f := .glo "cosine_often") rfl)
  obtain ⟨_, f_cosine_form⟩ := c.def_ 24 (d := d_cosine_form) rfl
  have z_cosine_form := He.glo_ok X G (c.fact 24 (f := .glo "cosine_form") rfl)
  obtain ⟨_, f_turns_of_cosines⟩ := c.def_ 25 (d := d_turns_of_cosines) rfl
  have z_turns_of_cosines := He.glo_ok X G (c.fact 25 (f := .glo "turns_of_cosines") rfl)
  obtain ⟨_, f_sum_power⟩ := c.def_ 26 (d := d_sum_power) rfl
  have z_sum_power := He.glo_ok X G (c.fact 26 (f := .glo "sum_power") rfl)
  obtain ⟨_, f_two_cosines⟩ := c.def_ 27 (d := d_two_cosines) rfl
  have z_two_cosines := He.glo_ok X G (c.fact 27 (f := .glo "two_cosines") rfl)
  obtain ⟨_, f_chosen_out_of⟩ := c.def_ 28 (d := d_chosen_out_of) rfl
  have z_chosen_out_of := He.glo_ok X G (c.fact 28 (f := .glo "chosen_out_of") rfl)
  obtain ⟨_, f_power_by_counts⟩ := c.def_ 29 (d := d_power_by_counts) rfl
  have z_power_by_counts := He.glo_ok X G (c.fact 29 (f := .glo "power_by_counts") rfl)
  obtain ⟨_, f_next_numbers⟩ := c.def_ 30 (d := d_next_numbers) rfl
  have z_next_numbers := He.glo_ok X G (c.fact 30 (f := .glo "next_numbers") rfl)
  obtain ⟨_, f_multiple_numbers⟩ := c.def_ 31 (d := d_multiple_numbers) rfl
  have z_multiple_numbers := He.glo_ok X G (c.fact 31 (f := .glo "multiple_numbers") rfl)
  obtain ⟨_, f_sum_at_polynomial⟩ := c.def_ 32 (d := d_sum_at_polynomial) rfl
  have z_sum_at_polynomial := He.glo_ok X G (c.fact 32 (f := .glo "sum_at_polynomial") rfl)
  obtain ⟨_, f__law_open_cells⟩ := c.def_ 33 (d := d__law_open_cells) rfl
  have z__law_open_cells := He.glo_ok X G (c.fact 33 (f := .glo "_law_open_cells") rfl)
  obtain ⟨_, f__law_pick⟩ := c.def_ 34 (d := d__law_pick) rfl
  have z__law_pick := He.glo_ok X G (c.fact 34 (f := .glo "_law_pick") rfl)
  obtain ⟨_, f__law_any_order⟩ := c.def_ 35 (d := d__law_any_order) rfl
  have z__law_any_order := He.glo_ok X G (c.fact 35 (f := .glo "_law_any_order") rfl)
  obtain ⟨_, f__law_of⟩ := c.def_ 36 (d := d__law_of) rfl
  have z__law_of := He.glo_ok X G (c.fact 36 (f := .glo "_law_of") rfl)
  obtain ⟨_, f__law_low⟩ := c.def_ 37 (d := d__law_low) rfl
  have z__law_low := He.glo_ok X G (c.fact 37 (f := .glo "_law_low") rfl)
  obtain ⟨_, f__law_plus⟩ := c.def_ 38 (d := d__law_plus) rfl
  have z__law_plus := He.glo_ok X G (c.fact 38 (f := .glo "_law_plus") rfl)
  obtain ⟨_, f__law_by⟩ := c.def_ 39 (d := d__law_by) rfl
  have z__law_by := He.glo_ok X G (c.fact 39 (f := .glo "_law_by") rfl)
  obtain ⟨_, f__law_part⟩ := c.def_ 40 (d := d__law_part) rfl
  have z__law_part := He.glo_ok X G (c.fact 40 (f := .glo "_law_part") rfl)
  obtain ⟨_, f__law_made⟩ := c.def_ 41 (d := d__law_made) rfl
  have z__law_made := He.glo_ok X G (c.fact 41 (f := .glo "_law_made") rfl)
  obtain ⟨_, f__law_product⟩ := c.def_ 42 (d := d__law_product) rfl
  have z__law_product := He.glo_ok X G (c.fact 42 (f := .glo "_law_product") rfl)
  obtain ⟨_, f__law_often⟩ := c.def_ 43 (d := d__law_often) rfl
  have z__law_often := He.glo_ok X G (c.fact 43 (f := .glo "_law_often") rfl)
  obtain ⟨_, f__law_mirrored⟩ := c.def_ 44 (d := d__law_mirrored) rfl
  have z__law_mirrored := He.glo_ok X G (c.fact 44 (f := .glo "_law_mirrored") rfl)
  obtain ⟨_, f__law_cos⟩ := c.def_ 45 (d := d__law_cos) rfl
  have z__law_cos := He.glo_ok X G (c.fact 45 (f := .glo "_law_cos") rfl)
  obtain ⟨_, f__law_sin⟩ := c.def_ 46 (d := d__law_sin) rfl
  have z__law_sin := He.glo_ok X G (c.fact 46 (f := .glo "_law_sin") rfl)
  obtain ⟨_, f__law_drawn_part⟩ := c.def_ 47 (d := d__law_drawn_part) rfl
  have z__law_drawn_part := He.glo_ok X G (c.fact 47 (f := .glo "_law_drawn_part") rfl)
  obtain ⟨_, f__law_drawn_fraction⟩ := c.def_ 48 (d := d__law_drawn_fraction) rfl
  have z__law_drawn_fraction := He.glo_ok X G (c.fact 48 (f := .glo "_law_drawn_fraction") rfl)
  obtain ⟨_, f__law_drawn_row⟩ := c.def_ 49 (d := d__law_drawn_row) rfl
  have z__law_drawn_row := He.glo_ok X G (c.fact 49 (f := .glo "_law_drawn_row") rfl)
  obtain ⟨_, f__law_drawn_terms⟩ := c.def_ 50 (d := d__law_drawn_terms) rfl
  have z__law_drawn_terms := He.glo_ok X G (c.fact 50 (f := .glo "_law_drawn_terms") rfl)
  obtain ⟨_, f__law_form⟩ := c.def_ 51 (d := d__law_form) rfl
  have z__law_form := He.glo_ok X G (c.fact 51 (f := .glo "_law_form") rfl)
  obtain ⟨_, f__law_ring_right⟩ := c.def_ 52 (d := d__law_ring_right) rfl
  have z__law_ring_right := He.glo_ok X G (c.fact 52 (f := .glo "_law_ring_right") rfl)
  obtain ⟨_, f__law_mirrors_right⟩ := c.def_ 53 (d := d__law_mirrors_right) rfl
  have z__law_mirrors_right := He.glo_ok X G (c.fact 53 (f := .glo "_law_mirrors_right") rfl)
  obtain ⟨_, f__law_powers_right⟩ := c.def_ 54 (d := d__law_powers_right) rfl
  have z__law_powers_right := He.glo_ok X G (c.fact 54 (f := .glo "_law_powers_right") rfl)
  obtain ⟨_, f_law⟩ := c.def_ 55 (d := d_law) rfl
  have z_law := He.glo_ok X G (c.fact 55 (f := .glo "law") rfl)
  have m_abs := He.free_ok X G (c.fact 56 (f := .free "abs") rfl)
  have m_tuple := He.free_ok X G (c.fact 57 (f := .free "tuple") rfl)
  have m_zip := He.free_ok X G (c.fact 58 (f := .free "zip") rfl)
  have m_sorted := He.free_ok X G (c.fact 59 (f := .free "sorted") rfl)
  have m_any := He.free_ok X G (c.fact 60 (f := .free "any") rfl)
  have m_range := He.free_ok X G (c.fact 61 (f := .free "range") rfl)
  have m_len := He.free_ok X G (c.fact 62 (f := .free "len") rfl)
  have m_int := He.free_ok X G (c.fact 63 (f := .free "int") rfl)
  have m_list := He.free_ok X G (c.fact 64 (f := .free "list") rfl)
  have m_repr := He.free_ok X G (c.fact 65 (f := .free "repr") rfl)
  rw [ex, Bool.and_eq_true] at ce
  have g_HALF := gloB_ok X G ce.1
  replace ce := ce.2
  rw [Bool.and_eq_true] at ce
  have g_NO_PART := gloB_ok X G ce.1
  replace ce := ce.2
  have e := hfa.symm.trans z_law
  cases e
  have b := FunD.bindsA (ps := ["script"]) f_law fun _ _ _ _ _ _ us hl => match us, hl with | [_], _ => rfl
  refine ⟨_, fun s v => b s [v] rfl, fun base _ _ => ?_⟩
  have h_common_divisor := c_common_divisor (P := P) (w := w) (base := base) f_common_divisor z_common_divisor m_abs
  have h_fraction_of := c_fraction_of (P := P) (w := w) (base := base) f_fraction_of z_fraction_of h_common_divisor
  have h_fraction_sum := c_fraction_sum (P := P) (w := w) (base := base) f_fraction_sum z_fraction_sum h_fraction_of
  have h_fraction_times := c_fraction_times (P := P) (w := w) (base := base) f_fraction_times z_fraction_times h_fraction_of
  have h_fraction_turned := c_fraction_turned (P := P) (w := w) (base := base) f_fraction_turned z_fraction_turned 
  have h_part_of := c_part_of (P := P) (w := w) (base := base) f_part_of z_part_of h_fraction_of
  have h_part_sum := c_part_sum (P := P) (w := w) (base := base) f_part_sum z_part_sum h_part_of
  have h_part_times := c_part_times (P := P) (w := w) (base := base) f_part_times z_part_times h_part_of
  have h_part_turned := c_part_turned (P := P) (w := w) (base := base) f_part_turned z_part_turned h_part_of
  have h_half_of := c_half_of (P := P) (w := w) (base := base) f_half_of z_half_of h_part_sum h_fraction_turned
  have h_row_sum := c_row_sum (P := P) (w := w) (base := base) f_row_sum z_row_sum m_tuple m_zip
  have h_row_times := c_row_times (P := P) (w := w) (base := base) f_row_times z_row_times m_tuple
  have h_terms_merged := c_terms_merged (P := P) (w := w) (base := base) f_terms_merged z_terms_merged h_half_of h_fraction_sum m_tuple m_sorted
  have h_turn_sum := c_turn_sum (P := P) (w := w) (base := base) f_turn_sum z_turn_sum h_terms_merged
  have h_sums_added := c_sums_added (P := P) (w := w) (base := base) f_sums_added z_sums_added h_terms_merged
  have h_sum_often := c_sum_often (P := P) (w := w) (base := base) f_sum_often z_sum_often h_terms_merged h_fraction_times
  have h_sums_times := c_sums_times (P := P) (w := w) (base := base) f_sums_times z_sums_times h_terms_merged h_row_sum h_part_sum h_fraction_times
  have h_cos_turns := c_cos_turns (P := P) (w := w) (base := base) f_cos_turns z_cos_turns h_terms_merged h_part_turned m_tuple g_HALF
  have h_sin_turns := c_sin_turns (P := P) (w := w) (base := base) f_sin_turns z_sin_turns h_cos_turns h_part_sum
  have h_told_turns := c_told_turns (P := P) (w := w) (base := base) f_told_turns z_told_turns h_turn_sum g_NO_PART
  have h_mirrored_sum := c_mirrored_sum (P := P) (w := w) (base := base) f_mirrored_sum z_mirrored_sum h_terms_merged h_part_turned m_tuple
  have h_is_even_sum := c_is_even_sum (P := P) (w := w) (base := base) f_is_even_sum z_is_even_sum h_mirrored_sum
  have h_is_head_row := c_is_head_row (P := P) (w := w) (base := base) f_is_head_row z_is_head_row 
  have h_cosine_often := c_cosine_often (P := P) (w := w) (base := base) f_cosine_often z_cosine_often h_is_head_row h_fraction_times m_any
  have h_cosine_form := c_cosine_form (P := P) (w := w) (base := base) f_cosine_form z_cosine_form h_cosine_often m_tuple
  have h_turns_of_cosines := c_turns_of_cosines (P := P) (w := w) (base := base) f_turns_of_cosines z_turns_of_cosines h_terms_merged h_sum_often h_cos_turns
  have h_sum_power := c_sum_power (P := P) (w := w) (base := base) f_sum_power z_sum_power h_told_turns h_sums_times m_range
  have h_two_cosines := c_two_cosines (P := P) (w := w) (base := base) f_two_cosines z_two_cosines h_sum_often h_cos_turns
  have h_chosen_out_of := c_chosen_out_of (P := P) (w := w) (base := base) f_chosen_out_of z_chosen_out_of m_range
  have h_power_by_counts := c_power_by_counts (P := P) (w := w) (base := base) f_power_by_counts z_power_by_counts h_terms_merged h_row_times h_part_times h_chosen_out_of m_range
  have h_next_numbers := c_next_numbers (P := P) (w := w) (base := base) f_next_numbers z_next_numbers m_zip m_len
  have h_multiple_numbers := c_multiple_numbers (P := P) (w := w) (base := base) f_multiple_numbers z_multiple_numbers h_next_numbers m_range m_tuple
  have h_sum_at_polynomial := c_sum_at_polynomial (P := P) (w := w) (base := base) f_sum_at_polynomial z_sum_at_polynomial h_sums_added h_sums_times h_told_turns
  have h__law_open_cells := c__law_open_cells (P := P) (w := w) (base := base) f__law_open_cells z__law_open_cells m_abs m_int
  have h__law_pick := c__law_pick (P := P) (w := w) (base := base) f__law_pick z__law_pick m_int m_len
  have h__law_any_order := c__law_any_order (P := P) (w := w) (base := base) f__law_any_order z__law_any_order h__law_pick m_list m_range m_len
  have h__law_of := c__law_of (P := P) (w := w) (base := base) f__law_of z__law_of h__law_pick m_len
  have h__law_low := c__law_low (P := P) (w := w) (base := base) f__law_low z__law_low m_abs m_int
  have h__law_plus := c__law_plus (P := P) (w := w) (base := base) f__law_plus z__law_plus h__law_low
  have h__law_by := c__law_by (P := P) (w := w) (base := base) f__law_by z__law_by h__law_low
  have h__law_part := c__law_part (P := P) (w := w) (base := base) f__law_part z__law_part h__law_low m_int
  have h__law_made := c__law_made (P := P) (w := w) (base := base) f__law_made z__law_made h__law_plus h__law_low m_tuple m_sorted
  have h__law_product := c__law_product (P := P) (w := w) (base := base) f__law_product z__law_product h__law_made h__law_plus h__law_part h__law_by m_tuple m_zip
  have h__law_often := c__law_often (P := P) (w := w) (base := base) f__law_often z__law_often h__law_made h__law_by
  have h__law_mirrored := c__law_mirrored (P := P) (w := w) (base := base) f__law_mirrored z__law_mirrored h__law_made h__law_part m_tuple
  have h__law_cos := c__law_cos (P := P) (w := w) (base := base) f__law_cos z__law_cos h__law_made h__law_part m_tuple
  have h__law_sin := c__law_sin (P := P) (w := w) (base := base) f__law_sin z__law_sin h__law_plus h__law_cos h__law_part
  have h__law_drawn_part := c__law_drawn_part (P := P) (w := w) (base := base) f__law_drawn_part z__law_drawn_part h__law_of h__law_part h__law_pick
  have h__law_drawn_fraction := c__law_drawn_fraction (P := P) (w := w) (base := base) f__law_drawn_fraction z__law_drawn_fraction h__law_low h__law_of
  have h__law_drawn_row := c__law_drawn_row (P := P) (w := w) (base := base) f__law_drawn_row z__law_drawn_row h__law_pick m_tuple m_range
  have h__law_drawn_terms := c__law_drawn_terms (P := P) (w := w) (base := base) f__law_drawn_terms z__law_drawn_terms h__law_drawn_row h__law_pick h__law_of h__law_drawn_part h__law_drawn_fraction m_range
  have h__law_form := c__law_form (P := P) (w := w) (base := base) f__law_form z__law_form h__law_by m_tuple
  have h__law_ring_right := c__law_ring_right (P := P) (w := w) (base := base) f__law_ring_right z__law_ring_right h__law_drawn_fraction h_told_turns h__law_drawn_terms h__law_made h_sums_added h_sum_often h_sums_times h__law_often h__law_product h_terms_merged h__law_any_order m_repr m_range m_tuple
  have h__law_mirrors_right := c__law_mirrors_right (P := P) (w := w) (base := base) f__law_mirrors_right z__law_mirrors_right h__law_mirrored h__law_made h_mirrored_sum h__law_product h__law_form h__law_drawn_terms h__law_drawn_row h__law_drawn_part h_is_even_sum h__law_often h_cos_turns h_sin_turns h__law_cos h__law_sin h__law_drawn_fraction h_cosine_form h_turns_of_cosines m_range m_repr
  have h__law_powers_right := c__law_powers_right (P := P) (w := w) (base := base) f__law_powers_right z__law_powers_right h__law_cos h__law_drawn_row h__law_drawn_part h__law_pick h__law_often h__law_made h__law_product h__law_part h_power_by_counts h_multiple_numbers h_sum_at_polynomial h__law_drawn_terms h_two_cosines h_sum_power m_range m_repr m_tuple m_int
  exact c_law f_law h__law_open_cells h__law_of h_cos_turns h__law_drawn_row h__law_drawn_part h__law_drawn_fraction h__law_ring_right h__law_mirrors_right h__law_powers_right h_turn_sum h__law_made m_range m_repr
end K09
open PySem PySem.W PySem.Calls PyProof.Rows
theorem PySem.Challenge.cw_turnsthatfit_k09_whole_sums_of_turns_holds : PySem.Challenge.rw_turnsthatfit_k09_whole_sums_of_turns.Holds := by
  w_on; o_law
  refine HandSHeadRun.head_any (r := K09.RowO) (q := view K09.RowO.prog [63]) (H := K09.hk) (ob := K09.ob) (M := 6000) (loose := K09.loose) (d := HandSHeadRun.topDef K09.RowO.prog 63) (kwd := []) K09.ob_eq
    (by kernel_rfl) (fun s => by kernel_rfl) K09.run (by kernel_rfl) (by kernel_rfl) (by kernel_rfl) (by rfl) (by first | assumption | decide +kernel) (by decide +kernel) ⟨rfl, rfl, rfl, rfl, rfl, by decide +kernel⟩ ?hw ?hc
  case hw => w_witness2
  case hc =>
    refine L3.walk_ofG (l := PySem.Challenge.rw_turnsthatfit_k09_whole_sums_of_turns) (n := 63) (k := 11) (x := "script") (F := K09.F_law) rfl (by decide) (by kernel_rfl) ⟨rfl, by decide, by decide⟩ ?F K09.pure_law
    intro w mg fa h Y G hmg0
    obtain ⟨K, KX, c, ce⟩ := Y
    have hmg : mg ("law" : PySem.Str) = some (.ref fa) := by
      have e : (HandSHeadRun.topDef K09.RowO.prog 63).name = ("law" : PySem.Str) := by kernel_rfl
      rw [← e]
      exact hmg0
    obtain ⟨fd, hb, hF⟩ := K09.facts (P := (PySem.Challenge.rw_turnsthatfit_k09_whole_sums_of_turns).prog) (w := w) KX G hmg c ce
    exact ⟨K, fd, KX, hb, hF⟩
