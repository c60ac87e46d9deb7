import PyProof.Rows.All
import Wide.All
import OpenK.AllK
import Wide.FinOn
import PySem.Challenge.RW_risingsays_k18_gaps_and_formulas_refused
import HandS.ForMost
import HandS.Lambda
import HandS.Walk
import HandS.Zip
import HandS.Gcd
import HandS.Wide
import HandS.Style
import HandS.TupAny
import HandS.Rev
import HandS.IsInst
import KE.DataCmp
import KE.SortData
import KE.DataEq
import PyProof.ReprRoads
import HandS.TupMul
import KE.DataMinMax
import PyProof.StrLawsRepr
import HandS.TupSets
import KE.GoesEnum
import HandS.ExcInit
import HandS.Nested
import HandS.ClsMeth
import KE.KExcSuper
import HandS.TryMany
import HandS.ExcField
import KE.KExcIs
import HandS.EndTab
import KE.KNestM
set_option Elab.async false
section
/-! RSPure: data, small syntax trees, and their evaluation. Core Lean only. -/
set_option autoImplicit false
namespace RS

/-! ## data -/
inductive D where
  | non | bl (b : Bool) | int (i : Int) | str (x : List Nat) | tup (l : List D) | lst (l : List D) | dct (ks vs : List D) | st | fn (a : Nat)
  deriving Inhabited

def LIM : Nat := 1000000
def BIG : Nat := 2 ^ 8000
def SHOW : Nat := 2 ^ 1900

mutual
def D.beq : D → D → Bool
  | .non, .non => true
  | .bl a, .bl b => a == b
  | .int a, .int b => a == b
  | .str a, .str b => a == b
  | .tup a, .tup b => D.beqs a b
  | .lst a, .lst b => D.beqs a b
  | .dct a a', .dct b b' => D.beqs a b && D.beqs a' b'
  | .st, .st => true
  | .fn a, .fn b => a == b
  | _, _ => false
def D.beqs : List D → List D → Bool
  | [], [] => true
  | x :: xs, y :: ys => D.beq x y && D.beqs xs ys
  | _, _ => false
end
mutual
theorem D.beq_eq : ∀ a b : D, D.beq a b = true → a = b
  | .non, b, h => by cases b <;> simp [D.beq] at h ⊢
  | .bl _, b, h => by cases b <;> simp [D.beq] at h ⊢; exact h
  | .int _, b, h => by cases b <;> simp [D.beq] at h ⊢; exact h
  | .str _, b, h => by cases b <;> simp [D.beq] at h ⊢; exact h
  | .tup x, b, h => by cases b <;> simp [D.beq] at h ⊢; exact D.beqs_eq _ _ h
  | .lst x, b, h => by cases b <;> simp [D.beq] at h ⊢; exact D.beqs_eq _ _ h
  | .dct x y, b, h => by cases b <;> simp [D.beq] at h ⊢; exact ⟨D.beqs_eq _ _ h.1, D.beqs_eq _ _ h.2⟩
  | .st, b, h => by cases b <;> simp [D.beq] at h ⊢
  | .fn _, b, h => by cases b <;> simp [D.beq] at h ⊢; exact h
theorem D.beqs_eq : ∀ a b : List D, D.beqs a b = true → a = b
  | [], b, h => by cases b <;> simp [D.beqs] at h ⊢
  | x :: xs, b, h => by
    cases b with
    | nil => simp [D.beqs] at h
    | cons y ys =>
      simp [D.beqs] at h
      rw [D.beq_eq _ _ h.1, D.beqs_eq _ _ h.2]
end
mutual
theorem D.beq_refl : ∀ a : D, D.beq a a = true
  | .non => rfl
  | .bl _ => by simp [D.beq]
  | .int _ => by simp [D.beq]
  | .str _ => by simp [D.beq]
  | .tup x => by simp [D.beq, D.beqs_refl x]
  | .lst x => by simp [D.beq, D.beqs_refl x]
  | .dct x y => by simp [D.beq, D.beqs_refl x, D.beqs_refl y]
  | .st => rfl
  | .fn _ => by simp [D.beq]
theorem D.beqs_refl : ∀ a : List D, D.beqs a a = true
  | [] => rfl
  | x :: xs => by simp [D.beqs, D.beq_refl x, D.beqs_refl xs]
end
instance : DecidableEq D := fun a b => if h : D.beq a b = true then isTrue (D.beq_eq a b h) else isFalse fun e => h (e ▸ D.beq_refl a)

/-- equal as Python compares (True is 1) -/
def b2i (b : Bool) : Int := if b then 1 else 0
mutual
def D.eqv : D → D → Bool
  | .non, .non => true
  | .bl a, .bl b => a == b
  | .bl a, .int j => b2i a == j
  | .int i, .bl b => i == b2i b
  | .int a, .int b => a == b
  | .str a, .str b => a == b
  | .tup a, .tup b => D.eqvs a b
  | .lst a, .lst b => D.eqvs a b
  | _, _ => false
def D.eqvs : List D → List D → Bool
  | [], [] => true
  | x :: xs, y :: ys => D.eqv x y && D.eqvs xs ys
  | _, _ => false
end
mutual
/-- numbers, truth values, None, texts, tuples, lists: no deeper than n -/
def D.deep : Nat → D → Bool
  | _, .non => true
  | _, .bl _ => true
  | _, .int _ => true
  | _, .str _ => true
  | 0, _ => false
  | n + 1, .tup l => D.deeps n l
  | n + 1, .lst l => D.deeps n l
  | _, _ => false
def D.deeps : Nat → List D → Bool
  | _, [] => true
  | n, x :: xs => D.deep n x && D.deeps n xs
end
mutual
/-- no list, no dict, no state within -/
def D.imm : D → Bool
  | .non => true
  | .bl _ => true
  | .int _ => true
  | .str _ => true
  | .tup l => D.imms l
  | _ => false
def D.imms : List D → Bool
  | [] => true
  | x :: xs => D.imm x && D.imms xs
end
mutual
/-- can be shown, and in about how many signs -/
def D.rlen : D → Nat
  | .non => 4
  | .bl _ => 5
  | .int _ => 640
  | .str _ => 640
  | .tup l => 3 + D.rlens l
  | .lst l => 3 + D.rlens l
  | _ => 0
def D.rlens : List D → Nat
  | [] => 0
  | x :: xs => D.rlen x + 2 + D.rlens xs
end
mutual
def D.showable : D → Bool
  | .non => true
  | .bl _ => true
  | .int i => decide (i.natAbs < SHOW)
  | .str x => decide (x.length ≤ 60) && x.all fun c => decide (c < 1114112)
  | .tup l => D.showables l
  | .lst l => D.showables l
  | _ => false
def D.showables : List D → Bool
  | [] => true
  | x :: xs => D.showable x && D.showables xs
end
mutual
/-- can be put in order, place by place -/
def D.alike : D → D → Bool
  | .bl _, .bl _ => true
  | .int _, .int _ => true
  | .str _, .str _ => true
  | .tup a, .tup b => D.alikes a b
  | .lst a, .lst b => D.alikes a b
  | _, _ => false
def D.alikes : List D → List D → Bool
  | x :: xs, y :: ys => D.alike x y && D.alikes xs ys
  | _, _ => true
end
def natsLt : List Nat → List Nat → Bool
  | [], [] => false
  | [], _ :: _ => true
  | _ :: _, [] => false
  | x :: xs, y :: ys => if x = y then natsLt xs ys else decide (x < y)
mutual
def D.lt : D → D → Bool
  | .bl a, .bl b => !a && b
  | .int a, .int b => decide (a < b)
  | .str a, .str b => natsLt a b
  | .tup a, .tup b => D.lts a b
  | .lst a, .lst b => D.lts a b
  | _, _ => false
def D.lts : List D → List D → Bool
  | [], [] => false
  | [], _ :: _ => true
  | _ :: _, [] => false
  | x :: xs, y :: ys => if D.eqv x y then D.lts xs ys else D.lt x y
end

def D.items : D → Option (List D)
  | .tup l => some l
  | .lst l => some l
  | _ => none

/-! ## the law's draws -/
structure OSt where
  cells : List Int
  lefts : List Int
  pos : Nat

def mixed (cell k : Int) : Int := ((cell % 2147483647) * (48271 + 2 * k * k) + 69621 * k + 11) % 2147483647 * 69621 % 2147483629
def beginSt (script : List Int) : OSt :=
  let c := if script = [] then [0] else script
  ⟨c, c.map fun x => if x ≥ 10 ^ 18 then x else 0, 0⟩
def drawSt (s : OSt) (limit : Int) : Int × OSt :=
  let spot := s.pos % s.cells.length
  let left := s.lefts.getD spot 0
  if left > 0 then (left % limit, ⟨s.cells, s.lefts.set spot (left / limit), s.pos + 1⟩)
  else
    let m := mixed (mixed (s.cells.getD spot 0) s.pos) (40 + s.pos)
    (((m * 2147483647 + mixed m (7 + s.pos)) / 64) % limit, ⟨s.cells, s.lefts, s.pos + 1⟩)
theorem drawSt_lo (s : OSt) (l : Int) (h : 0 < l) : 0 ≤ (drawSt s l).1 := by
  unfold drawSt; dsimp only; split <;> exact Int.emod_nonneg _ (by omega)
theorem drawSt_hi (s : OSt) (l : Int) (h : 0 < l) : (drawSt s l).1 < l := by
  unfold drawSt; dsimp only; split <;> exact Int.emod_lt_of_pos _ h

/-! ## results -/
inductive R (α : Type) where
  | ok (a : α) (s : OSt) | exc (c : String) (d : D) (s : OSt) | no
def R.bind {α β : Type} (x : R α) (f : α → OSt → R β) : R β := match x with
  | .ok a s => f a s
  | .exc c d s => .exc c d s
  | .no => .no
/-- a value: shared, fresh (nobody else holds it), or what slot i owns -/
inductive Rs where
  | sh (d : D) | fr (d : D) | bo (i : Nat) (d : D)
  deriving Inhabited
def Rs.d : Rs → D
  | .sh d => d
  | .fr d => d
  | .bo _ d => d
def Rs.isBo : Rs → Bool
  | .bo _ _ => true
  | _ => false
/-- holds nothing that can be changed, but itself if it is fresh -/
def Rs.clean : Rs → Bool
  | .sh d => d.imm
  | .fr (.lst l) => D.imms l
  | .fr (.dct k v) => D.imms k && D.imms v
  | _ => false
abbrev Fn := List D → OSt → R Rs

inductive Slot where
  | no | sh (d : D) | ow (d : D)
  deriving Inhabited
abbrev Env := List Slot
inductive Out where
  | nx (ρ : Env) (s : OSt) | rt (r : Rs) (s : OSt) | bk (ρ : Env) (s : OSt) | ct (ρ : Env) (s : OSt) | exc (c : String) (d : D) (s : OSt) | no

/-! ## syntax -/
inductive BOp where
  | add | sub | mul | fdiv | mod | pow
  deriving DecidableEq
inductive COp where
  | eq | ne | lt | le | gt | ge | is | isnot | inn | nin
  deriving DecidableEq
inductive Prim where
  | len | tuple | list | sum | max | min | abs | int | sorted | sortedRev | sortedSet | isInt | isBool | isTup | gcd | comb
  deriving DecidableEq
inductive Tg where
  | nm (i : Nat) | nil | cons (a b : Tg) | tup (a : Tg)
/-- a part of what a clause tells -/
inductive HP where
  | con (d : D) | fld | isR (c : String)
  deriving Inhabited
abbrev HC := String × Nat × List HP
inductive E where
  | var (i : Nat) | con (d : D) | glob (x : String) (d : D)
  | nil | cons (a b : E) | omit
  | tup (es : E) | lst (es : E)
  | bin (o : BOp) (a b : E) | neg (a : E)
  | cmp (o : COp) (a b : E) | chain (o1 o2 : COp) (a b c : E)
  | and (a b : E) | or (a b : E) | not (a : E)
  | ife (c a b : E)
  | idx (a i : E) | slc (a lo hi : E) | rev (a : E)
  | call (x : String) (f : Fn) (es : E) | callK (x : String) (f : Fn) (es : E) (ks : List String) (kes : E) (perm : List Nat)
  | prim (p : Prim) (es : E) | reprEq (a b : E)
  | comp (vs : List Nat) (tg : Tg) (it cnd elt : E)
  | itE (a : E) | itRange (es : E) | itZip (a b : E) | itEnum (a : E)
  | callX (x : String) (f : Fn) (es : E) | callV (i : Nat) (alts : List (Nat × Fn)) (es : E) | callVK (i : Nat) (alts : List (Nat × Fn)) (ks : List String) (kes : E) (perm : List Nat)
  | heard (x : String) (k : Nat) (pre : List D) (hs : List HC) (e : E)
  | stAt (i : Nat) | stLen (i : Nat) | stCell (i : Nat) (k : E) | stLeft (i : Nat) (k : E)
inductive S where
  | skip | seq (a b : S)
  | asg (i : Nat) (e : E) | asgS (i : Nat) (e : E) | asgT (tg : Tg) (e : E) | par (is : List Nat) (es : E)
  | app (i : Nat) (e : E) | ext (i : Nat) (e : E) | seti (i : Nat) (k e : E)
  | expr (e : E) | ret (e : E)
  | ife (c : E) (a b : S)
  | for (tg : Tg) (it : E) (b : S) | whl (fuel : Nat) (c : E) (b : S)
  | brk | cont | share (i : Nat) | never | raise (c : String) (e : E)
  | stPut (i : Nat) (e : E) | stPutLeft (i : Nat) (k e : E)

/-! ## meaning of operators -/
def fitsI (i : Int) : Bool := decide (i.natAbs < BIG)
def binF : BOp → D → D → Option Rs
  | .add, .int i, .int j => some (.sh (.int (i + j)))
  | .add, .tup a, .tup b => if a.length + b.length ≤ LIM then some (.sh (.tup (a ++ b))) else none
  | .add, .lst a, .lst b => if a.length + b.length ≤ LIM then some (.fr (.lst (a ++ b))) else none
  | .sub, .int i, .int j => some (.sh (.int (i - j)))
  | .mul, .int i, .int j => if fitsI i && fitsI j then some (.sh (.int (i * j))) else none
  | .mul, .lst a, .int k => if 0 ≤ k ∧ k ≤ 1000 ∧ a.length ≤ 1000 then some (.fr (.lst (List.replicate k.toNat a).flatten)) else none
  | .mul, .tup a, .int k => if 0 ≤ k ∧ k ≤ 1000 ∧ a.length ≤ 1000 then some (.sh (.tup (List.replicate k.toNat a).flatten)) else none
  | .fdiv, .int i, .int j => if j ≠ 0 ∧ fitsI j = true then some (.sh (.int (i.fdiv j))) else none
  | .mod, .int i, .int j => if j ≠ 0 then some (.sh (.int (i.fmod j))) else none
  | .pow, .int i, .int j => if 0 ≤ j ∧ j ≤ 1000 ∧ i.natAbs < 2 ^ 64 then some (.sh (.int (i ^ j.toNat))) else none
  | _, _, _ => none
def DEEP : Nat := 60
def D.isNon : D → Bool
  | .non => true
  | _ => false
def bothInt : D → D → Option (Int × Int)
  | .int i, .int j => some (i, j)
  | _, _ => none
def D.bl? : D → Option Bool
  | .bl b => some b
  | _ => none
def ordF (f : Int → Int → Bool) (g : D → D → Bool) (a b : D) : Option Bool := match bothInt a b with
  | some (i, j) => some (f i j)
  | none => if D.alike a b && D.deep DEEP a && D.deep DEEP b then some (g a b) else none
def isF (a b : D) : Option Bool := if b.isNon then some a.isNon else match a.bl?, b.bl? with
  | some x, some y => some (x == y)
  | _, _ => none
def inF (a b : D) : Option Bool := match b.items with
  | some l => if D.deep DEEP a && D.deeps DEEP l then some (l.any fun z => D.eqv z a) else none
  | none => none
def eqF (a b : D) : Option Bool := if D.deep DEEP a && D.deep DEEP b then some (D.eqv a b) else none
def cmpF : COp → D → D → Option Bool
  | .eq, a, b => eqF a b
  | .ne, a, b => (eqF a b).map (!·)
  | .lt, a, b => ordF (fun i j => decide (i < j)) D.lt a b
  | .le, a, b => ordF (fun i j => decide (i ≤ j)) (fun x y => !D.lt y x) a b
  | .gt, a, b => ordF (fun i j => decide (j < i)) (fun x y => D.lt y x) a b
  | .ge, a, b => ordF (fun i j => decide (j ≤ i)) (fun x y => !D.lt x y) a b
  | .is, a, b => isF a b
  | .isnot, a, b => (isF a b).map (!·)
  | .inn, a, b => inF a b
  | .nin, a, b => (inF a b).map (!·)
/-- the place that an index names among n things -/
def ixOf (n : Nat) (i : Int) : Option Nat := if 0 ≤ i then (if i < n then some i.toNat else none) else if -(n : Int) ≤ i then some (i + n).toNat else none
def idxF : D → D → Option D
  | .tup l, .int i => (ixOf l.length i).bind fun j => l[j]?
  | .lst l, .int i => (ixOf l.length i).bind fun j => l[j]?
  | _, _ => none
def endOf (n d : Nat) : Option Int → Nat
  | none => d
  | some v => if v < 0 then (v + (n : Int)).toNat else min v.toNat n
def cut (l : List D) (lo hi : Option Int) : List D := (l.drop (endOf l.length 0 lo)).take (endOf l.length l.length hi - endOf l.length 0 lo)
def slcF (d : D) (lo hi : Option Int) : Option Rs := match d with
  | .tup l => some (.sh (.tup (cut l lo hi)))
  | .lst l => some (.fr (.lst (cut l lo hi)))
  | _ => none
def negF : D → Option Rs
  | .int i => some (.sh (.int (-i)))
  | _ => none
def revF : D → Option Rs
  | .lst l => some (.fr (.lst l.reverse))
  | .tup l => some (.sh (.tup l.reverse))
  | _ => none
def D.toInt? : D → Option Int
  | .int i => some i
  | _ => none
def intsOf : List D → Option (List Int)
  | [] => some []
  | .int i :: r => (intsOf r).map (i :: ·)
  | _ :: _ => none
def insD (x : D) : List D → List D
  | [] => [x]
  | y :: r => if D.lt y x then y :: insD x r else x :: y :: r
/-- in order, equal ones as they were -/
def sortD : List D → List D
  | [] => []
  | x :: r => insD x (sortD r)
def insR (x : D) : List D → List D
  | [] => [x]
  | y :: r => if D.lt x y then y :: insR x r else x :: y :: r
def sortR : List D → List D
  | [] => []
  | x :: r => insR x (sortR r)
def dedup : List D → List D
  | [] => []
  | x :: r => x :: (dedup r).filter fun y => !D.eqv y x
def alikeAll (l : List D) : Bool := l.all fun x => l.all fun y => D.alike x y
def maxI : List Int → Option Int
  | [] => none
  | x :: r => some (r.foldl max x)
def minI : List Int → Option Int
  | [] => none
  | x :: r => some (r.foldl min x)
def combN : Nat → Nat → Nat
  | _, 0 => 1
  | 0, _ + 1 => 0
  | n + 1, k + 1 => combN n k + combN n (k + 1)
def lenF : List D → Option Rs
  | [.tup l] => some (.sh (.int l.length))
  | [.lst l] => some (.sh (.int l.length))
  | _ => none
def tupleF : List D → Option Rs
  | [.tup l] => some (.sh (.tup l))
  | [.lst l] => some (.sh (.tup l))
  | _ => none
def listF : List D → Option Rs
  | [.tup l] => some (.fr (.lst l))
  | [.lst l] => some (.fr (.lst l))
  | _ => none
def seqInts (f : List Int → Option Int) : List D → Option Rs
  | [.tup l] => ((intsOf l).bind f).map fun n => .sh (.int n)
  | [.lst l] => ((intsOf l).bind f).map fun n => .sh (.int n)
  | _ => none
def maxF : List D → Option Rs
  | [.int i, .int j] => some (.sh (.int (if j > i then j else i)))
  | ds => seqInts maxI ds
def minF : List D → Option Rs
  | [.int i, .int j] => some (.sh (.int (if j < i then j else i)))
  | ds => seqInts minI ds
def int1 (f : Int → Int) : List D → Option Rs
  | [.int i] => some (.sh (.int (f i)))
  | _ => none
def sortF (f : List D → List D) : List D → Option Rs
  | [.lst l] => if alikeAll l && D.deeps DEEP l then some (.fr (.lst (f l))) else none
  | [.tup l] => if alikeAll l && D.deeps DEEP l then some (.fr (.lst (f l))) else none
  | _ => none
/-! rows of ints, unlike ones in order -/
def D.row? : D → Option (List Int)
  | .tup l => intsOf l
  | _ => none
def rowsOf : List D → Option (List (List Int))
  | [] => some []
  | d :: ds => (D.row? d).bind fun r => (rowsOf ds).map (r :: ·)
def codeK : List Int → Int
  | [] => 0
  | d :: r => d * 1048576 ^ r.length + codeK r
def insK (k : List Int) : List (List Int) → List (List Int)
  | [] => [k]
  | y :: r => if codeK k < codeK y then k :: y :: r else if codeK k = codeK y then y :: r else y :: insK k r
def sortK : List (List Int) → List (List Int)
  | [] => []
  | k :: ks => insK k (sortK ks)
def rowIn (n : Nat) (k : List Int) : Bool := k.length == n && k.all fun x => decide (0 ≤ x ∧ x < 1048576)
def rowsIn : List (List Int) → Bool
  | [] => true
  | k :: ks => decide (1 ≤ k.length ∧ ks.length < 63) && (k :: ks).all (rowIn k.length)
def setF (ks : List (List Int)) : Option Rs := if rowsIn ks then some (.fr (.lst ((sortK ks).map fun k => .tup (k.map .int)))) else none
def insM (k : List Int) : List (List Int) → List (List Int)
  | [] => [k]
  | y :: r => if codeK k ≤ codeK y then k :: y :: r else y :: insM k r
def sortM : List (List Int) → List (List Int)
  | [] => []
  | k :: ks => insM k (sortM ks)
def sortRowsR (ks : List (List Int)) : Option Rs := if rowsIn ks then some (.fr (.lst ((sortM ks).map fun k => .tup (k.map .int)))) else none
def sortRowsF : List D → Option Rs
  | [.tup l] => (rowsOf l).bind sortRowsR
  | [.lst l] => (rowsOf l).bind sortRowsR
  | _ => none
def sortSetF : List D → Option Rs
  | [.tup l] => (rowsOf l).bind setF
  | [.lst l] => (rowsOf l).bind setF
  | _ => none
def isOf (f : D → Option Bool) : List D → Option Rs
  | [d] => (f d).map fun b => .sh (.bl b)
  | _ => none
def D.isInt : D → Option Bool
  | .int _ => some true
  | .bl _ => some true
  | .st => none
  | .fn _ => none
  | .dct _ _ => none
  | _ => some false
def D.isBool : D → Option Bool
  | .bl _ => some true
  | .st => none
  | .fn _ => none
  | .dct _ _ => none
  | _ => some false
def D.isTup : D → Option Bool
  | .tup _ => some true
  | .st => none
  | .fn _ => none
  | .dct _ _ => none
  | _ => some false
def gcdF : List D → Option Rs
  | [.int i, .int j] => some (.sh (.int ((Nat.gcd i.natAbs j.natAbs : Nat) : Int)))
  | _ => none
def combF : List D → Option Rs
  | [.int i, .int j] => if 0 ≤ i ∧ 0 ≤ j ∧ i ≤ 1000 ∧ j ≤ 1000 then some (.sh (.int ((combN i.toNat j.toNat : Nat) : Int))) else none
  | _ => none
def primF : Prim → List D → Option Rs
  | .len => lenF
  | .tuple => tupleF
  | .list => listF
  | .sum => seqInts fun ns => some ns.sum
  | .max => maxF
  | .min => minF
  | .abs => int1 fun i => if i < 0 then -i else i
  | .int => int1 fun i => i
  | .sorted => sortRowsF
  | .sortedRev => sortF sortR
  | .sortedSet => sortSetF
  | .isInt => isOf D.isInt
  | .isBool => isOf D.isBool
  | .isTup => isOf D.isTup
  | .gcd => gcdF
  | .comb => combF
def reprOk (d : D) : Bool := d.showable && decide (d.rlen ≤ 16000000) && D.deep DEEP d
def isSt (ρ : Env) (i : Nat) : Bool := match ρ.getD i .no with
  | .sh .st => true
  | _ => false
def cellF (l : List Int) : D → Option Rs
  | .int n => (ixOf l.length n).bind fun j => (l[j]?).map fun x => .sh (.int x)
  | _ => none
def putAt (s : OSt) : D → Option OSt
  | .int n => if 0 ≤ n then some ⟨s.cells, s.lefts, n.toNat⟩ else none
  | _ => none
def putLeft (s : OSt) : D → D → Option OSt
  | .int n, .int x => (ixOf s.lefts.length n).map fun j => ⟨s.cells, s.lefts.set j x, s.pos⟩
  | _, _ => none
def partOf (e : E) (r : Rs) : Option (Option Int) := match e with
  | .omit => some none
  | _ => match r with
    | .sh (.int i) => some (some i)
    | _ => none
def Slot.val : Slot → Nat → Option Rs
  | .no, _ => none
  | .sh d, _ => some (.sh d)
  | .ow d, i => some (.bo i d)
mutual
def bindTg : Tg → D → Env → Option Env
  | .nm i, d, ρ => if i < ρ.length then some (ρ.set i (.sh d)) else none
  | .tup t, .tup ds, ρ => bindTgs t ds ρ
  | _, _, _ => none
def bindTgs : Tg → List D → Env → Option Env
  | .nil, [], ρ => some ρ
  | .cons a b, d :: ds, ρ => (bindTg a d ρ).bind fun ρ' => bindTgs b ds ρ'
  | _, _, _ => none
end
def wipeE (ρ : Env) : List Nat → Env
  | [] => ρ
  | v :: vs => (wipeE ρ vs).set v .no
def noOw (ρ : Env) (vs : List Nat) : Bool := vs.all fun i => match ρ.getD i .no with
  | .ow _ => false
  | _ => true
def compL (step : D → OSt → R (Option D)) : List D → List D → OSt → R (List D)
  | [], acc, s => .ok acc s
  | d :: ds, acc, s => match step d s with
    | .ok none s1 => compL step ds acc s1
    | .ok (some y) s1 => if acc.length < LIM then compL step ds (acc ++ [y]) s1 else .no
    | _ => .no
def lift {α : Type} (o : Option α) (s : OSt) : R α := match o with
  | some a => .ok a s
  | none => .no
def freeze : List Rs → Bool
  | [] => true
  | r :: rs => !r.isBo && freeze rs
def fromInts (a : Int) (n : Nat) : List D := (List.range n).map fun (k : Nat) => D.int (a + k)
def smallR (i : Int) : Bool := decide (i.natAbs < 2 ^ 61)
def rangeF : List D → Option (List D)
  | [.int n] => if smallR n = true then some (fromInts 0 n.toNat) else none
  | [.int a, .int b] => if smallR a = true ∧ smallR b = true then some (fromInts a (b - a).toNat) else none
  | _ => none
def zipD : List D → List D → List D
  | x :: xs, y :: ys => .tup [x, y] :: zipD xs ys
  | _, _ => []
def zipF : D → D → Option (List D)
  | .lst a, .lst b => some (zipD a b)
  | .tup a, .tup b => some (zipD a b)
  | _, _ => none
def enumD : Nat → List D → List D
  | _, [] => []
  | n, x :: xs => .tup [.int n, x] :: enumD (n + 1) xs
def permR (perm : List Nat) (rs : List Rs) : List Rs := perm.map fun i => .sh (rs.getD i (.sh .non)).d
def callR (f : Fn) (rs : List Rs) (s : OSt) : R Rs :=
  (f (rs.map Rs.d) s).bind fun r s' => if r.isBo then .no else if freeze rs || r.clean then .ok r s' else .no
/-- the classes of errors -/
def errs : List String := ["BadBook", "BadSaying", "BadTable", "BadTerms", "BadPaper", "BadDeed", "BadParameter", "TooGreat"]
/-- whether a clause for c' takes an error of the class c -/
def catchB (c c' : String) : Bool := errs.contains c && (c == c' || c' == "RisingError" || c' == "ValueError")
def HP.val (c : String) (d : D) : HP → D
  | .con x => x
  | .fld => d
  | .isR c' => .bl (catchB c c')
def wrapR (k : Nat) (l : List D) : Option Rs := match k, l with
  | 0, [d] => some (.sh d)
  | 1, l => some (.sh (.tup l))
  | 2, l => some (.fr (.lst l))
  | _, _ => none
def clauseR (c : String) (d : D) : List HC → Option Rs
  | [] => none
  | (c', k, ps) :: r => if catchB c c' then wrapR k (ps.map (HP.val c d)) else clauseR c d r
/-- what is told of a call that may raise an error -/
def heardR (k : Nat) (pre : List D) (hs : List HC) : R Rs → R Rs
  | .ok r s => if r.isBo then .no else if k = 0 then .ok r s else lift (wrapR k (pre ++ [r.d])) s
  | .exc c d s => lift (clauseR c d hs) s
  | .no => .no
def fnAt (alts : List (Nat × Fn)) : Slot → Option Fn
  | .sh (.fn a) => alts.lookup a
  | _ => none
mutual
def ev : E → Env → OSt → R Rs
  | .var i, ρ, s => lift ((ρ.getD i .no).val i) s
  | .con d, _, s => .ok (.sh d) s
  | .glob _ d, _, s => .ok (.sh d) s
  | .omit, _, s => .ok (.sh (.bl true)) s
  | .tup es, ρ, s => (evs es ρ s).bind fun rs s' => if freeze rs then .ok (.sh (.tup (rs.map Rs.d))) s' else .no
  | .lst es, ρ, s => (evs es ρ s).bind fun rs s' => if freeze rs then .ok (.fr (.lst (rs.map Rs.d))) s' else .no
  | .bin o a b, ρ, s => (ev a ρ s).bind fun x s1 => (ev b ρ s1).bind fun y s2 => lift (binF o x.d y.d) s2
  | .neg a, ρ, s => (ev a ρ s).bind fun x s1 => lift (negF x.d) s1
  | .cmp o a b, ρ, s => (ev a ρ s).bind fun x s1 => (ev b ρ s1).bind fun y s2 => lift ((cmpF o x.d y.d).map fun b => .sh (.bl b)) s2
  | .chain o1 o2 a b c, ρ, s => (ev a ρ s).bind fun x s1 => (ev b ρ s1).bind fun y s2 => match cmpF o1 x.d y.d with
    | some true => (ev c ρ s2).bind fun z s3 => lift ((cmpF o2 y.d z.d).map fun b => .sh (.bl b)) s3
    | some false => .ok (.sh (.bl false)) s2
    | none => .no
  | .and a b, ρ, s => (ev a ρ s).bind fun x s1 => match x with
    | .sh (.bl true) => ev b ρ s1
    | .sh (.bl false) => .ok (.sh (.bl false)) s1
    | _ => .no
  | .or a b, ρ, s => (ev a ρ s).bind fun x s1 => match x with
    | .sh (.bl false) => ev b ρ s1
    | .sh (.bl true) => .ok (.sh (.bl true)) s1
    | _ => .no
  | .not a, ρ, s => (ev a ρ s).bind fun x s1 => match x with
    | .sh (.bl b) => .ok (.sh (.bl !b)) s1
    | _ => .no
  | .ife c a b, ρ, s => (ev c ρ s).bind fun x s1 => match x with
    | .sh (.bl true) => ev a ρ s1
    | .sh (.bl false) => ev b ρ s1
    | _ => .no
  | .idx a i, ρ, s => (ev a ρ s).bind fun x s1 => (ev i ρ s1).bind fun y s2 => lift ((idxF x.d y.d).map .sh) s2
  | .slc a lo hi, ρ, s => (ev a ρ s).bind fun x s1 => (ev lo ρ s1).bind fun y s2 => (ev hi ρ s2).bind fun z s3 =>
      match partOf lo y, partOf hi z with
      | some l, some h => lift (slcF x.d l h) s3
      | _, _ => .no
  | .rev a, ρ, s => (ev a ρ s).bind fun x s1 => lift (revF x.d) s1
  | .call _ f es, ρ, s => (evs es ρ s).bind fun rs s' => callR f rs s'
  | .callK _ f _ _ kes perm, ρ, s => ((evs kes ρ s).bind fun rs s1 => if freeze rs then .ok (permR perm rs) s1 else .no).bind fun rs s1 => callR f rs s1
  | .callX _ f es, ρ, s => (evs es ρ s).bind fun rs s' => if freeze rs then callR f rs s' else .no
  | .callV i alts es, ρ, s => match fnAt alts (ρ.getD i .no) with
    | some f => (evs es ρ s).bind fun rs s' => if freeze rs then callR f rs s' else .no
    | none => .no
  | .callVK i alts _ kes perm, ρ, s => match fnAt alts (ρ.getD i .no) with
    | some f => ((evs kes ρ s).bind fun rs s1 => if freeze rs then .ok (permR perm rs) s1 else .no).bind fun rs s1 => callR f rs s1
    | none => .no
  | .heard _ k pre hs e, ρ, s => heardR k pre hs (ev e ρ s)
  | .prim p es, ρ, s => (evs es ρ s).bind fun rs s' => lift (primF p (rs.map Rs.d)) s'
  | .reprEq a b, ρ, s => (ev a ρ s).bind fun x s1 => (ev b ρ s1).bind fun y s2 => if x.d = y.d ∧ reprOk x.d = true then .ok (.sh (.bl true)) s2 else .no
  | .comp vs tg it cnd elt, ρ, s => (evI it ρ s).bind fun (items, b) s1 =>
      if noOw ρ vs then
        (compL (fun d s => match bindTg tg d (wipeE (match b with | some i => ρ.set i .no | none => ρ) vs) with
          | some ρ1 => (ev cnd ρ1 s).bind fun c s2 => match c with
            | .sh (.bl true) => (ev elt ρ1 s2).bind fun y s3 => if y.isBo then .no else .ok (some y.d) s3
            | .sh (.bl false) => .ok none s2
            | _ => .no
          | none => .no) items [] s1).bind fun acc s2 => .ok (.fr (.lst acc)) s2
      else .no
  | .stAt i, ρ, s => if isSt ρ i then .ok (.sh (.int s.pos)) s else .no
  | .stLen i, ρ, s => if isSt ρ i then .ok (.sh (.int s.cells.length)) s else .no
  | .stCell i k, ρ, s => if isSt ρ i then (ev k ρ s).bind fun y s1 => lift (cellF s1.cells y.d) s1 else .no
  | .stLeft i k, ρ, s => if isSt ρ i then (ev k ρ s).bind fun y s1 => lift (cellF s1.lefts y.d) s1 else .no
  | .nil, _, _ => .no
  | .cons _ _, _, _ => .no
  | .itE _, _, _ => .no
  | .itRange _, _, _ => .no
  | .itZip _ _, _, _ => .no
  | .itEnum _, _, _ => .no
def evs : E → Env → OSt → R (List Rs)
  | .nil, _, s => .ok [] s
  | .cons a b, ρ, s => (ev a ρ s).bind fun x s1 => (evs b ρ s1).bind fun xs s2 => .ok (x :: xs) s2
  | _, _, _ => .no
/-- what is walked; the slot whose own list it is -/
def evI : E → Env → OSt → R (List D × Option Nat)
  | .itE a, ρ, s => (ev a ρ s).bind fun x s1 => match x with
    | .bo i (.lst l) => .ok (l, some i) s1
    | .bo _ _ => .no
    | x => lift (x.d.items.map fun l => (l, none)) s1
  | .itRange es, ρ, s => (evs es ρ s).bind fun rs s1 => lift ((rangeF (rs.map Rs.d)).map fun l => (l, none)) s1
  | .itZip a b, ρ, s => (ev a ρ s).bind fun x s1 => (ev b ρ s1).bind fun y s2 => if x.isBo || y.isBo then .no else lift ((zipF x.d y.d).map fun l => (l, none)) s2
  | .itEnum a, ρ, s => (ev a ρ s).bind fun x s1 => if x.isBo then .no else lift (x.d.items.map fun l => (enumD 0 l, none)) s1
  | _, _, _ => .no
end

def slotOf : Rs → Option Slot
  | .sh d => some (.sh d)
  | .fr d => some (.ow d)
  | .bo _ _ => none
def assignAll : List Nat → List Rs → Env → Option Env
  | [], [], ρ => some ρ
  | i :: is, r :: rs, ρ => match slotOf r with
    | some sl => if i < ρ.length then assignAll is rs (ρ.set i sl) else none
    | none => none
  | _, _, _ => none
def forL (step : D → Env → OSt → Out) : List D → Env → OSt → Out
  | [], ρ, s => .nx ρ s
  | d :: ds, ρ, s => match step d ρ s with
    | .nx ρ1 s1 => forL step ds ρ1 s1
    | .ct ρ1 s1 => forL step ds ρ1 s1
    | .bk ρ1 s1 => .nx ρ1 s1
    | .rt r s1 => .rt r s1
    | .exc c d s1 => .exc c d s1
    | .no => .no
def whlL (test : Env → OSt → R Rs) (body : Env → OSt → Out) : Nat → Env → OSt → Out
  | 0, _, _ => .no
  | n + 1, ρ, s => match test ρ s with
    | .ok (.sh (.bl true)) s1 => match body ρ s1 with
      | .nx ρ1 s2 => whlL test body n ρ1 s2
      | .ct ρ1 s2 => whlL test body n ρ1 s2
      | .bk ρ1 s2 => .nx ρ1 s2
      | .rt r s2 => .rt r s2
      | .exc c d s2 => .exc c d s2
      | .no => .no
    | .ok (.sh (.bl false)) s1 => .nx ρ s1
    | .exc c d s1 => .exc c d s1
    | _ => .no
def withV (r : R Rs) (f : Rs → OSt → Out) : Out := match r with
  | .ok a s => f a s
  | .exc c d s => .exc c d s
  | .no => .no
def outOf (o : Option Env) (s : OSt) : Out := match o with
  | some ρ => .nx ρ s
  | none => .no
def exS : S → Env → OSt → Out
  | .skip, ρ, s => .nx ρ s
  | .seq a b, ρ, s => match exS a ρ s with
    | .nx ρ1 s1 => exS b ρ1 s1
    | o => o
  | .asg i e, ρ, s => withV (ev e ρ s) fun r s1 => outOf (assignAll [i] [r] ρ) s1
  | .asgS i e, ρ, s => withV (ev e ρ s) fun r s1 => if r.isBo then .no else outOf (assignAll [i] [.sh r.d] ρ) s1
  | .asgT tg e, ρ, s => withV (ev e ρ s) fun r s1 => if r.isBo then .no else outOf (bindTg tg r.d ρ) s1
  | .par is es, ρ, s => match evs es ρ s with
    | .ok rs s1 => outOf (assignAll is rs ρ) s1
    | .exc c d s1 => .exc c d s1
    | .no => .no
  | .app i e, ρ, s => withV (ev e ρ s) fun r s1 => match ρ.getD i .no with
    | .ow (.lst l) => if r.isBo = false ∧ l.length < LIM then .nx (ρ.set i (.ow (.lst (l ++ [r.d])))) s1 else .no
    | _ => .no
  | .ext i e, ρ, s => withV (ev e ρ s) fun r s1 => match ρ.getD i .no with
    | .ow (.lst l) => match r.d with
      | .lst m => if r.isBo = false ∧ l.length + m.length ≤ LIM then .nx (ρ.set i (.ow (.lst (l ++ m)))) s1 else .no
      | _ => .no
    | _ => .no
  | .seti i k e, ρ, s => withV (ev e ρ s) fun r s1 => withV (ev k ρ s1) fun q s2 => match ρ.getD i .no, q.d with
    | .ow (.lst l), .int n => match ixOf l.length n with
      | some j => if r.isBo = false then .nx (ρ.set i (.ow (.lst (l.set j r.d)))) s2 else .no
      | none => .no
    | _, _ => .no
  | .expr e, ρ, s => withV (ev e ρ s) fun _ s1 => .nx ρ s1
  | .ret e, ρ, s => withV (ev e ρ s) fun r s1 => match r with
    | .bo _ d => .rt (.fr d) s1
    | r => .rt r s1
  | .ife c a b, ρ, s => withV (ev c ρ s) fun r s1 => match r with
    | .sh (.bl true) => exS a ρ s1
    | .sh (.bl false) => exS b ρ s1
    | _ => .no
  | .for tg it b, ρ, s => match evI it ρ s with
    | .ok (items, none) s1 => forL (fun d ρ s => match bindTg tg d ρ with
      | some ρ1 => exS b ρ1 s
      | none => .no) items ρ s1
    | .ok (_, some _) _ => .no
    | .exc c d s1 => .exc c d s1
    | .no => .no
  | .whl n c b, ρ, s => whlL (fun ρ s => ev c ρ s) (fun ρ s => exS b ρ s) n ρ s
  | .brk, ρ, s => .bk ρ s
  | .cont, ρ, s => .ct ρ s
  | .share i, ρ, s => match ρ.getD i .no with
    | .ow d => .nx (ρ.set i (.sh d)) s
    | .sh d => .nx (ρ.set i (.sh d)) s
    | .no => .no
  | .never, _, _ => .no
  | .raise c e, ρ, s => withV (ev e ρ s) fun r s1 => if r.isBo then .no else .exc c r.d s1
  | .stPut i e, ρ, s => withV (ev e ρ s) fun r s1 => if isSt ρ i then (match putAt s1 r.d with
    | some s2 => .nx ρ s2
    | none => .no) else .no
  | .stPutLeft i k e, ρ, s => withV (ev e ρ s) fun r s1 => withV (ev k ρ s1) fun q s2 => if isSt ρ i then (match putLeft s2 q.d r.d with
    | some s3 => .nx ρ s3
    | none => .no) else .no
def startE (n : Nat) (ds : List D) : Env := ds.map .sh ++ List.replicate (n - ds.length) .no
def endR : Out → R Rs
  | .nx _ s => .ok (.sh .non) s
  | .rt r s => .ok r s
  | .exc c d s => .exc c d s
  | _ => .no
/-- a def: n slots, p parameters -/
def evFn (n p : Nat) (b : S) : Fn := fun ds s => if ds.length = p then endR (exS b (startE n ds) s) else .no
/-- the law's draw -/
def drawFn : Fn := fun ds s => match ds with
  | [.st, .int l] => if 0 < l ∧ l.natAbs < 2 ^ 29 then .ok (.sh (.int (drawSt s l).1)) (drawSt s l).2 else .no
  | _ => .no
end RS
end
section
set_option Elab.async false
set_option linter.all false
set_option maxRecDepth 100000
set_option autoImplicit false
/-! RSBase: how data lie in the abstract heap; what holds of slots, shared and owned things between two steps. -/
namespace RS
open PySem L2

/-! ## data in the heap -/
section
variable (K : PySem.W.Frag) (aS : Addr) (O : Addr → Prop) (H : Hp)
mutual
def Rep : D → V → Prop
  | .non, v => v = .non
  | .bl b, v => v = .bl b
  | .int i, v => v = .int i
  | .str x, v => v = .str ⟨x.toArray⟩
  | .tup l, v => ∃ a xs, v = .ref a ∧ SqT K H a xs ∧ Reps l xs
  | .lst l, v => ∃ a xs, v = .ref a ∧ ¬ O a ∧ H a = some (.lst xs) ∧ Reps l xs
  | .dct _ _, _ => False
  | .st, v => v = .ref aS
  | .fn a, v => v = .ref a
def Reps : List D → List V → Prop
  | [], xs => xs = []
  | d :: ds, xs => ∃ v vs, xs = v :: vs ∧ Rep d v ∧ Reps ds vs
end
/-- a fresh or owned thing -/
def Top : D → Addr → Prop
  | .lst l, a => ∃ xs, H a = some (.lst xs) ∧ Reps K aS O H l xs
  | _, _ => False
end

section
variable {K : PySem.W.Frag} {aS : Addr} {O O' : Addr → Prop} {H H' : Hp}
theorem Reps.length : ∀ {ds : List D} {xs : List V}, Reps K aS O H ds xs → xs.length = ds.length
  | [], _, h => by rw [Reps] at h; subst h; rfl
  | _ :: _, _, h => by
    rw [Reps] at h
    obtain ⟨v, vs, rfl, _, h⟩ := h
    simp [Reps.length h]
theorem Reps.cons {d : D} {ds : List D} {v : V} {vs : List V} (h : Rep K aS O H d v) (t : Reps K aS O H ds vs) : Reps K aS O H (d :: ds) (v :: vs) := by
  rw [Reps]; exact ⟨v, vs, rfl, h, t⟩
theorem Reps.nil : Reps K aS O H [] [] := by rw [Reps]
theorem Reps.get : ∀ {ds : List D} {xs : List V} {i : Nat} {d : D}, Reps K aS O H ds xs → ds[i]? = some d → ∃ v, xs[i]? = some v ∧ Rep K aS O H d v
  | [], _, _, _, _, e => by simp at e
  | d :: ds, _, 0, _, h, e => by
    rw [Reps] at h
    obtain ⟨v, vs, rfl, r, _⟩ := h
    simp at e; subst e
    exact ⟨v, rfl, r⟩
  | d :: ds, _, i + 1, x, h, e => by
    rw [Reps] at h
    obtain ⟨v, vs, rfl, _, t⟩ := h
    obtain ⟨u, h1, h2⟩ := Reps.get (i := i) (d := x) t (by simpa using e)
    exact ⟨u, by simpa using h1, h2⟩
theorem Reps.append : ∀ {ds es : List D} {xs ys : List V}, Reps K aS O H ds xs → Reps K aS O H es ys → Reps K aS O H (ds ++ es) (xs ++ ys)
  | [], _, _, _, h, q => by rw [Reps] at h; subst h; exact q
  | _ :: _, _, _, _, h, q => by
    rw [Reps] at h
    obtain ⟨v, vs, rfl, r, t⟩ := h
    exact Reps.cons r (Reps.append t q)
theorem Reps.take : ∀ {ds : List D} {xs : List V} (n : Nat), Reps K aS O H ds xs → Reps K aS O H (ds.take n) (xs.take n)
  | _, _, 0, _ => by simp [Reps]
  | [], _, n + 1, h => by rw [Reps] at h; subst h; simp [Reps]
  | _ :: _, _, n + 1, h => by
    rw [Reps] at h
    obtain ⟨v, vs, rfl, r, t⟩ := h
    exact Reps.cons r (Reps.take n t)
theorem Reps.drop : ∀ {ds : List D} {xs : List V} (n : Nat), Reps K aS O H ds xs → Reps K aS O H (ds.drop n) (xs.drop n)
  | _, _, 0, h => by simpa using h
  | [], _, n + 1, h => by rw [Reps] at h; subst h; simp [Reps]
  | _ :: _, _, n + 1, h => by
    rw [Reps] at h
    obtain ⟨v, vs, rfl, _, t⟩ := h
    simpa using Reps.drop n t
theorem Reps.reverse : ∀ {ds : List D} {xs : List V}, Reps K aS O H ds xs → Reps K aS O H ds.reverse xs.reverse
  | [], _, h => by rw [Reps] at h; subst h; simp [Reps]
  | _ :: _, _, h => by
    rw [Reps] at h
    obtain ⟨v, vs, rfl, r, t⟩ := h
    simpa using Reps.append (Reps.reverse t) (Reps.cons r Reps.nil)
theorem Reps.set : ∀ {ds : List D} {xs : List V} (i : Nat) {d : D} {v : V}, Rep K aS O H d v → Reps K aS O H ds xs → Reps K aS O H (ds.set i d) (xs.set i v)
  | [], _, _, _, _, _, h => by rw [Reps] at h; subst h; simp [Reps]
  | _ :: _, _, 0, _, _, r, h => by
    rw [Reps] at h
    obtain ⟨v, vs, rfl, _, t⟩ := h
    exact Reps.cons r t
  | _ :: _, _, i + 1, _, _, r, h => by
    rw [Reps] at h
    obtain ⟨v, vs, rfl, q, t⟩ := h
    exact Reps.cons q (Reps.set i r t)
theorem Reps.replicate {ds : List D} {xs : List V} (h : Reps K aS O H ds xs) : ∀ n : Nat, Reps K aS O H (List.replicate n ds).flatten (List.replicate n xs).flatten
  | 0 => by simp [Reps]
  | n + 1 => by simpa [List.replicate_succ] using Reps.append h (Reps.replicate h n)
theorem Reps.of_get : ∀ {ds : List D} {xs : List V}, xs.length = ds.length → (∀ (i : Nat) (d : D) (v : V), ds[i]? = some d → xs[i]? = some v → Rep K aS O H d v) → Reps K aS O H ds xs
  | [], xs, hl, _ => by rw [Reps]; exact List.length_eq_zero_iff.mp hl
  | d :: ds, [], hl, _ => by simp at hl
  | d :: ds, v :: vs, hl, h => Reps.cons (h 0 d v rfl rfl) (Reps.of_get (by simpa using hl) fun i x y e1 e2 => h (i + 1) x y (by simpa using e1) (by simpa using e2))
theorem Reps.mem {ds : List D} {xs : List V} (h : Reps K aS O H ds xs) {d : D} (hd : d ∈ ds) : ∃ v, v ∈ xs ∧ Rep K aS O H d v := by
  obtain ⟨i, hi, e⟩ := List.getElem_of_mem hd
  obtain ⟨v, h1, h2⟩ := h.get (i := i) (d := d) (by rw [List.getElem?_eq_getElem hi, e])
  exact ⟨v, List.mem_of_getElem? h1, h2⟩

/-- nothing but a table of code objects -/
def Emp (H : Hp) (a : Addr) : Prop := ∀ o, H a = some o → ∃ ps, o = .tbl ps
theorem Emp.of_none {a : Addr} (h : H a = none) : Emp H a := fun o e => by rw [h] at e; cases e
/-- from one heap to another one, from one set of forbidden places to another one -/
structure Go (K : PySem.W.Frag) (O O' : Addr → Prop) (H H' : Hp) : Prop where
  no : ∀ a, O' a → O a ∨ Emp H a
  tup : ∀ a xs, SqT K H a xs → SqT K H' a xs
  lst : ∀ a xs, ¬ O a → H a = some (.lst xs) → H' a = some (.lst xs)
mutual
theorem Rep.go (g : Go K O O' H H') : ∀ (d : D) (v : V), Rep K aS O H d v → Rep K aS O' H' d v
  | .non, _, h => by rw [Rep] at h ⊢; exact h
  | .bl _, _, h => by rw [Rep] at h ⊢; exact h
  | .int _, _, h => by rw [Rep] at h ⊢; exact h
  | .str _, _, h => by rw [Rep] at h ⊢; exact h
  | .tup l, _, h => by
    rw [Rep] at h ⊢
    obtain ⟨a, xs, e, q, t⟩ := h
    exact ⟨a, xs, e, g.tup a xs q, Reps.go g l xs t⟩
  | .lst l, _, h => by
    rw [Rep] at h ⊢
    obtain ⟨a, xs, e, n, q, t⟩ := h
    refine ⟨a, xs, e, fun z => ?_, g.lst a xs n q, Reps.go g l xs t⟩
    rcases g.no a z with z | z
    · exact n z
    · obtain ⟨_, z⟩ := z _ q; cases z
  | .dct _ _, _, h => by rw [Rep] at h; exact h.elim
  | .st, _, h => by rw [Rep] at h ⊢; exact h
  | .fn _, _, h => by rw [Rep] at h ⊢; exact h
theorem Reps.go (g : Go K O O' H H') : ∀ (ds : List D) (xs : List V), Reps K aS O H ds xs → Reps K aS O' H' ds xs
  | [], _, h => by rw [Reps] at h ⊢; exact h
  | d :: ds, _, h => by
    rw [Reps] at h
    obtain ⟨v, vs, e, r, t⟩ := h
    rw [Reps]
    exact ⟨v, vs, e, Rep.go g d v r, Reps.go g ds vs t⟩
end
theorem Go.less (h : ∀ a, O' a → O a) : Go K O O' H H := ⟨fun a z => .inl (h a z), fun _ _ q => q, fun _ _ _ q => q⟩
theorem sqT_upd {a p : Addr} {xs : List V} {o : HO} (hp : H p = none) (h : SqT K H a xs) : SqT K (upd H p o) a xs := by
  rcases h with (h | ⟨ob, h⟩) | h
  · exact .inl (.inl (by rw [upd_ne (ne_of_none h hp)]; exact h))
  · exact .inl (.inr ⟨ob, by rw [upd_ne (ne_of_none h hp)]; exact h⟩)
  · exact .inr h
theorem Go.alloc {p : Addr} {o : HO} (hp : H p = none) (h : ∀ a, O' a → O a ∨ a = p) : Go K O O' H (upd H p o) :=
  ⟨fun a z => (h a z).imp id fun e => by rw [e]; exact .of_none hp, fun _ _ q => sqT_upd hp q, fun _ _ _ q => by rw [upd_ne (ne_of_none q hp)]; exact q⟩
/-- an owned thing is written -/
theorem Go.write {p : Addr} {xs ys : List V} (hO : O p) (hp : H p = some (.lst xs)) (h : ∀ a, O' a → O a) : Go K O O' H (upd H p (.lst ys)) := by
  refine ⟨fun a z => .inl (h a z), fun a zs q => ?_, fun a zs n q => ?_⟩
  · rcases q with (q | ⟨ob, q⟩) | q
    · exact .inl (.inl (by rw [upd_ne (ne_of q hp (by intro z; cases z))]; exact q))
    · exact .inl (.inr ⟨ob, by rw [upd_ne (ne_of q hp (by intro z; cases z))]; exact q⟩)
    · exact .inr q
  · have ne : a ≠ p := fun e => n (e ▸ hO)
    rw [upd_ne ne]; exact q
theorem Top.go (g : Go K O O' H H') {d : D} {a : Addr} (h : Top K aS O H d a) (hk : ∀ xs, H a = some (.lst xs) → H' a = some (.lst xs)) : Top K aS O' H' d a := by
  cases d <;> first | exact h.elim | skip
  obtain ⟨xs, e, t⟩ := h
  exact ⟨xs, hk xs e, Reps.go g _ _ t⟩
theorem Top.rep {d : D} {a : Addr} (h : Top K aS O H d a) (n : ¬ O a) : Rep K aS O H d (.ref a) := by
  cases d <;> first | exact h.elim | skip
  obtain ⟨xs, e, t⟩ := h
  rw [Rep]
  exact ⟨a, xs, rfl, n, e, t⟩
/-- data without lists hang on no forbidden place -/
theorem imm_rep : ∀ (d : D) (v : V), d.imm = true → Rep K aS O H d v → Rep K aS O' H d v := by
  have key : ∀ n : Nat, (∀ d : D, sizeOf d ≤ n → ∀ v, d.imm = true → Rep K aS O H d v → Rep K aS O' H d v) ∧ (∀ ds : List D, sizeOf ds ≤ n → ∀ vs, D.imms ds = true → Reps K aS O H ds vs → Reps K aS O' H ds vs) := by
    intro n
    induction n with
    | zero => exact ⟨fun d h => by cases d <;> simp at h, fun ds h => by cases ds <;> simp at h⟩
    | succ n ih =>
      refine ⟨fun d hs v hi h => ?_, fun ds hs vs hi h => ?_⟩
      · cases d <;> simp [D.imm] at hi <;> (rw [Rep] at h ⊢) <;> first | exact h | skip
        obtain ⟨a, xs, e, q, t⟩ := h
        exact ⟨a, xs, e, q, ih.2 _ (by simp at hs; omega) _ hi t⟩
      · cases ds with
        | nil => rw [Reps] at h ⊢; exact h
        | cons d ds =>
          rw [Reps] at h ⊢
          simp [D.imms] at hi
          obtain ⟨v, vs, e, r, t⟩ := h
          simp at hs
          exact ⟨v, vs, e, ih.1 d (by omega) v hi.1 r, ih.2 ds (by omega) vs hi.2 t⟩
  exact fun d v => (key (sizeOf d)).1 d (Nat.le_refl _) v
theorem imms_reps (ds : List D) (vs : List V) (hi : D.imms ds = true) (h : Reps K aS O H ds vs) : Reps K aS O' H ds vs := by
  induction ds generalizing vs with
  | nil => rw [Reps] at h ⊢; exact h
  | cons d ds ih =>
    rw [Reps] at h ⊢
    simp [D.imms] at hi
    obtain ⟨v, vs, e, r, t⟩ := h
    exact ⟨v, vs, e, imm_rep d v hi.1 r, ih vs hi.2 t⟩
end

/-- defs within which lambdas stand -/
def lamAt : List (String × Int) := [("_law_bare", 610), ("_law_bare_refused", 507), ("_law_begun_right", 581), ("_law_books_right", 505), ("_law_books_right", 540), ("_law_books_right", 578), ("_law_books_right", 629), ("_law_borders", 284), ("_law_borders_right", 589), ("_law_coefs_right", 371), ("_law_deeds_right", 532), ("_law_either_great_right", 671), ("_law_ends_right", 855), ("_law_fields_right", 364), ("_law_firsts_right", 304), ("_law_formulas_right", 262), ("_law_forty_right", 399), ("_law_further_great_right", 591), ("_law_gaps_right", 223), ("_law_great_right", 381), ("_law_great_right", 393), ("_law_great_right", 558), ("_law_great_right", 570), ("_law_great_right", 578), ("_law_great_right", 582), ("_law_great_right", 644), ("_law_great_right", 776), ("_law_hidden_right", 531), ("_law_joined_right", 969), ("_law_lists_right", 721), ("_law_log", 645), ("_law_many_right", 548), ("_law_many_right", 563), ("_law_many_right", 657), ("_law_maps_right", 748), ("_law_more_right", 664), ("_law_numbers_right", 315), ("_law_numbers_right", 532), ("_law_orders_right", 981), ("_law_pairs", 271), ("_law_primes_right", 385), ("_law_refused", 261), ("_law_refused", 502), ("_law_refused", 549), ("_law_refused", 617), ("_law_refused_right", 367), ("_law_rest_right", 520), ("_law_right", 408), ("_law_right", 445), ("_law_right", 466), ("_law_right", 482), ("_law_right", 486), ("_law_right", 492), ("_law_right", 501), ("_law_right", 511), ("_law_right", 522), ("_law_right", 532), ("_law_right", 560), ("_law_right", 561), ("_law_right", 574), ("_law_right", 576), ("_law_right", 580), ("_law_right", 595), ("_law_right", 619), ("_law_right", 629), ("_law_right", 648), ("_law_right", 662), ("_law_right", 689), ("_law_right", 753), ("_law_right", 831), ("_law_rows_right", 243), ("_law_rules_right", 556), ("_law_sayings_right", 332), ("_law_sayings_right", 555), ("_law_search_right", 560), ("_law_seen_right", 952), ("_law_single", 262), ("_law_six", 342), ("_law_states_right", 517), ("_law_step_right", 695), ("_law_tables_right", 350), ("_law_tables_right", 550), ("_law_tables_right", 564), ("_law_terms_right", 285), ("_law_three", 682), ("_law_two", 309), ("_law_two", 677), ("law", 115), ("law", 482), ("law", 499), ("law", 640), ("law", 657), ("law", 680), ("law", 764), ("least_leads", 320), ("least_leads", 325), ("least_leads", 348), ("least_leads", 358), ("least_leads", 363), ("least_leads", 510), ("least_leads", 539), ("least_leads", 585), ("least_leads", 607), ("ordered_so", 84), ("ordered_so", 105), ("ordered_so", 108), ("ordered_so", 109), ("ordered_so", 110), ("ordered_so", 114), ("ordered_so", 115), ("ordered_so", 120), ("ordered_so", 125), ("ordered_so", 126), ("ordered_so", 130), ("ordered_so", 132), ("ordered_so", 133), ("ordered_so", 134), ("ordered_so", 136), ("ordered_so", 142), ("ordered_so", 146), ("ordered_so", 147), ("ordered_so", 149), ("ordered_so", 151), ("ordered_so", 152), ("ordered_so", 153), ("ordered_so", 155), ("ordered_so", 159), ("ordered_so", 160), ("ordered_so", 162), ("ordered_so", 166), ("ordered_so", 167), ("ordered_so", 168), ("ordered_so", 170), ("ordered_so", 173)]
/-- a code object's table, and the name of what is made within -/
def tabOf : Addr × Obj → Option (Addr × Str)
  | (_, ⟨_, _, .fields vs, _⟩) => match (vs[11]? : Option Value), (vs[1]? : Option Value), (vs[3]? : Option Value) with
    | some (.ref P), some (.str q _), some (.int n _) => if lamAt.any (fun p => decide (p.2 = n) && decide (Str.ofString p.1 = q)) then some (P, (q ++ (".<locals>." : Str)) ++ ("<lambda>" : Str)) else none
    | _, _, _ => none
  | _ => none
def TB (K : PySem.W.Frag) : List (Addr × Str) := K.filterMap tabOf
/-! ## what holds between two steps -/
/-- a def's run: what may not be reached, the heap at the entry, the draws' state -/
structure Cfg where
  O : Addr → Prop
  H0 : Hp
  aS : Addr
  aL : Addr
  aC : Addr
  tab : List (Addr × Str) := []
abbrev Shd := List (D × V)
abbrev Own := List (D × Addr)
def Cfg.Ow (c : Cfg) (F : Own) : Addr → Prop := fun a => c.O a ∨ a ∈ F.map (·.2)
def NotTbl : HO → Prop
  | .tbl _ => False
  | _ => True
def Solid : HO → Prop
  | .tbl _ => False
  | .tup _ => False
  | _ => True
structure Keeps (c : Cfg) (H H' : Hp) : Prop where
  obj : ∀ a o, H a = some o → NotTbl o → a ≠ c.aS → a ≠ c.aL → H' a = some o
  there : ∀ a, Emp H' a → Emp H a
structure StOk (c : Cfg) (H : Hp) (s : OSt) : Prop where
  dict : H c.aS = some (.dK [(.inr "cells", .ref c.aC), (.inr "lefts", .ref c.aL), (.inr "at", .int s.pos)])
  cells : H c.aC = some (.lst (s.cells.map V.int))
  lefts : H c.aL = some (.lst (s.lefts.map V.int))
  ne : c.aC ≠ c.aL
  len : s.lefts.length = s.cells.length
  pos : 0 < s.cells.length
  most : s.cells.length ≤ 1000
  tab : LamX.Tabs c.tab H
structure Bs (K : PySem.W.Frag) (c : Cfg) (T : Shd) (F : Own) (H : Hp) (s : OSt) : Prop where
  tT : ∀ p ∈ T, Rep K c.aS (c.Ow F) H p.1 p.2
  tF : ∀ p ∈ F, Top K c.aS (c.Ow F) H p.1 p.2 ∧ ¬ c.O p.2 ∧ Emp c.H0 p.2
  nd : (F.map (·.2)).Nodup
  st : StOk c H s
  oS : c.O c.aS ∧ c.O c.aL ∧ c.O c.aC
  trk : ∀ a, c.O a → ∃ o, H a = some o ∧ Solid o
  kp : Keeps c c.H0 H
  tq : c.tab = TB K

section
variable {K : PySem.W.Frag} {c : Cfg} {T T' : Shd} {F : Own} {H H' : Hp} {s s' : OSt}
theorem Solid.notTbl {o : HO} (h : Solid o) : NotTbl o := by cases o <;> first | exact h | trivial
theorem Keeps.refl : Keeps c H H := ⟨fun _ _ e _ _ _ => e, fun _ e => e⟩
theorem Keeps.trans {H1 : Hp} (a : Keeps c H H1) (b : Keeps c H1 H') : Keeps c H H' := ⟨fun x o e n h1 h2 => b.obj x o (a.obj x o e n h1 h2) n h1 h2, fun x e => a.there x (b.there x e)⟩
theorem Bs.weaken (B : Bs K c T F H s) (h : ∀ p ∈ T', p ∈ T) : Bs K c T' F H s := ⟨fun p hp => B.tT p (h p hp), B.tF, B.nd, B.st, B.oS, B.trk, B.kp, B.tq⟩
theorem Bs.addT (B : Bs K c T F H s) {d : D} {v : V} (r : Rep K c.aS (c.Ow F) H d v) : Bs K c ((d, v) :: T) F H s :=
  ⟨fun p hp => by
    rcases List.mem_cons.mp hp with e | hp
    · rw [e]; exact r
    · exact B.tT p hp, B.tF, B.nd, B.st, B.oS, B.trk, B.kp, B.tq⟩
theorem Bs.top_at (B : Bs K c T F H s) {d : D} {a : Addr} (h : (d, a) ∈ F) : ∃ l xs, d = .lst l ∧ H a = some (.lst xs) ∧ Reps K c.aS (c.Ow F) H l xs := by
  have q := (B.tF _ h).1
  cases d <;> first | exact q.elim | skip
  obtain ⟨xs, e, t⟩ := q
  exact ⟨_, xs, rfl, e, t⟩
/-- what is neither a table nor a code object may be written -/
def Loose : HO → Prop
  | .tbl _ => False
  | .ext _ => False
  | _ => True
theorem tabs_upd {T : List (Addr × Str)} {p : Addr} {o : HO} (hp : ∀ o, H p = some o → Loose o) (h : LamX.Tabs T H) : LamX.Tabs T (upd H p o) := fun q hq => by
  obtain ⟨ps, h1, h2, h3⟩ := h q hq
  have n1 : q.1 ≠ p := fun e => (hp (.tbl ps) (by rw [← e]; exact h1) : Loose (.tbl ps))
  refine ⟨ps, by rw [upd_ne n1]; exact h1, h2, fun pos cv hc => ?_⟩
  obtain ⟨c, e1, e2⟩ := h3 pos cv hc
  have n2 : c ≠ p := fun e => (hp (LamX.CodeO c q.2) (by rw [← e]; exact e2) : Loose (LamX.CodeO c q.2))
  exact ⟨c, e1, by rw [upd_ne n2]; exact e2⟩
theorem StOk.upd {p : Addr} {o : HO} (h : StOk c H s) (h1 : c.aS ≠ p) (h2 : c.aL ≠ p) (h3 : c.aC ≠ p) (hp : ∀ o, H p = some o → Loose o) : StOk c (upd H p o) s :=
  ⟨by rw [upd_ne h1]; exact h.dict, by rw [upd_ne h3]; exact h.cells, by rw [upd_ne h2]; exact h.lefts, h.ne, h.len, h.pos, h.most, tabs_upd hp h.tab⟩
theorem loose_none {p : Addr} (hp : H p = none) : ∀ o, H p = some o → Loose o := fun o e => by rw [hp] at e; cases e
theorem loose_lst {p : Addr} {xs : List V} (hp : H p = some (.lst xs)) : ∀ o, H p = some o → Loose o := fun o e => by rw [hp] at e; cases e; trivial
theorem Emp.upd {p a : Addr} {o : HO} (hp : H p = none) (h : Emp (upd H p o) a) : Emp H a := by
  by_cases e : a = p
  · rw [e]; exact .of_none hp
  · intro o' h'; exact h o' (by rw [upd_ne e]; exact h')
/-- a new object -/
theorem Bs.alloc (B : Bs K c T F H s) {p : Addr} {o : HO} (hp : H p = none) : Bs K c T F (upd H p o) s := by
  have g : Go K (c.Ow F) (c.Ow F) H (upd H p o) := Go.alloc hp fun a z => .inl z
  have neO : ∀ a, c.O a → a ≠ p := fun a z e => by
    obtain ⟨o', q, _⟩ := B.trk a z
    rw [e, hp] at q; cases q
  refine ⟨fun q hq => Rep.go g _ _ (B.tT q hq), fun q hq => ?_, B.nd, B.st.upd (neO _ B.oS.1) (neO _ B.oS.2.1) (neO _ B.oS.2.2) (loose_none hp), B.oS, fun a z => ?_, ⟨fun a o' e n h1 h2 => ?_, fun a e => B.kp.there a (e.upd hp)⟩, B.tq⟩
  · obtain ⟨t, n, z⟩ := B.tF q hq
    exact ⟨t.go g fun xs e => by rw [upd_ne (ne_of_none e hp)]; exact e, n, z⟩
  · obtain ⟨o', q, n⟩ := B.trk a z
    exact ⟨o', by rw [upd_ne (neO a z)]; exact q, n⟩
  · rw [upd_ne (ne_of_none (B.kp.obj a o' e n h1 h2) hp)]
    exact B.kp.obj a o' e n h1 h2
theorem Bs.tup (B : Bs K c T F H s) {p : Addr} {ds : List D} {xs : List V} (hp : H p = none) (r : Reps K c.aS (c.Ow F) H ds xs) : Bs K c ((.tup ds, .ref p) :: T) F (upd H p (.tup xs)) s := by
  refine (B.alloc hp).addT ?_
  rw [Rep]
  exact ⟨p, xs, rfl, SqT.of upd_same, Reps.go (Go.alloc hp fun a z => .inl z) _ _ r⟩
/-- what is not yet tracked becomes an own thing -/
theorem Bs.adopt (B : Bs K c T F H s) {p : Addr} {d : D} (hO : ¬ c.O p) (h0 : Emp c.H0 p) (hF : p ∉ F.map (·.2)) (t : Top K c.aS (c.Ow ((d, p) :: F)) H d p)
    (hT : ∀ q ∈ T, Rep K c.aS (c.Ow ((d, p) :: F)) H q.1 q.2) (hF2 : ∀ q ∈ F, Top K c.aS (c.Ow ((d, p) :: F)) H q.1 q.2) : Bs K c T ((d, p) :: F) H s := by
  refine ⟨hT, fun q hq => ?_, ?_, B.st, B.oS, B.trk, B.kp, B.tq⟩
  · rcases List.mem_cons.mp hq with e | hq
    · rw [e]; exact ⟨t, hO, h0⟩
    · exact ⟨hF2 q hq, (B.tF q hq).2⟩
  · rw [List.map_cons, List.nodup_cons]; exact ⟨hF, B.nd⟩
theorem Bs.lst (B : Bs K c T F H s) {p : Addr} {ds : List D} {xs : List V} (hp : H p = none) (r : Reps K c.aS (c.Ow F) H ds xs) : Bs K c T ((.lst ds, p) :: F) (upd H p (.lst xs)) s := by
  have g : Go K (c.Ow F) (c.Ow ((.lst ds, p) :: F)) H (upd H p (.lst xs)) := Go.alloc hp fun a z => by
    rcases z with z | z
    · exact .inl (.inl z)
    · rw [List.map_cons] at z
      rcases List.mem_cons.mp z with z | z
      · exact .inr z
      · exact .inl (.inr z)
  have nO : ¬ c.O p := fun z => by obtain ⟨o, q, _⟩ := B.trk p z; rw [hp] at q; cases q
  refine (B.alloc hp).adopt nO (B.kp.there p (.of_none hp)) (fun z => ?_) ⟨xs, upd_same, Reps.go g _ _ r⟩ (fun q hq => Rep.go g _ _ (B.tT q hq)) fun q hq => ?_
  · obtain ⟨q, hq, e⟩ := List.mem_map.mp z
    obtain ⟨l, ys, _, e2, _⟩ := B.top_at (d := q.1) (a := q.2) hq
    rw [e, hp] at e2; cases e2
  · exact (B.tF q hq).1.go g fun ys e => by rw [upd_ne (ne_of_none e hp)]; exact e
theorem Bs.share (B : Bs K c T F H s) {d : D} {a : Addr} (h : (d, a) ∈ F) : Bs K c ((d, .ref a) :: T) (F.filter fun p => decide (p.2 ≠ a)) H s := by
  have less : ∀ b, c.Ow (F.filter fun p => decide (p.2 ≠ a)) b → c.Ow F b := fun b z => by
    rcases z with z | z
    · exact .inl z
    · obtain ⟨q, hq, e⟩ := List.mem_map.mp z
      exact .inr (List.mem_map.mpr ⟨q, (List.mem_filter.mp hq).1, e⟩)
  have g : Go K (c.Ow F) (c.Ow (F.filter fun p => decide (p.2 ≠ a))) H H := Go.less less
  refine ⟨fun q hq => ?_, fun q hq => ?_, ?_, B.st, B.oS, B.trk, B.kp, B.tq⟩
  · rcases List.mem_cons.mp hq with e | hq
    · rw [e]
      obtain ⟨t, n, _⟩ := B.tF _ h
      refine (t.go g fun _ e => e).rep fun z => ?_
      rcases z with z | z
      · exact n z
      · obtain ⟨q, hq, e⟩ := List.mem_map.mp z
        exact of_decide_eq_true (List.mem_filter.mp hq).2 e
    · exact Rep.go g _ _ (B.tT q hq)
  · obtain ⟨t, n, z⟩ := B.tF q (List.mem_filter.mp hq).1
    exact ⟨t.go g fun _ e => e, n, z⟩
  · exact List.Sublist.nodup (List.Sublist.map _ List.filter_sublist) B.nd
/-- the data of one owned thing changed -/
def putO (F : Own) (a : Addr) (d : D) : Own := F.map fun p => if p.2 = a then (d, a) else p
theorem putO_addr (F : Own) (a : Addr) (d : D) : (putO F a d).map (·.2) = F.map (·.2) := by
  unfold putO
  rw [List.map_map]
  apply List.map_congr_left
  intro p _
  show (if p.2 = a then (d, a) else p).2 = p.2
  split
  · rename_i e; exact e.symm
  · rfl
theorem putO_ow (F : Own) (a : Addr) (d : D) : c.Ow (putO F a d) = c.Ow F := by
  funext b; unfold Cfg.Ow; rw [putO_addr]
theorem mem_putO {F : Own} {a : Addr} {d e : D} (h : (e, a) ∈ F) : (d, a) ∈ putO F a d := List.mem_map.mpr ⟨(e, a), h, by simp⟩
theorem mem_putO_ne {F : Own} {a b : Addr} {d e : D} (h : (e, b) ∈ F) (n : b ≠ a) : (e, b) ∈ putO F a d := List.mem_map.mpr ⟨(e, b), h, by simp [n]⟩
theorem Bs.mut (B : Bs K c T F H s) {d : D} {a : Addr} {ds : List D} {ys : List V} (h : (d, a) ∈ F) (r : Reps K c.aS (c.Ow F) H ds ys) :
    Bs K c T (putO F a (.lst ds)) (upd H a (.lst ys)) s := by
  obtain ⟨l, xs, rfl, ha, _⟩ := B.top_at h
  obtain ⟨_, nO, h0⟩ := B.tF _ h
  have mem : a ∈ F.map (·.2) := List.mem_map.mpr ⟨_, h, rfl⟩
  have g : Go K (c.Ow F) (c.Ow F) H (upd H a (.lst ys)) := Go.write (.inr mem) ha fun _ z => z
  have neO : ∀ b, c.O b → b ≠ a := fun b z e => nO (e ▸ z)
  refine ⟨fun q hq => by rw [putO_ow]; exact Rep.go g _ _ (B.tT q hq), fun q hq => ?_, by rw [putO_addr]; exact B.nd, B.st.upd (neO _ B.oS.1) (neO _ B.oS.2.1) (neO _ B.oS.2.2) (loose_lst ha), B.oS, fun b z => ?_, ⟨fun b o e n h1 h2 => ?_, fun b e => ?_⟩, B.tq⟩
  · rw [putO_ow]
    obtain ⟨p, hp, e⟩ := List.mem_map.mp hq
    by_cases c1 : p.2 = a
    · rw [if_pos c1] at e
      rw [← e]
      exact ⟨⟨ys, upd_same, Reps.go g _ _ r⟩, nO, h0⟩
    · rw [if_neg c1] at e
      rw [← e]
      obtain ⟨t, n, z⟩ := B.tF p hp
      exact ⟨t.go g fun zs e => by rw [upd_ne c1]; exact e, n, z⟩
  · obtain ⟨o, q, n⟩ := B.trk b z
    exact ⟨o, by rw [upd_ne (neO b z)]; exact q, n⟩
  · have ne : b ≠ a := fun z => by
      rw [z] at e
      obtain ⟨_, q⟩ := h0 _ e
      rw [q] at n; exact n
    rw [upd_ne ne]
    exact B.kp.obj b o e n h1 h2
  · by_cases eb : b = a
    · rw [eb]; exact h0
    · exact B.kp.there b fun o h => e o (by rw [upd_ne eb]; exact h)
/-- behind a call -/
theorem Bs.call (B : Bs K c T F H s) (k : Keeps c H H') (st : StOk c H' s') : Bs K c T F H' s' := by
  have nS : ∀ a, ¬ c.O a → a ≠ c.aS ∧ a ≠ c.aL := fun a n => ⟨fun e => n (e ▸ B.oS.1), fun e => n (e ▸ B.oS.2.1)⟩
  have kt : ∀ a o, H a = some o → NotTbl o → (∀ kvs, o ≠ .dK kvs) → a ≠ c.aL → H' a = some o := fun a o e n d h2 => k.obj a o e n (fun z => by rw [z, B.st.dict] at e; exact d _ (Option.some.inj e).symm) h2
  have g : Go K (c.Ow F) (c.Ow F) H H' := by
    refine ⟨fun a z => .inl z, fun a xs q => ?_, fun a xs n q => ?_⟩
    · have ne : ∀ o, H a = some o → (∀ ys, o ≠ .lst ys) → a ≠ c.aL := fun o e d z => by rw [z, B.st.lefts] at e; exact d _ (Option.some.inj e).symm
      rcases q with (q | ⟨ob, q⟩) | q
      · exact .inl (.inl (kt a _ q trivial (fun _ z => by cases z) (ne _ q fun _ z => by cases z)))
      · exact .inl (.inr ⟨ob, kt a _ q trivial (fun _ z => by cases z) (ne _ q fun _ z => by cases z)⟩)
      · exact .inr q
    · have n' : ¬ c.O a := fun z => n (.inl z)
      exact k.obj a _ q trivial (nS a n').1 (nS a n').2
  refine ⟨fun q hq => Rep.go g _ _ (B.tT q hq), fun q hq => ?_, B.nd, st, B.oS, fun a z => ?_, B.kp.trans k, B.tq⟩
  · obtain ⟨t, n, z⟩ := B.tF q hq
    exact ⟨t.go g fun xs e => k.obj _ _ e trivial (nS _ n).1 (nS _ n).2, n, z⟩
  · by_cases h1 : a = c.aS
    · exact ⟨.dK _, by rw [h1]; exact st.dict, trivial⟩
    · by_cases h2 : a = c.aL
      · exact ⟨.lst _, by rw [h2]; exact st.lefts, trivial⟩
      · obtain ⟨o, q, n⟩ := B.trk a z
        exact ⟨o, k.obj a o q n.notTbl h1 h2, n⟩
end
end RS
end
section
set_option Elab.async false
set_option linter.all false
set_option maxRecDepth 100000
set_option autoImplicit false
/-! RSOps: the operators, built-ins and subscripts by data. -/
namespace RS
open PySem L2

/-! ## data of the library -/
mutual
def D.py : D → PyData
  | .non => .none
  | .bl b => .bool b
  | .int i => .int i
  | .str x => .str ⟨x.toArray⟩
  | .tup l => .tuple (D.pys l)
  | .lst l => .list (D.pys l)
  | .dct _ _ => .none
  | .st => .none
  | .fn _ => .none
def D.pys : List D → List PyData
  | [] => []
  | x :: xs => D.py x :: D.pys xs
end
theorem D.pys_map : ∀ l : List D, D.pys l = l.map D.py
  | [] => rfl
  | x :: xs => by rw [D.pys, D.pys_map xs]; rfl
section
variable (K : PySem.W.Frag) (aS : Addr) (O : Addr → Prop) (H : Hp)
/-- a value at hand: what its list is does not matter (shared, fresh, owned) -/
def Tv : D → V → Prop
  | .lst l, v => ∃ a xs, v = .ref a ∧ H a = some (.lst xs) ∧ Reps K aS O H l xs
  | d, v => Rep K aS O H d v
end
section
variable {K : PySem.W.Frag} {aS : Addr} {O : Addr → Prop} {H : Hp}
theorem Rep.tv : ∀ {d : D} {v : V}, Rep K aS O H d v → Tv K aS O H d v
  | .lst l, v, h => by
    rw [Rep] at h
    obtain ⟨a, xs, e, _, q, t⟩ := h
    exact ⟨a, xs, e, q, t⟩
  | .non, _, h => h
  | .bl _, _, h => h
  | .int _, _, h => h
  | .str _, _, h => h
  | .tup _, _, h => h
  | .dct _ _, _, h => h
  | .st, _, h => h
  | .fn _, _, h => h
theorem Tv.int {i : Int} {v : V} (h : Tv K aS O H (.int i) v) : v = .int i := by
  have h : Rep K aS O H (.int i) v := h
  rw [Rep] at h; exact h
theorem Tv.bl {i : Bool} {v : V} (h : Tv K aS O H (.bl i) v) : v = .bl i := by
  have h : Rep K aS O H (.bl i) v := h
  rw [Rep] at h; exact h
theorem Tv.non {v : V} (h : Tv K aS O H .non v) : v = .non := by
  have h : Rep K aS O H .non v := h
  rw [Rep] at h; exact h
theorem Tv.str {x : List Nat} {v : V} (h : Tv K aS O H (.str x) v) : v = .str ⟨x.toArray⟩ := by
  have h : Rep K aS O H (.str x) v := h
  rw [Rep] at h; exact h
theorem Tv.tup {l : List D} {v : V} (h : Tv K aS O H (.tup l) v) : ∃ a xs, v = .ref a ∧ SqT K H a xs ∧ Reps K aS O H l xs := by
  have h : Rep K aS O H (.tup l) v := h
  rw [Rep] at h; exact h
theorem Tv.lst {l : List D} {v : V} (h : Tv K aS O H (.lst l) v) : ∃ a xs, v = .ref a ∧ H a = some (.lst xs) ∧ Reps K aS O H l xs := h
theorem Tv.fn {a : Nat} {v : V} (h : Tv K aS O H (.fn a) v) : v = .ref a := by
  have h : Rep K aS O H (.fn a) v := h
  rw [Rep] at h; exact h
theorem Tv.st {v : V} (h : Tv K aS O H .st v) : v = .ref aS := by
  have h : Rep K aS O H .st v := h
  rw [Rep] at h; exact h
theorem Tv.dct {k v : List D} {x : V} (h : Tv K aS O H (.dct k v) x) : False := by
  have h : Rep K aS O H (.dct k v) x := h
  rw [Rep] at h; exact h
theorem Rep.int' {i : Int} : Rep K aS O H (.int i) (.int i) := by rw [Rep]
theorem Rep.bl' {b : Bool} : Rep K aS O H (.bl b) (.bl b) := by rw [Rep]
theorem Rep.non' : Rep K aS O H .non .non := by rw [Rep]

mutual
theorem Rep.dp : ∀ (n : Nat) (d : D) (v : V), D.deep n d = true → Rep K aS O H d v → Dp K H v d.py
  | _, .non, v, _, h => by rw [Rep] at h; rw [h, D.py]; exact .non
  | _, .bl b, v, _, h => by rw [Rep] at h; rw [h, D.py]; exact .bl b
  | _, .int i, v, _, h => by rw [Rep] at h; rw [h, D.py]; exact .int i
  | _, .str x, v, _, h => by rw [Rep] at h; rw [h, D.py]; exact .str _
  | n + 1, .tup l, v, hd, h => by
    rw [Rep] at h
    obtain ⟨a, xs, e, q, t⟩ := h
    rw [e, D.py]
    exact .tup q (Reps.dp n l xs (by simpa [D.deep] using hd) t)
  | n + 1, .lst l, v, hd, h => by
    rw [Rep] at h
    obtain ⟨a, xs, e, _, q, t⟩ := h
    rw [e, D.py]
    exact .lst (SqL.of q) (Reps.dp n l xs (by simpa [D.deep] using hd) t)
  | 0, .tup _, _, hd, _ => by simp [D.deep] at hd
  | 0, .lst _, _, hd, _ => by simp [D.deep] at hd
  | 0, .dct _ _, _, hd, _ => by simp [D.deep] at hd
  | n + 1, .dct _ _, _, hd, _ => by simp [D.deep] at hd
  | 0, .st, _, hd, _ => by simp [D.deep] at hd
  | 0, .fn _, _, hd, _ => by simp [D.deep] at hd
  | n + 1, .fn _, _, hd, _ => by simp [D.deep] at hd
  | n + 1, .st, _, hd, _ => by simp [D.deep] at hd
theorem Reps.dp : ∀ (n : Nat) (ds : List D) (xs : List V), D.deeps n ds = true → Reps K aS O H ds xs → DpAll K H xs (D.pys ds)
  | _, [], xs, _, h => by rw [Reps] at h; rw [h, D.pys]; exact .nil
  | n, d :: ds, xs, hd, h => by
    rw [Reps] at h
    obtain ⟨v, vs, e, r, t⟩ := h
    simp [D.deeps] at hd
    rw [e, D.pys]
    exact .cons (Rep.dp n d v hd.1 r) (Reps.dp n ds vs hd.2 t)
end
theorem Tv.dp : ∀ {n : Nat} {d : D} {v : V}, D.deep n d = true → Tv K aS O H d v → Dp K H v d.py
  | n + 1, .lst l, v, hd, h => by
    obtain ⟨a, xs, e, q, t⟩ := h
    rw [e, D.py]
    exact .lst (SqL.of q) (Reps.dp n l xs (by simpa [D.deep] using hd) t)
  | 0, .lst l, v, hd, h => by simp [D.deep] at hd
  | n, .non, v, hd, h => Rep.dp (aS := aS) (O := O) n _ v hd h
  | n, .bl _, v, hd, h => Rep.dp (aS := aS) (O := O) n _ v hd h
  | n, .int _, v, hd, h => Rep.dp (aS := aS) (O := O) n _ v hd h
  | n, .str _, v, hd, h => Rep.dp (aS := aS) (O := O) n _ v hd h
  | n, .tup _, v, hd, h => Rep.dp (aS := aS) (O := O) n _ v hd h
  | n, .dct _ _, v, hd, h => Rep.dp (aS := aS) (O := O) n _ v hd h
  | n, .st, v, hd, h => Rep.dp (aS := aS) (O := O) n _ v hd h
  | n, .fn _, v, hd, h => Rep.dp (aS := aS) (O := O) n _ v hd h
end
mutual
theorem deep_depth : ∀ (n : Nat) (d : D), D.deep n d = true → d.py.depth ≤ n
  | n, .non, _ => by rw [D.py]; simp [PyData.depth]
  | n, .bl _, _ => by rw [D.py]; simp [PyData.depth]
  | n, .int _, _ => by rw [D.py]; simp [PyData.depth]
  | n, .str _, _ => by rw [D.py]; simp [PyData.depth]
  | n + 1, .tup l, h => by
    rw [D.py]; have := deeps_depth n l (by simpa [D.deep] using h); simp [PyData.depth]; omega
  | n + 1, .lst l, h => by
    rw [D.py]; have := deeps_depth n l (by simpa [D.deep] using h); simp [PyData.depth]; omega
  | 0, .tup _, h => by simp [D.deep] at h
  | 0, .lst _, h => by simp [D.deep] at h
  | 0, .dct _ _, h => by simp [D.deep] at h
  | n + 1, .dct _ _, h => by simp [D.deep] at h
  | 0, .st, h => by simp [D.deep] at h
  | 0, .fn _, h => by simp [D.deep] at h
  | n + 1, .fn _, h => by simp [D.deep] at h
  | n + 1, .st, h => by simp [D.deep] at h
theorem deeps_depth : ∀ (n : Nat) (ds : List D), D.deeps n ds = true → PyData.depthAll (D.pys ds) ≤ n
  | _, [], _ => by rw [D.pys]; simp [PyData.depthAll]
  | n, d :: ds, h => by
    simp [D.deeps] at h
    have h1 := deep_depth n d h.1
    have h2 := deeps_depth n ds h.2
    rw [D.pys]; simp [PyData.depthAll]; omega
end
mutual
theorem deep_plain : ∀ (n : Nat) (d : D), D.deep n d = true → d.py.plain = true
  | n, .non, _ => by rw [D.py]; rfl
  | n, .bl _, _ => by rw [D.py]; rfl
  | n, .int _, _ => by rw [D.py]; rfl
  | n, .str _, _ => by rw [D.py]; rfl
  | n + 1, .tup l, h => by rw [D.py, PyData.plain]; exact deeps_plain n l (by simpa [D.deep] using h)
  | n + 1, .lst l, h => by rw [D.py, PyData.plain]; exact deeps_plain n l (by simpa [D.deep] using h)
  | 0, .tup _, h => by simp [D.deep] at h
  | 0, .lst _, h => by simp [D.deep] at h
  | 0, .dct _ _, h => by simp [D.deep] at h
  | n + 1, .dct _ _, h => by simp [D.deep] at h
  | 0, .st, h => by simp [D.deep] at h
  | 0, .fn _, h => by simp [D.deep] at h
  | n + 1, .fn _, h => by simp [D.deep] at h
  | n + 1, .st, h => by simp [D.deep] at h
theorem deeps_plain : ∀ (n : Nat) (ds : List D), D.deeps n ds = true → PyData.plainAll (D.pys ds) = true
  | _, [], _ => by rw [D.pys]; rfl
  | n, d :: ds, h => by
    simp [D.deeps] at h
    rw [D.pys, PyData.plainAll, deep_plain n d h.1, deeps_plain n ds h.2]; rfl
end
theorem str_beq (x y : List Nat) : ((⟨x.toArray⟩ : Str) == ⟨y.toArray⟩) = (x == y) := by
  by_cases h : x = y
  · subst h; simp
  · have h' : ¬ (⟨x.toArray⟩ : Str) = ⟨y.toArray⟩ := fun e => h (by injection e with e; simpa using e)
    rw [beq_eq_false_iff_ne.mpr h, beq_eq_false_iff_ne.mpr h']
mutual
theorem eqv_py : ∀ (n m : Nat) (d e : D), D.deep n d = true → D.deep m e = true → PyData.eqv d.py e.py = D.eqv d e
  | n, m, .non, e, h1, h2 => by cases e <;> cases m <;> simp_all [D.py, PyData.eqv, D.eqv, D.deep]
  | n, m, .bl a, e, h1, h2 => by cases e <;> cases m <;> simp_all [D.py, PyData.eqv, D.eqv, D.deep, b2i]
  | n, m, .int a, e, h1, h2 => by cases e <;> cases m <;> simp_all [D.py, PyData.eqv, D.eqv, D.deep, b2i]
  | n, m, .str a, e, h1, h2 => by cases e <;> cases m <;> simp_all [D.py, PyData.eqv, D.eqv, D.deep, str_beq]
  | n + 1, m, .tup a, e, h1, h2 => by
    cases e <;> cases m <;> simp_all [D.py, PyData.eqv, D.eqv, D.deep]
    exact eqvs_py _ _ _ _ h1 h2
  | n + 1, m, .lst a, e, h1, h2 => by
    cases e <;> cases m <;> simp_all [D.py, PyData.eqv, D.eqv, D.deep]
    exact eqvs_py _ _ _ _ h1 h2
  | 0, _, .tup _, _, h, _ => by simp [D.deep] at h
  | 0, _, .lst _, _, h, _ => by simp [D.deep] at h
  | 0, _, .dct _ _, _, h, _ => by simp [D.deep] at h
  | n + 1, _, .dct _ _, _, h, _ => by simp [D.deep] at h
  | 0, _, .st, _, h, _ => by simp [D.deep] at h
  | 0, _, .fn _, _, h, _ => by simp [D.deep] at h
  | n + 1, _, .fn _, _, h, _ => by simp [D.deep] at h
  | n + 1, _, .st, _, h, _ => by simp [D.deep] at h
theorem eqvs_py : ∀ (n m : Nat) (ds es : List D), D.deeps n ds = true → D.deeps m es = true → PyData.eqvAll (D.pys ds) (D.pys es) = D.eqvs ds es
  | _, _, [], [], _, _ => by simp [D.pys, PyData.eqvAll, D.eqvs]
  | _, _, [], _ :: _, _, _ => by simp [D.pys, PyData.eqvAll, D.eqvs]
  | _, _, _ :: _, [], _, _ => by simp [D.pys, PyData.eqvAll, D.eqvs]
  | n, m, d :: ds, e :: es, h1, h2 => by
    simp [D.deeps] at h1 h2
    rw [D.pys, D.pys, PyData.eqvAll, D.eqvs, eqv_py n m d e h1.1 h2.1, eqvs_py n m ds es h1.2 h2.2]
end
end RS
end
section
set_option Elab.async false
set_option linter.all false
set_option maxRecDepth 100000
set_option autoImplicit false
set_option maxHeartbeats 1000000
namespace RS
open PySem L2
open PySem.W (alike dataLt keyToks keyToksAll toks_eqv lex_pre)
mutual
theorem alike_py : ∀ d e : D, D.alike d e = true → alike d.py e.py = true
  | .bl _, e, h => by cases e <;> first | (rw [D.py, D.py]; rfl) | cases h
  | .int _, e, h => by cases e <;> first | (rw [D.py, D.py]; rfl) | cases h
  | .str _, e, h => by cases e <;> first | (rw [D.py, D.py]; rfl) | cases h
  | .tup a, e, h => by
    cases e <;> first | cases h | skip
    rw [D.py, D.py, alike]; exact alikes_py _ _ (by rw [D.alike] at h; exact h)
  | .lst a, e, h => by
    cases e <;> first | cases h | skip
    rw [D.py, D.py, alike]; exact alikes_py _ _ (by rw [D.alike] at h; exact h)
  | .non, e, h => by cases e <;> cases h
  | .dct _ _, e, h => by cases e <;> cases h
  | .st, e, h => by cases e <;> cases h
theorem alikes_py : ∀ d e : List D, D.alikes d e = true → PySem.W.alikeAll (D.pys d) (D.pys e) = true
  | [], e, _ => by rw [D.pys]; unfold PySem.W.alikeAll; rfl
  | x :: xs, [], _ => by rw [D.pys, D.pys]; rfl
  | x :: xs, y :: ys, h => by
    rw [D.alikes, Bool.and_eq_true] at h
    rw [D.pys, D.pys, PySem.W.alikeAll, alike_py x y h.1, alikes_py xs ys h.2]; rfl
end
theorem itemLt_inl (a b : Int) : PyProof.Rows.lexLt PyProof.Rows.itemOrd [.inl a] [.inl b] = decide (a < b) := by
  show (decide (a < b) || (!decide (b < a) && false)) = _
  simp
theorem natsLt_eq : ∀ a b : List Nat, PyProof.Rows.strKind.blt a b = natsLt a b := by
  intro a
  induction a with
  | nil => intro b; cases b <;> rfl
  | cons x xs ih =>
    intro b
    cases b with
    | nil => rfl
    | cons y ys =>
      rw [natsLt, ← ih ys]
      show decide (x :: xs < y :: ys) = _
      by_cases h : x = y
      · subst h; simp
      · simp [h, List.cons_lt_cons_iff]
mutual
theorem lt_py : ∀ (n m : Nat) (d e : D), D.alike d e = true → D.deep n d = true → D.deep m e = true → dataLt d.py e.py = D.lt d e
  | _, _, .bl a, .bl b, _, _, _ => by
    rw [D.py, D.py]
    cases a <;> cases b <;> rfl
  | _, _, .bl a, .non, h, _, _ => by cases h
  | _, _, .bl a, .int _, h, _, _ => by cases h
  | _, _, .bl a, .str _, h, _, _ => by cases h
  | _, _, .bl a, .tup _, h, _, _ => by cases h
  | _, _, .bl a, .lst _, h, _, _ => by cases h
  | _, _, .bl a, .dct _ _, h, _, _ => by cases h
  | _, _, .bl a, .st, h, _, _ => by cases h
  | _, _, .int a, e, h, _, _ => by
    cases e <;> first | cases h | skip
    rw [D.py, D.py]; exact itemLt_inl _ _
  | _, _, .str a, .non, h, _, _ => by cases h
  | _, _, .str a, .bl _, h, _, _ => by cases h
  | _, _, .str a, .int _, h, _, _ => by cases h
  | _, _, .str a, .tup _, h, _, _ => by cases h
  | _, _, .str a, .lst _, h, _, _ => by cases h
  | _, _, .str a, .dct _ _, h, _, _ => by cases h
  | _, _, .str a, .st, h, _, _ => by cases h
  | _, _, .str a, .str b, _, _, _ => by
    rw [D.py, D.py]
    show (PyProof.Rows.strKind.blt _ _ || (!PyProof.Rows.strKind.blt _ _ && false)) = natsLt a b
    rw [← natsLt_eq]
    simp
  | n + 1, m + 1, .tup a, e, h, h1, h2 => by
    cases e <;> first | cases h | skip
    rw [D.py, D.py]
    exact lts_py n m _ _ (by rw [D.alike] at h; exact h) (by rw [D.deep] at h1; exact h1) (by rw [D.deep] at h2; exact h2)
  | n + 1, m + 1, .lst a, e, h, h1, h2 => by
    cases e <;> first | cases h | skip
    rw [D.py, D.py]
    exact lts_py n m _ _ (by rw [D.alike] at h; exact h) (by rw [D.deep] at h1; exact h1) (by rw [D.deep] at h2; exact h2)
  | 0, _, .tup _, _, _, h, _ => by simp [D.deep] at h
  | 0, _, .lst _, _, _, h, _ => by simp [D.deep] at h
  | n + 1, 0, .tup _, e, h, _, h2 => by cases e <;> first | cases h | simp [D.deep] at h2
  | n + 1, 0, .lst _, e, h, _, h2 => by cases e <;> first | cases h | simp [D.deep] at h2
  | _, _, .non, e, h, _, _ => by cases e <;> cases h
  | _, _, .dct _ _, e, h, _, _ => by cases e <;> cases h
  | _, _, .st, e, h, _, _ => by cases e <;> cases h
theorem lts_py : ∀ (n m : Nat) (d e : List D), D.alikes d e = true → D.deeps n d = true → D.deeps m e = true → PyProof.Rows.lexLt PyProof.Rows.itemOrd (keyToksAll (D.pys d)) (keyToksAll (D.pys e)) = D.lts d e
  | _, _, [], [], _, _, _ => by rw [D.pys]; rfl
  | _, _, [], _ :: _, _, _, _ => by rw [D.pys, D.pys]; rfl
  | _, _, _ :: _, [], _, _, _ => by rw [D.pys, D.pys]; rfl
  | n, m, x :: xs, y :: ys, h, h1, h2 => by
    rw [D.alikes, Bool.and_eq_true] at h
    rw [D.deeps, Bool.and_eq_true] at h1 h2
    have ih := lts_py n m xs ys h.2 h1.2 h2.2
    have t := toks_eqv x.py y.py (alike_py x y h.1)
    have e := eqv_py n m x y h1.1 h2.1
    rw [D.pys, D.pys, keyToksAll, keyToksAll, PyProof.Rows.lex_self (O := PyProof.Rows.itemOrd), D.lts]
    by_cases c : D.eqv x y = true
    · rw [if_pos c, t.1 (by rw [e]; exact c), lex_pre]; exact ih
    · rw [if_neg c, t.2 (by rw [e]; simpa using c)]
      exact lt_py n m x y h.1 h1.1 h2.1
end
theorem alike_ne : ∀ d e : D, D.alike d e = true → d.py ≠ .none
  | .bl _, _, _ => by rw [D.py]; intro z; cases z
  | .int _, _, _ => by rw [D.py]; intro z; cases z
  | .str _, _, _ => by rw [D.py]; intro z; cases z
  | .tup _, _, _ => by rw [D.py]; intro z; cases z
  | .lst _, _, _ => by rw [D.py]; intro z; cases z
  | .non, e, h => by cases e <;> cases h
  | .dct _ _, e, h => by cases e <;> cases h
  | .st, e, h => by cases e <;> cases h
mutual
theorem alike_symm : ∀ d e : D, D.alike d e = true → D.alike e d = true
  | .bl _, e, h => by cases e <;> first | rfl | cases h
  | .int _, e, h => by cases e <;> first | rfl | cases h
  | .str _, e, h => by cases e <;> first | rfl | cases h
  | .tup a, e, h => by cases e <;> first | cases h | (rw [D.alike] at h ⊢; exact alikes_symm _ _ h)
  | .lst a, e, h => by cases e <;> first | cases h | (rw [D.alike] at h ⊢; exact alikes_symm _ _ h)
  | .non, e, h => by cases e <;> cases h
  | .dct _ _, e, h => by cases e <;> cases h
  | .st, e, h => by cases e <;> cases h
theorem alikes_symm : ∀ d e : List D, D.alikes d e = true → D.alikes e d = true
  | [], e, _ => by cases e <;> rfl
  | x :: xs, [], _ => rfl
  | x :: xs, y :: ys, h => by
    rw [D.alikes, Bool.and_eq_true] at h
    rw [D.alikes, alike_symm x y h.1, alikes_symm xs ys h.2]; rfl
end
end RS
end
section
set_option Elab.async false
set_option linter.all false
set_option maxRecDepth 100000
set_option maxHeartbeats 4000000
/-! RSTupMul: tuple * int, from 0 on. -/
namespace L2
open PySem PySem.Spec PyProof.Rows
theorem tuple_mulSame (l : Addr) (items : Array Value) (n : Nat) (dd : Option Addr) (sl : Array (Option Value)) (x : Int) (u : Tok) (c0 : (decide (x < -(2 ^ 63)) || decide (x ≥ 2 ^ 63)) = false) (c1 : (items.isEmpty || x == 1) = true) :
    Meets (Builtin.«tuple.__mul__» ⟨[.ref l, .int x u], []⟩) (fun _ R s => s.heap.get? l = some { cls := .type "tuple", dict := dd, data := .seq items n, slots := sl } ∧
      R (.ok (.ret (Value.ref l))) s) :=
  .of_wp fun prog w A R s h => by
    obtain ⟨hp, g, d, tk, os⟩ := s
    obtain ⟨hl, h⟩ := h
    have f1 := AutoSeq1.idx_int
    wp_walk using wpAny_loadPart' hl
    repeat (first
      | (refine wpAny_ite_false (decide_eq_false (by rw [c0]; exact Bool.false_ne_true)) ?_; wp_walk using wpAny_loadPart' hl)
      | (refine wpAny_ite_true (decide_eq_true c1) ?_; wp_walk using wpAny_loadPart' hl))
    exact ⟨_, rfl, h⟩
theorem tuple_mulNone (l : Addr) (items : Array Value) (n : Nat) (dd : Option Addr) (sl : Array (Option Value)) (x : Int) (u : Tok) (c0 : (decide (x < -(2 ^ 63)) || decide (x ≥ 2 ^ 63)) = false) (c1 : (items.isEmpty || x == 1) = false) (c2 : (decide (x ≤ 0) || items.isEmpty) = true) :
    Meets (Builtin.«tuple.__mul__» ⟨[.ref l, .int x u], []⟩) (fun _ R s => s.heap.get? l = some { cls := .type "tuple", dict := dd, data := .seq items n, slots := sl } ∧
      R (.ok (.ret (Value.ref s.heap.objs.size))) { s with heap := s.heap.push { cls := Value.type "tuple", data := Data.seq #[] }, toks := s.toks }) :=
  .of_wp fun prog w A R s h => by
    obtain ⟨hp, g, d, tk, os⟩ := s
    obtain ⟨hl, h⟩ := h
    have f1 := AutoSeq1.idx_int
    wp_walk using wpAny_loadPart' hl
    repeat (first
      | (refine wpAny_ite_false (decide_eq_false (by rw [c0]; exact Bool.false_ne_true)) ?_; wp_walk using wpAny_loadPart' hl)
      | (refine wpAny_ite_false (decide_eq_false (by rw [c1]; exact Bool.false_ne_true)) ?_; wp_walk using wpAny_loadPart' hl)
      | (refine wpAny_ite_true (decide_eq_true c2) ?_; wp_walk using wpAny_loadPart' hl))
    exact ⟨_, rfl, h⟩
def rRepTA (K : PySem.W.Frag) : R2 := fun x y H Q => ∃ l k xs, x = .ref l ∧ y = .int k ∧ SqT K H l xs ∧ 0 ≤ k ∧ k ≤ 1000 ∧ xs.length ≤ 1000 ∧
  ((xs = [] ∨ k = 1) → Q (.ref l) H) ∧ (¬ (xs = [] ∨ k = 1) → ∀ p, H p = none → Q (.ref p) (upd H p (.tup (List.replicate k.toNat xs).flatten)))
section
variable {X : Cx}
theorem op_repTA : OpR X (binaryOp .Mult) (rRepTA X.K) := by
  intro pins s σ H x y v u Q I rx ry h
  obtain ⟨l, k, xs, rfl, rfl, hT, h0, h2, hz, q1, q2⟩ := h
  by_cases hk : ¬ (xs = [] ∨ k = 1) ∧ 2 ≤ k
  · exact op_repT pins s σ H _ _ v u Q I rx ry ⟨l, k, xs, rfl, rfl, hT, fun e => hk.1 (Or.inl e), hk.2, h2, hz, q2 hk.1⟩
  cases rx
  obtain ⟨t, rfl⟩ := ry
  obtain ⟨its, r, ⟨⟨cls, dd, data, sl⟩, ho, hc, n, hd⟩, hs⟩ := I.tuple hT
  simp only at hc hd
  subst hc hd
  have hle : its.length = xs.length := r.length.symm
  have c0 : (decide (k < -(2 ^ 63)) || decide (k ≥ 2 ^ 63)) = false := by
    rw [decide_eq_false (by omega), decide_eq_false (by omega)] <;> rfl
  by_cases hsame : xs = [] ∨ k = 1
  · have c1 : (its.toArray.isEmpty || k == 1) = true := by
      rcases hsame with e | e
      · subst e
        have : its = [] := List.eq_nil_of_length_eq_zero hle
        subst this; rfl
      · subst e; simp
    exact wpAny_binaryOp_repeat_ref (T := "tuple") (U := "int") (by decide) ⟨_, ho, rfl⟩ (fun s' => typeIs_int s' k t) noFill_tuple_mul F.fills_int_mul F.slot_int_rmul repeat_tuple F.slot_int_index.lookup
      (call_meets F.slot_int_rmul (typeIs_int s k t) F.entry_int_rmul (F.args_int_rmul_2 _ _) (int_rmul_tuple k t l its.toArray n dd sl)
        ⟨ho, rfl, ⟨_, ho, rfl⟩, call_meets F.slot_tuple_mul ⟨_, ho, rfl⟩ F.entry_tuple_mul (F.args_tuple_mul_2 _ _) (tuple_mulSame l its.toArray n dd sl k t c0 c1) ⟨ho, ⟨.ref l, H, I, rfl, q1 hsame⟩⟩⟩)
  · have hk0 : k = 0 := by
      have : ¬ 2 ≤ k := fun e => hk ⟨hsame, e⟩
      have : k ≠ 1 := fun e => hsame (Or.inr e)
      omega
    subst hk0
    have hn : its ≠ [] := fun e => hsame (Or.inl (by
      rw [e] at hle
      exact List.eq_nil_of_length_eq_zero hle.symm))
    have hi : its.toArray.isEmpty = false := by
      cases its with
      | nil => exact absurd rfl hn
      | cons a b => rfl
    refine wpAny_binaryOp_repeat_ref (T := "tuple") (U := "int") (by decide) ⟨_, ho, rfl⟩ (fun s' => typeIs_int s' 0 t) noFill_tuple_mul F.fills_int_mul F.slot_int_rmul repeat_tuple F.slot_int_index.lookup
      (call_meets F.slot_int_rmul (typeIs_int s 0 t) F.entry_int_rmul (F.args_int_rmul_2 _ _) (int_rmul_tuple 0 t l its.toArray n dd sl)
        ⟨ho, rfl, ⟨_, ho, rfl⟩, call_meets F.slot_tuple_mul ⟨_, ho, rfl⟩ F.entry_tuple_mul (F.args_tuple_mul_2 _ _) (tuple_mulNone l its.toArray n dd sl 0 t c0 (by rw [hi]; rfl) (by rfl)) ⟨ho, ?_⟩⟩)
    refine ⟨.ref s.heap.objs.size, _, I.laid (t' := s.toks) (o := .tup []) (fun b ob q => Heap.get?_push_of_some _ q) (Nat.le_refl _) ?_, rfl, q2 hsame _ (I.hok.fresh (Nat.le_refl _))⟩
    exact ⟨by rw [sizeLine_eq]; exact Nat.zero_le _, _, .nil, IsTup.new _ _⟩
end
end L2
end
section
set_option Elab.async false
set_option linter.all false
set_option maxRecDepth 100000
set_option autoImplicit false
set_option maxHeartbeats 1000000
namespace RS
open PySem L2
/-- what an operator hands on -/
def Give (K : PySem.W.Frag) (aS : Addr) (O : Addr → Prop) (H : Hp) (r : Rs) (Q : VK) : Prop := match r with
  | .sh d => (∀ v, Rep K aS O H d v → Q v H) ∧ (∀ ds p xs, d = .tup ds → H p = none → Reps K aS O H ds xs → Q (.ref p) (upd H p (.tup xs)))
  | .fr d => ∀ ds p xs, d = .lst ds → H p = none → Reps K aS O H ds xs → Q (.ref p) (upd H p (.lst xs))
  | .bo _ _ => False
theorem lim_line : LIM ≤ sizeLine := by rw [sizeLine_eq]; decide
section
variable {K : PySem.W.Frag} {aS : Addr} {O : Addr → Prop} {H : Hp} {Q : VK}
theorem Give.int {i : Int} (g : Give K aS O H (.sh (.int i)) Q) : Q (.int i) H := g.1 _ Rep.int'
theorem Give.bl {b : Bool} (g : Give K aS O H (.sh (.bl b)) Q) : Q (.bl b) H := g.1 _ Rep.bl'
end

/-! ## binary operators -/
def bopOf : BOp → Operator
  | .add => .Add | .sub => .Sub | .mul => .Mult | .fdiv => .FloorDiv | .mod => .Mod | .pow => .Pow
def rBin (K : PySem.W.Frag) (o : BOp) : R2 := fun x y H Q => ∃ aS O d e r, Tv K aS O H d x ∧ Tv K aS O H e y ∧ binF o d e = some r ∧ Give K aS O H r Q
theorem log2_of_lt {n k : Nat} (hk : 0 < k) (h : n < 2 ^ k) : n.log2 < k := by
  by_cases h0 : n = 0
  · subst h0; simpa using hk
  · exact (Nat.log2_lt h0).mpr h
theorem fits_log {i : Int} (h : fitsI i = true) : i.natAbs.log2 < 8000 := log2_of_lt (by decide) (of_decide_eq_true h)
section
variable {X : Cx}
theorem op_fdivD : OpR X (binaryOp .FloorDiv) (rI (fun _ j => j ≠ 0 ∧ j.natAbs.log2 < 9000) fun i j => .int (i.fdiv j)) :=
  opI fun _ _ _ _ _ _ _ hc q => PyProof.Rows.floordiv_int hc.1 q (.inl (PyProof.noPylong_of_log2 hc.2))
theorem op_bin (o : BOp) : OpR X (binaryOp (bopOf o)) (rBin X.K o) := by
  intro pins s σ H x y v u Q I rx ry ⟨aS, O, d, e, r, hd, he, hb, g⟩
  cases o
  · cases d <;> cases e <;> simp [binF] at hb
    · subst hb
      rw [hd.int] at rx; rw [he.int] at ry
      exact op_add pins s σ H _ _ v u Q I rx ry ⟨_, _, rfl, rfl, g.int⟩
    · obtain ⟨hl, hb⟩ := hb
      subst hb
      obtain ⟨a, xs, rfl, ha, ta⟩ := hd.tup
      obtain ⟨b, ys, rfl, hb, tb⟩ := he.tup
      refine op_catA pins s σ H _ _ v u Q I rx ry ⟨a, b, xs, ys, rfl, rfl, ha, hb, ?_, fun e => ?_, fun _ e => ?_, fun _ _ p hp => g.2 _ p _ rfl hp (ta.append tb)⟩
      · rw [ta.length, tb.length]; exact Nat.le_trans hl lim_line
      · subst e
        have := ta.length
        have e2 := List.length_eq_zero_iff.mp this.symm
        subst e2
        exact g.1 _ (by simpa using (show Rep X.K aS O H (.tup _) _ from he))
      · subst e
        have := tb.length
        have e2 := List.length_eq_zero_iff.mp this.symm
        subst e2
        exact g.1 _ (by simpa using (show Rep X.K aS O H (.tup _) _ from hd))
    · obtain ⟨hl, hb⟩ := hb
      subst hb
      obtain ⟨a, xs, rfl, ha, ta⟩ := hd.lst
      obtain ⟨b, ys, rfl, hb, tb⟩ := he.lst
      refine op_cat pins s σ H _ _ v u Q I rx ry ⟨a, b, xs, ys, rfl, rfl, ha, hb, ?_, fun p hp => g _ p _ rfl hp (ta.append tb)⟩
      rw [ta.length, tb.length]; exact Nat.le_trans hl lim_line
  · cases d <;> cases e <;> simp [binF] at hb
    subst hb
    rw [hd.int] at rx; rw [he.int] at ry
    exact op_sub pins s σ H _ _ v u Q I rx ry ⟨_, _, rfl, rfl, g.int⟩
  · cases d <;> cases e <;> simp [binF] at hb
    · obtain ⟨⟨h1, h2⟩, hb⟩ := hb
      subst hb
      rw [hd.int] at rx; rw [he.int] at ry
      refine op_mulW pins s σ H _ _ v u Q I rx ry ⟨_, _, rfl, rfl, ?_, g.int⟩
      have := fits_log h1; have := fits_log h2
      unfold CMulW; omega
    · obtain ⟨⟨h1, h2, h3⟩, hb⟩ := hb
      subst hb
      obtain ⟨a, xs, rfl, ha, ta⟩ := hd.tup
      rw [he.int] at ry
      refine op_repTA pins s σ H _ _ v u Q I rx ry ⟨a, _, xs, rfl, rfl, ha, h1, h2, by rw [ta.length]; exact h3, fun e => ?_, fun _ p hp => g.2 _ p _ rfl hp (ta.replicate _)⟩
      rcases e with e | e
      · subst e
        have e2 := List.length_eq_zero_iff.mp ta.length.symm
        subst e2
        exact g.1 _ (by simpa using (show Rep X.K aS O H (.tup _) _ from hd))
      · subst e
        exact g.1 _ (by simpa using (show Rep X.K aS O H (.tup _) _ from hd))
    · obtain ⟨⟨h1, h2, h3⟩, hb⟩ := hb
      subst hb
      obtain ⟨a, xs, rfl, ha, ta⟩ := hd.lst
      rw [he.int] at ry
      refine op_rep pins s σ H _ _ v u Q I rx ry ⟨a, _, xs, rfl, rfl, ha, by omega, by omega, ?_, fun p hp => g _ p _ rfl hp (ta.replicate _)⟩
      rw [ta.length, sizeLine_eq]
      have h4 : (_ : Int).toNat ≤ 1000 := Int.toNat_le.mpr h2
      exact Nat.le_trans (Nat.mul_le_mul h3 h4) (by decide)
  · cases d <;> cases e <;> simp [binF] at hb
    obtain ⟨⟨h1, h2⟩, hb⟩ := hb
    subst hb
    rw [hd.int] at rx; rw [he.int] at ry
    exact op_fdivD pins s σ H _ _ v u Q I rx ry ⟨_, _, rfl, rfl, ⟨h1, Nat.lt_trans (fits_log h2) (by decide)⟩, g.int⟩
  · cases d <;> cases e <;> simp [binF] at hb
    obtain ⟨h1, hb⟩ := hb
    subst hb
    rw [hd.int] at rx; rw [he.int] at ry
    exact op_modN pins s σ H _ _ v u Q I rx ry ⟨_, _, rfl, rfl, h1, g.int⟩
  · cases d <;> cases e <;> simp [binF] at hb
    obtain ⟨⟨h1, h2, h3⟩, hb⟩ := hb
    subst hb
    rw [hd.int] at rx; rw [he.int] at ry
    exact op_pow pins s σ H _ _ v u Q I rx ry ⟨_, _, rfl, rfl, ⟨h1, by omega, h3⟩, g.int⟩

end

/-! ## comparisons -/
def copOf : COp → CmpOp
  | .eq => .Eq | .ne => .NotEq | .lt => .Lt | .le => .LtE | .gt => .Gt | .ge => .GtE | .is => .Is | .isnot => .IsNot | .inn => .In | .nin => .NotIn
def rCmp (K : PySem.W.Frag) (o : COp) : R2 := fun x y H Q => ∃ aS O d e b, Tv K aS O H d x ∧ Tv K aS O H e y ∧ cmpF o d e = some b ∧ Q (.bl b) H
theorem Tv.isNon {K : PySem.W.Frag} {aS : Addr} {O : Addr → Prop} {H : Hp} {d : D} {v : V} (h : Tv K aS O H d v) : decide (v = .non) = d.isNon := by
  cases d
  · rw [h.non]; rfl
  · rw [h.bl]; rfl
  · rw [h.int]; rfl
  · rw [h.str]; rfl
  · obtain ⟨a, xs, rfl, _⟩ := h.tup; rfl
  · obtain ⟨a, xs, rfl, _⟩ := h.lst; rfl
  · exact h.dct.elim
  · rw [h.st]; rfl
  · rw [h.fn]; rfl
theorem any_eqv (n m : Nat) (l : List D) (a : D) (h1 : D.deeps n l = true) (h2 : D.deep m a = true) : ((D.pys l).any fun y => PyData.eqv y a.py) = l.any fun z => D.eqv z a := by
  induction l with
  | nil => rfl
  | cons x xs ih =>
    simp [D.deeps] at h1
    rw [D.pys, List.any_cons, List.any_cons, ih h1.2, eqv_py n m x a h1.1 h2]
theorem lst_deep {l : List D} (h : D.deeps DEEP l = true) : D.deep (DEEP + 1) (.lst l) = true := by rw [D.deep]; exact h
theorem tup_deep {l : List D} (h : D.deeps DEEP l = true) : D.deep (DEEP + 1) (.tup l) = true := by rw [D.deep]; exact h
theorem bothInt_some {d e : D} {p : Int × Int} (h : bothInt d e = some p) : d = .int p.1 ∧ e = .int p.2 := by
  unfold bothInt at h
  split at h
  · cases h; exact ⟨rfl, rfl⟩
  · cases h
theorem isNon_eq {d : D} (h : d.isNon = true) : d = .non := by cases d <;> first | rfl | cases h
theorem bl_some {d : D} {b : Bool} (h : d.bl? = some b) : d = .bl b := by cases d <;> first | (cases h; rfl) | cases h
theorem items_some {d : D} {l : List D} (h : d.items = some l) : d = .tup l ∨ d = .lst l := by
  cases d <;> first | (cases h; simp; done) | cases h
theorem b2 {a b : Bool} {x y : D} (h : (if (a && b) = true then some x else none) = some y) : a = true ∧ b = true ∧ x = y := by
  split at h
  · rename_i q; rw [Bool.and_eq_true] at q; exact ⟨q.1, q.2, Option.some.inj h⟩
  · cases h
section
variable {X : Cx}
theorem op_ord (hu : X.A.units + 64 < cLine) (o : COp) (f : Int → Int → Bool) (g : D → D → Bool) (hc : ∀ a b, cmpF o a b = ordF f g a b)
    (hi : OpR X (compareOp (copOf o)) (rI0 fun i j => .bl (f i j)))
    (hg : ∀ {s : Shared} {v u : Value} {d e : D} {as bs : List Addr} {Q : Value → Shared → Prop}, Reads s.heap v d.py as → Reads s.heap u e.py bs → D.alike d e = true → D.deep DEEP d = true → D.deep DEEP e = true →
      X.A.units + min d.py.depth e.py.depth < cLine → Q (.bool (g d e)) s → wpAny (model X.prog X.w) X.A (compareOp (copOf o) v u) Q X.xe s) : OpR X (compareOp (copOf o)) (rCmp X.K o) := by
  intro pins s σ H x y v u Q I rx ry ⟨aS, O, d, e, b, hd, he, hb, q⟩
  have hb0 := hb
  rw [hc] at hb
  unfold ordF at hb
  split at hb
  · rename_i i j hij
    obtain ⟨rfl, rfl⟩ := bothInt_some hij
    cases hb
    rw [hd.int] at rx; rw [he.int] at ry
    exact hi pins s σ H _ _ v u Q I rx ry ⟨_, _, rfl, rfl, q⟩
  · split at hb
    · rename_i h
      rw [Bool.and_eq_true, Bool.and_eq_true] at h
      cases hb
      obtain ⟨as, r1⟩ := Dp.reads I _ x v (hd.dp h.1.2) rx
      obtain ⟨bs, r2⟩ := Dp.reads I _ y u (he.dp h.2) ry
      have h3 := deep_depth _ _ h.1.2
      have : DEEP = 60 := rfl
      exact hg r1 r2 h.1.1 h.1.2 h.2 (by omega) ⟨.bl _, H, I, rfl, q⟩
    · cases hb
theorem op_cmp (hu : X.A.units + 64 < cLine) (o : COp) : OpR X (compareOp (copOf o)) (rCmp X.K o) := by
  have reads : ∀ {pins s σ H x y v u aS O} {d e : D}, Inv X pins σ H s → RelV x v → RelV y u → D.deep DEEP d = true → D.deep DEEP e = true → Tv X.K aS O H d x → Tv X.K aS O H e y → ∃ as bs, Reads s.heap v d.py as ∧ Reads s.heap u e.py bs ∧ X.A.units + min d.py.depth e.py.depth < cLine := by
    intro pins s σ H x y v u aS O d e I rx ry h1 h2 t1 t2
    obtain ⟨as, r1⟩ := Dp.reads I _ x v (t1.dp h1) rx
    obtain ⟨bs, r2⟩ := Dp.reads I _ y u (t2.dp h2) ry
    have h3 := deep_depth _ _ h1
    have : DEEP = 60 := rfl
    exact ⟨as, bs, r1, r2, by omega⟩
  have isC : ∀ (op : CmpOp) (neg : Bool), OpR X (compareOp op) (fun x y H Q => y = .non ∧ Q (.bl (if neg then !decide (x = .non) else decide (x = .non))) H) →
      OpR X (compareOp op) (fun x y H Q => ∃ a b : Bool, x = .bl a ∧ y = .bl b ∧ Q (.bl (if neg then !decide (a = b) else decide (a = b))) H) →
      OpR X (compareOp op) (fun x y H Q => ∃ aS O d e b, Tv X.K aS O H d x ∧ Tv X.K aS O H e y ∧ isF d e = some b ∧ Q (.bl (if neg then !b else b)) H) := by
    intro op neg h1 h2 pins s σ H x y v u Q I rx ry ⟨aS, O, d, e, b, hd, he, hb, q⟩
    unfold isF at hb
    split at hb
    · rename_i hn
      cases hb
      have e2 := isNon_eq hn
      subst e2
      have e3 := he.non
      refine h1 pins s σ H x y v u Q I rx ry ⟨e3, ?_⟩
      rw [hd.isNon]; exact q
    · split at hb
      · rename_i a b' ha hb'
        cases hb
        rw [bl_some ha] at hd
        rw [bl_some hb'] at he
        refine h2 pins s σ H x y v u Q I rx ry ⟨a, b', hd.bl, he.bl, ?_⟩
        rw [← Bool.beq_eq_decide_eq]; exact q
      · cases hb
  cases o
  · intro pins s σ H x y v u Q I rx ry ⟨aS, O, d, e, b, hd, he, hb, q⟩
    have hb : eqF d e = some b := hb
    unfold eqF at hb
    split at hb
    · rename_i h
      rw [Bool.and_eq_true] at h
      obtain ⟨as, bs, r1, r2, hz⟩ := reads I rx ry h.1 h.2 hd he
      refine SeqAt.eq_plain r1 r2 (deep_plain _ _ h.1) (deep_plain _ _ h.2) hz ⟨.bl b, H, I, ?_, q⟩
      rw [eqv_py _ _ _ _ h.1 h.2]; cases hb; rfl
    · cases hb
  · intro pins s σ H x y v u Q I rx ry ⟨aS, O, d, e, b, hd, he, hb, q⟩
    have hb : (eqF d e).map (!·) = some b := hb
    unfold eqF at hb
    split at hb
    · rename_i h
      rw [Bool.and_eq_true] at h
      obtain ⟨as, bs, r1, r2, hz⟩ := reads I rx ry h.1 h.2 hd he
      refine SeqAt.ne_plain r1 r2 (deep_plain _ _ h.1) (deep_plain _ _ h.2) hz ⟨.bl b, H, I, ?_, q⟩
      rw [eqv_py _ _ _ _ h.1 h.2]; cases hb; rfl
    · cases hb
  · exact op_ord hu .lt _ _ (fun _ _ => rfl) op_lt fun r1 r2 ha h1 h2 hz q => PySem.W.lt_data r1 r2 (alike_py _ _ ha) (alike_ne _ _ ha) hz (by rw [lt_py _ _ _ _ ha h1 h2]; exact q)
  · exact op_ord hu .le _ _ (fun _ _ => rfl) op_le fun r1 r2 ha h1 h2 hz q => PySem.W.le_data r1 r2 (alike_py _ _ ha) (alike_ne _ _ ha) hz (by rw [lt_py _ _ _ _ (alike_symm _ _ ha) h2 h1]; exact q)
  · exact op_ord hu .gt _ _ (fun _ _ => rfl) op_gt fun r1 r2 ha h1 h2 hz q => PySem.W.gt_data r1 r2 (alike_py _ _ ha) (alike_ne _ _ ha) hz (by rw [lt_py _ _ _ _ (alike_symm _ _ ha) h2 h1]; exact q)
  · exact op_ord hu .ge _ _ (fun _ _ => rfl) op_ge fun r1 r2 ha h1 h2 hz q => PySem.W.ge_data r1 r2 (alike_py _ _ ha) (alike_ne _ _ ha) hz (by rw [lt_py _ _ _ _ ha h1 h2]; exact q)
  · exact isC .Is false op_isN op_isBl
  · intro pins s σ H x y v u Q I rx ry ⟨aS, O, d, e, b, hd, he, hb, q⟩
    have hb : (isF d e).map (!·) = some b := hb
    cases hi : isF d e with
    | none => rw [hi] at hb; cases hb
    | some c =>
      rw [hi] at hb; cases hb
      exact isC .IsNot true op_notN op_notBl pins s σ H x y v u Q I rx ry ⟨aS, O, d, e, c, hd, he, hi, q⟩
  · intro pins s σ H x y v u Q I rx ry ⟨aS, O, d, e, b, hd, he, hb, q⟩
    have hb : inF d e = some b := hb
    unfold inF at hb
    split at hb
    · rename_i l hl
      split at hb
      · rename_i h
        rw [Bool.and_eq_true] at h
        cases hb
        have h3 := deep_depth _ _ h.1; have h4 : DEEP = 60 := rfl
        obtain ⟨as, r1⟩ := Dp.reads I _ x v (hd.dp h.1) rx
        rcases items_some hl with z | z <;> subst z
        · obtain ⟨bs, r2⟩ := Dp.reads I _ y u (he.dp (tup_deep h.2)) ry
          rw [D.py] at r2
          refine SeqAt.in_tuple_data r2 r1 (deeps_plain _ _ h.2) (deep_plain _ _ h.1) (by omega) ⟨.bl _, H, I, ?_, q⟩
          rw [any_eqv _ _ _ _ h.2 h.1]; rfl
        · obtain ⟨bs, r2⟩ := Dp.reads I _ y u (he.dp (lst_deep h.2)) ry
          rw [D.py] at r2
          refine SeqAt.in_list_data r2 r1 (deeps_plain _ _ h.2) (deep_plain _ _ h.1) (by omega) ⟨.bl _, H, I, ?_, q⟩
          rw [any_eqv _ _ _ _ h.2 h.1]; rfl
      · cases hb
    · cases hb
  · intro pins s σ H x y v u Q I rx ry ⟨aS, O, d, e, b, hd, he, hb, q⟩
    have hb : (inF d e).map (!·) = some b := hb
    unfold inF at hb
    split at hb
    · rename_i l hl
      split at hb
      · rename_i h
        rw [Bool.and_eq_true] at h
        cases hb
        have h3 := deep_depth _ _ h.1; have h4 : DEEP = 60 := rfl
        obtain ⟨as, r1⟩ := Dp.reads I _ x v (hd.dp h.1) rx
        rcases items_some hl with z | z <;> subst z
        · obtain ⟨bs, r2⟩ := Dp.reads I _ y u (he.dp (tup_deep h.2)) ry
          rw [D.py] at r2
          refine SeqAt.notIn_tuple_data r2 r1 (deeps_plain _ _ h.2) (deep_plain _ _ h.1) (by omega) ⟨.bl _, H, I, ?_, q⟩
          rw [any_eqv _ _ _ _ h.2 h.1]; rfl
        · obtain ⟨bs, r2⟩ := Dp.reads I _ y u (he.dp (lst_deep h.2)) ry
          rw [D.py] at r2
          refine SeqAt.notIn_list_data r2 r1 (deeps_plain _ _ h.2) (deep_plain _ _ h.1) (by omega) ⟨.bl _, H, I, ?_, q⟩
          rw [any_eqv _ _ _ _ h.2 h.1]; rfl
      · cases hb
    · cases hb
end
end RS
end
section
set_option Elab.async false
set_option linter.all false
set_option maxRecDepth 100000
set_option autoImplicit false
set_option maxHeartbeats 1000000
namespace RS
open PySem L2
open PyProof.Rows (IntsAre)
section
variable {K : PySem.W.Frag} {aS : Addr} {O : Addr → Prop} {H : Hp}
theorem intsOf_reps : ∀ {l : List D} {ns : List Int} {xs : List V}, intsOf l = some ns → Reps K aS O H l xs → xs = ns.map V.int
  | [], _, _, h, r => by rw [Reps] at r; cases h; exact r
  | d :: l, ns, xs, h, r => by
    rw [Reps] at r
    obtain ⟨v, vs, rfl, rv, t⟩ := r
    cases d <;> first | cases h | skip
    simp only [intsOf, Option.map_eq_some_iff] at h
    obtain ⟨ms, h1, rfl⟩ := h
    rw [Rep] at rv
    rw [rv, intsOf_reps h1 t]; rfl
end
section
variable (K : PySem.W.Frag) (aS : Addr) (O : Addr → Prop) (H : Hp)
def Tvs : List D → List V → Prop
  | [], vs => vs = []
  | d :: ds, vs => ∃ x xs, vs = x :: xs ∧ Tv K aS O H d x ∧ Tvs ds xs
end
theorem ints_read {h : Heap} : ∀ {its : List Value} {ns : List Int}, IntsAre its ns → ∃ as, ReadsAll h its (ns.map PyData.int) as
  | _, _, .nil => ⟨_, .nil⟩
  | _, _, .cons n t h => by
    obtain ⟨as, r⟩ := ints_read h
    exact ⟨_, .cons (.int n t) r⟩
theorem ints_alike (ns : List Int) : PySem.W.AlikeAll (ns.map PyData.int) :=
  ⟨fun x hx y hy => by
    obtain ⟨a, _, rfl⟩ := List.mem_map.mp hx
    obtain ⟨b, _, rfl⟩ := List.mem_map.mp hy
    rfl, fun x hx => by
    obtain ⟨a, _, rfl⟩ := List.mem_map.mp hx
    intro z; cases z⟩
theorem ints_depth : ∀ ns : List Int, PyData.depthAll (ns.map PyData.int) = 0
  | [] => by simp [PyData.depthAll]
  | n :: ns => by simp [PyData.depthAll, PyData.depth, ints_depth ns]
/-! ## subscripts -/
def rIdx (K : PySem.W.Frag) : R2 := fun x y H Q => ∃ aS O d e r, Tv K aS O H d x ∧ Tv K aS O H e y ∧ idxF d e = some r ∧ ∀ v, Rep K aS O H r v → Q v H
section
variable {X : Cx}
theorem ix_idx : IxR X (rIdx X.K) := by
  intro value slice pins s σ H x y v u Q I rx ry ⟨aS, O, d, e, r, hd, he, hb, q⟩ hs
  cases e <;> first | (cases d <;> cases hb; done) | skip
  rename_i i
  have e2 := he.int; subst e2
  have main : ∀ {l : List D} {xs : List V}, Reps X.K aS O H l xs → ((ixOf l.length i).bind fun j => l[j]?) = some r → ∃ w, atI xs i = some w ∧ Rep X.K aS O H r w := by
    intro l xs t h
    rw [Option.bind_eq_some_iff] at h
    obtain ⟨j, h1, h2⟩ := h
    obtain ⟨w, h3, h4⟩ := t.get h2
    refine ⟨w, ?_, h4⟩
    unfold atI
    rw [t.length]
    show (ixOf l.length i).bind _ = _
    rw [h1]; exact h3
  cases d <;> first | cases hb | skip
  · obtain ⟨a, xs, rfl, ha, t⟩ := hd.tup
    obtain ⟨w, h1, h2⟩ := main t hb
    exact ix_seq value slice pins s σ H _ _ v u Q I rx ry (.inr (.inl ⟨a, xs, i, w, rfl, rfl, ha, h1, q w h2⟩)) hs
  · obtain ⟨a, xs, rfl, ha, t⟩ := hd.lst
    obtain ⟨w, h1, h2⟩ := main t hb
    exact ix_seq value slice pins s σ H _ _ v u Q I rx ry (.inl ⟨a, xs, i, w, rfl, rfl, SqL.of ha, h1, q w h2⟩) hs
theorem sIx_end (n d : Nat) (o : Option Int) : HT.sIx n d o = endOf n d o := by
  cases o with
  | none => rfl
  | some v =>
    unfold HT.sIx endOf
    rfl
def rSlc (K : PySem.W.Frag) : V → Option Int → Option Int → Hp → VK → Prop := fun x lo hi H Q => ∃ aS O d r, Tv K aS O H d x ∧ slcF d lo hi = some r ∧ Give K aS O H r Q
theorem cut_reps {aS : Addr} {O : Addr → Prop} {H : Hp} {l : List D} {xs : List V} (t : Reps X.K aS O H l xs) (lo hi : Option Int) : Reps X.K aS O H (cut l lo hi) (cutV xs lo hi) := by
  unfold cut cutV
  rw [t.length, sIx_end, sIx_end]
  exact (t.drop _).take _
theorem sl_slc : SlR X (rSlc X.K) := by
  intro pins s σ H x v vl vu lo hi sl Q I rx hs pl pu ⟨aS, O, d, r, hd, hb, g⟩
  cases d <;> first | cases hb | skip
  · obtain ⟨a, xs, rfl, ha, t⟩ := hd.tup
    refine sl_tupA pins s σ H _ v vl vu lo hi sl Q I rx hs pl pu ⟨a, xs, rfl, ha, fun h => ?_, fun _ p hp => g.2 _ p _ rfl hp (cut_reps t lo hi)⟩
    refine g.1 _ ?_
    rw [t.length, sIx_end, sIx_end] at h
    unfold cut
    rw [h.1, h.2]
    simpa using (show Rep X.K aS O H (.tup _) _ from hd)
  · obtain ⟨a, xs, rfl, ha, t⟩ := hd.lst
    exact sl_list pins s σ H _ v vl vu lo hi sl Q I rx hs pl pu ⟨a, xs, rfl, SqL.of ha, fun p hp => g _ p _ rfl hp (cut_reps t lo hi)⟩

/-! ## built-ins -/
def rPrim (K : PySem.W.Frag) (p : Prim) : List V → Hp → VK → Prop := fun vs H Q => ∃ aS O ds r, Tvs K aS O H ds vs ∧ primF p ds = some r ∧ Give K aS O H r Q
theorem tvs1 {K : PySem.W.Frag} {aS : Addr} {O : Addr → Prop} {H : Hp} {d : D} {vs : List V} (h : Tvs K aS O H [d] vs) : ∃ x, vs = [x] ∧ Tv K aS O H d x := by
  obtain ⟨x, xs, rfl, h1, h2⟩ := h
  rw [show xs = [] from h2]
  exact ⟨x, rfl, h1⟩
theorem tvs2 {K : PySem.W.Frag} {aS : Addr} {O : Addr → Prop} {H : Hp} {d e : D} {vs : List V} (h : Tvs K aS O H [d, e] vs) : ∃ x y, vs = [x, y] ∧ Tv K aS O H d x ∧ Tv K aS O H e y := by
  obtain ⟨x, xs, rfl, h1, h2⟩ := h
  obtain ⟨y, rfl, h3⟩ := tvs1 h2
  exact ⟨x, y, rfl, h1, h3⟩
/-- a sequence at hand: a list or a tuple -/
theorem Tv.seq {K : PySem.W.Frag} {aS : Addr} {O : Addr → Prop} {H : Hp} {d : D} {l : List D} {x : V} (h : Tv K aS O H d x) (e : d.items = some l) : ∃ a xs, x = .ref a ∧ Reps K aS O H l xs ∧ ((d = .tup l ∧ SqT K H a xs) ∨ (d = .lst l ∧ H a = some (.lst xs))) := by
  rcases items_some e with z | z <;> subst z
  · obtain ⟨a, xs, e1, e2, t⟩ := h.tup
    exact ⟨a, xs, e1, t, .inl ⟨rfl, e2⟩⟩
  · obtain ⟨a, xs, e1, e2, t⟩ := h.lst
    exact ⟨a, xs, e1, t, .inr ⟨rfl, e2⟩⟩
theorem pr_len : CallR X (.builtin "len") (rPrim X.K .len) := by
  intro pins s σ H xs us Q I r ⟨aS, O, ds, rr, ht, hb, g⟩
  have hb : lenF ds = some rr := hb
  unfold lenF at hb
  split at hb <;> first | (cases hb; done) | skip
  · obtain ⟨x, rfl, t⟩ := tvs1 ht
    cases hb
    obtain ⟨a, ys, rfl, ha, t⟩ := t.tup
    have := g.int
    rw [← t.length] at this
    exact call_len_seq pins s σ H _ us Q I r ⟨a, ys, rfl, .inr ha, this⟩
  · obtain ⟨x, rfl, t⟩ := tvs1 ht
    cases hb
    obtain ⟨a, ys, rfl, ha, t⟩ := t.lst
    have := g.int
    rw [← t.length] at this
    exact call_len_seq pins s σ H _ us Q I r ⟨a, ys, rfl, .inl (SqL.of ha), this⟩
theorem pr_tuple : CallR X (.type "tuple") (rPrim X.K .tuple) := by
  intro pins s σ H xs us Q I r ⟨aS, O, ds, rr, ht, hb, g⟩
  have hb : tupleF ds = some rr := hb
  unfold tupleF at hb
  split at hb <;> first | (cases hb; done) | skip
  · obtain ⟨x, rfl, t⟩ := tvs1 ht
    cases hb
    have t0 := t
    obtain ⟨a, ys, rfl, ha, t⟩ := t.tup
    exact call_tuple_of pins s σ H _ us Q I r ⟨a, ys, rfl, .inr ⟨ha, g.1 _ t0⟩⟩
  · obtain ⟨x, rfl, t⟩ := tvs1 ht
    cases hb
    obtain ⟨a, ys, rfl, ha, t⟩ := t.lst
    exact call_tuple_of pins s σ H _ us Q I r ⟨a, ys, rfl, .inl ⟨SqL.of ha, fun p hp => g.2 _ p _ rfl hp t⟩⟩
theorem pr_list : CallR X (.type "list") (rPrim X.K .list) := by
  intro pins s σ H xs us Q I r ⟨aS, O, ds, rr, ht, hb, g⟩
  have hb : listF ds = some rr := hb
  unfold listF at hb
  split at hb <;> first | (cases hb; done) | skip
  · obtain ⟨x, rfl, t⟩ := tvs1 ht
    cases hb
    obtain ⟨a, ys, rfl, ha, t⟩ := t.tup
    exact call_list_of pins s σ H _ us Q I r ⟨a, ys, rfl, .inr ha, fun p hp => g _ p _ rfl hp t⟩
  · obtain ⟨x, rfl, t⟩ := tvs1 ht
    cases hb
    obtain ⟨a, ys, rfl, ha, t⟩ := t.lst
    exact call_list_of pins s σ H _ us Q I r ⟨a, ys, rfl, .inl (SqL.of ha), fun p hp => g _ p _ rfl hp t⟩
theorem preSum_take (ns : List Int) : ∀ n, n ≤ ns.length → PySem.preSum (fun i => ns.getD i 0) n = (ns.take n).sum
  | 0, _ => by simp [PySem.preSum]
  | n + 1, h => by
    have hn : n < ns.length := h
    rw [PySem.preSum, preSum_take ns n (by omega), List.take_succ_eq_append_getElem hn, List.getD_eq_getElem?_getD, List.getElem?_eq_getElem hn, List.sum_append, List.sum_cons, List.sum_nil]
    simp only [Option.getD_some, Int.add_zero]
theorem sum_tuple {prog : Program} {w : World} {A : Around} {E : Value → Shared → Prop} {s : Shared} {l : Addr} {its : List Value} {ns : List Int} {Q : Value → Shared → Prop} (hh : A.handled = none) (hl : s.heap.IsTuple l its.toArray) (hi : IntsAre its ns)
    (h : ∀ h' tk t', (∀ b o, s.heap.get? b = some o → h'.get? b = some o) → Q (.int ns.sum t') { s with heap := h', toks := tk }) : wpAny (model prog w) A (call (.builtin "sum") [.ref l]) Q E s := by
  have hlt : l < s.heap.objs.size := by obtain ⟨_, e, _⟩ := hl; exact Heap.lt_size e
  refine call_sum_walkG (wpAny_pyIter_tuple hl ?_)
  refine ⟨_, _, _, _, _, _, fun i => ns.getD i 0, rfl, Walks.tuple (A := A.in1) hh _ l (Nat.ne_of_lt hlt) its.toArray, ⟨⟨_, Heap.get?_push_size _ rfl, rfl, rfl⟩, hl.push _⟩, fun b hb => ?_, fun i v hv => ?_, fun h' tk t' hk => ?_⟩
  · show b < (s.heap.push _).objs.size
    rw [Heap.size_push]
    rcases List.mem_cons.mp hb with e | hb
    · subst e; exact Nat.lt_succ_self _
    · rw [List.mem_singleton.mp hb]; exact Nat.lt_succ_of_lt hlt
  · have hv : its[i]? = some v := by simpa using hv
    have : ∀ {its : List Value} {ns : List Int} {i : Nat} {v : Value}, IntsAre its ns → its[i]? = some v → ∃ t, v = .int (ns.getD i 0) t := by
      intro its ns i v hi
      induction hi generalizing i with
      | nil => intro e; simp at e
      | cons n t h ih =>
        intro e
        cases i with
        | zero => simp at e; exact ⟨_, by rw [← e]; rfl⟩
        | succ i => simp at e; simpa using ih e
    exact this hi hv
  · have h1 := hi.length
    have := h h' tk t' fun b o e => hk b o (by simp; exact Nat.ne_of_lt (Heap.lt_size e)) (Heap.get?_push_of_some _ e)
    rw [show its.toArray.size = ns.length by rw [List.size_toArray, h1], preSum_take ns _ (Nat.le_refl _), List.take_length]
    exact this
theorem pr_sum (hc : X.calm = true) : CallR X (.builtin "sum") (rPrim X.K .sum) := by
  intro pins s σ H xs us Q I r ⟨aS, O, ds, rr, ht, hb, g⟩
  have hb : seqInts (fun ns => some ns.sum) ds = some rr := hb
  unfold seqInts at hb
  split at hb <;> first | (cases hb; done) | skip
  · obtain ⟨x, rfl, t⟩ := tvs1 ht
    obtain ⟨a, ys, rfl, ha, t⟩ := t.tup
    rw [Option.map_eq_some_iff] at hb
    obtain ⟨n, hn, rfl⟩ := hb
    rw [Option.bind_eq_some_iff] at hn
    obtain ⟨ns, h1, h2⟩ := hn
    cases h2
    have e := intsOf_reps h1 t
    subst e
    obtain ⟨its, rv, ht, _⟩ := I.tuple ha
    rw [Vals.ref1 r]
    exact sum_tuple (I.ok.hd hc) (show s.heap.IsTuple a its.toArray from ht) rv.ints fun h' tk t' hk => ⟨.int _, H, I.kept hk, ⟨_, rfl⟩, g.int⟩
  · obtain ⟨x, rfl, t⟩ := tvs1 ht
    obtain ⟨a, ys, rfl, ha, t⟩ := t.lst
    rw [Option.map_eq_some_iff] at hb
    obtain ⟨n, hn, rfl⟩ := hb
    rw [Option.bind_eq_some_iff] at hn
    obtain ⟨ns, h1, h2⟩ := hn
    cases h2
    have e := intsOf_reps h1 t
    subst e
    exact cr_sum hc pins s σ H _ us Q I r ⟨a, ns, rfl, SqL.of ha, g.int⟩
theorem pr_abs : CallR X (.builtin "abs") (rPrim X.K .abs) := by
  intro pins s σ H xs us Q I r ⟨aS, O, ds, rr, ht, hb, g⟩
  have hb : int1 (fun i => if i < 0 then -i else i) ds = some rr := hb
  unfold int1 at hb
  split at hb <;> first | (cases hb; done) | skip
  obtain ⟨x, rfl, t⟩ := tvs1 ht
  cases hb
  rw [t.int] at r
  exact call_abs pins s σ H _ us Q I r ⟨_, rfl, g.int⟩
theorem pr_int : CallR X (.type "int") (rPrim X.K .int) := by
  intro pins s σ H xs us Q I r ⟨aS, O, ds, rr, ht, hb, g⟩
  have hb : int1 (fun i => i) ds = some rr := hb
  unfold int1 at hb
  split at hb <;> first | (cases hb; done) | skip
  obtain ⟨x, rfl, t⟩ := tvs1 ht
  cases hb
  rw [t.int] at r
  exact call_int1 pins s σ H _ us Q I r (.inl ⟨_, rfl, g.int⟩)
theorem pr_gcd : CallR X (.builtin "math.gcd") (rPrim X.K .gcd) := by
  intro pins s σ H xs us Q I r ⟨aS, O, ds, rr, ht, hb, g⟩
  have hb : gcdF ds = some rr := hb
  unfold gcdF at hb
  split at hb <;> first | (cases hb; done) | skip
  obtain ⟨x, y, rfl, t1, t2⟩ := tvs2 ht
  cases hb
  rw [t1.int, t2.int] at r
  exact cr_gcd pins s σ H _ us Q I r ⟨_, _, rfl, g.int⟩
def D.tyName : D → String
  | .non => "NoneType" | .bl _ => "bool" | .int _ => "int" | .str _ => "str" | .tup _ => "tuple" | .lst _ => "list" | _ => ""
/-- the type of a value at hand -/
theorem Tv.ty {aS : Addr} {O : Addr → Prop} {H : Hp} {d : D} {x : V} (h : Tv X.K aS O H d x) (hS : d ≠ .st ∧ ∀ a, d ≠ .fn a) : ∃ T : String, TyX X.K H x (.type T) ∧ T = d.tyName := by
  cases d
  · rw [h.non]; exact ⟨_, .base .non, rfl⟩
  · rw [h.bl]; exact ⟨_, .base (.bl _), rfl⟩
  · rw [h.int]; exact ⟨_, .base (.int _), rfl⟩
  · rw [h.str]; exact ⟨_, .base (.str _), rfl⟩
  · obtain ⟨a, xs, rfl, ha, _⟩ := h.tup
    refine ⟨"tuple", ?_, rfl⟩
    rcases ha with (ha | ⟨o, ha⟩) | ⟨o, its, n, hk, hc, _⟩
    · exact .base (.tup ha)
    · exact .fTuple ha
    · exact .kTuple hk hc
  · obtain ⟨a, xs, rfl, ha, _⟩ := h.lst
    exact ⟨_, .base (.lst ha), rfl⟩
  · exact h.dct.elim
  · exact (hS.1 rfl).elim
  · exact (hS.2 _ rfl).elim
def rIs (K : PySem.W.Frag) (T : String) (f : D → Option Bool) : List V → Hp → VK → Prop := fun vs H Q => ∃ aS O d x b, vs = [x, .ty T] ∧ Tv K aS O H d x ∧ f d = some b ∧ Q (.bl b) H
theorem pr_is (T : String) (f : D → Option Bool) (hf : ∀ d b, f d = some b → (d ≠ .st ∧ ∀ a, d ≠ .fn a) ∧ kitB d.tyName T = some b) :
    CallR X (.builtin "isinstance") (rIs X.K T f) := by
  intro pins s σ H xs us Q I r ⟨aS, O, d, x, b, ex, t, hb, q⟩
  subst ex
  obtain ⟨h1, h2⟩ := hf d b hb
  obtain ⟨T', ty, e⟩ := t.ty h1
  exact call_isi pins s σ H _ us Q I r ⟨x, .ty T, .type T', .type T, b, rfl, .ty T, ty, kit_ty (by rw [e]; exact h2), q⟩
theorem pr_isInt : CallR X (.builtin "isinstance") (rIs X.K "int" D.isInt) := pr_is _ _ fun d b h => by
  cases d <;> first | cases h | skip
  all_goals (refine ⟨⟨(by intro z; cases z), fun _ z => by cases z⟩, ?_⟩; dsimp only [D.tyName]; decide +kernel)
theorem pr_isBool : CallR X (.builtin "isinstance") (rIs X.K "bool" D.isBool) := pr_is _ _ fun d b h => by
  cases d <;> first | cases h | skip
  all_goals (refine ⟨⟨(by intro z; cases z), fun _ z => by cases z⟩, ?_⟩; dsimp only [D.tyName]; decide +kernel)
theorem pr_isTup : CallR X (.builtin "isinstance") (rIs X.K "tuple" D.isTup) := pr_is _ _ fun d b h => by
  cases d <;> first | cases h | skip
  all_goals (refine ⟨⟨(by intro z; cases z), fun _ z => by cases z⟩, ?_⟩; dsimp only [D.tyName]; decide +kernel)
/-! ### the greatest, the least -/
theorem max_tuple {prog : Program} {w : World} {A : Around} {E : Value → Shared → Prop} {s : Shared} {l : Addr} {its : List Value} {n : Int} {ns : List Int} {Q : Value → Shared → Prop} (hh : A.handled = none) (hu : A.units + 64 < cLine) (hl : s.heap.IsTuple l its.toArray) (hi : IntsAre its (n :: ns))
    (h : ∀ h' tk t', (∀ b o, s.heap.get? b = some o → h'.get? b = some o) → Q (.int (ns.foldl max n) t') { s with heap := h', toks := tk }) : wpAny (model prog w) A (call (.builtin "max") [.ref l]) Q E s := by
  obtain ⟨as, hr⟩ := ints_read hi
  refine PySem.W.max_tuple_data hh hl (x := .int n) (xs := ns.map .int) (by simpa using hr) (ints_alike (n :: ns)) (by have := ints_depth (n :: ns); simp only [List.map_cons] at this; omega) fun i v h' tk bs _ r k => ?_
  rw [PySem.W.maxD_ints] at r
  cases r
  exact h h' tk _ k
theorem min_tuple {prog : Program} {w : World} {A : Around} {E : Value → Shared → Prop} {s : Shared} {l : Addr} {its : List Value} {n : Int} {ns : List Int} {Q : Value → Shared → Prop} (hh : A.handled = none) (hu : A.units + 64 < cLine) (hl : s.heap.IsTuple l its.toArray) (hi : IntsAre its (n :: ns))
    (h : ∀ h' tk t', (∀ b o, s.heap.get? b = some o → h'.get? b = some o) → Q (.int (ns.foldl min n) t') { s with heap := h', toks := tk }) : wpAny (model prog w) A (call (.builtin "min") [.ref l]) Q E s := by
  obtain ⟨as, hr⟩ := ints_read hi
  refine PySem.W.min_tuple_data hh hl (x := .int n) (xs := ns.map .int) (by simpa using hr) (ints_alike (n :: ns)) (by have := ints_depth (n :: ns); simp only [List.map_cons] at this; omega) fun i v h' tk bs _ r k => ?_
  rw [PySem.W.minD_ints] at r
  cases r
  exact h h' tk _ k
theorem foldl_max (n : Int) : ∀ ns : List Int, ns.foldl max n ∈ n :: ns ∧ ∀ y ∈ n :: ns, y ≤ ns.foldl max n := by
  intro ns
  induction ns generalizing n with
  | nil => simp
  | cons m ns ih =>
    obtain ⟨h1, h2⟩ := ih (max n m)
    refine ⟨?_, fun y hy => ?_⟩
    · rw [List.foldl_cons]
      rcases List.mem_cons.mp h1 with e | e
      · rw [e]
        rcases Int.le_total n m with h | h
        · rw [Int.max_eq_right h]; simp
        · rw [Int.max_eq_left h]; simp
      · simp [e]
    · rw [List.foldl_cons]
      have hm := h2 (max n m) (by simp)
      rcases List.mem_cons.mp hy with e | e
      · rw [e]; exact Int.le_trans (Int.le_max_left _ _) hm
      · rcases List.mem_cons.mp e with e | e
        · rw [e]; exact Int.le_trans (Int.le_max_right _ _) hm
        · exact h2 y (by simp [e])
theorem foldl_min (n : Int) : ∀ ns : List Int, ns.foldl min n ∈ n :: ns ∧ ∀ y ∈ n :: ns, ns.foldl min n ≤ y := by
  intro ns
  induction ns generalizing n with
  | nil => simp
  | cons m ns ih =>
    obtain ⟨h1, h2⟩ := ih (min n m)
    refine ⟨?_, fun y hy => ?_⟩
    · rw [List.foldl_cons]
      rcases List.mem_cons.mp h1 with e | e
      · rw [e]
        rcases Int.le_total n m with h | h
        · rw [Int.min_eq_left h]; simp
        · rw [Int.min_eq_right h]; simp
      · simp [e]
    · rw [List.foldl_cons]
      have hm := h2 (min n m) (by simp)
      rcases List.mem_cons.mp hy with e | e
      · rw [e]; exact Int.le_trans hm (Int.min_le_left _ _)
      · rcases List.mem_cons.mp e with e | e
        · rw [e]; exact Int.le_trans hm (Int.min_le_right _ _)
        · exact h2 y (by simp [e])
theorem pr_max (hc : X.calm = true) (hu : X.A.units + 64 < cLine) : CallR X (.builtin "max") (rPrim X.K .max) := by
  intro pins s σ H xs us Q I r ⟨aS, O, ds, rr, ht, hb, g⟩
  have hb : maxF ds = some rr := hb
  unfold maxF at hb
  split at hb
  · obtain ⟨x, y, rfl, t1, t2⟩ := tvs2 ht
    cases hb
    rw [t1.int, t2.int] at r
    exact call_max2 hc pins s σ H _ us Q I r ⟨_, _, rfl, g.int⟩
  · unfold seqInts at hb
    split at hb <;> first | (cases hb; done) | skip
    · obtain ⟨x, rfl, t⟩ := tvs1 ht
      obtain ⟨a, ys, rfl, ha, t⟩ := t.tup
      rw [Option.map_eq_some_iff] at hb
      obtain ⟨n, hn, rfl⟩ := hb
      rw [Option.bind_eq_some_iff] at hn
      obtain ⟨ns, h1, h2⟩ := hn
      cases ns <;> first | cases h2 | skip
      have e := intsOf_reps h1 t
      subst e
      obtain ⟨its, rv, ht, _⟩ := I.tuple ha
      rw [Vals.ref1 r]
      exact max_tuple (I.ok.hd hc) hu (show s.heap.IsTuple a its.toArray from ht) rv.ints fun h' tk t' hk => ⟨.int _, H, I.kept hk, ⟨_, rfl⟩, g.int⟩
    · obtain ⟨x, rfl, t⟩ := tvs1 ht
      obtain ⟨a, ys, rfl, ha, t⟩ := t.lst
      rw [Option.map_eq_some_iff] at hb
      obtain ⟨n, hn, rfl⟩ := hb
      rw [Option.bind_eq_some_iff] at hn
      obtain ⟨ns, h1, h2⟩ := hn
      cases ns <;> first | cases h2 | skip
      have e := intsOf_reps h1 t
      subst e
      rename_i k ks
      refine cr_max hc pins s σ H _ us Q I r ⟨a, k :: ks, rfl, SqL.of ha, by simp, fun m h3 h4 => ?_⟩
      obtain ⟨h5, h6⟩ := foldl_max k ks
      have : m = ks.foldl max k := Int.le_antisymm (h6 m h3) (h4 _ h5)
      rw [this]; exact g.int
theorem pr_min (hc : X.calm = true) (hu : X.A.units + 64 < cLine) : CallR X (.builtin "min") (rPrim X.K .min) := by
  intro pins s σ H xs us Q I r ⟨aS, O, ds, rr, ht, hb, g⟩
  have hb : minF ds = some rr := hb
  unfold minF at hb
  split at hb
  · obtain ⟨x, y, rfl, t1, t2⟩ := tvs2 ht
    cases hb
    rw [t1.int, t2.int] at r
    exact call_min2 hc pins s σ H _ us Q I r ⟨_, _, rfl, g.int⟩
  · unfold seqInts at hb
    split at hb <;> first | (cases hb; done) | skip
    · obtain ⟨x, rfl, t⟩ := tvs1 ht
      obtain ⟨a, ys, rfl, ha, t⟩ := t.tup
      rw [Option.map_eq_some_iff] at hb
      obtain ⟨n, hn, rfl⟩ := hb
      rw [Option.bind_eq_some_iff] at hn
      obtain ⟨ns, h1, h2⟩ := hn
      cases ns <;> first | cases h2 | skip
      have e := intsOf_reps h1 t
      subst e
      obtain ⟨its, rv, ht, _⟩ := I.tuple ha
      rw [Vals.ref1 r]
      exact min_tuple (I.ok.hd hc) hu (show s.heap.IsTuple a its.toArray from ht) rv.ints fun h' tk t' hk => ⟨.int _, H, I.kept hk, ⟨_, rfl⟩, g.int⟩
    · obtain ⟨x, rfl, t⟩ := tvs1 ht
      obtain ⟨a, ys, rfl, ha, t⟩ := t.lst
      rw [Option.map_eq_some_iff] at hb
      obtain ⟨n, hn, rfl⟩ := hb
      rw [Option.bind_eq_some_iff] at hn
      obtain ⟨ns, h1, h2⟩ := hn
      cases ns <;> first | cases h2 | skip
      have e := intsOf_reps h1 t
      subst e
      rename_i k ks
      refine cr_min hc pins s σ H _ us Q I r ⟨a, k :: ks, rfl, SqL.of ha, by simp, fun m h3 h4 => ?_⟩
      obtain ⟨h5, h6⟩ := foldl_min k ks
      have : m = ks.foldl min k := Int.le_antisymm (h4 _ h5) (h6 m h3)
      rw [this]; exact g.int
end
end RS
end
section
set_option Elab.async false
set_option linter.all false
set_option maxRecDepth 100000
set_option autoImplicit false
set_option maxHeartbeats 1000000
namespace RS
open PySem L2
theorem int_len {i : Int} (h : i.natAbs < SHOW) : (Str.ofString (toString i)).length ≤ 640 := by
  have h1 : i.natAbs < 10 ^ 600 := Nat.lt_of_lt_of_le h (by decide +kernel)
  have h2 := int_text_length_le10 (a := i) (k := 600) (by decide) h1
  have e : (Str.ofString (toString i)).length = (toString i).length := ofString_length _
  omega
theorem textFrom_le : ∀ (ts : List Str) (k : Nat) (acc : Str), (textFrom k acc ts).length ≤ acc.length + piled ts
  | [], _, _ => by show _ ≤ _ + piled []; rw [piled_nil]; exact Nat.le_refl _
  | t :: ts, k, acc => by
    have ih := textFrom_le ts (k + 1) (acc ++ (if k > 0 then ", " else "" : String) ++ t)
    have e : (acc ++ (if k > 0 then ", " else "" : String) ++ t).length ≤ acc.length + 2 + t.length := by
      rw [strLen_append, strLen_append]
      have : (Str.ofString (if k > 0 then ", " else "")).length ≤ 2 := by split <;> decide
      omega
    rw [piled_cons]
    show (textFrom (k + 1) _ ts).length ≤ _
    omega
theorem listText_le (ts : List Str) : (listText ts).length ≤ 3 + piled ts := by
  unfold listText
  rw [strLen_append]
  have h := textFrom_le ts 0 "["
  have h1 : (("[" : String) : Str).length = 1 := by decide
  have h2 : (("]" : String) : Str).length = 1 := by decide
  rw [h1] at h
  rw [h2]; omega
theorem tupleText_le (ts : List Str) : (tupleText ts).length ≤ 3 + piled ts := by
  unfold tupleText
  rw [strLen_append, strLen_append]
  have h1 : (("(" : String) : Str).length = 1 := by decide
  have h2 : (Str.ofString (if ts.length == 1 then ",)" else ")")).length ≤ 2 := by split <;> decide
  have h3 : (Str.join ", " ts).length ≤ piled ts := by
    by_cases h : ts = []
    · subst h; decide
    · have := join_length_add ts h; omega
  have h1' : ("(" : Str).length = 1 := by decide
  omega
theorem str_len {x : List Nat} (h : D.showable (.str x) = true) : (PyData.str ⟨x.toArray⟩).shown.length ≤ 640 := by
  rw [D.showable, Bool.and_eq_true] at h
  have h1 : x.length ≤ 60 := of_decide_eq_true h.1
  have h2 : ∀ c ∈ x, c < 1114112 := fun c hc => of_decide_eq_true (List.all_eq_true.mp h.2 c hc)
  have := PySem.StrLaws.reprText_len ⟨x.toArray⟩ (fun c hc => by
    have := h2 c (by simpa using hc)
    omega)
  simp only [PyData.shown]
  have e : (⟨x.toArray⟩ : Str).length = x.length := by
    show x.toArray.size = _
    simp
  omega
mutual
theorem shown_le : ∀ d : D, D.showable d = true → d.py.shown.length ≤ d.rlen
  | .non, _ => by rw [D.py]; decide
  | .bl b, _ => by rw [D.py]; cases b <;> decide
  | .int i, h => by
    rw [D.py, D.rlen]
    exact int_len (of_decide_eq_true h)
  | .tup l, h => by
    rw [D.py, D.rlen]
    have := showns_le l (by rw [D.showable] at h; exact h)
    have q := tupleText_le (PyData.shownAll (D.pys l))
    simp only [PyData.shown]
    omega
  | .lst l, h => by
    rw [D.py, D.rlen]
    have := showns_le l (by rw [D.showable] at h; exact h)
    have q := listText_le (PyData.shownAll (D.pys l))
    simp only [PyData.shown]
    omega
  | .str x, h => by
    rw [D.py, D.rlen]
    exact str_len h
  | .dct _ _, h => by cases h
  | .st, h => by cases h
  | .fn _, h => by cases h
theorem showns_le : ∀ ds : List D, D.showables ds = true → piled (PyData.shownAll (D.pys ds)) ≤ D.rlens ds
  | [], _ => by rw [D.pys, D.rlens]; simp [PyData.shownAll, piled_nil]
  | d :: ds, h => by
    rw [D.showables, Bool.and_eq_true] at h
    have h1 := shown_le d h.1
    have h2 := showns_le ds h.2
    rw [D.pys, D.rlens, PyData.shownAll, piled_cons]
    omega
end
mutual
theorem showable_py : ∀ d : D, D.showable d = true → d.py.showable = true ∧ d.py.hasDict = false
  | .non, _ => by rw [D.py]; exact ⟨rfl, rfl⟩
  | .bl _, _ => by rw [D.py]; exact ⟨rfl, rfl⟩
  | .int i, h => by
    rw [D.py]
    refine ⟨?_, rfl⟩
    rw [PyData.showable]
    exact decide_eq_true (Nat.lt_of_lt_of_le (log2_of_lt (k := 1900) (by decide) (of_decide_eq_true h)) (by decide))
  | .tup l, h => by
    rw [D.py, PyData.showable, PyData.hasDict]
    exact showables_py l (by rw [D.showable] at h; exact h)
  | .lst l, h => by
    rw [D.py, PyData.showable, PyData.hasDict]
    exact showables_py l (by rw [D.showable] at h; exact h)
  | .str _, _ => by rw [D.py]; exact ⟨rfl, rfl⟩
  | .dct _ _, h => by cases h
  | .st, h => by cases h
  | .fn _, h => by cases h
theorem showables_py : ∀ ds : List D, D.showables ds = true → PyData.showableAll (D.pys ds) = true ∧ PyData.hasDictAll (D.pys ds) = false
  | [], _ => by rw [D.pys]; exact ⟨rfl, rfl⟩
  | d :: ds, h => by
    rw [D.showables, Bool.and_eq_true] at h
    have h1 := showable_py d h.1
    have h2 := showables_py ds h.2
    rw [D.pys, PyData.showableAll, PyData.hasDictAll, h1.1, h1.2, h2.1, h2.2]
    exact ⟨rfl, rfl⟩
end
def rRepr (K : PySem.W.Frag) : List V → Hp → VK → Prop := fun vs H Q => ∃ aS O d x, vs = [x] ∧ Tv K aS O H d x ∧ reprOk d = true ∧ Q (.str d.py.shown) H
theorem pr_repr {X : Cx} (hg : X.A.guards = some []) (hu : X.A.units + 70 < cLine) : CallR X (.builtin "repr") (rRepr X.K) := by
  intro pins s σ H xs us Q I r ⟨aS, O, d, x, ex, t, hb, q⟩
  subst ex
  obtain ⟨u, rfl, ru⟩ := vals1 r
  unfold reprOk at hb
  rw [Bool.and_eq_true, Bool.and_eq_true] at hb
  obtain ⟨⟨h1, h2⟩, h3⟩ := hb
  have h2 : d.rlen ≤ 16000000 := of_decide_eq_true h2
  have hs := showable_py d h1
  have hl : d.py.shown.length ≤ sizeLine := by
    have := shown_le d h1
    rw [sizeLine_eq]; omega
  obtain ⟨as, rd⟩ := Dp.reads I _ x u (t.dp h3) ru
  have hd := deep_depth _ _ h3
  have : DEEP = 60 := rfl
  have fin : ∀ h' tk, (∀ b o, s.heap.get? b = some o → h'.get? b = some o) → ∀ y, EP X pins σ Q (.str d.py.shown y) { s with heap := h', toks := tk } := fun h' tk k y => ⟨.str _, H, I.kept k, ⟨_, rfl⟩, q⟩
  have ref : ∀ a, u = .ref a → wpAny (model X.prog X.w) X.A (call (.builtin "repr") [u]) (EP X pins σ Q) X.xe s := by
    intro a e
    subst e
    exact repr_of_reads' rd hs.1 (PyData.noDict_hsm hs.2) hg (by omega) (fun _ _ e => e) (fun h' y tk k => fin h' tk k y) hl
  cases d with
  | non =>
    rw [t.non] at ru; cases ru
    have : (D.non).py.shown = "None" := by rw [D.py]; simp only [PyData.shown]
    refine PySem.P.repr_of_none ?_
    rw [← this]; exact fin s.heap _ (fun _ _ e => e) _
  | bl b =>
    rw [t.bl] at ru; cases ru
    have : (D.bl b).py.shown = (if b then Str.ofString "True" else Str.ofString "False") := by rw [D.py]; simp only [PyData.shown]
    refine PySem.P.repr_of_bool ?_
    rw [← this]; exact fin s.heap _ (fun _ _ e => e) _
  | int i =>
    rw [t.int] at ru; obtain ⟨tk, rfl⟩ := ru
    have e : (D.int i).py.shown = (toString i : String) := by rw [D.py]; simp only [PyData.shown]
    refine PySem.P.repr_of_int (Nat.lt_of_lt_of_le (log2_of_lt (k := 1900) (by decide) (of_decide_eq_true h1)) (by decide)) ?_
    rw [← e]; exact fin s.heap _ (fun _ _ e => e) _
  | tup l => obtain ⟨a, ys, rfl, _⟩ := t.tup; cases ru; exact ref _ rfl
  | lst l => obtain ⟨a, ys, rfl, _⟩ := t.lst; cases ru; exact ref _ rfl
  | str x =>
    rw [t.str] at ru; obtain ⟨tk, rfl⟩ := ru
    have e : (D.str x).py.shown = reprText ⟨x.toArray⟩ := by rw [D.py]; simp only [PyData.shown]
    refine PySem.P.repr_of_str ?_ (by rw [← e]; exact hl)
    rw [← e]; exact fin s.heap _ (fun _ _ e => e) _
  | dct _ _ => cases h1
  | st => cases h1
  | fn _ => cases h1
end RS
end
section
set_option Elab.async false
set_option linter.all false
set_option maxRecDepth 100000
set_option autoImplicit false
set_option maxHeartbeats 1000000
/-! RSPt: what holds at a point of a def's run; readings of expressions by the evaluator. -/
namespace RS
open PySem L2
structure Sl (T : Shd) (F gF : Own) (σ : L2.St) (ρ : Env) : Prop where
  len : ρ.length = σ.length
  sh : ∀ (i : Nat) (d : D), ρ[i]? = some (.sh d) → ∃ v, σ[i]? = some (some v) ∧ (d, v) ∈ T
  ow : ∀ (i : Nat) (d : D), ρ[i]? = some (.ow d) → ∃ a, σ[i]? = some (some (.ref a)) ∧ (d, a) ∈ F ∧ a ∉ gF.map (·.2)
  inj : ∀ (i j : Nat) (d e : D) (a : Addr), ρ[i]? = some (.ow d) → ρ[j]? = some (.ow e) → σ[i]? = some (some (.ref a)) → σ[j]? = some (some (.ref a)) → i = j
structure Opn (K : PySem.W.Frag) (c : Cfg) (gT : Shd) (gF : Own) (σ : L2.St) (H : Hp) (ρ : Env) (s : OSt) (T : Shd) (F : Own) : Prop where
  B : Bs K c T F H s
  hT : ∀ p ∈ gT, p ∈ T
  hF : ∀ p ∈ gF, p ∈ F
  nd : (gF.map (·.2)).Nodup
  sl : Sl T F gF σ ρ
def Pt (K : PySem.W.Frag) (c : Cfg) (gT : Shd) (gF : Own) (σ : L2.St) (H : Hp) (ρ : Env) (s : OSt) : Prop := ∃ T F, Opn K c gT gF σ H ρ s T F
section
variable {K : PySem.W.Frag} {c : Cfg} {gT gT' : Shd} {gF gF' : Own} {σ : L2.St} {H H' : Hp} {ρ : Env} {s s' : OSt} {T : Shd} {F : Own}
theorem Sl.mono {T' : Shd} (sl : Sl T F gF σ ρ) (h : ∀ p ∈ T, p ∈ T') (hf : ∀ a, a ∈ gF'.map (·.2) → a ∈ gF.map (·.2)) : Sl T' F gF' σ ρ :=
  ⟨sl.len, fun i d e => let ⟨v, a, b⟩ := sl.sh i d e; ⟨v, a, h _ b⟩, fun i d e => let ⟨a, x, y, z⟩ := sl.ow i d e; ⟨a, x, y, fun q => z (hf a q)⟩, sl.inj⟩
theorem Opn.less (o : Opn K c gT gF σ H ρ s T F) (h : ∀ p ∈ gT', p ∈ gT) (hf : List.Sublist gF' gF) : Opn K c gT' gF' σ H ρ s T F :=
  ⟨o.B, fun p hp => o.hT p (h p hp), fun p hp => o.hF p (hf.subset hp), (hf.map (·.2)).nodup o.nd, o.sl.mono (fun _ q => q) fun a q => (hf.map (·.2)).subset q⟩
theorem Pt.less (P : Pt K c gT gF σ H ρ s) (h : ∀ p ∈ gT', p ∈ gT) (hf : List.Sublist gF' gF) : Pt K c gT' gF' σ H ρ s :=
  let ⟨T, F, o⟩ := P; ⟨T, F, o.less h hf⟩
theorem Opn.step {T' : Shd} (o : Opn K c gT gF σ H ρ s T F) (h1 : ∀ p ∈ T, p ∈ T') (h2 : ∀ p ∈ gT', p ∈ T') (B : Bs K c T' F H' s') : Opn K c gT' gF σ H' ρ s' T' F :=
  ⟨B, h2, o.hF, o.nd, o.sl.mono h1 fun _ q => q⟩
theorem Opn.addT (o : Opn K c gT gF σ H ρ s T F) {d : D} {v : V} (r : Rep K c.aS (c.Ow F) H d v) : Opn K c ((d, v) :: gT) gF σ H ρ s ((d, v) :: T) F :=
  o.step (fun p q => List.mem_cons_of_mem _ q) (fun p q => by
    rcases List.mem_cons.mp q with e | q
    · rw [e]; exact List.mem_cons_self
    · exact List.mem_cons_of_mem _ (o.hT p q)) (o.B.addT r)
theorem Opn.fresh (o : Opn K c gT gF σ H ρ s T F) {d : D} {p : Addr} (B : Bs K c T ((d, p) :: F) H' s') : Opn K c gT ((d, p) :: gF) σ H' ρ s' T ((d, p) :: F) := by
  have nd := B.nd
  rw [List.map_cons, List.nodup_cons] at nd
  refine ⟨B, o.hT, fun q hq => ?_, ?_, ⟨o.sl.len, o.sl.sh, fun i e h => ?_, o.sl.inj⟩⟩
  · rcases List.mem_cons.mp hq with e | hq
    · rw [e]; exact List.mem_cons_self
    · exact List.mem_cons_of_mem _ (o.hF q hq)
  · rw [List.map_cons, List.nodup_cons]
    refine ⟨fun z => nd.1 ?_, o.nd⟩
    obtain ⟨q, hq, e⟩ := List.mem_map.mp z
    exact List.mem_map.mpr ⟨q, o.hF q hq, e⟩
  · obtain ⟨a, h1, h2, h3⟩ := o.sl.ow i e h
    refine ⟨a, h1, List.mem_cons_of_mem _ h2, fun z => ?_⟩
    rw [List.map_cons] at z
    rcases List.mem_cons.mp z with z | z
    · exact nd.1 (List.mem_map.mpr ⟨_, h2, z⟩)
    · exact h3 z
theorem Pt.forget {d : D} {a : Addr} (P : Pt K c gT ((d, a) :: gF) σ H ρ s) : Pt K c ((d, .ref a) :: gT) gF σ H ρ s := by
  obtain ⟨T, F, o⟩ := P
  have nd := o.nd
  rw [List.map_cons, List.nodup_cons] at nd
  refine ⟨(d, .ref a) :: T, F.filter fun p => decide (p.2 ≠ a), o.B.share (o.hF _ List.mem_cons_self), fun p q => ?_, fun p q => ?_, nd.2, o.sl.len, fun i e h => ?_, fun i e h => ?_, o.sl.inj⟩
  · rcases List.mem_cons.mp q with e | q
    · rw [e]; exact List.mem_cons_self
    · exact List.mem_cons_of_mem _ (o.hT p q)
  · exact List.mem_filter.mpr ⟨o.hF p (List.mem_cons_of_mem _ q), decide_eq_true fun e => nd.1 (List.mem_map.mpr ⟨p, q, e⟩)⟩
  · obtain ⟨v, h1, h2⟩ := o.sl.sh i e h
    exact ⟨v, h1, List.mem_cons_of_mem _ h2⟩
  · obtain ⟨b, h1, h2, h3⟩ := o.sl.ow i e h
    rw [List.map_cons] at h3
    exact ⟨b, h1, List.mem_filter.mpr ⟨h2, decide_eq_true fun z => h3 (z ▸ List.mem_cons_self)⟩, fun z => h3 (List.mem_cons_of_mem _ z)⟩
end
/-! ## results -/
def Rs.exT : Rs → V → Shd → Shd
  | .sh d, v, T => (d, v) :: T
  | _, _, T => T
def Rs.exF : Rs → V → Own → Own
  | .fr d, .ref a, F => (d, a) :: F
  | _, _, F => F
def Vw (σ : L2.St) (ρ : Env) : Rs → V → Prop
  | .sh _, _ => True
  | .fr _, v => ∃ a, v = .ref a
  | .bo i d, v => ∃ a, v = .ref a ∧ σ[i]? = some (some (.ref a)) ∧ ρ[i]? = some (.ow d)
def Hd (gT : Shd) (gF : Own) (σ : L2.St) (ρ : Env) : Rs → V → Prop
  | .sh d, v => (d, v) ∈ gT
  | .fr d, v => ∃ a, v = .ref a ∧ (d, a) ∈ gF
  | .bo i d, v => ∃ a, v = .ref a ∧ σ[i]? = some (some (.ref a)) ∧ ρ[i]? = some (.ow d)
section
variable {K : PySem.W.Frag} {c : Cfg} {gT gT' gT0 : Shd} {gF gF' gF0 : Own} {σ : L2.St} {H H' : Hp} {ρ : Env} {s s' : OSt} {T : Shd} {F : Own} {r : Rs} {v : V}
theorem Vw.hd (h : Vw σ ρ r v) : Hd (r.exT v gT) (r.exF v gF) σ ρ r v := by
  cases r with
  | sh d => exact List.mem_cons_self
  | fr d => obtain ⟨a, rfl⟩ := h; exact ⟨a, rfl, List.mem_cons_self⟩
  | bo i d => exact h
theorem Rs.subT (r : Rs) (v : V) (gT : Shd) : ∀ p ∈ gT, p ∈ r.exT v gT := by
  intro p hp
  cases r <;> first | exact List.mem_cons_of_mem _ hp | exact hp
theorem Rs.subF (r : Rs) (v : V) (gF : Own) : List.Sublist gF (r.exF v gF) := by
  cases r <;> (try exact List.Sublist.refl _)
  cases v <;> first | exact List.Sublist.refl _ | exact List.sublist_cons_self _ _
theorem Hd.mono (h : Hd gT gF σ ρ r v) (h1 : ∀ p ∈ gT, p ∈ gT') (h2 : ∀ p ∈ gF, p ∈ gF') : Hd gT' gF' σ ρ r v := by
  cases r with
  | sh d => exact h1 _ h
  | fr d => obtain ⟨a, e, q⟩ := h; exact ⟨a, e, h2 _ q⟩
  | bo i d => exact h
theorem Hd.ext (h : Hd gT gF σ ρ r v) (q : Rs) (u : V) : Hd (q.exT u gT) (q.exF u gF) σ ρ r v := h.mono (q.subT u gT) fun p hp => (q.subF u gF).subset hp
theorem top_tv {aS : Addr} {O : Addr → Prop} {d : D} {a : Addr} (h : Top K aS O H d a) : Tv K aS O H d (.ref a) := by
  cases d <;> first | exact h.elim | skip
  obtain ⟨xs, e, t⟩ := h
  exact ⟨a, xs, rfl, e, t⟩
theorem Opn.tv (o : Opn K c gT gF σ H ρ s T F) (h : Hd gT gF σ ρ r v) : Tv K c.aS (c.Ow F) H r.d v := by
  cases r with
  | sh d => exact (o.B.tT _ (o.hT _ h)).tv
  | fr d => obtain ⟨a, rfl, q⟩ := h; exact top_tv (o.B.tF _ (o.hF _ q)).1
  | bo i d =>
    obtain ⟨a, rfl, h1, h2⟩ := h
    obtain ⟨b, h3, h4, _⟩ := o.sl.ow i d h2
    rw [h1] at h3; cases h3
    exact top_tv (o.B.tF _ h4).1
/-- what is wanted behind an expression -/
def Post (K : PySem.W.Frag) (c : Cfg) (gT : Shd) (gF : Own) (σ : L2.St) (ρ : Env) (s : OSt) (r : Rs) (Q : VK) : Prop := ∀ v H', Pt K c (r.exT v gT) (r.exF v gF) σ H' ρ s → Vw σ ρ r v → Q v H'
theorem Post.sh {d : D} {Q : VK} (p : Post K c gT0 gF0 σ ρ s (.sh d) Q) (o : Opn K c gT gF σ H ρ s T F) (h1 : ∀ p ∈ gT0, p ∈ gT) (h2 : List.Sublist gF0 gF) (h : Rep K c.aS (c.Ow F) H d v) : Q v H :=
  p v H ⟨_, _, (o.addT h).less (fun q hq => by
    rcases List.mem_cons.mp hq with e | hq
    · rw [e]; exact List.mem_cons_self
    · exact List.mem_cons_of_mem _ (h1 q hq)) h2⟩ trivial
theorem Give.of {Q : VK} (o : Opn K c gT gF σ H ρ s T F) (h1 : ∀ p ∈ gT0, p ∈ gT) (h2 : List.Sublist gF0 gF) (p : Post K c gT0 gF0 σ ρ s r Q) (hb : r.isBo = false) : Give K c.aS (c.Ow F) H r Q := by
  cases r with
  | sh d =>
    refine ⟨fun v hv => p.sh o h1 h2 hv, fun ds q xs e hq t => ?_⟩
    subst e
    refine p _ _ ⟨_, _, (o.step (T' := (.tup ds, .ref q) :: T) (gT' := (.tup ds, .ref q) :: gT) (fun _ z => List.mem_cons_of_mem _ z) (fun z hz => ?_) (o.B.tup hq t)).less (fun z hz => ?_) h2⟩ trivial
    · rcases List.mem_cons.mp hz with e | hz
      · rw [e]; exact List.mem_cons_self
      · exact List.mem_cons_of_mem _ (o.hT z hz)
    · rcases List.mem_cons.mp hz with e | hz
      · rw [e]; exact List.mem_cons_self
      · exact List.mem_cons_of_mem _ (h1 z hz)
  | fr d =>
    intro ds q xs e hq t
    subst e
    exact p _ _ ⟨_, _, (o.fresh (o.B.lst hq t)).less h1 (h2.cons_cons _)⟩ ⟨q, rfl⟩
  | bo i d => cases hb
/-- a reading -/
def rd (K : PySem.W.Frag) (f : Env → OSt → R Rs) : TE := fun σ H Q => ∃ c gT gF ρ s r s', Pt K c gT gF σ H ρ s ∧ f ρ s = .ok r s' ∧ Post K c gT gF σ ρ s' r Q
def rdT (K : PySem.W.Frag) (f : Env → OSt → R Rs) : TT := fun σ H Q => ∃ c gT gF ρ s b s', Pt K c gT gF σ H ρ s ∧ f ρ s = .ok (.sh (.bl b)) s' ∧ ∀ H', Pt K c gT gF σ H' ρ s' → Q b H'
end
def exTs : List Rs → List V → Shd → Shd
  | r :: rs, v :: vs, T => exTs rs vs (r.exT v T)
  | _, _, T => T
def exFs : List Rs → List V → Own → Own
  | r :: rs, v :: vs, F => exFs rs vs (r.exF v F)
  | _, _, F => F
def Hds (gT : Shd) (gF : Own) (σ : L2.St) (ρ : Env) : List Rs → List V → Prop
  | [], vs => vs = []
  | r :: rs, vs => ∃ x xs, vs = x :: xs ∧ Hd gT gF σ ρ r x ∧ Hds gT gF σ ρ rs xs
def rdA (K : PySem.W.Frag) (f : Env → OSt → R (List Rs)) : TA := fun σ H Q => ∃ c gT gF ρ s rs s', Pt K c gT gF σ H ρ s ∧ f ρ s = .ok rs s' ∧ ∀ vs H', Pt K c (exTs rs vs gT) (exFs rs vs gF) σ H' ρ s' → Hds (exTs rs vs gT) (exFs rs vs gF) σ ρ rs vs → Q vs H'
section
variable {K : PySem.W.Frag} {c : Cfg} {gT gT' gT0 : Shd} {gF gF' gF0 : Own} {σ : L2.St} {H H' : Hp} {ρ : Env} {s s' : OSt} {T : Shd} {F : Own} {rs : List Rs} {vs : List V}
theorem subTs : ∀ (rs : List Rs) (vs : List V) (gT : Shd), ∀ p ∈ gT, p ∈ exTs rs vs gT
  | [], _, _, _, h => h
  | _ :: _, [], _, _, h => h
  | r :: rs, v :: vs, gT, p, h => subTs rs vs _ p (r.subT v gT p h)
theorem subFs : ∀ (rs : List Rs) (vs : List V) (gF : Own), List.Sublist gF (exFs rs vs gF)
  | [], _, _ => List.Sublist.refl _
  | _ :: _, [], _ => List.Sublist.refl _
  | r :: rs, v :: vs, gF => (r.subF v gF).trans (subFs rs vs _)
theorem Opn.tvs (o : Opn K c gT gF σ H ρ s T F) : ∀ {rs : List Rs} {vs : List V}, Hds gT gF σ ρ rs vs → Tvs K c.aS (c.Ow F) H (rs.map Rs.d) vs
  | [], _, h => h
  | _ :: _, _, h => by
    obtain ⟨x, xs, rfl, h1, h2⟩ := h
    exact ⟨x, xs, rfl, o.tv h1, Opn.tvs o h2⟩
theorem Hds.length : ∀ {rs : List Rs} {vs : List V}, Hds gT gF σ ρ rs vs → vs.length = rs.length
  | [], _, h => by rw [show _ = [] from h]; rfl
  | _ :: _, _, h => by
    obtain ⟨x, xs, rfl, _, h2⟩ := h
    simp [Hds.length h2]
/-- fresh things given away: all are shared then -/
theorem Pt.share1 {r : Rs} {v : V} (P : Pt K c (r.exT v gT) (r.exF v gF) σ H ρ s) (h : Vw σ ρ r v) (hb : r.isBo = false) : Pt K c ((r.d, v) :: gT) gF σ H ρ s := by
  cases r with
  | sh d => exact P
  | fr d => obtain ⟨a, rfl⟩ := h; exact P.forget
  | bo i d => cases hb
end
theorem _root_.L2.PE.via {X : Cx} {e : Expr} {t t' : TE} (h : PE X e t) (i : ∀ σ H Q, t' σ H Q → t σ H Q) : PE X e t' := ⟨fun pins s σ H Q I q => h.run pins s σ H Q I (i σ H Q q)⟩
theorem _root_.L2.PT.via {X : Cx} {e : Expr} {t t' : TT} (h : PT X e t) (i : ∀ σ H Q, t' σ H Q → t σ H Q) : PT X e t' := ⟨fun pins s σ H Q I q => h.run pins s σ H Q I (i σ H Q q)⟩
theorem _root_.L2.PW.via {X : Cx} {e : Expr} {t t' : TT} (h : PW X e t) (i : ∀ σ H Q, t' σ H Q → t σ H Q) : PW X e t' := ⟨fun wh pins s σ H Q I q => h.run wh pins s σ H Q I (i σ H Q q)⟩
theorem _root_.L2.PA.via {X : Cx} {es : List Expr} {t t' : TA} (h : PA X es t) (i : ∀ σ H Q, t' σ H Q → t σ H Q) : PA X es t' := ⟨fun pos pins s σ H Q I q => h.run pos pins s σ H Q I (i σ H Q q)⟩
theorem _root_.L2.PS.via {X : Cx} {st : Stmt} {t t' : TS} (h : PS X st t) (i : ∀ D σ H, t' D σ H → t D σ H) : PS X st t' := ⟨fun pins s σ H D I q => h.run pins s σ H D I (i D σ H q)⟩
theorem _root_.L2.PSs.via {X : Cx} {st : List Stmt} {t t' : TS} (h : PSs X st t) (i : ∀ D σ H, t' D σ H → t D σ H) : PSs X st t' := ⟨fun pins s σ H D I q => h.run pins s σ H D I (i D σ H q)⟩
theorem bind_ok {α β : Type} {x : R α} {f : α → OSt → R β} {b : β} {s : OSt} (h : x.bind f = .ok b s) : ∃ a s1, x = .ok a s1 ∧ f a s1 = .ok b s := by
  cases x with
  | ok a s1 => exact ⟨a, s1, rfl, h⟩
  | exc => cases h
  | no => cases h
theorem lift_ok {α : Type} {o : Option α} {a : α} {s s' : OSt} (h : lift o s = .ok a s') : o = some a ∧ s' = s := by
  cases o with
  | none => cases h
  | some b => cases h; exact ⟨rfl, rfl⟩
end RS
end
section
set_option Elab.async false
set_option linter.all false
set_option maxRecDepth 100000
set_option autoImplicit false
set_option maxHeartbeats 1000000
/-! RSMatch: whether the model's trees are the small ones; what a def's surroundings must give; calls. -/
namespace RS
open PySem L2
structure MC where
  N : List Str
  sc : Scope
  st : Str → Bool
  g : Bool
def strIs (x : String) (y : Str) : Bool := decide (Str.ofString x = y)
def visB (sc : Scope) (x : Str) : Bool := match sc.names.lookup x with
  | some .local => true
  | some .cell => true
  | some .free => true
  | _ => false
def glB (sc : Scope) (x : Str) : Bool := match sc.names.lookup x with
  | some .globalImplicit => true
  | _ => false
def locB (mc : MC) (x : Str) : Bool := match mc.sc.names.lookup x with
  | some .local => true
  | some .cell => mc.st x
  | _ => false
def dbgB (x : Str) : Bool := !(x == ("__debug__" : Str)) && !(x == ("__classdict__" : Str))
def conB : D → Const → Bool
  | .non, .none => true
  | .bl a, .bool b => a == b
  | .int a, .int b => a == b
  | .str l, .str s => l == s.cps.toList
  | _, _ => false
def plainE : Expr → Bool
  | .Set _ _ _ => false
  | .Starred _ _ => false
  | .Slice _ _ _ _ => false
  | _ => true
def bltNames : List String := ["len", "tuple", "list", "sum", "max", "min", "abs", "int", "sorted", "set", "isinstance", "repr", "range", "zip", "enumerate", "bool", "dict", "reversed"]
def primNm : Prim → String
  | .len => "len" | .tuple => "tuple" | .list => "list" | .sum => "sum" | .max => "max" | .min => "min" | .abs => "abs" | .int => "int" | .sorted => "sorted"
  | .gcd => "gcd" | .comb => "comb" | _ => ""
def primPlain : Prim → Bool
  | .len => true | .tuple => true | .list => true | .sum => true | .max => true | .min => true | .abs => true | .int => true | .gcd => true
  | _ => false
def isTy : Prim → Option String
  | .isInt => some "int" | .isBool => some "bool" | .isTup => some "tuple" | _ => none
mutual
def mtTg (mc : MC) : Tg → Expr → Bool
  | .nm i, .Name x _ => decide (mc.N[i]? = some x) && locB mc x
  | .tup t, .Tuple es _ _ => mtTgs mc t es
  | _, _ => false
def mtTgs (mc : MC) : Tg → List Expr → Bool
  | .nil, [] => true
  | .cons a b, e :: es => plainE e && mtTg mc a e && mtTgs mc b es
  | _, _ => false
end
def tgSlots : Tg → List Nat
  | .nm i => [i]
  | .tup t => tgSlots t
  | .cons a b => tgSlots a ++ tgSlots b
  | .nil => []
def ownOf (N : List Str) (vs : List Nat) : List (Str × Nat) := vs.map fun i => ((N[i]?).getD ⟨#[]⟩, i)
def isTup : Expr → Bool
  | .Tuple _ _ _ => true
  | _ => false
def callB (mc : MC) (x : String) (y : Str) : Bool := strIs x y && glB mc.sc y && dbgB y
def elen : E → Nat
  | .cons _ b => elen b + 1
  | _ => 0
def nmB (mc : MC) (i : Nat) : Expr → Bool
  | .Name x _ => decide (mc.N[i]? = some x) && visB mc.sc x && dbgB x
  | _ => false
def noPar (a : Arguments) : Bool := a.posonlyargs.isEmpty && a.args.isEmpty && a.vararg.isNone && a.kwonlyargs.isEmpty && a.kw_defaults.isEmpty && a.kwarg.isNone && a.defaults.isEmpty
mutual
def mtE : E → MC → Expr → Bool
  | .var i, mc, .Name x _ => decide (mc.N[i]? = some x) && visB mc.sc x && dbgB x
  | .con d, _, .Constant k _ _ => conB d k
  | .glob x _, mc, .Name y _ => strIs x y && glB mc.sc y && dbgB y
  | .tup es, mc, .Tuple l _ _ => decide (elen es ≤ 1000) && mtEs es mc l
  | .lst es, mc, .List l _ => decide (elen es ≤ 1000) && mtEs es mc l
  | .bin o a b, mc, .BinOp x op y _ => decide (op = bopOf o) && mtE a mc x && mtE b mc y
  | .neg a, mc, .UnaryOp op x _ => decide (op = .USub) && mtE a mc x
  | .cmp o a b, mc, .Compare x [op] [y] _ => decide (op = copOf o) && plainE y && mtE a mc x && mtE b mc y
  | .chain o1 o2 a b c, mc, .Compare x [p, q] [y, z] _ => decide (p = copOf o1) && decide (q = copOf o2) && plainE y && plainE z && mtE a mc x && mtE b mc y && mtE c mc z
  | .and a b, mc, .BoolOp op (x :: y :: r) pos => decide (op = .And) && mtE a mc x && (match r with | [] => mtE b mc y | _ => mtE b mc (.BoolOp .And (y :: r) pos))
  | .or a b, mc, .BoolOp op (x :: y :: r) pos => decide (op = .Or) && mtE a mc x && (match r with | [] => mtE b mc y | _ => mtE b mc (.BoolOp .Or (y :: r) pos))
  | .not a, mc, .UnaryOp op x _ => decide (op = .Not) && mtE a mc x
  | .ife c a b, mc, .IfExp t x y _ => mtE c mc t && mtE a mc x && mtE b mc y
  | .slc a lo hi, mc, .Subscript x (.Slice l h none _) _ => mtE a mc x && (match l with | none => (match lo with | .omit => true | _ => false) | some l => mtE lo mc l) && (match h with | none => (match hi with | .omit => true | _ => false) | some h => mtE hi mc h)
  | .rev a, mc, .Subscript x (.Slice none none (some (.UnaryOp op (.Constant (.int 1) _ _) _)) _) _ => decide (op = .USub) && mtE a mc x
  | .idx a i, mc, .Subscript x y _ => plainE y && mtE a mc x && mtE i mc y
  | .call x _ es, mc, .Call (.Name y _) l [] _ => callB mc x y && mtEs es mc l && !l.isEmpty
  | .callK x _ .nil ks kes _, mc, .Call (.Name y _) [] kws _ => callB mc x y && decide (kws.map (·.arg) = ks.map fun k => some (Str.ofString k)) && mtEs kes mc (kws.map (·.value))
  | .callX x _ es, mc, .Call (.Name y _) l [] _ => callB mc x y && mtEs es mc l && !l.isEmpty
  | .callV i _ es, mc, .Call (.Name y p) l [] _ => nmB mc i (.Name y p) && mtEs es mc l && !l.isEmpty
  | .callVK i _ ks kes _, mc, .Call (.Name y p) [] kws _ => nmB mc i (.Name y p) && decide (kws.map (·.arg) = ks.map fun k => some (Str.ofString k)) && mtEs kes mc (kws.map (·.value))
  | .heard x _ _ _ e, mc, .Call (.Name y _) [.Lambda ps body scope _] [] _ => callB mc x y && noPar ps && LamX.lamSB mc.sc scope && mtE e ⟨mc.N, scope, fun _ => false, false⟩ body
  | .prim p es, mc, .Call (.Name y _) l [] _ => if primPlain p then callB mc (primNm p) y && mtEs es mc l && !l.isEmpty
      else if p = .sortedSet then (match es, l with
        | .cons a .nil, [.Call (.Name z _) [x] [] _] => callB mc "sorted" y && callB mc "set" z && plainE x && mtE a mc x
        | _, _ => false)
      else if p = .sorted then (match es, l with
        | .cons a .nil, [x] => callB mc "sorted" y && plainE x && mtE a mc x
        | _, _ => false)
      else match isTy p, es, l with
        | some t, .cons a .nil, [x, .Name z _] => callB mc "isinstance" y && callB mc t z && plainE x && mtE a mc x
        | _, _, _ => false
  | .reprEq a b, mc, .Compare (.Call (.Name x _) [u] [] _) [op] [.Call (.Name y _) [v] [] _] _ => mc.g && decide (op = .Eq) && callB mc "repr" x && callB mc "repr" y && plainE u && plainE v && mtE a mc u && mtE b mc v
  | .comp vs tg it cnd elt, mc, .ListComp x [⟨t, i, ifs, as⟩] scope _ => decide (as = 0) && plainE i && mtI it mc t i && blkC mc.N mc.sc scope (ownOf mc.N vs) &&
      (let mc' : MC := ⟨mc.N, relS scope mc.sc, fun y => scope.names.lookup y == some .cell, mc.g⟩
       mtTg mc' tg t && (tgSlots tg).all (fun i => vs.contains i) && mtE elt mc' x && (match ifs with | [] => (match cnd with | .omit => true | _ => false) | [c] => mtE cnd mc' c | _ => false))
  | .stAt i, mc, .Subscript (.Name x p) (.Constant (.str y) _ _) _ => nmB mc i (.Name x p) && strIs "at" y
  | .stLen i, mc, .Call (.Name f _) [.Subscript (.Name x p) (.Constant (.str y) _ _) _] [] _ => callB mc "len" f && nmB mc i (.Name x p) && strIs "cells" y
  | .stCell i k, mc, .Subscript (.Subscript (.Name x p) (.Constant (.str y) _ _) _) e _ => nmB mc i (.Name x p) && strIs "cells" y && plainE e && mtE k mc e
  | .stLeft i k, mc, .Subscript (.Subscript (.Name x p) (.Constant (.str y) _ _) _) e _ => nmB mc i (.Name x p) && strIs "lefts" y && plainE e && mtE k mc e
  | _, _, _ => false
def mtEs : E → MC → List Expr → Bool
  | .nil, _, [] => true
  | .cons a b, mc, x :: r => plainE x && mtE a mc x && mtEs b mc r
  | _, _, _ => false
def mtI : E → MC → Expr → Expr → Bool
  | .itE a, mc, _, x => plainE x && mtE a mc x
  | .itRange es, mc, _, .Call (.Name y _) l [] _ => callB mc "range" y && mtEs es mc l && (match l with | [_] => true | [_, _] => true | _ => false)
  | .itEnum a, mc, t, .Call (.Name y _) [u] [] _ => isTup t && callB mc "enumerate" y && plainE u && mtE a mc u
  | .itZip a b, mc, t, .Call (.Name y _) [u, v] [] _ => isTup t && callB mc "zip" y && plainE u && plainE v && mtE a mc u && mtE b mc v
  | _, _, _, _ => false
end

/-! ## calls of defs: a promise by an evaluator's function -/
structure Lv where
  prog : Program
  w : World
  K : PySem.W.Frag
  mg : Str → Option Value
  base : Heap
  A : Around
  cd : Value
  q : Str
def lvOf (X : Cx) : Lv := ⟨X.prog, X.w, X.K, X.mg, X.base, X.A, X.env.code, X.env.qual⟩
structure Pre (K : PySem.W.Frag) (c : Cfg) (H : Hp) (s : OSt) : Prop where
  st : StOk c H s
  oS : c.O c.aS ∧ c.O c.aL ∧ c.O c.aC
  trk : ∀ a, c.O a → ∃ o, H a = some o ∧ Solid o
  tq : c.tab = TB K
def SpEnd (K : PySem.W.Frag) (c : Cfg) (H : Hp) (s' : OSt) (Q : VK) : Rs → Prop
  | .sh d => ∀ v H', Keeps c H H' → StOk c H' s' → Rep K c.aS c.O H' d v → Q v H'
  | .fr d => ∀ a H', Keeps c H H' → StOk c H' s' → Emp H a → Top K c.aS (fun b => c.O b ∨ b = a) H' d a → Q (.ref a) H'
  | .bo _ _ => False
def spF (K : PySem.W.Frag) (fn : Fn) (n : Nat) : List V → Hp → VK → Prop := fun vs H Q =>
  ∃ c ds st r st', vs.length = n ∧ Reps K c.aS c.O H ds vs ∧ Pre K c H st ∧ fn ds st = .ok r st' ∧ SpEnd K c H st' Q r
/-- the def at f, called where nothing is being shown, does what fn says -/
structure FnG (P : Program) (w : World) (K : PySem.W.Frag) (mg : Str → Option Value) (base : Heap) (k : Nat) (f : Addr) (fd : FuncData) (ps : List Str) (fn : Fn) (g : Bool) : Prop where
  go : ∀ (A : Around) (outer : List PySem.Env) (s : Shared) (H : Hp) (args : Args) (us : List Value) (vs : List V) (Q : VK), Room k A → (g = true → A.guards = some []) → Env0 P w K mg base A outer s H →
    BindsTo s fd args (ps.zip us) → Vals vs us → spF K fn ps.length vs H Q → codeAny (model P w) A (.call (.ref f) args) (CR CX0 outer P w H s Q E0) s
theorem FnG.up {P : Program} {w : World} {K : PySem.W.Frag} {mg : Str → Option Value} {base : Heap} {j k : Nat} {f : Addr} {fd : FuncData} {ps : List Str} {fn : Fn} {g : Bool} (F : FnG P w K mg base j f fd ps fn g) (h : j ≤ k) : FnG P w K mg base k f fd ps fn g :=
  ⟨fun A outer s H args us vs Q hr => F.go A outer s H args us vs Q (hr.mono h)⟩
def CallOk (L : Lv) (nm : String) (fn : Fn) : Prop := ∃ g k ad fd ps, L.mg (Str.ofString nm) = some (.ref ad) ∧ PySem.W.keepIn L.K (.ref ad) = true ∧ Binds L.K fd ps [] ∧ FnG L.prog L.w L.K L.mg L.base k ad fd ps fn g ∧ (Room k L.A ∧ (g = true → L.A.guards = some [])) ∧ ∀ ds s r s', fn ds s = .ok r s' → ds.length = ps.length
/-- a call with keywords alone: the i-th parameter gets the perm i-th of them -/
def CallKOk (L : Lv) (nm : String) (fn : Fn) (ks : List String) (perm : List Nat) : Prop := ∃ g k ad fd ps, L.mg (Str.ofString nm) = some (.ref ad) ∧ PySem.W.keepIn L.K (.ref ad) = true ∧
  (∀ (s : Shared) (ws : List Value), L.K.In s.heap → ws.length = ks.length → BindsTo s fd ⟨[], (ks.map Str.ofString).zip ws⟩ (ps.zip (perm.map fun i => ws.getD i .none))) ∧ (∀ i ∈ perm, i < ks.length) ∧
  FnG L.prog L.w L.K L.mg L.base k ad fd ps fn g ∧ (Room k L.A ∧ (g = true → L.A.guards = some [])) ∧ ∀ ds s r s', fn ds s = .ok r s' → ds.length = ps.length
def GlobOk (L : Lv) (nm : String) (d : D) : Prop := ∃ v u, L.mg (Str.ofString nm) = some u ∧ RelV v u ∧ ∀ aS O H, Rep L.K aS O H d v
structure CtxOk (X : Cx) (mc : MC) : Prop where
  nd : X.N.Nodup
  calm : X.calm = true
  blt : ∀ x ∈ bltNames, X.mg (Str.ofString x) = none
  gd : mc.g = true → X.A.guards = some []
  un : X.A.units + 100 < cLine
  N : mc.N = X.N
  sc : mc.sc = X.env.scope
  st : ∀ x, mc.st x = true → X.fn x = true
  kind : X.env.scope.kind = .function
/-- what is asked of a place where an error is heard -/
def HeardSem (L : Lv) (e : E) : Prop := ∀ (X : Cx) (mc : MC) (x : Expr), CtxOk X mc → lvOf X = L → mtE e mc x = true → PE X x (rd X.K (ev e))
/-- a def called by what a name holds -/
def FnVOk (L : Lv) (a : Addr) (fn : Fn) : Prop := ∃ g k fd ps, PySem.W.keepIn L.K (.ref a) = true ∧ Binds L.K fd ps [] ∧ FnG L.prog L.w L.K L.mg L.base k a fd ps fn g ∧ (Room k L.A ∧ (g = true → L.A.guards = some [])) ∧ ∀ ds s r s', fn ds s = .ok r s' → ds.length = ps.length
def FnVKOk (L : Lv) (a : Addr) (fn : Fn) (ks : List String) (perm : List Nat) : Prop := ∃ g k fd ps, PySem.W.keepIn L.K (.ref a) = true ∧
  (∀ (s : Shared) (ws : List Value), L.K.In s.heap → ws.length = ks.length → BindsTo s fd ⟨[], (ks.map Str.ofString).zip ws⟩ (ps.zip (perm.map fun i => ws.getD i .none))) ∧ (∀ i ∈ perm, i < ks.length) ∧
  FnG L.prog L.w L.K L.mg L.base k a fd ps fn g ∧ (Room k L.A ∧ (g = true → L.A.guards = some [])) ∧ ∀ ds s r s', fn ds s = .ok r s' → ds.length = ps.length
def okE (L : Lv) : E → Prop
  | .var _ => True
  | .con _ => True
  | .glob x d => GlobOk L x d
  | .nil => True
  | .cons a b => okE L a ∧ okE L b
  | .omit => True
  | .tup es => okE L es
  | .lst es => okE L es
  | .bin _ a b => okE L a ∧ okE L b
  | .neg a => okE L a
  | .cmp _ a b => okE L a ∧ okE L b
  | .chain _ _ a b c => okE L a ∧ okE L b ∧ okE L c
  | .and a b => okE L a ∧ okE L b
  | .or a b => okE L a ∧ okE L b
  | .not a => okE L a
  | .ife c a b => okE L c ∧ okE L a ∧ okE L b
  | .idx a i => okE L a ∧ okE L i
  | .slc a l h => okE L a ∧ okE L l ∧ okE L h
  | .rev a => okE L a
  | .call x f es => CallOk L x f ∧ okE L es
  | .callX x f es => CallOk L x f ∧ okE L es
  | .callV _ alts es => (∀ p ∈ alts, FnVOk L p.1 p.2) ∧ okE L es
  | .callVK _ alts ks kes perm => (∀ p ∈ alts, FnVKOk L p.1 p.2 ks perm) ∧ okE L kes
  | .heard x k pre hs e => HeardSem L (.heard x k pre hs e)
  | .callK x f _ ks kes perm => CallKOk L x f ks perm ∧ okE L kes
  | .prim p es => (p = .gcd → L.mg "gcd" = some (.builtin "math.gcd")) ∧ okE L es
  | .reprEq a b => okE L a ∧ okE L b
  | .comp _ _ it c e => okE L it ∧ okE L c ∧ okE L e
  | .itE a => okE L a
  | .itRange es => okE L es
  | .itZip a b => okE L a ∧ okE L b
  | .itEnum a => okE L a
  | .stAt _ => True
  | .stLen _ => True
  | .stCell _ k => okE L k
  | .stLeft _ k => okE L k
section
variable {X : Cx} {mc : MC}
theorem CtxOk.vis (ok : CtxOk X mc) {x : Str} (h : visB mc.sc x = true) : Vis X.env.scope x := by
  rw [ok.sc] at h
  unfold visB at h
  unfold Vis
  split at h <;> first | cases h | skip
  · rename_i e; exact .inl e
  · rename_i e; exact .inr (.inl e)
  · rename_i e; exact .inr (.inr e)
theorem CtxOk.gl (ok : CtxOk X mc) {x : Str} (h : glB mc.sc x = true) : Gl X x := by
  rw [ok.sc] at h
  unfold glB at h
  show X.env.scope.names.lookup x = _
  split at h <;> first | cases h | skip
  rename_i e; exact e
theorem CtxOk.loc (ok : CtxOk X mc) {x : Str} (h : locB mc x = true) : L2.Loc X.env.scope x ∧ (X.fn x = true ∨ X.env.scope.names.lookup x = some .local) := by
  unfold locB at h
  rw [ok.sc] at h
  unfold L2.Loc
  split at h <;> first | cases h | skip
  · rename_i e; exact ⟨.inl e, .inr e⟩
  · rename_i e; exact ⟨.inr e, .inl (ok.st x h)⟩
theorem dbg1 {x : Str} (h : dbgB x = true) : (x == ("__debug__" : Str)) = false := by
  unfold dbgB at h
  rw [Bool.and_eq_true] at h
  simpa using h.1
theorem dbg2 {x : Str} (h : dbgB x = true) : (x == ("__classdict__" : Str)) = false := by
  unfold dbgB at h
  rw [Bool.and_eq_true] at h
  simpa using h.2
theorem strIs_eq {x : String} {y : Str} (h : strIs x y = true) : y = Str.ofString x := (of_decide_eq_true h).symm
theorem callB_of (ok : CtxOk X mc) {x : String} {y : Str} (h : callB mc x y = true) : y = Str.ofString x ∧ Gl X y ∧ (y == ("__debug__" : Str)) = false := by
  unfold callB at h
  rw [Bool.and_eq_true, Bool.and_eq_true] at h
  exact ⟨strIs_eq h.1.1, ok.gl h.1.2, dbg1 h.2⟩
end
/-- a call runs the def -/
theorem run_g {X : Cx} {k : Nat} {f : Addr} {fd : FuncData} {ps : List Str} {fn : Fn} {pins : List (Addr × Obj)} {σ : L2.St} {H : Hp} {s : Shared} {Q : VK} {us : List Value} {vs : List V} {g : Bool}
    (F : FnG X.prog X.w X.K X.mg X.base k f fd ps fn g) (hr : Room k X.A) (hg : g = true → X.A.guards = some []) (hb : Binds X.K fd ps []) (I : Inv X pins σ H s) (r : Vals vs us) (h : spF X.K fn ps.length vs H Q) :
    wpAny (model X.prog X.w) X.A (call (.ref f) us) (EP X pins σ Q) X.xe s := by
  have hl : us.length = ps.length := by
    obtain ⟨_, _, _, _, _, h1, _⟩ := h
    rw [← r.length]; exact h1
  have hb' : BindsTo s fd ⟨us, []⟩ (ps.zip us) := by
    have := hb s us I.kIn (by simpa using hl)
    simpa using this
  refine wpAny_call (codeAny_mono (F.go X.A X.stack s H ⟨us, []⟩ us vs Q hr hg I.env0 hb' r h) fun res s' hq => ?_)
  cases res with
  | error e => exact False.elim hq
  | ok fl =>
    cases fl with
    | ret u => exact I.after hq
    | next => exact False.elim hq
    | brk => exact False.elim hq
    | cont => exact False.elim hq
/-- a call's reading -/
def tCallG (K : PySem.W.Frag) (fn : Fn) (n : Nat) (t : TA) : TE := fun σ H Q => t σ H fun vs H1 => spF K fn n vs H1 Q
theorem pe_g {X : Cx} {k : Nat} {f : Addr} {fd : FuncData} {ps : List Str} {fn : Fn} {x : Str} {p pos : Pos} {e : Expr} {es : List Expr} {t : TA}
    {g : Bool} (F : FnG X.prog X.w X.K X.mg X.base k f fd ps fn g) (hr : Room k X.A) (hgd : g = true → X.A.guards = some []) (hg : Gl X x) (hm : X.mg x = some (.ref f)) (hk : PySem.W.keepIn X.K (.ref f) = true) (hb : Binds X.K fd ps [])
    (ha : PA X (e :: es) t) (hdb : (x == ("__debug__" : Str)) = false) (he : starEach (e :: es) X.env = (false, eval e X.env) :: starEach es X.env) (hpl : (backTo pos (starEach es X.env)).any (·.1) = false) :
    PE X (.Call (.Name x p) (e :: es) [] pos) (tCallG X.K fn ps.length t) := by
  refine ⟨fun pins s σ H Q I h => wpAny_Call_Name_kw (ld_glob I hg hm ?_ hdb)⟩
  refine PySem.W.callWith_K (h₀ := X.base) I.ok.mod.kin hk (thn (ha.run pos pins s σ H _ I h) fun us s1 ⟨vs, H1, I1, r, q⟩ => ⟨I1.kIn, ?_⟩) he hpl
  exact run_g F hr hgd hb I1 r q
end RS
end
section
set_option Elab.async false
set_option linter.all false
set_option maxRecDepth 100000
set_option autoImplicit false
set_option maxHeartbeats 2000000
/-! RSExpr: every expression that matches does what the evaluator says. -/
namespace RS
open PySem L2
structure Snd (X : Cx) (e : Expr) (f : Env → OSt → R Rs) : Prop where
  pe : PE X e (rd X.K f)
  pt : PT X e (rdT X.K f)
  pw : ∀ op vs pos, e = .BoolOp op vs pos → PW X e (rdT X.K f)
section
variable {X : Cx} {mc : MC}
theorem rdT_of {f : Env → OSt → R Rs} {σ : L2.St} {H : Hp} {Q : Bool → Hp → Prop} (h : rdT X.K f σ H Q) : tB (rd X.K f) σ H Q := by
  obtain ⟨c, gT, gF, ρ, s, b, s', P, e, q⟩ := h
  refine ⟨c, gT, gF, ρ, s, _, s', P, e, fun v H' P' _ => ?_⟩
  obtain ⟨T, F, o⟩ := P'
  have := o.B.tT _ (o.hT _ List.mem_cons_self)
  rw [Rep] at this
  exact ⟨b, this, q H' ⟨T, F, o.less (fun _ z => List.mem_cons_of_mem _ z) (List.Sublist.refl _)⟩⟩
theorem Snd.of_pe {e : Expr} {f : Env → OSt → R Rs} (h : PE X e (rd X.K f)) (he : ∀ whole, isTrue e X.env whole = (do let v ← whole; standAt e.pos; holding [v] (truthy v))) (hb : ∀ op vs pos, e ≠ .BoolOp op vs pos) : Snd X e f :=
  ⟨h, (pt_val h he).via fun σ H Q q => rdT_of q, fun op vs pos z => (hb op vs pos z).elim⟩
/-! ### names, constants -/
theorem snd_var (ok : CtxOk X mc) {i : Nat} {x : Str} {pos : Pos} (hN : mc.N[i]? = some x) (hv : visB mc.sc x = true) (hd : dbgB x = true) : PE X (.Name x pos) (rd X.K (ev (.var i))) := by
  refine (pe_var (i := i) (by rw [← ok.N]; exact hN) (ok.vis hv) (dbg1 hd) (dbg2 hd)).via fun σ H Q h => ?_
  obtain ⟨c, gT, gF, ρ, s, r, s', P, e, q⟩ := h
  rw [ev] at e
  obtain ⟨e, rfl⟩ := lift_ok e
  obtain ⟨T, F, o⟩ := P
  cases hs : ρ.getD i .no with
  | no => rw [hs] at e; cases e
  | sh d =>
    rw [hs] at e; cases e
    have hs' : ρ[i]? = some (.sh d) := by
      rw [List.getD_eq_getElem?_getD] at hs
      cases q : ρ[i]? with
      | none => rw [q] at hs; cases hs
      | some y => rw [q] at hs; rw [show y = .sh d from hs]
    obtain ⟨v, h1, h2⟩ := o.sl.sh i d hs'
    exact ⟨v, h1, q v H ⟨T, F, o.B, fun p hp => by
      rcases List.mem_cons.mp hp with e | hp
      · rw [e]; exact h2
      · exact o.hT p hp, o.hF, o.nd, o.sl⟩ trivial⟩
  | ow d =>
    rw [hs] at e; cases e
    have hs' : ρ[i]? = some (.ow d) := by
      rw [List.getD_eq_getElem?_getD] at hs
      cases q : ρ[i]? with
      | none => rw [q] at hs; cases hs
      | some y => rw [q] at hs; rw [show y = .ow d from hs]
    obtain ⟨a, h1, h2, _⟩ := o.sl.ow i d hs'
    exact ⟨.ref a, h1, q _ H ⟨T, F, o⟩ ⟨a, rfl, h1, hs'⟩⟩
theorem rd_const {d : D} {v : V} {σ : L2.St} {H : Hp} {Q : VK} {f : Env → OSt → R Rs} (hf : ∀ ρ s, f ρ s = .ok (.sh d) s) (hr : ∀ aS O H, Rep X.K aS O H d v) (h : rd X.K f σ H Q) : Q v H := by
  obtain ⟨c, gT, gF, ρ, s, r, s', ⟨T, F, o⟩, e, q⟩ := h
  rw [hf] at e
  cases e
  exact q v H ⟨_, _, o.addT (hr _ _ _)⟩ trivial
theorem snd_con {d : D} {k : Const} {n : Nat} {pos : Pos} (h : conB d k = true) : PE X (.Constant k n pos) (rd X.K (ev (.con d))) := by
  have hf : ∀ ρ s, ev (.con d) ρ s = .ok (.sh d) s := fun ρ s => by rw [ev]
  cases d <;> cases k <;> first | cases h | skip
  · exact pe_non.via fun σ H Q q => rd_const hf (fun _ _ _ => Rep.non') q
  · have := beq_iff_eq.mp h; subst this
    exact pe_bl.via fun σ H Q q => rd_const hf (fun _ _ _ => Rep.bl') q
  · have := beq_iff_eq.mp h; subst this
    exact pe_int.via fun σ H Q q => rd_const hf (fun _ _ _ => Rep.int') q
  · rename_i l x
    have hl : l = x.cps.toList := by simpa [conB] using h
    refine pe_str.via fun σ H Q q => rd_const (v := .str x) hf (fun _ _ _ => ?_) q
    rw [Rep, hl]
theorem snd_glob (ok : CtxOk X mc) {x : String} {y : Str} {d : D} {pos : Pos} (h : GlobOk (lvOf X) x d) (hb : callB mc x y = true) : PE X (.Name y pos) (rd X.K (ev (.glob x d))) := by
  obtain ⟨v, u, hm, r, rep⟩ := h
  obtain ⟨rfl, hg, hd⟩ := callB_of ok hb
  exact (pe_glob hg hm r hd).via fun σ H Q q => rd_const (fun ρ s => by rw [ev]) rep q
/-! ### two in a row -/
theorem rd_two {fa fb : Env → OSt → R Rs} {g : Rs → Rs → Option Rs} {σ : L2.St} {H : Hp} {Q : VK} {W : V → V → Hp → Prop}
    (h : rd X.K (fun ρ s => (fa ρ s).bind fun x s1 => (fb ρ s1).bind fun y s2 => lift (g x y) s2) σ H Q)
    (k : ∀ c gT gF gT0 gF0 ρ s rx ry r T F x y H2, Opn X.K c gT gF σ H2 ρ s T F → (∀ p ∈ gT0, p ∈ gT) → List.Sublist gF0 gF → Hd gT gF σ ρ rx x → Hd gT gF σ ρ ry y → g rx ry = some r → Post X.K c gT0 gF0 σ ρ s r Q → W x y H2) :
    rd X.K fa σ H fun x H1 => rd X.K fb σ H1 fun y H2 => W x y H2 := by
  obtain ⟨c, gT, gF, ρ, s, r, s', P, e, q⟩ := h
  obtain ⟨rx, s1, e1, e⟩ := bind_ok e
  obtain ⟨ry, s2, e2, e⟩ := bind_ok e
  obtain ⟨e3, rfl⟩ := lift_ok e
  refine ⟨c, gT, gF, ρ, s, rx, s1, P, e1, fun x H1 P1 V1 => ⟨c, _, _, ρ, s1, ry, _, P1, e2, fun y H2 P2 V2 => ?_⟩⟩
  obtain ⟨T, F, o⟩ := P2
  exact k c _ _ gT gF ρ _ rx ry r T F x y H2 o (fun p hp => ry.subT y _ p (rx.subT x gT p hp)) ((rx.subF x gF).trans (ry.subF y _)) (V1.hd.ext ry y) V2.hd e3 q
theorem rd_one {fa : Env → OSt → R Rs} {g : Rs → Option Rs} {σ : L2.St} {H : Hp} {Q : VK} {W : V → Hp → Prop}
    (h : rd X.K (fun ρ s => (fa ρ s).bind fun x s1 => lift (g x) s1) σ H Q)
    (k : ∀ c gT gF gT0 gF0 ρ s rx r T F x H2, Opn X.K c gT gF σ H2 ρ s T F → (∀ p ∈ gT0, p ∈ gT) → List.Sublist gF0 gF → Hd gT gF σ ρ rx x → g rx = some r → Post X.K c gT0 gF0 σ ρ s r Q → W x H2) :
    rd X.K fa σ H fun x H1 => W x H1 := by
  obtain ⟨c, gT, gF, ρ, s, r, s', P, e, q⟩ := h
  obtain ⟨rx, s1, e1, e⟩ := bind_ok e
  obtain ⟨e3, rfl⟩ := lift_ok e
  refine ⟨c, gT, gF, ρ, s, rx, _, P, e1, fun x H1 P1 V1 => ?_⟩
  obtain ⟨T, F, o⟩ := P1
  exact k c _ _ gT gF ρ _ rx r T F x H1 o (fun p hp => rx.subT x gT p hp) (rx.subF x gF) V1.hd e3 q
theorem binF_bo {o : BOp} {d e : D} {r : Rs} (h : binF o d e = some r) : r.isBo = false := by
  cases o <;> cases d <;> cases e <;> simp [binF] at h <;> first | (obtain ⟨_, h⟩ := h; subst h; rfl) | (subst h; rfl)
theorem snd_bin {o : BOp} {a b : Expr} {ea eb : E} {pos : Pos} (ha : PE X a (rd X.K (ev ea))) (hb : PE X b (rd X.K (ev eb))) : PE X (.BinOp a (bopOf o) b pos) (rd X.K (ev (.bin o ea eb))) := by
  refine (pe_op (op_bin o) ha hb).via fun σ H Q h => ?_
  refine rd_two (g := fun x y => binF o x.d y.d) (by simpa only [ev] using h) ?_
  intro c gT gF gT0 gF0 ρ s rx ry r T F x y H2 op h1 h2 hx hy e q
  exact ⟨c.aS, c.Ow F, rx.d, ry.d, r, op.tv hx, op.tv hy, e, Give.of op h1 h2 q (binF_bo e)⟩
theorem snd_cmp (ok : CtxOk X mc) {o : COp} {a b : Expr} {ea eb : E} {pos : Pos} (hp : plainE b = true) (ha : PE X a (rd X.K (ev ea))) (hb : PE X b (rd X.K (ev eb))) : PE X (.Compare a [copOf o] [b] pos) (rd X.K (ev (.cmp o ea eb))) := by
  have hm : behindInMarks (copOf o) b = false := by cases b <;> first | rfl | cases hp
  refine (pe_cmpR (op_cmp (by have := ok.un; omega) o) ha hb hm).via fun σ H Q h => ?_
  refine rd_two (g := fun x y => (cmpF o x.d y.d).map fun b => .sh (.bl b)) (by simpa only [ev] using h) ?_
  intro c gT gF gT0 gF0 ρ s rx ry r T F x y H2 op h1 h2 hx hy e q
  rw [Option.map_eq_some_iff] at e
  obtain ⟨b', e, rfl⟩ := e
  exact ⟨c.aS, c.Ow F, rx.d, ry.d, b', op.tv hx, op.tv hy, e, q.sh op h1 h2 Rep.bl'⟩
theorem tst_cmp (ok : CtxOk X mc) {o : COp} {a b : Expr} {ea eb : E} {pos : Pos} (hp : plainE b = true) (ha : PE X a (rd X.K (ev ea))) (hb : PE X b (rd X.K (ev eb))) : PT X (.Compare a [copOf o] [b] pos) (rdT X.K (ev (.cmp o ea eb))) := by
  have hm : behindInMarks (copOf o) b = false := by cases b <;> first | rfl | cases hp
  refine (pt_cmpR (op_cmp (by have := ok.un; omega) o) ha hb hm).via fun σ H Q h => ?_
  refine rd_two (g := fun x y => (cmpF o x.d y.d).map fun b => .sh (.bl b)) (W := fun x y H => rCmp X.K o x y H fun x H' => ∃ k, x = .bl k ∧ Q k H') (Q := fun x H' => ∃ k, x = .bl k ∧ Q k H') (by have h2 := rdT_of h; unfold tB at h2; simpa only [ev] using h2) ?_
  intro c gT gF gT0 gF0 ρ s rx ry r T F x y H2 op h1 h2 hx hy e q
  rw [Option.map_eq_some_iff] at e
  obtain ⟨b', e, rfl⟩ := e
  exact ⟨c.aS, c.Ow F, rx.d, ry.d, b', op.tv hx, op.tv hy, e, q.sh op h1 h2 Rep.bl'⟩
theorem negF_some {d : D} {r : Rs} (h : negF d = some r) : ∃ i, d = .int i ∧ r = .sh (.int (-i)) := by
  cases d <;> first | (cases h; exact ⟨_, rfl, rfl⟩) | cases h
theorem snd_neg {a : Expr} {ea : E} {pos : Pos} (ha : PE X a (rd X.K (ev ea))) : PE X (.UnaryOp .USub a pos) (rd X.K (ev (.neg ea))) := by
  refine (pe_un un_neg ha).via fun σ H Q h => ?_
  refine rd_one (g := fun x => negF x.d) (by simpa only [ev] using h) ?_
  intro c gT gF gT0 gF0 ρ s rx r T F x H2 op h1 h2 hx e q
  obtain ⟨i, hd, rfl⟩ := negF_some e
  have t := op.tv hx
  rw [hd] at t
  exact ⟨i, t.int, q.sh op h1 h2 Rep.int'⟩
theorem snd_idx {a b : Expr} {ea eb : E} {pos : Pos} (hp : plainE b = true) (ha : PE X a (rd X.K (ev ea))) (hb : PE X b (rd X.K (ev eb))) : PE X (.Subscript a b pos) (rd X.K (ev (.idx ea eb))) := by
  have hs : PlainIx b := fun o i => by cases b <;> first | rfl | cases hp
  refine (pe_ix ix_idx ha hb hs).via fun σ H Q h => ?_
  refine rd_two (g := fun x y => (idxF x.d y.d).map .sh) (by simpa only [ev] using h) ?_
  intro c gT gF gT0 gF0 ρ s rx ry r T F x y H2 op h1 h2 hx hy e q
  rw [Option.map_eq_some_iff] at e
  obtain ⟨d, e, rfl⟩ := e
  exact ⟨c.aS, c.Ow F, rx.d, ry.d, d, op.tv hx, op.tv hy, e, fun v hv => q.sh op h1 h2 hv⟩
end
end RS
end
section
set_option Elab.async false
set_option linter.all false
set_option maxRecDepth 100000
set_option autoImplicit false
set_option maxHeartbeats 2000000
/-! RSRev0: t[::-1] of a tuple. -/
namespace RS
open PySem PySem.Spec PyProof.Rows L2 HT
section
variable {prog : Program} {w : World} {A : Around} {E : Value → Shared → Prop} {s : Shared}
theorem adjust_back (n : Nat) : Builtin.Slice.sliceAdjust none none (-1) (n : Int) = ((n : Int) - 1, -1) := by
  unfold Builtin.Slice.sliceAdjust
  rfl
theorem places_back (n : Nat) : Builtin.Slice.slicePlaces ((n : Int) - 1) (-1) (-1) = n := by
  unfold Builtin.Slice.slicePlaces
  simp
  omega
theorem fm_some {α β : Type} {f : α → Option β} {g : α → β} : ∀ l : List α, (∀ m ∈ l, f m = some (g m)) → l.filterMap f = l.map g
  | [], _ => rfl
  | m :: l, h => by rw [List.filterMap_cons, h m List.mem_cons_self, List.map_cons, fm_some l fun x hx => h x (List.mem_cons_of_mem _ hx)]
theorem pick_back (xs : Array Value) : ((List.range xs.size).filterMap fun (m : Nat) => xs[(((xs.size : Int) - 1) + (m : Int) * (-1)).toNat]?).toArray = xs.toList.reverse.toArray := by
  congr 1
  apply List.ext_getElem?
  intro i
  have e : ((List.range xs.size).filterMap fun (m : Nat) => xs[(((xs.size : Int) - 1) + (m : Int) * (-1)).toNat]?) = (List.range xs.size).map fun m => xs.toList.reverse.getD m .none := by
    refine fm_some _ fun m hm => ?_
    have hm := List.mem_range.mp hm
    have q : (((xs.size : Int) - 1) + (m : Int) * (-1)).toNat = xs.size - 1 - m := by omega
    rw [q]
    have : xs.size - 1 - m < xs.size := by omega
    have g : xs.toList.reverse[m]? = some xs[xs.size - 1 - m] := by
      rw [List.getElem?_reverse (by simpa using hm)]
      simp [this]
    simp [List.getD_eq_getElem?_getD, this, g]
  rw [e, List.getElem?_map]
  by_cases hi : i < xs.size
  · rw [List.getElem?_range hi]
    have : i < xs.toList.reverse.length := by simpa using hi
    simp [List.getD_eq_getElem?_getD, List.getElem?_eq_getElem this]
  · rw [List.getElem?_eq_none (by simpa using hi), List.getElem?_eq_none (by simpa using hi)]
    rfl
theorem sliceApplied_back {sl : Addr} {vl vu vs : Value} {n : Nat} {Q : Int × Int × Nat → Shared → Prop} (hs : s.heap.IsSliceOf sl vl vu vs) (pl : IsPart vl none) (pu : IsPart vu none) (ps : IsPart vs (some (-1)))
    (h : Q ((n : Int) - 1, -1, n) s) : wpAny (model prog w) A (Builtin.Slice.sliceApplied (.ref sl) (pure (n : Int))) Q E s := by
  obtain ⟨os, hos, hcs, hds⟩ := id hs
  unfold Builtin.Slice.sliceApplied Builtin.Slice.sliceFields
  refine wpAny_bind (wpAny_bind (wpAny_field hos hds (x := vl) rfl (wpAny_bind (wpAny_field hos hds (x := vu) rfl (wpAny_bind (wpAny_field hos hds (x := vs) rfl (wpAny_pure ?_)))))))
  refine wpAny_bind (slicePart_ ps ?_)
  show wpAny _ _ (if ((-1 : Int) == 0) = true then _ else _) _ _ s
  rw [if_neg (by decide)]
  refine wpAny_bind (slicePart_ pl (wpAny_bind (slicePart_ pu (wpAny_bind (wpAny_pure ?_)))))
  show wpAny _ _ (match Builtin.Slice.sliceAdjust none none (-1) (n : Int) with | (lo, hi) => pure (lo, (-1 : Int), Builtin.Slice.slicePlaces lo hi (-1))) _ _ s
  rw [adjust_back n]
  show wpAny _ _ (pure ((n : Int) - 1, (-1 : Int), Builtin.Slice.slicePlaces ((n : Int) - 1) (-1) (-1))) _ _ s
  rw [places_back]
  exact wpAny_pure h
theorem getItem_tuple_back {t sl : Addr} {items : Array Value} {vl vu vs : Value} {Q : Value → Shared → Prop} (ht : IsTup s.heap t items) (hs : s.heap.IsSliceOf sl vl vu vs) (pl : IsPart vl none) (pu : IsPart vu none) (ps : IsPart vs (some (-1)))
    (h : Q (.ref s.heap.objs.size) { s with heap := s.heap.push { cls := .type "tuple", data := .seq items.toList.reverse.toArray } })
    (hsz : items.size ≤ sizeLine) : wpAny (model prog w) A (getItem (.ref t) (.ref sl)) Q E s := by
  have hok : sizeOk (.seq items.toList.reverse.toArray) := by
    show items.toList.reverse.toArray.size ≤ sizeLine
    rw [List.size_toArray, List.length_reverse, Array.length_toList]; exact hsz
  obtain ⟨os, hos, hcs, hds⟩ := id hs
  have hTs : s.TypeIs (.ref sl) "slice" := ⟨os, hos, hcs⟩
  unfold getItem
  try with_reducible refine wpAny_holding ?_
  first | refine wpAny_bind (wpAny_pure ?_) | skip
  refine wpAny_bind (wpAny_sequenceKey ht.typeIs (by decide) ?_)
  refine wpAny_bind (wpAny_callSpecial?_slot (name := Str.ofString "__getitem__") ht.typeIs PyProof.Rows.slot_tuple_getitem
    (wpAny_call_entry PyProof.Rows.slot_tuple_getitem ht.typeIs entry_tuple_getitem ?_ (args_tuple_getitem _ _)))
  show wpAny _ _ (Builtin.Tuple.tupleItemsOf (.ref t) >>= _) _ _ s
  refine wpAny_bind (tupleItemsOf_ ht ?_)
  refine wpAny_bind (wpAny_typeOf hTs ?_)
  rw [if_pos (by decide)]
  refine wpAny_bind (sliceApplied_back hs pl pu ps ?_)
  have hno : ¬ ((((items.size : Int) - 1) == 0 && (-1 : Int) == 1 && items.size == items.size) = true) := by
    intro q
    rw [Bool.and_eq_true, Bool.and_eq_true] at q
    exact absurd q.1.2 (by decide)
  show wpAny _ _ (if (((items.size : Int) - 1) == 0 && (-1 : Int) == 1 && items.size == items.size) = true then _ else _) _ _ s
  rw [if_neg hno, pick_back]
  first
    | exact wpAny_bind (m := Builtin.Tuple.tupleExact _) (wpAny_newObj_type (wpAny_pure ⟨_, rfl, wpAny_pure h⟩) hok)
    | exact wpAny_bind (m := Builtin.Tuple.tupleExact _) (wpAny_newObj_type (wpAny_bind (wpAny_pure (wpAny_pure ⟨_, rfl, wpAny_pure h⟩))) hok)
    | exact wpAny_bind (wpAny_bind (m := Builtin.Tuple.tupleExact _) (wpAny_newObj_type (wpAny_pure (wpAny_pure ⟨_, rfl, wpAny_pure h⟩)) hok))
    | exact wpAny_bind (wpAny_bind (m := Builtin.Tuple.tupleExact _) (wpAny_newObj_type (wpAny_pure ⟨_, rfl, wpAny_pure h⟩) hok))
end
/-- x[::-1], a list or a tuple -/
def tRevA (K : PySem.W.Frag) (te : TE) : TE := fun σ H Q => te σ H fun x H1 => ∃ a xs, x = .ref a ∧ ((SqL K H1 a xs ∧ ∀ p, H1 p = none → Q (.ref p) (upd H1 p (.lst xs.reverse))) ∨ (SqT K H1 a xs ∧ ∀ p, H1 p = none → Q (.ref p) (upd H1 p (.tup xs.reverse))))
theorem pe_revA {X : Cx} {e : Expr} {te : TE} {k : Nat} {p1 p2 p3 pos : Pos} (he : PE X e te) : PE X (.Subscript e (.Slice none none (some (.UnaryOp .USub (.Constant (.int 1) k p1) p2)) p3) pos) (tRevA X.K te) := by
  refine ⟨fun pins s σ H Q I h => ?_⟩
  refine Subscript_ (thn (he.run pins s σ H _ I h) fun v s1 ⟨x, H1, I1, r1, q1⟩ => ?_)
  obtain ⟨a, xs, ex, q⟩ := q1
  subst ex
  cases r1
  have hst : PO X (some (.UnaryOp .USub (.Constant (.int 1) k p1) p2)) (tPart (tUn (rU fun i => .int (-i)) (tC (.int 1)))) := po_some (pe_un un_neg pe_int)
  refine wpAny_Slice (thn (po_none.run pins s1 σ H1 (fun o H2 => o = none ∧ H2 = H1) I1 ⟨rfl, rfl⟩) fun vl s2 ⟨l, H2, I2, pl, el, e2⟩ => ?_)
  subst el e2
  refine thn (po_none.run pins s2 σ H2 (fun o H3 => o = none ∧ H3 = H2) I2 ⟨rfl, rfl⟩) fun vu s3 ⟨u, H3, I3, pu, eu, e3⟩ => ?_
  subst eu e3
  refine thn (hst.run pins s3 σ H3 (fun o H4 => o = some (-1) ∧ H4 = H3) I3 ⟨1, rfl, -1, rfl, rfl, rfl⟩) fun vs s4 ⟨o, H4, I4, ps, eo, e4⟩ => ?_
  subst eo e4
  have I5 : Inv X pins σ H4 { s4 with heap := s4.heap.push { cls := .type "slice", data := .fields #[vl, vu, vs] } } := I4.kept (t' := s4.toks) fun b ob q => Heap.get?_push_of_some _ q
  show wpAny (model X.prog X.w) X.A (subscriptTail e (.Slice none none (some (.UnaryOp .USub (.Constant (.int 1) k p1) p2)) p3) (.ref a) (.ref s4.heap.objs.size)) (EP X pins σ Q) X.xe { s4 with heap := s4.heap.push { cls := .type "slice", data := .fields #[vl, vu, vs] } }
  rcases q with ⟨hx, q⟩ | ⟨hx, q⟩
  · obtain ⟨its, r, ht, hz⟩ := I5.list hx
    have hlen := r.length
    refine tail_any (ops := [.ref a, .ref s4.heap.objs.size]) ht.isList.typeIs (PySem.slot_list_getitem.lookup) ?_ (by with_unfolding_all rfl)
    refine wpAny_getItem_list_slice ht.isList (Heap.IsSliceOf.new _ vl vu vs) pl pu ps (by decide) ?_ (by rw [List.size_toArray]; omega)
    rw [PySem.W.krv_pick]
    refine ⟨.ref _, _, I5.laid (t' := s4.toks) (o := .lst xs.reverse) (fun b ob q => Heap.get?_push_of_some _ q) (Nat.le_refl _) ?_, rfl, q _ (I5.hok.fresh (Nat.le_refl _))⟩
    exact ⟨by rw [List.length_reverse]; exact hz, _, 0, r.reverse, Heap.get?_push_size _ rfl⟩
  · obtain ⟨its, r, ht, hz⟩ := I5.tuple hx
    have hlen := r.length
    refine tail_any (ops := [.ref a, .ref s4.heap.objs.size]) ht.typeIs (PyProof.Rows.slot_tuple_getitem.lookup) ?_ (by with_unfolding_all rfl)
    refine getItem_tuple_back ht (Heap.IsSliceOf.new _ vl vu vs) pl pu ps ?_ (by rw [List.size_toArray]; omega)
    refine ⟨.ref _, _, I5.laid (t' := s4.toks) (o := .tup xs.reverse) (fun b ob q => Heap.get?_push_of_some _ q) (Nat.le_refl _) ?_, rfl, q _ (I5.hok.fresh (Nat.le_refl _))⟩
    exact ⟨by rw [List.length_reverse]; exact hz, _, by simpa using r.reverse, IsTup.new _ _⟩
end RS
end
section
set_option Elab.async false
set_option linter.all false
set_option maxRecDepth 100000
set_option autoImplicit false
set_option maxHeartbeats 2000000
namespace RS
open PySem L2
section
variable {X : Cx} {mc : MC}
theorem Post.up {K : PySem.W.Frag} {c : Cfg} {gT gT' : Shd} {gF gF' : Own} {σ : L2.St} {ρ : Env} {s : OSt} {r : Rs} {Q : VK} (p : Post K c gT gF σ ρ s r Q) (h1 : ∀ p ∈ gT, p ∈ gT') (h2 : List.Sublist gF gF') : Post K c gT' gF' σ ρ s r Q := by
  intro v H' P V
  refine p v H' (P.less (fun q hq => ?_) ?_) V
  · cases r <;> first
      | (rcases List.mem_cons.mp hq with e | hq
         · rw [e]; exact List.mem_cons_self
         · exact List.mem_cons_of_mem _ (h1 q hq))
      | exact h1 q hq
  · cases r <;> (try exact h2)
    cases v <;> first | exact h2 | exact h2.cons_cons _
/-! ### and, or, not, if-else -/
theorem bool_of {r : Rs} {f : Bool → R Rs} {y : Rs} {s : OSt} (h : (match r with | .sh (.bl true) => f true | .sh (.bl false) => f false | _ => .no) = .ok y s) : ∃ b, r = .sh (.bl b) ∧ f b = .ok y s := by
  split at h
  · exact ⟨true, rfl, h⟩
  · exact ⟨false, rfl, h⟩
  · cases h
theorem rep_bl {K : PySem.W.Frag} {c : Cfg} {gT : Shd} {gF : Own} {σ : L2.St} {H : Hp} {ρ : Env} {s : OSt} {b : Bool} {v : V} (P : Pt K c ((.bl b, v) :: gT) gF σ H ρ s) : v = .bl b ∧ Pt K c gT gF σ H ρ s := by
  refine ⟨?_, P.less (fun _ z => List.mem_cons_of_mem _ z) (List.Sublist.refl _)⟩
  obtain ⟨T, F, o⟩ := P
  have := o.B.tT _ (o.hT _ List.mem_cons_self)
  rw [Rep] at this
  exact this
theorem Pt.bl {K : PySem.W.Frag} {c : Cfg} {gT : Shd} {gF : Own} {σ : L2.St} {H : Hp} {ρ : Env} {s : OSt} (b : Bool) (P : Pt K c gT gF σ H ρ s) : Pt K c ((.bl b, .bl b) :: gT) gF σ H ρ s := by
  obtain ⟨T, F, o⟩ := P
  exact ⟨_, _, o.addT Rep.bl'⟩
theorem sel_ok {x : R Rs} {f g : OSt → R Rs} {y : Rs} {s : OSt} (h : (x.bind fun r s1 => match r with | .sh (.bl true) => f s1 | .sh (.bl false) => g s1 | _ => .no) = .ok y s) : ∃ b s1, x = .ok (.sh (.bl b)) s1 ∧ (if b = true then f s1 else g s1) = .ok y s := by
  obtain ⟨r, s1, h1, h⟩ := bind_ok h
  split at h
  · exact ⟨true, s1, h1, h⟩
  · exact ⟨false, s1, h1, h⟩
  · cases h
theorem sel_ok' {x : R Rs} {f g : OSt → R Rs} {y : Rs} {s : OSt} (h : (x.bind fun r s1 => match r with | .sh (.bl false) => f s1 | .sh (.bl true) => g s1 | _ => .no) = .ok y s) : ∃ b s1, x = .ok (.sh (.bl b)) s1 ∧ (if b = true then g s1 else f s1) = .ok y s := by
  obtain ⟨r, s1, h1, h⟩ := bind_ok h
  split at h
  · exact ⟨false, s1, h1, h⟩
  · exact ⟨true, s1, h1, h⟩
  · cases h
theorem snd_and {a b : Expr} {r : List Expr} {ea eb : E} {pos : Pos} (ha : Snd X a (ev ea)) (hb : PE X (.BoolOp .And (b :: r) pos) (rd X.K (ev eb))) (hw : PW X (.BoolOp .And (b :: r) pos) (rdT X.K (ev eb))) : Snd X (.BoolOp .And (a :: b :: r) pos) (ev (.and ea eb)) := by
  have w : PW X (.BoolOp .And (a :: b :: r) pos) (rdT X.K (ev (.and ea eb))) := by
    refine (pw_and ha.pt hw).via fun σ H Q h => ?_
    obtain ⟨c, gT, gF, ρ, s, k, s', P, e, q⟩ := h
    rw [ev] at e
    obtain ⟨d, s1, e1, e⟩ := sel_ok e
    refine ⟨c, gT, gF, ρ, s, d, s1, P, e1, fun H' P' => ?_⟩
    cases d with
    | true => exact ⟨c, gT, gF, ρ, s1, k, s', P', e, q⟩
    | false => cases e; exact q H' P'
  refine ⟨(pe_and ha.pe hb).via fun σ H Q h => ?_, w.pt, fun _ _ _ _ => w⟩
  obtain ⟨c, gT, gF, ρ, s, y, s', P, e, q⟩ := h
  rw [ev] at e
  obtain ⟨d, s1, e1, e⟩ := sel_ok e
  refine ⟨c, gT, gF, ρ, s, _, s1, P, e1, fun v H' P' _ => ?_⟩
  obtain ⟨rfl, P'⟩ := rep_bl P'
  refine ⟨d, rfl, ?_⟩
  cases d with
  | true => exact ⟨c, gT, gF, ρ, s1, y, s', P', e, q⟩
  | false => cases e; exact q _ H' (P'.bl false) trivial
theorem snd_or {a b : Expr} {r : List Expr} {ea eb : E} {pos : Pos} (ha : Snd X a (ev ea)) (hb : PE X (.BoolOp .Or (b :: r) pos) (rd X.K (ev eb))) (hw : PW X (.BoolOp .Or (b :: r) pos) (rdT X.K (ev eb))) : Snd X (.BoolOp .Or (a :: b :: r) pos) (ev (.or ea eb)) := by
  have w : PW X (.BoolOp .Or (a :: b :: r) pos) (rdT X.K (ev (.or ea eb))) := by
    refine (pw_or ha.pt hw).via fun σ H Q h => ?_
    obtain ⟨c, gT, gF, ρ, s, k, s', P, e, q⟩ := h
    rw [ev] at e
    obtain ⟨d, s1, e1, e⟩ := sel_ok' e
    refine ⟨c, gT, gF, ρ, s, d, s1, P, e1, fun H' P' => ?_⟩
    cases d with
    | false => exact ⟨c, gT, gF, ρ, s1, k, s', P', e, q⟩
    | true => cases e; exact q H' P'
  refine ⟨(pe_or ha.pe hb).via fun σ H Q h => ?_, w.pt, fun _ _ _ _ => w⟩
  obtain ⟨c, gT, gF, ρ, s, y, s', P, e, q⟩ := h
  rw [ev] at e
  obtain ⟨d, s1, e1, e⟩ := sel_ok' e
  refine ⟨c, gT, gF, ρ, s, _, s1, P, e1, fun v H' P' _ => ?_⟩
  obtain ⟨rfl, P'⟩ := rep_bl P'
  refine ⟨d, rfl, ?_⟩
  cases d with
  | false => exact ⟨c, gT, gF, ρ, s1, y, s', P', e, q⟩
  | true => cases e; exact q _ H' (P'.bl true) trivial
theorem not_ok {x : R Rs} {y : Rs} {s : OSt} (h : (x.bind fun r s1 => match r with | .sh (.bl b) => .ok (.sh (.bl !b)) s1 | _ => .no) = .ok y s) : ∃ b, x = .ok (.sh (.bl b)) s ∧ y = .sh (.bl !b) := by
  obtain ⟨r, s1, h1, h⟩ := bind_ok h
  split at h
  · cases h; exact ⟨_, h1, rfl⟩
  · cases h
theorem snd_not {a : Expr} {ea : E} {pos : Pos} (ha : Snd X a (ev ea)) : Snd X (.UnaryOp .Not a pos) (ev (.not ea)) := by
  refine ⟨(pe_not ha.pe).via fun σ H Q h => ?_, (pt_not ha.pt).via fun σ H Q h => ?_, fun _ _ _ z => by cases z⟩
  · obtain ⟨c, gT, gF, ρ, s, y, s', P, e, q⟩ := h
    rw [ev] at e
    obtain ⟨b, e1, rfl⟩ := not_ok e
    refine ⟨c, gT, gF, ρ, s, _, _, P, e1, fun v H' P' _ => ?_⟩
    obtain ⟨rfl, P'⟩ := rep_bl P'
    exact ⟨b, rfl, q _ H' (P'.bl _) trivial⟩
  · obtain ⟨c, gT, gF, ρ, s, k, s', P, e, q⟩ := h
    rw [ev] at e
    obtain ⟨b, e1, e2⟩ := not_ok e
    cases e2
    exact ⟨c, gT, gF, ρ, s, b, _, P, e1, q⟩
theorem pt_ife {t a b : Expr} {tt ta tb : TT} {pos : Pos} (ht : PT X t tt) (ha : PT X a ta) (hb : PT X b tb) : PT X (.IfExp t a b pos) (fun σ H Q => tt σ H fun c H1 => if c = true then ta σ H1 Q else tb σ H1 Q) := by
  refine ⟨fun pins s σ H Q I h => ?_⟩
  show wpAny _ _ (isTrue t X.env (eval t X.env) >>= fun d => if d = true then isTrue a X.env (eval a X.env) else isTrue b X.env (eval b X.env)) _ _ s
  refine wpAny_bind (thn (ht.run pins s σ H _ I h) fun d s1 ⟨H1, I1, q1⟩ => ?_)
  cases d with
  | true => exact ha.run pins s1 σ H1 Q I1 q1
  | false => exact hb.run pins s1 σ H1 Q I1 q1
theorem snd_ife {t a b : Expr} {et ea eb : E} {pos : Pos} (ht : Snd X t (ev et)) (ha : Snd X a (ev ea)) (hb : Snd X b (ev eb)) : Snd X (.IfExp t a b pos) (ev (.ife et ea eb)) := by
  refine ⟨(pe_ifExp ht.pt ha.pe hb.pe).via fun σ H Q h => ?_, (pt_ife ht.pt ha.pt hb.pt).via fun σ H Q h => ?_, fun _ _ _ z => by cases z⟩
  · obtain ⟨c, gT, gF, ρ, s, y, s', P, e, q⟩ := h
    rw [ev] at e
    obtain ⟨d, s1, e1, e⟩ := sel_ok e
    refine ⟨c, gT, gF, ρ, s, d, s1, P, e1, fun H' P' => ?_⟩
    cases d with
    | true => exact ⟨c, gT, gF, ρ, s1, y, s', P', e, q⟩
    | false => exact ⟨c, gT, gF, ρ, s1, y, s', P', e, q⟩
  · obtain ⟨c, gT, gF, ρ, s, k, s', P, e, q⟩ := h
    rw [ev] at e
    obtain ⟨d, s1, e1, e⟩ := sel_ok e
    refine ⟨c, gT, gF, ρ, s, d, s1, P, e1, fun H' P' => ?_⟩
    cases d with
    | true => exact ⟨c, gT, gF, ρ, s1, k, s', P', e, q⟩
    | false => exact ⟨c, gT, gF, ρ, s1, k, s', P', e, q⟩
/-! ### a chain of two comparisons -/
theorem chain_ok {ea eb ec : E} {o1 o2 : COp} {ρ : Env} {s s' : OSt} {r : Rs} (e : ev (.chain o1 o2 ea eb ec) ρ s = .ok r s') : ∃ rx s1 ry s2 k, ev ea ρ s = .ok rx s1 ∧ ev eb ρ s1 = .ok ry s2 ∧ cmpF o1 rx.d ry.d = some k ∧
    (if k = true then ∃ rz b, ev ec ρ s2 = .ok rz s' ∧ cmpF o2 ry.d rz.d = some b ∧ r = .sh (.bl b) else s' = s2 ∧ r = .sh (.bl false)) := by
  rw [ev] at e
  obtain ⟨rx, s1, e1, e⟩ := bind_ok e
  obtain ⟨ry, s2, e2, e⟩ := bind_ok e
  refine ⟨rx, s1, ry, s2, ?_⟩
  split at e
  · rename_i hk
    obtain ⟨rz, s3, e3, e⟩ := bind_ok e
    obtain ⟨e4, rfl⟩ := lift_ok e
    rw [Option.map_eq_some_iff] at e4
    obtain ⟨b, hb, rfl⟩ := e4
    exact ⟨true, e1, e2, hk, rz, b, e3, hb, rfl⟩
  · rename_i hk
    cases e
    exact ⟨false, e1, e2, hk, rfl, rfl⟩
  · cases e
theorem chain_rd (ok : CtxOk X mc) {ea eb ec : E} {o1 o2 : COp} {σ : L2.St} {H : Hp} {Q : VK} (h : rd X.K (ev (.chain o1 o2 ea eb ec)) σ H Q) : tChain (rCmp X.K o1) (rCmp X.K o2) (rd X.K (ev ea)) (rd X.K (ev eb)) (rd X.K (ev ec)) σ H Q := by
  obtain ⟨c, gT, gF, ρ, s, r, s', P, e, q⟩ := h
  obtain ⟨rx, s1, ry, s2, k, e1, e2, hk, e3⟩ := chain_ok e
  refine ⟨c, gT, gF, ρ, s, rx, s1, P, e1, fun x H1 P1 V1 => ⟨c, _, _, ρ, s1, ry, s2, P1, e2, fun y H2 P2 V2 => ?_⟩⟩
  have P2' := P2
  obtain ⟨T, F, o⟩ := P2
  refine ⟨c.aS, c.Ow F, rx.d, ry.d, k, o.tv (V1.hd.ext ry y), o.tv V2.hd, hk, k, rfl, ?_⟩
  cases k with
  | true =>
    obtain ⟨rz, b, e3, e4, rfl⟩ := e3
    refine ⟨c, _, _, ρ, s2, rz, s', P2', e3, fun z H3 P3 V3 => ?_⟩
    obtain ⟨T', F', o'⟩ := P3
    refine ⟨c.aS, c.Ow F', ry.d, rz.d, b, o'.tv (V2.hd.ext rz z), o'.tv V3.hd, e4, q.sh o' (fun p hp => rz.subT z _ p (ry.subT y _ p (rx.subT x gT p hp))) ((rx.subF x gF).trans ((ry.subF y _).trans (rz.subF z _))) Rep.bl'⟩
  | false =>
    obtain ⟨rfl, rfl⟩ := e3
    exact q.sh o (fun p hp => ry.subT y _ p (rx.subT x gT p hp)) ((rx.subF x gF).trans (ry.subF y _)) Rep.bl'
theorem snd_chain (ok : CtxOk X mc) {o1 o2 : COp} {a b d : Expr} {ea eb ed : E} {pos : Pos} (hp : plainE d = true) (ha : PE X a (rd X.K (ev ea))) (hb : PE X b (rd X.K (ev eb))) (hd : PE X d (rd X.K (ev ed))) : Snd X (.Compare a [copOf o1, copOf o2] [b, d] pos) (ev (.chain o1 o2 ea eb ed)) := by
  have hm : lastMarks [copOf o1, copOf o2] [b, d] = false := by
    show behindInMarks (copOf o2) d = false
    cases d <;> first | rfl | cases hp
  have hu : X.A.units + 64 < cLine := by have := ok.un; omega
  refine ⟨(pe_chain (op_cmp hu o1) (op_cmp hu o2) ha hb hd hm).via fun σ H Q h => chain_rd ok h, (pt_chain (op_cmp hu o1) (op_cmp hu o2) ha hb hd hm).via fun σ H Q h => ?_, fun _ _ _ z => by cases z⟩
  exact chain_rd ok (rdT_of h)
/-! ### slices -/
theorem partOf_some {e : E} {r : Rs} {o : Option Int} (h : partOf e r = some o) : (e = .omit ∧ o = none) ∨ ∃ i, e ≠ .omit ∧ r = .sh (.int i) ∧ o = some i := by
  unfold partOf at h
  split at h
  · cases h; exact .inl ⟨rfl, rfl⟩
  · rename_i ne
    split at h
    · cases h; exact .inr ⟨_, ne, rfl, rfl⟩
    · cases h
/-- a slice's part: left out, or an int -/
def rdO (K : PySem.W.Frag) (e : E) : TO := fun σ H Q => ∃ c gT gF ρ s r s' o, Pt K c gT gF σ H ρ s ∧ ev e ρ s = .ok r s' ∧ partOf e r = some o ∧ ∀ H', Pt K c gT gF σ H' ρ s' → Q o H'
theorem po_omit : PO X none (rdO X.K .omit) := by
  have := po_none (X := X)
  refine ⟨fun pins s σ H Q I h => this.run pins s σ H Q I ?_⟩
  obtain ⟨c, gT, gF, ρ, st, r, s', o, P, e, p, q⟩ := h
  rw [ev] at e
  cases e
  cases p
  exact q H P
theorem po_int {e : E} {x : Expr} (hx : PE X x (rd X.K (ev e))) (hne : e ≠ .omit) : PO X (some x) (rdO X.K e) := by
  have := po_some hx
  refine ⟨fun pins s σ H Q I h => this.run pins s σ H Q I ?_⟩
  obtain ⟨c, gT, gF, ρ, st, r, s', o, P, e1, p, q⟩ := h
  rcases partOf_some p with ⟨z, _⟩ | ⟨i, _, rfl, rfl⟩
  · exact (hne z).elim
  · refine ⟨c, gT, gF, ρ, st, _, s', P, e1, fun v H' P' _ => ?_⟩
    have P0 := P'
    obtain ⟨T, F, o⟩ := P'
    have := o.B.tT _ (o.hT _ List.mem_cons_self)
    rw [Rep] at this
    exact ⟨i, this, q H' (P0.less (fun _ z => List.mem_cons_of_mem _ z) (List.Sublist.refl _))⟩
theorem slcF_bo {d : D} {l h : Option Int} {r : Rs} (e : slcF d l h = some r) : r.isBo = false := by
  cases d <;> first | (cases e; rfl) | cases e
theorem snd_slc {a : Expr} {ea el eh : E} {lo hi : Option Expr} {p2 pos : Pos} (ha : PE X a (rd X.K (ev ea))) (hl : PO X lo (rdO X.K el)) (hh : PO X hi (rdO X.K eh)) : PE X (.Subscript a (.Slice lo hi none p2) pos) (rd X.K (ev (.slc ea el eh))) := by
  refine (pe_slice sl_slc ha hl hh).via fun σ H Q h => ?_
  obtain ⟨c, gT, gF, ρ, s, r, s', P, e, q⟩ := h
  rw [ev] at e
  obtain ⟨rx, s1, e1, e⟩ := bind_ok e
  obtain ⟨ry, s2, e2, e⟩ := bind_ok e
  obtain ⟨rz, s3, e3, e⟩ := bind_ok e
  split at e
  · rename_i l u hl hu
    obtain ⟨e4, rfl⟩ := lift_ok e
    refine ⟨c, gT, gF, ρ, s, rx, s1, P, e1, fun x H1 P1 V1 => ⟨c, _, _, ρ, s1, ry, s2, l, P1, e2, hl, fun H2 P2 => ⟨c, _, _, ρ, s2, rz, _, u, P2, e3, hu, fun H3 P3 => ?_⟩⟩⟩
    obtain ⟨T, F, o⟩ := P3
    exact ⟨c.aS, c.Ow F, rx.d, r, o.tv V1.hd, e4, Give.of o (rx.subT x gT) (rx.subF x gF) q (slcF_bo e4)⟩
  · cases e
theorem snd_rev {a : Expr} {ea : E} {k : Nat} {p1 p2 p3 pos : Pos} (ha : PE X a (rd X.K (ev ea))) : PE X (.Subscript a (.Slice none none (some (.UnaryOp .USub (.Constant (.int 1) k p1) p2)) p3) pos) (rd X.K (ev (.rev ea))) := by
  refine (pe_revA ha).via fun σ H Q h => ?_
  refine rd_one (g := fun x => revF x.d) (by simpa only [ev] using h) ?_
  intro c gT gF gT0 gF0 ρ s rx r T F x H2 op h1 h2 hx e q
  have t := op.tv hx
  have hb : r.isBo = false := by cases hd : rx.d <;> rw [hd] at e <;> first | (cases e; rfl) | cases e
  have g := Give.of op h1 h2 q hb
  cases hd : rx.d <;> rw [hd] at e t <;> first | (cases e; done) | skip
  · cases e
    obtain ⟨b, xs, rfl, hb, tt⟩ := t.tup
    exact ⟨b, xs, rfl, .inr ⟨hb, fun p hp => g.2 _ p _ rfl hp tt.reverse⟩⟩
  · cases e
    obtain ⟨b, xs, rfl, hb, tt⟩ := t.lst
    exact ⟨b, xs, rfl, .inl ⟨SqL.of hb, fun p hp => g _ p _ rfl hp tt.reverse⟩⟩
end
end RS
end
section
set_option Elab.async false
set_option linter.all false
set_option maxRecDepth 100000
set_option autoImplicit false
set_option maxHeartbeats 2000000
namespace RS
open PySem L2
theorem star_cons {e : Expr} {es : List Expr} {env : PySem.Env} (h : plainE e = true) : starEach (e :: es) env = (false, eval e env) :: starEach es env := by
  cases e <;> first | rfl | cases h
/-- all argument trees without a star -/
def plainEs : List Expr → Bool
  | [] => true
  | e :: es => plainE e && plainEs es
theorem mtEs_plain (mc : MC) : ∀ (e : E) (es : List Expr), mtEs e mc es = true → plainEs es = true
  | .nil, [], _ => rfl
  | .cons a b, x :: r, h => by
    rw [mtEs, Bool.and_eq_true, Bool.and_eq_true] at h
    rw [plainEs, h.1.1, mtEs_plain mc b r h.2]; rfl
  | .cons a b, [], h => by simp [mtEs] at h
  | .nil, _ :: _, h => by simp [mtEs] at h
  | .var _, _, h => by simp [mtEs] at h
  | .con _, _, h => by simp [mtEs] at h
  | .glob _ _, _, h => by simp [mtEs] at h
  | .omit, _, h => by simp [mtEs] at h
  | .tup _, _, h => by simp [mtEs] at h
  | .lst _, _, h => by simp [mtEs] at h
  | .bin _ _ _, _, h => by simp [mtEs] at h
  | .neg _, _, h => by simp [mtEs] at h
  | .cmp _ _ _, _, h => by simp [mtEs] at h
  | .chain _ _ _ _ _, _, h => by simp [mtEs] at h
  | .and _ _, _, h => by simp [mtEs] at h
  | .or _ _, _, h => by simp [mtEs] at h
  | .not _, _, h => by simp [mtEs] at h
  | .ife _ _ _, _, h => by simp [mtEs] at h
  | .idx _ _, _, h => by simp [mtEs] at h
  | .slc _ _ _, _, h => by simp [mtEs] at h
  | .rev _, _, h => by simp [mtEs] at h
  | .call _ _ _, _, h => by simp [mtEs] at h
  | .callK _ _ _ _ _ _, _, h => by simp [mtEs] at h
  | .callX _ _ _, _, h => by simp [mtEs] at h
  | .callV _ _ _, _, h => by simp [mtEs] at h
  | .callVK _ _ _ _ _, _, h => by simp [mtEs] at h
  | .heard _ _ _ _ _, _, h => by simp [mtEs] at h
  | .prim _ _, _, h => by simp [mtEs] at h
  | .reprEq _ _, _, h => by simp [mtEs] at h
  | .comp _ _ _ _ _, _, h => by simp [mtEs] at h
  | .itE _, _, h => by simp [mtEs] at h
  | .itRange _, _, h => by simp [mtEs] at h
  | .itZip _ _, _, h => by simp [mtEs] at h
  | .itEnum _, _, h => by simp [mtEs] at h
theorem star_plain (env : PySem.Env) (pos : Pos) : ∀ es : List Expr, plainEs es = true → (backTo pos (starEach es env)).any (·.1) = false
  | [], _ => rfl
  | e :: es, h => by
    rw [plainEs, Bool.and_eq_true] at h
    rw [star_cons h.1]
    show (false || (backTo pos (starEach es env)).any (·.1)) = false
    rw [star_plain env pos es h.2]; rfl
section
variable {X : Cx} {mc : MC}
/-! ### argument lists -/
theorem args_nil : PA X [] (rdA X.K (evs .nil)) := pa_nil.via fun σ H Q h => by
  obtain ⟨c, gT, gF, ρ, s, rs, s', P, e, q⟩ := h
  rw [evs] at e
  cases e
  exact q [] H P rfl
theorem args_cons {e : Expr} {es : List Expr} {ea eb : E} (hp : plainE e = true) (ha : PE X e (rd X.K (ev ea))) (hb : PA X es (rdA X.K (evs eb))) : PA X (e :: es) (rdA X.K (evs (.cons ea eb))) := by
  refine (pa_cons ha hb (star_cons hp)).via fun σ H Q h => ?_
  obtain ⟨c, gT, gF, ρ, s, rs, s', P, e, q⟩ := h
  rw [evs] at e
  obtain ⟨rx, s1, e1, e⟩ := bind_ok e
  obtain ⟨ry, s2, e2, e⟩ := bind_ok e
  cases e
  refine ⟨c, gT, gF, ρ, s, rx, s1, P, e1, fun x H1 P1 V1 => ⟨c, _, _, ρ, s1, ry, _, P1, e2, fun vs H2 P2 V2 => ?_⟩⟩
  exact q (x :: vs) H2 P2 ⟨x, vs, rfl, V1.hd.mono (subTs ry vs _) fun p hp => (subFs ry vs _).subset hp, V2⟩
/-- what was fresh is shared -/
theorem Pt.shares {K : PySem.W.Frag} {c : Cfg} {σ : L2.St} {H : Hp} {ρ : Env} {s : OSt} : ∀ (rs : List Rs) (vs : List V) (gT : Shd) (gF : Own), vs.length = rs.length → (∀ (i : Nat) (d : D) (v : V), rs[i]? = some (.fr d) → vs[i]? = some v → ∃ a, v = .ref a) → Pt K c (exTs rs vs gT) (exFs rs vs gF) σ H ρ s →
    ∃ gT', Pt K c gT' gF σ H ρ s ∧ (∀ p ∈ gT, p ∈ gT') ∧ ∀ (i : Nat) (r : Rs) (v : V), rs[i]? = some r → vs[i]? = some v → r.isBo = false → (r.d, v) ∈ gT'
  | [], [], gT, gF, _, _, P => ⟨gT, P, fun _ h => h, fun i r v h => by simp at h⟩
  | [], _ :: _, _, _, hl, _, _ => by simp at hl
  | _ :: _, [], _, _, hl, _, _ => by simp at hl
  | r :: rs, v :: vs, gT, gF, hl, hv, P => by
    obtain ⟨gT', P', h1, h2⟩ := Pt.shares rs vs (r.exT v gT) (r.exF v gF) (by simpa using hl) (fun i d w a b => hv (i + 1) d w (by simpa using a) (by simpa using b)) P
    have fin : ∀ gT'', Pt K c gT'' gF σ H ρ s → (∀ p ∈ gT', p ∈ gT'') → (r.isBo = false → (r.d, v) ∈ gT'') → ∃ gT', Pt K c gT' gF σ H ρ s ∧ (∀ p ∈ gT, p ∈ gT') ∧ ∀ (i : Nat) (q : Rs) (w : V), (r :: rs)[i]? = some q → (v :: vs)[i]? = some w → q.isBo = false → (q.d, w) ∈ gT' := fun gT'' P'' k1 k2 =>
      ⟨gT'', P'', fun p hp => k1 p (h1 p (r.subT v gT p hp)), fun i q w a b nb => by
        cases i with
        | zero => simp at a b; subst a b; exact k2 nb
        | succ i => exact k1 _ (h2 i q w (by simpa using a) (by simpa using b) nb)⟩
    cases r with
    | sh d => exact fin gT' P' (fun _ h => h) fun _ => h1 _ List.mem_cons_self
    | bo i d => exact fin gT' P' (fun _ h => h) fun z => by cases z
    | fr d =>
      obtain ⟨a, rfl⟩ := hv 0 d v rfl rfl
      exact fin _ (Pt.forget (gF := gF) P') (fun p hp => List.mem_cons_of_mem _ hp) fun _ => List.mem_cons_self
theorem Hds.refs {gT : Shd} {gF : Own} {σ : L2.St} {ρ : Env} : ∀ {rs : List Rs} {vs : List V}, Hds gT gF σ ρ rs vs → ∀ (i : Nat) (d : D) (v : V), rs[i]? = some (.fr d) → vs[i]? = some v → ∃ a, v = .ref a
  | [], _, _, i, d, v, h, _ => by simp at h
  | r :: rs, _, h, 0, d, v, h1, h2 => by
    obtain ⟨x, xs, rfl, q, _⟩ := h
    simp at h1 h2
    subst h1 h2
    obtain ⟨a, e, _⟩ := q
    exact ⟨a, e⟩
  | r :: rs, _, h, i + 1, d, v, h1, h2 => by
    obtain ⟨x, xs, rfl, _, q⟩ := h
    exact Hds.refs q i d v (by simpa using h1) (by simpa using h2)
theorem freeze_get : ∀ {rs : List Rs}, freeze rs = true → ∀ (i : Nat) (r : Rs), rs[i]? = some r → r.isBo = false
  | [], _, i, r, h => by simp at h
  | r :: rs, hf, 0, q, h => by
    rw [freeze, Bool.and_eq_true] at hf
    simp at h; subst h
    simpa using hf.1
  | r :: rs, hf, i + 1, q, h => by
    rw [freeze, Bool.and_eq_true] at hf
    exact freeze_get hf.2 i q (by simpa using h)
/-- a frozen argument list: its data at hand, all shared -/
theorem args_share {K : PySem.W.Frag} {c : Cfg} {gT : Shd} {gF : Own} {σ : L2.St} {H : Hp} {ρ : Env} {s : OSt} {rs : List Rs} {vs : List V} (P : Pt K c (exTs rs vs gT) (exFs rs vs gF) σ H ρ s) (h : Hds (exTs rs vs gT) (exFs rs vs gF) σ ρ rs vs) (hf : freeze rs = true) :
    ∃ gT' T F, Opn K c gT' gF σ H ρ s T F ∧ (∀ p ∈ gT, p ∈ gT') ∧ Reps K c.aS (c.Ow F) H (rs.map Rs.d) vs := by
  obtain ⟨gT', ⟨T, F, o⟩, h1, h2⟩ := Pt.shares rs vs gT gF h.length h.refs P
  refine ⟨gT', T, F, o, h1, Reps.of_get (by simpa using h.length) fun i d v e1 e2 => ?_⟩
  rw [List.getElem?_map] at e1
  cases hr : rs[i]? with
  | none => rw [hr] at e1; cases e1
  | some r =>
    rw [hr] at e1; cases e1
    exact o.B.tT _ (o.hT _ (h2 i r v hr e2 (freeze_get hf i r hr)))
theorem evs_len : ∀ (e : E) {ρ : Env} {s s' : OSt} {rs : List Rs}, evs e ρ s = .ok rs s' → rs.length = elen e := by
  intro e
  induction e with
  | cons a b _ ih =>
    intro ρ s s' rs h
    rw [evs] at h
    obtain ⟨rx, s1, _, h⟩ := bind_ok h
    obtain ⟨ry, s2, h2, h⟩ := bind_ok h
    cases h
    rw [elen, List.length_cons, ih h2]
  | nil => intro ρ s s' rs h; rw [evs] at h; cases h; rfl
  | _ => intro ρ s s' rs h; simp [evs] at h
theorem len_line {n : Nat} (h : n ≤ 1000) : n ≤ sizeLine := by rw [sizeLine_eq]; omega
theorem snd_tup {es : List Expr} {e : E} {k : Nat} {pos : Pos} (hl : elen e ≤ 1000) (h : PA X es (rdA X.K (evs e))) : PE X (.Tuple es k pos) (rd X.K (ev (.tup e))) := by
  refine (pe_tup h).via fun σ H Q h => ?_
  obtain ⟨c, gT, gF, ρ, s, r, s', P, e, q⟩ := h
  rw [ev] at e
  obtain ⟨rs, s1, e1, e⟩ := bind_ok e
  split at e <;> first | (cases e; done) | skip
  rename_i hf
  cases e
  refine ⟨c, gT, gF, ρ, s, rs, _, P, e1, fun vs H1 P1 V1 => ?_⟩
  obtain ⟨gT', T, F, o, h1, t⟩ := args_share P1 V1 hf
  refine ⟨by rw [V1.length, evs_len _ e1]; exact len_line hl, fun p hp => ?_⟩
  exact (Give.of o h1 (List.Sublist.refl _) q rfl).2 _ p vs rfl hp t
theorem snd_lst {es : List Expr} {e : E} {pos : Pos} (hl : elen e ≤ 1000) (h : PA X es (rdA X.K (evs e))) : PE X (.List es pos) (rd X.K (ev (.lst e))) := by
  refine (pe_lst h).via fun σ H Q h => ?_
  obtain ⟨c, gT, gF, ρ, s, r, s', P, e, q⟩ := h
  rw [ev] at e
  obtain ⟨rs, s1, e1, e⟩ := bind_ok e
  split at e <;> first | (cases e; done) | skip
  rename_i hf
  cases e
  refine ⟨c, gT, gF, ρ, s, rs, _, P, e1, fun vs H1 P1 V1 => ?_⟩
  obtain ⟨gT', T, F, o, h1, t⟩ := args_share P1 V1 hf
  refine ⟨by rw [V1.length, evs_len _ e1]; exact len_line hl, fun p hp => ?_⟩
  exact Give.of o h1 (List.Sublist.refl _) q rfl _ p vs rfl hp t
/-! ### calls of defs -/
def boAddr : List Rs → List V → List Addr
  | .bo _ _ :: rs, .ref a :: vs => a :: boAddr rs vs
  | _ :: rs, _ :: vs => boAddr rs vs
  | _, _ => []
theorem boAddr_freeze : ∀ {rs : List Rs} {vs : List V}, freeze rs = true → boAddr rs vs = []
  | [], _, _ => by simp [boAddr]
  | r :: rs, [], _ => by cases r <;> simp [boAddr]
  | r :: rs, v :: vs, h => by
    rw [freeze, Bool.and_eq_true] at h
    cases r <;> first | (simp [Rs.isBo] at h; done) | (simp [boAddr, boAddr_freeze h.2])
theorem mem_boAddr : ∀ {rs : List Rs} {vs : List V} {i k : Nat} {d : D} {a : Addr}, rs[i]? = some (.bo k d) → vs[i]? = some (.ref a) → a ∈ boAddr rs vs
  | [], _, _, _, _, _, h, _ => by simp at h
  | _ :: _, [], _, _, _, _, _, h => by simp at h
  | r :: rs, v :: vs, 0, k, d, a, h1, h2 => by
    simp at h1 h2; subst h1 h2
    simp [boAddr]
  | r :: rs, v :: vs, i + 1, k, d, a, h1, h2 => by
    have := mem_boAddr (rs := rs) (vs := vs) (i := i) (by simpa using h1) (by simpa using h2)
    cases r <;> first
      | (simpa [boAddr] using this)
      | (cases v <;> simp [boAddr, this])
theorem of_boAddr : ∀ {rs : List Rs} {vs : List V} {a : Addr}, a ∈ boAddr rs vs → ∃ (i k : Nat) (d : D), rs[i]? = some (.bo k d) ∧ vs[i]? = some (.ref a)
  | [], _, _, h => by simp [boAddr] at h
  | r :: rs, [], _, h => by cases r <;> simp [boAddr] at h
  | r :: rs, v :: vs, a, h => by
    have step : a ∈ boAddr rs vs → ∃ (i k : Nat) (d : D), (r :: rs)[i]? = some (.bo k d) ∧ (v :: vs)[i]? = some (.ref a) := fun h => by
      obtain ⟨i, k, d, h1, h2⟩ := of_boAddr h
      exact ⟨i + 1, k, d, by simpa using h1, by simpa using h2⟩
    cases r with
    | bo k d =>
      cases v with
      | ref b =>
        simp only [boAddr, List.mem_cons] at h
        rcases h with h | h
        · subst h; exact ⟨0, k, d, rfl, rfl⟩
        · exact step h
      | _ => exact step (by simpa [boAddr] using h)
    | sh d => exact step (by simpa [boAddr] using h)
    | fr d => exact step (by simpa [boAddr] using h)
theorem Hds.get {gT : Shd} {gF : Own} {σ : L2.St} {ρ : Env} : ∀ {rs : List Rs} {vs : List V}, Hds gT gF σ ρ rs vs → ∀ (i : Nat) (r : Rs) (v : V), rs[i]? = some r → vs[i]? = some v → Hd gT gF σ ρ r v
  | [], _, _, i, d, v, h, _ => by simp at h
  | r :: rs, _, h, 0, d, v, h1, h2 => by
    obtain ⟨x, xs, rfl, q, _⟩ := h
    simp at h1 h2
    subst h1 h2
    exact q
  | r :: rs, _, h, i + 1, d, v, h1, h2 => by
    obtain ⟨x, xs, rfl, _, q⟩ := h
    exact Hds.get q i d v (by simpa using h1) (by simpa using h2)
/-- behind a call that hands back a fresh thing -/
theorem Bs.callFresh {K : PySem.W.Frag} {c : Cfg} {T : Shd} {F : Own} {H H' : Hp} {s s' : OSt} (B : Bs K c T F H s) (k : Keeps c H H') (st : StOk c H' s') {a : Addr} {d : D} (ha : Emp H a) (t : Top K c.aS (c.Ow ((d, a) :: F)) H' d a) : Bs K c T ((d, a) :: F) H' s' := by
  have B' := B.call k st
  have nO : ¬ c.O a := fun z => by obtain ⟨o, q, z2⟩ := B.trk a z; obtain ⟨_, z3⟩ := ha _ q; rw [z3] at z2; exact z2
  have nF : a ∉ F.map (·.2) := fun z => by
    obtain ⟨q, hq, e⟩ := List.mem_map.mp z
    obtain ⟨l, ys, _, e2, _⟩ := B.top_at (d := q.1) (a := q.2) hq
    rw [e] at e2
    obtain ⟨_, z3⟩ := ha _ e2; cases z3
  have nS : ∀ b, ¬ c.O b → b ≠ c.aS ∧ b ≠ c.aL := fun b n => ⟨fun e => n (e ▸ B.oS.1), fun e => n (e ▸ B.oS.2.1)⟩
  have g : Go K (c.Ow F) (c.Ow ((d, a) :: F)) H H' := by
    refine ⟨fun b z => ?_, fun b xs q => ?_, fun b xs n q => ?_⟩
    · rcases z with z | z
      · exact .inl (.inl z)
      · rw [List.map_cons] at z
        rcases List.mem_cons.mp z with z | z
        · exact .inr (by rw [z]; exact ha)
        · exact .inl (.inr z)
    · have neS : ∀ o, H b = some o → (∀ kvs, o ≠ .dK kvs) → b ≠ c.aS := fun o e n z => by rw [z, B.st.dict] at e; exact n _ (Option.some.inj e).symm
      have neL : ∀ o, H b = some o → (∀ ys, o ≠ .lst ys) → b ≠ c.aL := fun o e n z => by rw [z, B.st.lefts] at e; exact n _ (Option.some.inj e).symm
      rcases q with (q | ⟨ob, q⟩) | q
      · exact .inl (.inl (k.obj b _ q trivial (neS _ q fun _ z => by cases z) (neL _ q fun _ z => by cases z)))
      · exact .inl (.inr ⟨ob, k.obj b _ q trivial (neS _ q fun _ z => by cases z) (neL _ q fun _ z => by cases z)⟩)
      · exact .inr q
    · have n' : ¬ c.O b := fun z => n (.inl z)
      exact k.obj b _ q trivial (nS b n').1 (nS b n').2
  refine B'.adopt nO (B.kp.there a ha) nF t (fun q hq => Rep.go g _ _ (B.tT q hq)) fun q hq => ?_
  obtain ⟨t1, n1, _⟩ := B.tF q hq
  exact t1.go g fun xs e => k.obj _ _ e trivial (nS _ n1).1 (nS _ n1).2
theorem call_rd {fn : Fn} {n : Nat} {fa : Env → OSt → R (List Rs)} {σ : L2.St} {H : Hp} {Q : VK} (hn : ∀ ds s r s', fn ds s = .ok r s' → ds.length = n) (h : rd X.K (fun ρ s => (fa ρ s).bind fun rs s' => callR fn rs s') σ H Q) : tCallG X.K fn n (rdA X.K fa) σ H Q := by
  obtain ⟨c, gT, gF, ρ, s, r, s', P, e, q⟩ := h
  obtain ⟨rs, s1, e1, e⟩ := bind_ok e
  unfold callR at e
  obtain ⟨r', s2, e2, e⟩ := bind_ok e
  split at e <;> first | (cases e; done) | skip
  rename_i hbo
  split at e <;> first | (cases e; done) | skip
  rename_i hcl
  cases e
  refine ⟨c, gT, gF, ρ, s, rs, s1, P, e1, fun vs H1 P1 V1 => ?_⟩
  obtain ⟨gT', ⟨T, F, o⟩, h1, h2⟩ := Pt.shares rs vs gT gF V1.length V1.refs P1
  have hl := V1.length
  have inF : ∀ (i k : Nat) (d : D) (a : Addr), rs[i]? = some (.bo k d) → vs[i]? = some (.ref a) → (d, a) ∈ F := fun i k d a e1 e2 => by
    obtain ⟨b, eb, h3, h4⟩ := V1.get i _ _ e1 e2
    cases eb
    obtain ⟨b, h5, h6, _⟩ := o.sl.ow k d h4
    rw [h3] at h5; cases h5; exact h6
  have boF : ∀ a, a ∈ boAddr rs vs → ∃ d, (d, a) ∈ F := fun a ha => by
    obtain ⟨i, k, d, e1, e2⟩ := of_boAddr ha
    exact ⟨d, inF i k d a e1 e2⟩
  have nbo : ∀ a, c.O a → a ∉ boAddr rs vs := fun a ha z => by
    obtain ⟨d, hd⟩ := boF a z
    exact (o.B.tF _ hd).2.1 ha
  have less : ∀ a, (c.Ow F a ∧ a ∉ boAddr rs vs) → c.Ow F a := fun _ z => z.1
  refine ⟨⟨fun a => c.Ow F a ∧ a ∉ boAddr rs vs, H1, c.aS, c.aL, c.aC, c.tab⟩, rs.map Rs.d, s1, r, s', ?_, ?_, ⟨?_, ?_, ?_, o.B.tq⟩, e2, ?_⟩
  · rw [hl, ← List.length_map (f := Rs.d)]; exact hn _ _ _ _ e2
  · refine Reps.of_get (by simpa using hl) fun i d v k1 k2 => ?_
    rw [List.getElem?_map] at k1
    cases hr : rs[i]? with
    | none => rw [hr] at k1; cases k1
    | some r =>
      rw [hr] at k1; cases k1
      by_cases hb : r.isBo = true
      · cases r <;> first | (cases hb; done) | skip
        rename_i k d
        obtain ⟨a, rfl, _, _⟩ := V1.get i _ _ hr k2
        have t := (o.B.tF _ (inF i k d a hr k2)).1
        exact (t.go (Go.less less) fun _ e => e).rep fun z => z.2 (mem_boAddr hr k2)
      · exact Rep.go (Go.less less) _ _ (o.B.tT _ (o.hT _ (h2 i r v hr k2 (by simpa using hb))))
  · exact ⟨o.B.st.dict, o.B.st.cells, o.B.st.lefts, o.B.st.ne, o.B.st.len, o.B.st.pos, o.B.st.most, o.B.st.tab⟩
  · exact ⟨⟨.inl o.B.oS.1, nbo _ o.B.oS.1⟩, ⟨.inl o.B.oS.2.1, nbo _ o.B.oS.2.1⟩, ⟨.inl o.B.oS.2.2, nbo _ o.B.oS.2.2⟩⟩
  · intro a ha
    rcases ha.1 with z | z
    · exact o.B.trk a z
    · obtain ⟨p, hp, e⟩ := List.mem_map.mp z
      obtain ⟨l, xs, _, e2, _⟩ := o.B.top_at (d := p.1) (a := p.2) hp
      exact ⟨.lst xs, by rw [← e]; exact e2, trivial⟩
  · cases r with
    | bo k d => exact (hbo rfl).elim
    | sh d =>
      intro v H' k st rep
      have k' : Keeps c H1 H' := ⟨k.obj, k.there⟩
      have st' : StOk c H' s' := ⟨st.dict, st.cells, st.lefts, st.ne, st.len, st.pos, st.most, st.tab⟩
      have rep' : Rep X.K c.aS (c.Ow F) H' d v := by
        rw [Bool.or_eq_true] at hcl
        rcases hcl with z | z
        · exact Rep.go (Go.less fun a ha => ⟨ha, by rw [boAddr_freeze z]; simp⟩) _ _ rep
        · exact imm_rep d v z rep
      refine q v H' ⟨_, _, (Opn.addT ⟨o.B.call k' st', o.hT, o.hF, o.nd, o.sl⟩ rep').less (fun p hp => ?_) (List.Sublist.refl _)⟩ trivial
      rcases List.mem_cons.mp hp with e | hp
      · rw [e]; exact List.mem_cons_self
      · exact List.mem_cons_of_mem _ (h1 p hp)
    | fr d =>
      intro a H' k st ha t
      have k' : Keeps c H1 H' := ⟨k.obj, k.there⟩
      have st' : StOk c H' s' := ⟨st.dict, st.cells, st.lefts, st.ne, st.len, st.pos, st.most, st.tab⟩
      have t' : Top X.K c.aS (c.Ow ((d, a) :: F)) H' d a := by
        have up : ∀ b, c.Ow ((d, a) :: F) b → c.Ow F b ∨ b = a := fun b z => by
          rcases z with z | z
          · exact .inl (.inl z)
          · rw [List.map_cons] at z
            rcases List.mem_cons.mp z with z | z
            · exact .inr z
            · exact .inl (.inr z)
        rw [Bool.or_eq_true] at hcl
        rcases hcl with z | z
        · refine t.go (Go.less fun b hb => ?_) fun _ e => e
          rcases up b hb with w | w
          · exact .inl ⟨w, by rw [boAddr_freeze z]; simp⟩
          · exact .inr w
        · cases d <;> first | exact t.elim | skip
          obtain ⟨xs, e, tt⟩ := t
          exact ⟨xs, e, imms_reps _ _ z tt⟩
      have B := Bs.callFresh o.B k' st' ha t'
      refine q _ H' ⟨T, (d, a) :: F, (Opn.fresh (gF := gF) ⟨o.B, o.hT, o.hF, o.nd, o.sl⟩ B).less h1 (List.Sublist.refl _)⟩ ⟨a, rfl⟩
theorem exTs_sh : ∀ (ds : List D) (vs : List V) (gT gT' : Shd), (∀ p ∈ gT, p ∈ gT') → (∀ p ∈ ds.zip vs, p ∈ gT') → ∀ p ∈ exTs (ds.map Rs.sh) vs gT, p ∈ gT'
  | [], _, _, _, h, _ => h
  | _ :: _, [], _, _, h, _ => h
  | d :: ds, v :: vs, gT, gT', h, h2 => by
    rw [List.map_cons, exTs]
    refine exTs_sh ds vs _ gT' (fun p hp => ?_) fun p hp => h2 p (by rw [List.zip_cons_cons]; exact List.mem_cons_of_mem _ hp)
    rcases List.mem_cons.mp hp with e | hp
    · rw [e]; exact h2 _ (by rw [List.zip_cons_cons]; exact List.mem_cons_self)
    · exact h p hp
theorem exFs_sh : ∀ (ds : List D) (vs : List V) (gF : Own), exFs (ds.map Rs.sh) vs gF = gF
  | [], _, _ => by simp [exFs]
  | _ :: _, [], _ => by simp [exFs]
  | d :: ds, v :: vs, gF => by rw [List.map_cons, exFs]; exact exFs_sh ds vs gF
theorem hds_sh {gF : Own} {σ : L2.St} {ρ : Env} : ∀ (ds : List D) (vs : List V) (gT : Shd), vs.length = ds.length → (∀ p ∈ ds.zip vs, p ∈ gT) → Hds gT gF σ ρ (ds.map Rs.sh) vs
  | [], [], _, _, _ => rfl
  | [], _ :: _, _, h, _ => by simp at h
  | _ :: _, [], _, h, _ => by simp at h
  | d :: ds, v :: vs, gT, h, h2 => ⟨v, vs, rfl, h2 _ (by rw [List.zip_cons_cons]; exact List.mem_cons_self), hds_sh ds vs gT (by simpa using h) fun p hp => h2 p (by rw [List.zip_cons_cons]; exact List.mem_cons_of_mem _ hp)⟩
theorem zip_sub : ∀ (ds : List D) (vs : List V) (gT : Shd), ∀ p ∈ ds.zip vs, p ∈ exTs (ds.map Rs.sh) vs gT
  | [], _, _, p, h => by simp at h
  | _ :: _, [], _, p, h => by simp at h
  | d :: ds, v :: vs, gT, p, h => by
    rw [List.map_cons, exTs]
    rw [List.zip_cons_cons] at h
    rcases List.mem_cons.mp h with e | h
    · rw [e]; exact subTs _ _ _ _ List.mem_cons_self
    · exact zip_sub ds vs _ p h
/-- the keywords' values put in the parameters' order -/
theorem perm_rd {perm : List Nat} {es : E} {n : Nat} {σ : L2.St} {H : Hp} {Q : List V → Hp → Prop} (hn : elen es = n) (hp : ∀ i ∈ perm, i < n)
    (h : rdA X.K (fun ρ s => (evs es ρ s).bind fun rs s1 => if freeze rs then .ok (permR perm rs) s1 else .no) σ H Q) : rdA X.K (evs es) σ H fun ws H1 => Q (perm.map fun i => ws.getD i .non) H1 := by
  obtain ⟨c, gT, gF, ρ, s, rs', s', P, e, q⟩ := h
  obtain ⟨rs, s1, e1, e⟩ := bind_ok e
  split at e <;> first | (cases e; done) | skip
  rename_i hf
  cases e
  refine ⟨c, gT, gF, ρ, s, rs, _, P, e1, fun ws H1 P1 V1 => ?_⟩
  obtain ⟨gT', P', h1, h2⟩ := Pt.shares rs ws gT gF V1.length V1.refs P1
  have hl : rs.length = n := by rw [← hn]; exact evs_len es e1
  have hlw := V1.length
  have ep : permR perm rs = (perm.map fun i => (rs.getD i (.sh .non)).d).map Rs.sh := by unfold permR; rw [List.map_map]; rfl
  have mem : ∀ p ∈ (perm.map fun i => (rs.getD i (.sh .non)).d).zip (perm.map fun i => ws.getD i .non), p ∈ gT' := fun p hp' => by
    rw [List.zip_map'] at hp'
    obtain ⟨i, hi, rfl⟩ := List.mem_map.mp hp'
    have hi1 := hp i hi
    have e1 : rs[i]? = some rs[i] := List.getElem?_eq_getElem (by omega)
    have e2 : ws[i]? = some (ws[i]'(by omega)) := List.getElem?_eq_getElem (by omega)
    rw [List.getD_eq_getElem?_getD, List.getD_eq_getElem?_getD, e1, e2]
    exact h2 i _ _ e1 e2 (freeze_get hf i _ e1)
  rw [ep] at q
  refine q _ H1 ?_ (hds_sh _ _ _ (by simp) (zip_sub _ _ _))
  rw [exFs_sh]
  exact P'.less (exTs_sh _ _ _ _ h1 mem) (List.Sublist.refl _)
end
end RS
end
section
set_option Elab.async false
set_option linter.all false
set_option maxRecDepth 100000
set_option autoImplicit false
set_option maxHeartbeats 2000000
namespace RS
open PySem L2
theorem map_bo {α : Type} {o : Option α} {f : α → Rs} {r : Rs} (hf : ∀ a, (f a).isBo = false) (h : o.map f = some r) : r.isBo = false := by
  rw [Option.map_eq_some_iff] at h
  obtain ⟨a, _, rfl⟩ := h
  exact hf a
theorem seqInts_bo {f : List Int → Option Int} {ds : List D} {r : Rs} (h : seqInts f ds = some r) : r.isBo = false := by
  unfold seqInts at h
  split at h <;> first | exact map_bo (fun _ => rfl) h | cases h
theorem primF_bo {p : Prim} (hp : primPlain p = true) {ds : List D} {r : Rs} (h : primF p ds = some r) : r.isBo = false := by
  cases p <;> first | (cases hp; done) | skip
  · have h : lenF ds = some r := h
    unfold lenF at h
    split at h <;> first | (cases h; rfl) | cases h
  · have h : tupleF ds = some r := h
    unfold tupleF at h
    split at h <;> first | (cases h; rfl) | cases h
  · have h : listF ds = some r := h
    unfold listF at h
    split at h <;> first | (cases h; rfl) | cases h
  · exact seqInts_bo (show seqInts _ ds = some r from h)
  · have h : maxF ds = some r := h
    unfold maxF at h
    split at h
    · cases h; rfl
    · exact seqInts_bo h
  · have h : minF ds = some r := h
    unfold minF at h
    split at h
    · cases h; rfl
    · exact seqInts_bo h
  · have h : int1 _ ds = some r := h
    unfold int1 at h
    split at h <;> first | (cases h; rfl) | cases h
  · have h : int1 _ ds = some r := h
    unfold int1 at h
    split at h <;> first | (cases h; rfl) | cases h
  · have h : gcdF ds = some r := h
    unfold gcdF at h
    split at h <;> first | (cases h; rfl) | cases h
section
variable {X : Cx} {mc : MC}
theorem prim_rd {p : Prim} {es : E} (hp : primPlain p = true) {σ : L2.St} {H : Hp} {Q : VK} (h : rd X.K (ev (.prim p es)) σ H Q) : tCB (rPrim X.K p) (rdA X.K (evs es)) σ H Q := by
  obtain ⟨c, gT, gF, ρ, s, r, s', P, e, q⟩ := h
  rw [ev] at e
  obtain ⟨rs, s1, e1, e⟩ := bind_ok e
  obtain ⟨e2, rfl⟩ := lift_ok e
  refine ⟨c, gT, gF, ρ, s, rs, _, P, e1, fun vs H1 P1 V1 => ?_⟩
  obtain ⟨T, F, o⟩ := P1
  exact ⟨c.aS, c.Ow F, rs.map Rs.d, r, o.tvs V1, e2, Give.of o (subTs rs vs gT) (subFs rs vs gF) q (primF_bo hp e2)⟩
theorem blt_at (ok : CtxOk X mc) {x : String} (h : x ∈ bltNames) : X.mg (Str.ofString x) = none := ok.blt x h
theorem snd_prim (ok : CtxOk X mc) {p : Prim} {es : E} {y : Str} {l : List Expr} {k pos : Pos} (hp : primPlain p = true) (hy : callB mc (primNm p) y = true) (hl : plainEs l = true) (hne : l ≠ []) (ha : PA X l (rdA X.K (evs es)))
    (hgcd : p = .gcd → X.mg "gcd" = some (.builtin "math.gcd")) : PE X (.Call (.Name y k) l [] pos) (rd X.K (ev (.prim p es))) := by
  obtain ⟨rfl, hg, hd⟩ := callB_of ok hy
  cases l with
  | nil => exact (hne rfl).elim
  | cons e l =>
    rw [plainEs, Bool.and_eq_true] at hl
    have st := star_cons (env := X.env) (es := l) hl.1
    have sp := star_plain X.env pos l hl.2
    have hu : X.A.units + 64 < cLine := by have := ok.un; omega
    have b : ∀ x : String, x ∈ bltNames → X.mg (Str.ofString x) = none := ok.blt
    cases p <;> first | (cases hp; done) | skip
    · exact (pe_callB pr_len hg (b _ (by decide)) (by decide +kernel) ha (by decide +kernel) hd st sp).via fun σ H Q h => prim_rd hp h
    · exact (pe_callTy pr_tuple hg (b _ (by decide)) (by decide +kernel) ha (by decide +kernel) hd st sp).via fun σ H Q h => prim_rd hp h
    · exact (pe_callTy pr_list hg (b _ (by decide)) (by decide +kernel) ha (by decide +kernel) hd st sp).via fun σ H Q h => prim_rd hp h
    · exact (pe_callB (pr_sum ok.calm) hg (b _ (by decide)) (by decide +kernel) ha (by decide +kernel) hd st sp).via fun σ H Q h => prim_rd hp h
    · exact (pe_callB (pr_max ok.calm hu) hg (b _ (by decide)) (by decide +kernel) ha (by decide +kernel) hd st sp).via fun σ H Q h => prim_rd hp h
    · exact (pe_callB (pr_min ok.calm hu) hg (b _ (by decide)) (by decide +kernel) ha (by decide +kernel) hd st sp).via fun σ H Q h => prim_rd hp h
    · exact (pe_callB pr_abs hg (b _ (by decide)) (by decide +kernel) ha (by decide +kernel) hd st sp).via fun σ H Q h => prim_rd hp h
    · exact (pe_callTy pr_int hg (b _ (by decide)) (by decide +kernel) ha (by decide +kernel) hd st sp).via fun σ H Q h => prim_rd hp h
    · exact (pe_callBfun pr_gcd hg (hgcd rfl) ha hd st sp).via fun σ H Q h => prim_rd hp h
theorem is_rd {T : String} {f : D → Option Bool} {p : Prim} (hp : primF p = isOf f) {a : E} {σ : L2.St} {H : Hp} {Q : VK} (h : rd X.K (ev (.prim p (.cons a .nil))) σ H Q) : tCB (rIs X.K T f) (tCons (rd X.K (ev a)) (tCons (tC (.ty T)) tNil)) σ H Q := by
  obtain ⟨c, gT, gF, ρ, s, r, s', P, e, q⟩ := h
  rw [ev] at e
  obtain ⟨rs, s1, e1, e⟩ := bind_ok e
  obtain ⟨e2, rfl⟩ := lift_ok e
  rw [evs] at e1
  obtain ⟨rx, s2, e3, e1⟩ := bind_ok e1
  obtain ⟨ry, s3, e4, e1⟩ := bind_ok e1
  rw [evs] at e4
  cases e4
  cases e1
  rw [hp] at e2
  unfold isOf at e2
  simp only [List.map_cons, List.map_nil] at e2
  rw [Option.map_eq_some_iff] at e2
  obtain ⟨b, hb, rfl⟩ := e2
  refine ⟨c, gT, gF, ρ, s, rx, _, P, e3, fun x H1 P1 V1 => ?_⟩
  obtain ⟨T', F, o⟩ := P1
  exact ⟨c.aS, c.Ow F, rx.d, x, b, rfl, o.tv V1.hd, hb, q.sh o (rx.subT x gT) (rx.subF x gF) Rep.bl'⟩
theorem snd_is (ok : CtxOk X mc) {p : Prim} {T : String} {a : E} {x : Expr} {y z : Str} {k k2 pos : Pos} (ht : isTy p = some T) (hy : callB mc "isinstance" y = true) (hz : callB mc T z = true) (hx : plainE x = true) (ha : PE X x (rd X.K (ev a))) :
    PE X (.Call (.Name y k) [x, .Name z k2] [] pos) (rd X.K (ev (.prim p (.cons a .nil)))) := by
  obtain ⟨rfl, hg, hd⟩ := callB_of ok hy
  obtain ⟨rfl, hg2, hd2⟩ := callB_of ok hz
  have b : ∀ x : String, x ∈ bltNames → X.mg (Str.ofString x) = none := ok.blt
  have st := star_cons (env := X.env) (es := [.Name (Str.ofString T) k2]) hx
  cases p <;> first | (cases ht; done) | skip
  all_goals cases ht
  · have hT : PE X (.Name "int" k2) (tC (.ty "int")) := pe_bltn hg2 (b "int" (by decide)) (u := .type "int") (by decide +kernel) rfl
    exact (pe_callB pr_isInt hg (b "isinstance" (by decide)) (by decide +kernel) (pa_cons ha (pa_cons hT pa_nil) st) (by decide +kernel) hd st rfl).via fun σ H Q h => is_rd rfl h
  · have hT : PE X (.Name "bool" k2) (tC (.ty "bool")) := pe_bltn hg2 (b "bool" (by decide)) (u := .type "bool") (by decide +kernel) rfl
    exact (pe_callB pr_isBool hg (b "isinstance" (by decide)) (by decide +kernel) (pa_cons ha (pa_cons hT pa_nil) st) (by decide +kernel) hd st rfl).via fun σ H Q h => is_rd rfl h
  · have hT : PE X (.Name "tuple" k2) (tC (.ty "tuple")) := pe_bltn hg2 (b "tuple" (by decide)) (u := .type "tuple") (by decide +kernel) rfl
    exact (pe_callB pr_isTup hg (b "isinstance" (by decide)) (by decide +kernel) (pa_cons ha (pa_cons hT pa_nil) st) (by decide +kernel) hd st rfl).via fun σ H Q h => is_rd rfl h
/-! ### repr(a) == repr(b) -/
theorem reprEq_rd {ea eb : E} {σ : L2.St} {H : Hp} {Q : VK} (h : rd X.K (ev (.reprEq ea eb)) σ H Q) :
    tOp rEq (tCB (rRepr X.K) (tCons (rd X.K (ev ea)) tNil)) (tCB (rRepr X.K) (tCons (rd X.K (ev eb)) tNil)) σ H Q := by
  obtain ⟨c, gT, gF, ρ, s, r, s', P, e, q⟩ := h
  rw [ev] at e
  obtain ⟨rx, s1, e1, e⟩ := bind_ok e
  obtain ⟨ry, s2, e2, e⟩ := bind_ok e
  split at e <;> first | (cases e; done) | skip
  rename_i hd
  cases e
  obtain ⟨hd, hr⟩ := hd
  refine ⟨c, gT, gF, ρ, s, rx, s1, P, e1, fun x H1 P1 V1 => ?_⟩
  have P1' := P1
  obtain ⟨T, F, o⟩ := P1
  refine ⟨c.aS, c.Ow F, rx.d, x, rfl, o.tv V1.hd, hr, ?_⟩
  refine ⟨c, _, _, ρ, s1, ry, _, P1', e2, fun y H2 P2 V2 => ?_⟩
  obtain ⟨T', F', o'⟩ := P2
  refine ⟨c.aS, c.Ow F', ry.d, y, rfl, o'.tv V2.hd, by rw [← hd]; exact hr, rfl, ?_⟩
  rw [hd, decide_eq_true rfl]
  exact q.sh o' (fun p hp => ry.subT y _ p (rx.subT x gT p hp)) ((rx.subF x gF).trans (ry.subF y _)) Rep.bl'
theorem snd_reprEq (ok : CtxOk X mc) (hgd : X.A.guards = some []) {u v : Expr} {x y : Str} {ea eb : E} {k k2 pos pos2 pos3 : Pos} (hx : callB mc "repr" x = true) (hy : callB mc "repr" y = true) (hu : plainE u = true) (hv : plainE v = true) (ha : PE X u (rd X.K (ev ea))) (hb : PE X v (rd X.K (ev eb))) :
    Snd X (.Compare (.Call (.Name x k) [u] [] pos) [.Eq] [.Call (.Name y k2) [v] [] pos2] pos3) (ev (.reprEq ea eb)) := by
  obtain ⟨rfl, hg, hd⟩ := callB_of ok hx
  obtain ⟨rfl, hg2, hd2⟩ := callB_of ok hy
  have b := ok.blt "repr" (by decide)
  have un : X.A.units + 70 < cLine := by have := ok.un; omega
  have s1 := star_cons (env := X.env) (es := []) hu
  have s2 := star_cons (env := X.env) (es := []) hv
  have p1 := pe_callB (p := k) (pos := pos) (pr_repr hgd un) hg b (by decide +kernel) (pa_cons ha pa_nil s1) (by decide +kernel) hd s1 rfl
  have p2 := pe_callB (p := k2) (pos := pos2) (pr_repr hgd un) hg2 b (by decide +kernel) (pa_cons hb pa_nil s2) (by decide +kernel) hd2 s2 rfl
  exact ⟨(pe_cmpR op_eq p1 p2 rfl).via fun σ H Q h => reprEq_rd h, (pt_cmpR op_eq p1 p2 rfl).via fun σ H Q h => reprEq_rd (by have := rdT_of h; exact this), fun _ _ _ z => by cases z⟩
end
end RS
end
section
set_option Elab.async false
set_option linter.all false
set_option maxRecDepth 100000
set_option autoImplicit false
set_option maxHeartbeats 3200000
/-! RSSet0: the set of a tuple of tuples of ints. -/
namespace RS
open PySem PySem.Spec PyProof.Rows L2
section
variable {P : Program} {w : World} {A : Around} {E : Value → Shared → Prop} {s : Shared}
/-- an empty set as it is made -/
abbrev set0 (w : World) : Obj := { cls := .type "set", dict := none, data := .set #[] 0 (.fresh 0 0 (!w.params.followText "set-order")) }
theorem set_init_tuple {l : Addr} {items : Array Value} (ks : List (Addr × List Int)) {R : Result → Shared → Prop} (hh : A.handled = none) (hl : s.heap.IsTuple l items) (hit : items.toList = ks.map fun p => Value.ref p.1)
    (hk : ∀ p ∈ ks, IsT P w s.heap p.2 p.1) (hfew : ks.length < 64) (hu : A.units + 3 < cLine)
    (h : ∀ (h' : Heap) (tk : Nat) L es ep t, SetTR P w h' s.heap.objs.size L es ep t → Got ks ks.length L → (∀ b o, s.heap.get? b = some o → h'.get? b = some o) → R (.ok (.ret .none)) { s with heap := h', toks := tk }) :
    codeAny (model P w) A (.call (.builtin "set.__init__") ⟨[.ref s.heap.objs.size, .ref l], []⟩) R { s with heap := s.heap.push (set0 w) } := by
  have hisz : items.size = ks.length := by
    have q := congrArg List.length hit
    rwa [Array.length_toList, List.length_map] at q
  have gS : (s.heap.push (set0 w)).get? s.heap.objs.size = some (set0 w) := Heap.get?_push_size _ rfl
  refine codeAny_call_builtin F.called_set.init.plain F.entry_set_init (check_set_init_1 ⟨_, gS, rfl⟩ ?_)
  obtain ⟨⟨c, dd, dt, sl⟩, hol, hcl, nl, hdl⟩ := id hl
  dsimp only at hcl hdl
  subst hcl hdl
  have hol' : (s.heap.push (set0 w)).get? l = some { cls := .type "tuple", dict := dd, data := .seq items nl, slots := sl } := Heap.get?_push_of_some _ hol
  have hsls := F.sub_tuple_set
  have hslf := F.sub_tuple_frozenset
  have hne : (Value.type "tuple" == Value.type "dict") = false := by decide
  have hl1 : (s.heap.push (set0 w)).IsTuple l items := ⟨_, hol', rfl, nl, rfl⟩
  have hlS : l < s.heap.objs.size := Heap.lt_size hol
  have hz1 : (s.heap.push (set0 w)).objs.size = s.heap.objs.size + 1 := Heap.size_push ..
  have older : ∀ b, s.heap.objs.size ≤ b → s.heap.get? b = none := fun b hb => by
    cases q : s.heap.get? b with
    | none => rfl
    | some o => exact absurd (Nat.lt_of_lt_of_le (Heap.lt_size q) hb) (Nat.lt_irrefl _)
  have val : ∀ (i : Nat) (v : Value), items[i]? = some v → ∃ p, ks[i]? = some p ∧ v = .ref p.1 := fun i v hv => by
    rw [← Array.getElem?_toList, hit, List.getElem?_map] at hv
    cases hq : ks[i]? with
    | none => rw [hq] at hv; cases hv
    | some p => rw [hq] at hv; exact ⟨p, rfl, (Option.some.inj hv).symm⟩
  unfold Builtin.«set.__init__» noKeywords Builtin.Frozenset.updateFrom
  generalize hPI : pyIter = PI
  wp_walk
  subst hPI
  refine wpAny_pyIter_tuple hl1 (wpAny_bind (wpAny_runValue ?_))
  have neI : l ≠ (s.heap.push (set0 w)).objs.size := by rw [hz1]; exact Nat.ne_of_lt (Nat.lt_succ_of_lt hlS)
  have W := (Walks.tuple (prog := P) (w := w) (A := A.in1.in1) (by simp [hh]) _ l neI items).toS
  refine set_update_tups W s.heap.objs.size (by rw [hz1]; simp only [List.mem_cons, List.not_mem_nil, or_false, not_or]; exact ⟨Nat.ne_of_lt (Nat.lt_succ_self _), Nat.ne_of_gt hlS⟩) ks hisz hfew val s.heap hk (older _ (Nat.le_refl _))
    (fun b hb => older b (by rw [List.mem_singleton.mp hb, hz1]; exact Nat.le_succ _)) (by show A.units + 2 < cLine; omega) (items.size - 0) 0 _ (by omega) (Nat.zero_le _) ⟨⟨_, Heap.get?_push_size _ rfl, rfl, rfl⟩, hl1.push _⟩
    (fun b o e => Heap.get?_push_of_some _ (Heap.get?_push_of_some _ e)) ?hS0 ?hR
  case hS0 => exact ⟨[], #[], 0, _, setTR_fresh (Heap.get?_push_of_some _ gS), Got.zero ks⟩
  intro s' L es ep t hm hS' g' hkp
  obtain ⟨h', g2, d', tk', os'⟩ := s'
  have eg : g2 = s.gens := hm.gens
  have ed : d' = s.drawn := hm.drawn
  have eo : os' = s.os := hm.os
  subst eg ed eo
  show wpAny _ _ _ _ _ _
  refine wpAny_pure ?_
  show wpAny _ _ (ret Value.none) _ _ _
  rw [hisz] at g'
  exact wpAny_pure (h h' tk' L es ep t hS' g' hkp)
theorem call_set_tupT {l : Addr} {items : Array Value} (ks : List (Addr × List Int)) {Q : Value → Shared → Prop} (hh : A.handled = none) (hl : s.heap.IsTuple l items) (hit : items.toList = ks.map fun p => Value.ref p.1)
    (hk : ∀ p ∈ ks, IsT P w s.heap p.2 p.1) (hfew : ks.length < 64) (hu : A.units + 4 < cLine)
    (h : ∀ (h' : Heap) (tk : Nat) L es ep t, SetTR P w h' s.heap.objs.size L es ep t → Got ks ks.length L → (∀ b o, s.heap.get? b = some o → h'.get? b = some o) → Q (.ref s.heap.objs.size) { s with heap := h', toks := tk }) :
    wpAny (model P w) A (call (.type "set") [.ref l]) Q E s := by
  obtain ⟨c, tl, hmro⟩ := F.called_set.mro
  have hmade := F.called_set.made
  have hsub := F.called_set.sub
  have h1 := F.called_set.notType
  have h2 := F.called_set.canCreate
  have hct := F.typeCall_set_1 (.ref l)
  refine wpAny_call (codeAny_of_tree ?_)
  show wpAny _ _ (callAny (.type "set") _) _ _ _
  refine wpAny_pure ⟨Code.quiet_builtin _ (by decide +kernel), codeAny_builtin F.entry_type_call ?_⟩
  rw [Around.under_plain (weight_type_call_type "set" [.ref l] []) rfl]
  repeat (any_goals (first | assumption | wp_step))
  refine codeAny_mono (code_set_led1 (.ref l) (E := E) (Q₁ := fun obj s₁ => obj = .ref s.heap.objs.size ∧ s₁ = { s with heap := s.heap.push (set0 w) }) ⟨rfl, rfl⟩) fun r s₁ hr => ?_
  match r, hr with
  | .ok (.ret obj), hr =>
    obtain ⟨rfl, rfl⟩ := hr
    have hT : Shared.TypeIs { s with heap := s.heap.push (set0 w) } (.ref s.heap.objs.size) "set" := ⟨_, Heap.get?_push_size _ rfl, rfl⟩
    have hli := F.called_set.init.lookup
    have hbi := F.called_set.init.bind (.ref s.heap.objs.size)
    repeat (any_goals (first | assumption | wp_step))
    refine codeAny_mono (set_init_tuple (R := wants (fun r s₂ => r = .none ∧ ∃ h' tk L es ep t, s₂ = { s with heap := h', toks := tk } ∧ SetTR P w h' s.heap.objs.size L es ep t ∧ Got ks ks.length L ∧ (∀ b o, s.heap.get? b = some o → h'.get? b = some o)) E) ks (by simp [hh]) hl hit hk hfew ?_
      fun h' tk L es ep t a b c => ⟨rfl, h', tk, L, es, ep, t, rfl, a, b, c⟩) fun r₂ s₂ hr₂ => ?_
    · have := hu
      first | exact hu | (show _ + 3 < _; simp; omega) | omega
    · match r₂, hr₂ with
      | .ok (.ret r), hr₂ =>
        obtain ⟨rfl, h', tk, L, es, ep, t, rfl, hS', g', hk'⟩ := hr₂
        repeat (any_goals (first | assumption | wp_step))
        exact h _ _ _ _ _ _ hS' g' hk'
      | .error e, hr₂ => exact hr₂
  | .error e, hr => exact hr
end
section
variable {X : Cx}
/-- set(xs), xs a list or a tuple of tuples of ints -/
def rSetA (K : PySem.W.Frag) (P : Program) (w : World) : List V → Hp → VK → Prop := fun xs H Q => ∃ (l : Addr) (ks : List (Addr × List Int)), xs = [V.ref l] ∧ (SqL K H l (ks.map fun p => V.ref p.1) ∨ SqT K H l (ks.map fun p => V.ref p.1)) ∧ (∀ p ∈ ks, SqT K H p.1 (p.2.map V.int)) ∧ ks.length < 64 ∧
  ∀ a L, H a = none → (∀ p ∈ L, p ∈ ks) → (∀ p ∈ ks, p.2 ∈ L.map (·.2)) → Q (.ref a) (upd H a (SetTO P w a L))
theorem cr_setA (hc : X.calm = true) (hu : X.A.units + 64 < cLine) : CallR X (.type "set") (rSetA X.K X.prog X.w) := by
  intro pins s σ H xs us Q I r h
  obtain ⟨l, ks, rfl, hl, hk, hf, q⟩ := h
  rcases hl with hl | hl
  · exact cr_setOfT hc hu pins s σ H [.ref l] us Q I r ⟨l, ks, rfl, hl, hk, hf, q⟩
  · rw [Vals.ref1 r]
    obtain ⟨its, rv, pt, hz⟩ := I.tuple hl
    have hn : H s.heap.objs.size = none := I.hok.fresh (Nat.le_refl _)
    refine call_set_tupT (P := X.prog) (w := X.w) ks (I.ok.hd hc) pt (by simpa using refs_of_vals rv) (fun p hp => I.isT (hk p hp)) hf (by omega) fun h' tk L es ep t R g k => ?_
    refine ⟨.ref s.heap.objs.size, upd H s.heap.objs.size (SetTO X.prog X.w s.heap.objs.size L), I.laid (t' := tk) k (Nat.le_refl _) (setTO_new R.t0), rfl, q _ L hn (fun p hp => List.mem_of_mem_take (g.sub p hp)) fun p hp => g.all p (by rw [List.take_length]; exact hp)⟩
end
end RS
end
section
set_option Elab.async false
set_option linter.all false
set_option maxRecDepth 100000
set_option autoImplicit false
set_option maxHeartbeats 2000000
/-! RSSet1: sorted(set(rows)). -/
namespace RS
open PySem L2
/-! ### the order -/
theorem code_eq : ∀ k : List Int, TS.code 1048576 k = codeK k
  | [] => rfl
  | d :: r => by
    show d * 1048576 ^ r.length + TS.code 1048576 r = _
    rw [code_eq r]; rfl
theorem code_inj {k q : List Int} (hl : k.length = q.length) (h1 : TS.Bd 1048576 k) (h2 : TS.Bd 1048576 q) (h : codeK k = codeK q) : k = q := by
  rw [← code_eq, ← code_eq] at h
  induction k generalizing q with
  | nil => cases q with
    | nil => rfl
    | cons => simp at hl
  | cons d r ih =>
    cases q with
    | nil => simp at hl
    | cons e q =>
      have hl' : r.length = q.length := by simpa using hl
      rcases Int.lt_trichotomy d e with z | z | z
      · have := TS.code_lt hl' h1.tail h2.tail z; omega
      · subst z
        have c1 := TS.code_same (B := 1048576) (d := d) hl'
        have c2 := TS.code_same (B := 1048576) (d := d) hl'.symm
        have : TS.code 1048576 r = TS.code 1048576 q := by
          rcases Int.lt_trichotomy (TS.code 1048576 r) (TS.code 1048576 q) with z | z | z
          · have := c1.mpr z; omega
          · exact z
          · have := c2.mpr z; omega
        rw [ih hl' h1.tail h2.tail this]
      · have := TS.code_lt hl'.symm h2.tail h1.tail z; omega
abbrev Up (l : List (List Int)) : Prop := l.Pairwise fun a b => codeK a < codeK b
theorem insK_mem {n : Nat} {k : List Int} (hk : k.length = n ∧ TS.Bd 1048576 k) : ∀ (l : List (List Int)), (∀ q ∈ l, q.length = n ∧ TS.Bd 1048576 q) → Up l → Up (insK k l) ∧ ∀ x, x ∈ insK k l ↔ x = k ∨ x ∈ l
  | [], _, _ => by simp [insK, Up]
  | y :: r, h, up => by
    have hy := h y List.mem_cons_self
    have up := List.pairwise_cons.mp up
    obtain ⟨i1, i2⟩ := insK_mem hk r (fun q hq => h q (List.mem_cons_of_mem _ hq)) up.2
    rw [insK]
    by_cases c1 : codeK k < codeK y
    · rw [if_pos c1]
      refine ⟨List.pairwise_cons.mpr ⟨fun x hx => ?_, List.pairwise_cons.mpr up⟩, fun x => by simp⟩
      rcases List.mem_cons.mp hx with e | hx
      · rw [e]; exact c1
      · have := up.1 x hx; omega
    · rw [if_neg c1]
      by_cases c2 : codeK k = codeK y
      · rw [if_pos c2]
        have : k = y := code_inj (by rw [hk.1, hy.1]) hk.2 hy.2 c2
        subst this
        exact ⟨List.pairwise_cons.mpr up, fun x => by simp⟩
      · rw [if_neg c2]
        refine ⟨List.pairwise_cons.mpr ⟨fun x hx => ?_, i1⟩, fun x => ?_⟩
        · rcases (i2 x).mp hx with e | hx
          · rw [e]; omega
          · exact up.1 x hx
        · rw [List.mem_cons, i2 x, List.mem_cons]
          constructor <;> (rintro (h | h | h) <;> simp [h])
theorem sortK_mem {n : Nat} : ∀ (l : List (List Int)), (∀ q ∈ l, q.length = n ∧ TS.Bd 1048576 q) → Up (sortK l) ∧ ∀ x, x ∈ sortK l ↔ x ∈ l
  | [], _ => by simp [sortK, Up]
  | k :: l, h => by
    obtain ⟨i1, i2⟩ := sortK_mem l fun q hq => h q (List.mem_cons_of_mem _ hq)
    obtain ⟨j1, j2⟩ := insK_mem (h k List.mem_cons_self) (sortK l) (fun q hq => h q (List.mem_cons_of_mem _ ((i2 q).mp hq))) i1
    exact ⟨j1, fun x => by rw [sortK, j2, i2, List.mem_cons]⟩
theorem up_uniq : ∀ {a b : List (List Int)}, Up a → Up b → (∀ x, x ∈ a ↔ x ∈ b) → a = b
  | [], [], _, _, _ => rfl
  | [], y :: b, _, _, h => by have := (h y).mpr List.mem_cons_self; cases this
  | x :: a, [], _, _, h => by have := (h x).mp List.mem_cons_self; cases this
  | x :: a, y :: b, ha, hb, h => by
    have ha := List.pairwise_cons.mp ha
    have hb := List.pairwise_cons.mp hb
    have e : x = y := by
      rcases List.mem_cons.mp ((h x).mp List.mem_cons_self) with e | e
      · exact e
      · rcases List.mem_cons.mp ((h y).mpr List.mem_cons_self) with e2 | e2
        · exact e2.symm
        · have := hb.1 x e; have := ha.1 y e2; omega
    subst e
    have t : a = b := up_uniq ha.2 hb.2 fun z => by
      constructor
      · intro hz
        rcases List.mem_cons.mp ((h z).mp (List.mem_cons_of_mem _ hz)) with e | e
        · have := ha.1 z hz; rw [e] at this; omega
        · exact e
      · intro hz
        rcases List.mem_cons.mp ((h z).mpr (List.mem_cons_of_mem _ hz)) with e | e
        · have := hb.1 z hz; rw [e] at this; omega
        · exact e
    rw [t]
/-! ### data -/
section
variable {K : PySem.W.Frag} {aS : Addr} {O : Addr → Prop} {H : Hp}
theorem reps_ofInts : ∀ {l : List D} {k : List Int} {xs : List V}, intsOf l = some k → Reps K aS O H l xs → l = k.map D.int ∧ xs = k.map V.int
  | [], k, xs, h, r => by
    rw [Reps] at r
    cases h
    exact ⟨rfl, r⟩
  | d :: l, k, xs, h, r => by
    rw [Reps] at r
    obtain ⟨v, vs, rfl, rv, t⟩ := r
    cases d <;> first | (simp [intsOf] at h; done) | skip
    rw [intsOf, Option.map_eq_some_iff] at h
    obtain ⟨k', h1, rfl⟩ := h
    obtain ⟨e1, e2⟩ := reps_ofInts h1 t
    rw [Rep] at rv
    subst rv
    rw [e1, e2]
    exact ⟨rfl, rfl⟩
theorem reps_rows : ∀ {l : List D} {ks : List (List Int)} {xs : List V}, rowsOf l = some ks → Reps K aS O H l xs → ∃ ps : List (Addr × List Int), xs = ps.map (fun p => V.ref p.1) ∧ ps.map (·.2) = ks ∧ ∀ p ∈ ps, SqT K H p.1 (p.2.map V.int)
  | [], ks, xs, h, r => by
    rw [Reps] at r
    cases h
    exact ⟨[], r, rfl, by simp⟩
  | d :: l, ks, xs, h, r => by
    rw [Reps] at r
    obtain ⟨v, vs, rfl, rv, t⟩ := r
    rw [rowsOf, Option.bind_eq_some_iff] at h
    obtain ⟨k, h1, h⟩ := h
    rw [Option.map_eq_some_iff] at h
    obtain ⟨ks', h2, rfl⟩ := h
    obtain ⟨ps, e1, e2, e3⟩ := reps_rows h2 t
    cases d <;> first | (simp [D.row?] at h1; done) | skip
    rename_i dl
    rw [Rep] at rv
    obtain ⟨a, ys, rfl, q, tt⟩ := rv
    obtain ⟨_, ey⟩ := reps_ofInts h1 tt
    refine ⟨(a, k) :: ps, by rw [e1]; rfl, by rw [List.map_cons, e2], fun p hp => ?_⟩
    rcases List.mem_cons.mp hp with e | hp
    · rw [e, ← ey]; exact q
    · exact e3 p hp
theorem rep_row {p : Addr × List Int} (h : SqT K H p.1 (p.2.map V.int)) : Rep K aS O H (.tup (p.2.map .int)) (.ref p.1) := by
  rw [Rep]
  refine ⟨p.1, _, rfl, h, ?_⟩
  generalize p.2 = k
  induction k with
  | nil => exact Reps.nil
  | cons x k ih => exact Reps.cons Rep.int' ih
theorem reps_of_rows : ∀ {ps : List (Addr × List Int)}, (∀ p ∈ ps, SqT K H p.1 (p.2.map V.int)) → Reps K aS O H ((ps.map (·.2)).map fun k => .tup (k.map .int)) (ps.map fun p => V.ref p.1)
  | [], _ => Reps.nil
  | p :: ps, h => Reps.cons (rep_row (h p List.mem_cons_self)) (reps_of_rows fun q hq => h q (List.mem_cons_of_mem _ hq))
end
section
variable {X : Cx} {mc : MC}
theorem rowsIn_of {ks : List (List Int)} (h : rowsIn ks = true) : ks.length < 64 ∧ ∃ n, 1 ≤ n ∧ ∀ k ∈ ks, k.length = n ∧ TS.Bd 1048576 k := by
  cases ks with
  | nil => exact ⟨by simp, 1, Nat.le_refl _, by simp⟩
  | cons k ks =>
    rw [rowsIn, Bool.and_eq_true] at h
    obtain ⟨h1, h2⟩ := h
    have h1 := of_decide_eq_true h1
    refine ⟨by rw [List.length_cons]; omega, k.length, h1.1, fun q hq => ?_⟩
    have := List.all_eq_true.mp h2 q hq
    rw [rowIn, Bool.and_eq_true, beq_iff_eq] at this
    exact ⟨this.1, fun m hm => of_decide_eq_true (List.all_eq_true.mp this.2 m hm)⟩
theorem set_rows {d : D} {ks : List (List Int)} {O : Addr → Prop} {aS : Addr} {H : Hp} {l : List D} {x : V} (hd : d = .tup l ∨ d = .lst l) (hr : rowsOf l = some ks) (t : Tv X.K aS O H d x) :
    ∃ (q : Addr) (ps : List (Addr × List Int)), x = .ref q ∧ (SqL X.K H q (ps.map fun p => V.ref p.1) ∨ SqT X.K H q (ps.map fun p => V.ref p.1)) ∧ ps.map (·.2) = ks ∧ ∀ p ∈ ps, SqT X.K H p.1 (p.2.map V.int) := by
  rcases hd with rfl | rfl
  · obtain ⟨q, xs, rfl, hq, r⟩ := t.tup
    obtain ⟨ps, rfl, e2, e3⟩ := reps_rows hr r
    exact ⟨q, ps, rfl, .inr hq, e2, e3⟩
  · obtain ⟨q, xs, rfl, hq, r⟩ := t.lst
    obtain ⟨ps, rfl, e2, e3⟩ := reps_rows hr r
    exact ⟨q, ps, rfl, .inl (SqL.of hq), e2, e3⟩
theorem sortSet_rd {a : E} {σ : L2.St} {H : Hp} {Q : VK} (h : rd X.K (ev (.prim .sortedSet (.cons a .nil))) σ H Q) : tCB (rSortedT X.K X.prog X.w) (tCons (tCB (rSetA X.K X.prog X.w) (tCons (rd X.K (ev a)) tNil)) tNil) σ H Q := by
  obtain ⟨c, gT, gF, ρ, s, r, s', P, e, q⟩ := h
  rw [ev] at e
  obtain ⟨rs, s1, e1, e⟩ := bind_ok e
  obtain ⟨e2, rfl⟩ := lift_ok e
  rw [evs] at e1
  obtain ⟨rx, s2, e3, e1⟩ := bind_ok e1
  obtain ⟨ry, s3, e4, e1⟩ := bind_ok e1
  rw [evs] at e4
  cases e4
  cases e1
  have e2 : sortSetF [rx.d] = some r := e2
  have key : ∃ l ks, (rx.d = .tup l ∨ rx.d = .lst l) ∧ rowsOf l = some ks ∧ setF ks = some r := by
    unfold sortSetF at e2
    split at e2 <;> first | (cases e2; done) | skip
    all_goals
      rename_i l heq
      rw [Option.bind_eq_some_iff] at e2
      obtain ⟨ks, h1, h2⟩ := e2
      injection heq with heq _
    · exact ⟨l, ks, .inl heq, h1, h2⟩
    · exact ⟨l, ks, .inr heq, h1, h2⟩
  obtain ⟨l, ks, hd, hr, hs⟩ := key
  unfold setF at hs
  split at hs <;> first | (cases hs; done) | skip
  rename_i hin
  cases hs
  obtain ⟨h64, n, n1, hks⟩ := rowsIn_of hin
  refine ⟨c, gT, gF, ρ, s, rx, _, P, e3, fun x H1 P1 V1 => ?_⟩
  obtain ⟨T, F, o⟩ := P1
  obtain ⟨l', ps, rfl, hq, hps, hT⟩ := set_rows (X := X) hd hr (o.tv V1.hd)
  refine ⟨l', ps, rfl, hq, hT, by rw [← hps, List.length_map] at h64; exact h64, fun A L hA hL1 hL2 => ?_⟩
  have oA := o.step (T' := T) (fun _ h => h) o.hT (o.B.alloc (p := A) (o := SetTO X.prog X.w A L) hA)
  have gA : ∀ p xs, SqT X.K H1 p xs → SqT X.K (upd H1 A (SetTO X.prog X.w A L)) p xs := fun p xs h => sqT_upd hA h
  refine ⟨A, L, n, 1048576, rfl, upd_same, fun p hp => gA _ _ (hT p (hL1 p hp)), n1, fun p hp => ?_, fun L' B pm nd hlen pw hB => ?_⟩
  · exact hks p.2 (by rw [← hps]; exact List.mem_map.mpr ⟨p, hL1 p hp, rfl⟩)
  · have inL : ∀ p ∈ L', p ∈ ps := fun p hp => hL1 p (pm.mem_iff.mp hp)
    have srt : L'.map (·.2) = sortK ks := by
      obtain ⟨u1, u2⟩ := sortK_mem (n := n) ks hks
      refine up_uniq ?_ u1 fun k => ?_
      · have pw2 : (L'.map (·.2)).Pairwise fun a b => TS.code 1048576 a ≤ TS.code 1048576 b := List.pairwise_map.mpr pw
        have bd : ∀ k ∈ L'.map (·.2), k.length = n ∧ TS.Bd 1048576 k := fun k hk => by
          obtain ⟨p, hp, rfl⟩ := List.mem_map.mp hk
          exact hks p.2 (by rw [← hps]; exact List.mem_map.mpr ⟨p, inL p hp, rfl⟩)
        generalize L'.map (·.2) = ws at pw2 nd bd
        clear pw pm
        induction ws with
        | nil => exact List.Pairwise.nil
        | cons w ws ih =>
          rw [List.pairwise_cons] at pw2
          rw [List.nodup_cons] at nd
          refine List.pairwise_cons.mpr ⟨fun b hb => ?_, ih pw2.2 nd.2 fun k hk => bd k (List.mem_cons_of_mem _ hk)⟩
          have le := pw2.1 b hb
          rw [code_eq, code_eq] at le
          have b1 := bd w List.mem_cons_self
          have b2 := bd b (List.mem_cons_of_mem _ hb)
          rcases Int.lt_or_eq_of_le le with z | z
          · exact z
          · exact absurd (code_inj (by rw [b1.1, b2.1]) b1.2 b2.2 z ▸ hb) nd.1
      · rw [u2]
        constructor
        · intro hk
          obtain ⟨p, hp, rfl⟩ := List.mem_map.mp hk
          rw [← hps]; exact List.mem_map.mpr ⟨p, inL p hp, rfl⟩
        · intro hk
          rw [← hps] at hk
          obtain ⟨p, hp, rfl⟩ := List.mem_map.mp hk
          obtain ⟨p2, hp2, e⟩ := List.mem_map.mp (hL2 p hp)
          rw [← e]; exact List.mem_map.mpr ⟨p2, pm.mem_iff.mpr hp2, rfl⟩
    have rr : Reps X.K c.aS (c.Ow F) (upd H1 A (SetTO X.prog X.w A L)) ((sortK ks).map fun k => .tup (k.map .int)) (L'.map fun q => V.ref q.1) := by
      rw [← srt]
      exact reps_of_rows fun p hp => gA _ _ (hT p (inL p hp))
    exact q _ _ ⟨_, _, (oA.fresh (oA.B.lst hB rr)).less (rx.subT _ gT) ((rx.subF _ gF).cons_cons _)⟩ ⟨B, rfl⟩
theorem snd_sortSet (ok : CtxOk X mc) {a : E} {x : Expr} {y z : Str} {k k2 p2 pos : Pos} (hy : callB mc "sorted" y = true) (hz : callB mc "set" z = true) (hx : plainE x = true) (ha : PE X x (rd X.K (ev a))) :
    PE X (.Call (.Name y k) [.Call (.Name z k2) [x] [] p2] [] pos) (rd X.K (ev (.prim .sortedSet (.cons a .nil)))) := by
  obtain ⟨rfl, hg, hd⟩ := callB_of ok hy
  obtain ⟨rfl, hg2, hd2⟩ := callB_of ok hz
  have hu : X.A.units + 64 < cLine := by have := ok.un; omega
  have st := star_cons (env := X.env) (es := []) hx
  have inner := pe_callTy (p := k2) (pos := p2) (cr_setA ok.calm hu) hg2 (ok.blt "set" (by decide)) (by decide +kernel) (pa_cons ha pa_nil st) (by decide +kernel) hd2 st rfl
  exact (pe_callB (cr_sortedT ok.calm) hg (ok.blt "sorted" (by decide)) (by decide +kernel) (pa_cons inner pa_nil rfl) (by decide +kernel) hd rfl rfl).via fun σ H Q h => sortSet_rd h
end
end RS
end
section
set_option Elab.async false
set_option linter.all false
set_option maxRecDepth 100000
set_option autoImplicit false
set_option maxHeartbeats 3200000
/-! RSSort0: sorted(a tuple or a list of tuples of ints). -/
namespace RS
open PySem PySem.Spec PyProof.Rows L2
section
variable {prog : Program} {w : World} {A : Around} {E : Value → Shared → Prop} {s : Shared}
theorem collect_tuple {l : Addr} {vs : List Value} {Q : List Value → Shared → Prop} (hl : s.heap.IsTuple l vs.toArray)
    (h : Q vs { s with heap := (s.heap.push (seqObj "list" #[] 0)).update s.heap.objs.size (Obj.mapSeq (· ++ vs.toArray)) }) (hsz : vs.length ≤ sizeLine) :
    wpAny (model prog w) A (collect (.ref l)) Q E s := by
  obtain ⟨o, ho, hc, n, hd⟩ := id hl
  unfold collect
  refine wpAny_bind (wpAny_runValue (codeAny_builtin entry_proto_collect' ?_))
  show wpAny _ _ (do again (.builtin "list.__iadd__" ⟨[← newList [], .ref l], []⟩)) _ _ s
  refine wpAny_bind (wpAny_newList (wpAny_pure ⟨Code.quiet_builtin _ (by decide +kernel), codeAny_builtin entry_list_iadd' ?_⟩))
  show wpAny _ _ (Builtin.List.listExtendWith (.ref s.heap.objs.size) (.ref l) (.ref s.heap.objs.size)) _ _ { s with heap := s.heap.push (seqObj "list" #[] 0) }
  unfold Builtin.List.listExtendWith
  have ho' : (s.heap.push (seqObj "list" #[] 0)).get? l = some o := Heap.get?_push_of_some _ ho
  refine wpAny_bind (wpAny_typeOf (T := "tuple") ⟨o, ho', hc⟩ ?_)
  have ht : (Value.type "tuple" == Value.type "tuple") = true := by rfl
  rw [if_pos (by rw [ht]; simp)]
  refine wpAny_bind (listItems_at ho' hd ?_)
  refine wpAny_bind (listItems_at (xs := #[]) (n := 0) (Heap.get?_push_size _ rfl) rfl ?_)
  rw [if_neg (by simp)]
  refine wpAny_bind (listUpdate_at (xs := #[]) (n := 0) (Heap.get?_push_size _ rfl) rfl ?_ (Nat.zero_le _) (by show (#[] ++ vs.toArray).size ≤ sizeLine + 1; simp only [Array.size_append, List.size_toArray, List.length_nil]; omega))
  refine wpAny_pure ?_
  show wpAny (model prog w) A (do
      let o ← load s.heap.objs.size
      match o.data with
      | .seq xs _ => pure xs.toList
      | _ => unsupported "internal:collect") Q E { s with heap := (s.heap.push (seqObj "list" #[] 0)).update s.heap.objs.size (Obj.mapSeq (· ++ vs.toArray)) }
  refine wpAny_bind (wpAny_load (get?_update_seq (Heap.get?_push_size _ rfl) _) ?_)
  show wpAny _ _ (pure ((#[] : Array Value) ++ vs.toArray).toList) Q E _
  rw [show ((#[] : Array Value) ++ vs.toArray).toList = vs by simp]
  exact wpAny_pure h
theorem sorted_tupT {l : Addr} {vs : List Value} {d : Nat} {B : Int} {Q : Value → Shared → Prop} (hl : s.heap.IsTuple l vs.toArray) (h64 : vs.length < 64) (hd : 1 ≤ d) (x : TS.TupsOk s.heap d B vs)
    (h : ∀ out : Array Value, out.toList.Perm vs → out.toList.Pairwise (fun u v => TS.code B (TS.intsOf s.heap u) ≤ TS.code B (TS.intsOf s.heap v)) → Q (.ref (s.heap.objs.size + 1)) { s with heap := sortedAll s.heap vs out }) :
    wpAny (model prog w) A (call (.builtin "sorted") [.ref l]) Q E s := by
  refine Calls.call_function_entry kind_sorted plain_sorted entry_sorted (args_sorted1 _) ?_
  unfold Builtin.«sorted»
  refine wpAny_bind (m := checkCount "sorted" 1 1 _) (wpAny_pure ?_)
  refine wpAny_bind (collect_tuple hl ?_ (by rw [sizeLine_eq]; omega))
  refine wpAny_bind (wpAny_newList ?_ (by rw [sizeLine_eq]; omega))
  have hsz : ((s.heap.push (seqObj "list" #[] 0)).update s.heap.objs.size (Obj.mapSeq (· ++ vs.toArray))).objs.size = s.heap.objs.size + 1 := by
    rw [Heap.size_update, size_push']
  have hoL : (((s.heap.push (seqObj "list" #[] 0)).update s.heap.objs.size (Obj.mapSeq (· ++ vs.toArray))).push (seqObj "list" vs.toArray 0)).get? (s.heap.objs.size + 1) = some (seqObj "list" vs.toArray 0) := by
    rw [← hsz]; exact Heap.get?_push_size _ rfl
  have keep : ∀ b o, s.heap.get? b = some o → o.cls = .type "tuple" → (((s.heap.push (seqObj "list" #[] 0)).update s.heap.objs.size (Obj.mapSeq (· ++ vs.toArray))).push (seqObj "list" vs.toArray 0)).get? b = some o := fun b o q _ => by
    have hlt : b < s.heap.objs.size := Heap.lt_size q
    rw [Heap.get?_push_ne _ _ _ (by rw [hsz]; exact Nat.ne_of_lt (Nat.lt_succ_of_lt hlt)), Heap.get?_update_ne _ _ _ _ (Nat.ne_of_lt hlt), Heap.get?_push_ne _ _ _ (Nat.ne_of_lt hlt)]
    exact q
  show wpAny _ _ _ _ _ { s with heap := ((s.heap.push (seqObj "list" #[] 0)).update s.heap.objs.size (Obj.mapSeq (· ++ vs.toArray))).push (seqObj "list" vs.toArray 0) }
  rw [hsz]
  refine wpAny_bind (wpAny_holding (wpAny_call_entry slot_list_sort ⟨_, hoL, rfl⟩ entry_list_sort (TS.sort_tups hoL h64 hd (x.keeps keep) (fun v => TS.code B (TS.intsOf s.heap v)) (fun v hv ns t => ?_) fun out a1 a2 => ⟨_, rfl, ?_⟩) (args_list_sort _)))
  · obtain ⟨ns0, t0, _⟩ := x v hv
    have e : ns = ns0 := t.ints.symm.trans (t0.keeps keep).ints
    rw [e]
    show TS.code B (TS.intsOf s.heap v) = TS.code B ns0
    rw [t0.ints]
  · exact wpAny_pure ⟨_, rfl, h out a1 a2⟩
end
/-! ### the rule -/
theorem perm_map {α β : Type} {f : α → β} : ∀ {l m : List β}, l.Perm m → ∀ ps : List α, m = ps.map f → ∃ L : List α, l = L.map f ∧ L.Perm ps := by
  intro l m h
  induction h with
  | nil => intro ps e; exact ⟨ps, e, List.Perm.refl _⟩
  | cons x _ ih =>
    intro ps e
    cases ps with
    | nil => cases e
    | cons p ps =>
      injection e with e1 e2
      obtain ⟨L, h1, h2⟩ := ih ps e2
      exact ⟨p :: L, by rw [h1, e1]; rfl, h2.cons p⟩
  | swap x y l =>
    intro ps e
    cases ps with
    | nil => cases e
    | cons p ps =>
      cases ps with
      | nil => cases e
      | cons q ps =>
        injection e with e1 e2
        injection e2 with e2 e3
        exact ⟨q :: p :: ps, by rw [e1, e2, e3]; rfl, List.Perm.swap p q ps⟩
  | trans _ _ ih1 ih2 =>
    intro ps e
    obtain ⟨L2, h1, h2⟩ := ih2 ps e
    obtain ⟨L1, h3, h4⟩ := ih1 L2 h1
    exact ⟨L1, h3, h4.trans h2⟩
/-- sorted(xs), xs a list or a tuple of tuples of d ints in [0, B) -/
def rSortedR (K : PySem.W.Frag) : List V → Hp → VK → Prop := fun vs H Q => ∃ (l : Addr) (ps : List (Addr × List Int)) (d : Nat) (B : Int), vs = [V.ref l] ∧ (SqL K H l (ps.map fun p => V.ref p.1) ∨ SqT K H l (ps.map fun p => V.ref p.1)) ∧ ps.length < 64 ∧ 1 ≤ d ∧
  (∀ p ∈ ps, SqT K H p.1 (p.2.map V.int)) ∧ (∀ p ∈ ps, p.2.length = d ∧ TS.Bd B p.2) ∧
  ∀ (L' : List (Addr × List Int)) (p : Addr), L'.Perm ps → L'.Pairwise (fun q r => TS.code B q.2 ≤ TS.code B r.2) → H p = none → Q (.ref p) (upd H p (.lst (L'.map fun q => V.ref q.1)))
section
variable {X : Cx}
theorem cr_sortedR : CallR X (.builtin "sorted") (rSortedR X.K) := by
  intro pins s σ H vs us Q I r h
  obtain ⟨l, ps, d, B, rfl, hl, h64, hd, hk, hB, q⟩ := h
  rw [Vals.ref1 r]
  have fin : ∀ (its : List Value) (out : Array Value), Vals (ps.map fun p => V.ref p.1) its → out.toList.Perm its → out.toList.Pairwise (fun u v => TS.code B (TS.intsOf s.heap u) ≤ TS.code B (TS.intsOf s.heap v)) →
      EP X pins σ Q (.ref (s.heap.objs.size + 1)) { s with heap := sortedAll s.heap its out } := by
    intro its out rv pm pw
    obtain ⟨L, eL, pL⟩ := perm_map (f := fun p : Addr × List Int => Value.ref p.1) pm ps (refs_of_vals rv)
    have pw2 : L.Pairwise (fun q r => TS.code B q.2 ≤ TS.code B r.2) := by
      rw [eL] at pw
      refine List.Pairwise.imp_of_mem (fun {q r} hq hr hle => ?_) (List.pairwise_map.mp pw)
      have f1 : TS.intsOf s.heap (.ref q.1) = q.2 := (tupInts_of (P := X.prog) (w := X.w) (I.isT (hk q (pL.mem_iff.mp hq)))).ints
      have f2 : TS.intsOf s.heap (.ref r.1) = r.2 := (tupInts_of (P := X.prog) (w := X.w) (I.isT (hk r (pL.mem_iff.mp hr)))).ints
      rw [← f1, ← f2]
      exact hle
    obtain ⟨ep, he'⟩ := PyProof.Rows.sortedAll_at s.heap its out
    have hlen : (L.map fun q => V.ref q.1).length ≤ sizeLine := by rw [List.length_map, pL.length_eq]; exact small64 h64
    exact ⟨.ref _, upd H (s.heap.objs.size + 1) (.lst (L.map fun q => V.ref q.1)), I.laid (t' := s.toks) (fun _ _ => PyProof.Rows.sortedAll_old) (Nat.le_succ _) ⟨hlen, out.toList, ep, by rw [eL]; exact vals_of_refs L, he'⟩, rfl, q L _ pL pw2 (I.hok.fresh (Nat.le_succ _))⟩
  have ok : ∀ its : List Value, Vals (ps.map fun p => V.ref p.1) its → its.length < 64 ∧ TS.TupsOk s.heap d B its := fun its rv => by
    refine ⟨by rw [← rv.length, List.length_map]; exact h64, fun v hv => ?_⟩
    rw [refs_of_vals rv] at hv
    obtain ⟨p, hp, rfl⟩ := List.mem_map.mp hv
    exact ⟨p.2, tupInts_of (P := X.prog) (w := X.w) (I.isT (hk p hp)), (hB p hp).1, (hB p hp).2⟩
  rcases hl with hs | hs
  · obtain ⟨its, rv, hl, _⟩ := I.list hs
    obtain ⟨h6, hx⟩ := ok its rv
    exact TS.sorted_tups hl.isList h6 hd hx fun out pm pw => fin its out rv pm pw
  · obtain ⟨its, rv, hl, _⟩ := I.tuple hs
    obtain ⟨h6, hx⟩ := ok its rv
    exact sorted_tupT hl h6 hd hx fun out pm pw => fin its out rv pm pw
end
end RS
end
section
set_option Elab.async false
set_option linter.all false
set_option maxRecDepth 100000
set_option autoImplicit false
set_option maxHeartbeats 2000000
/-! RSSort1: sorted(rows). -/
namespace RS
open PySem L2
abbrev UpE (l : List (List Int)) : Prop := l.Pairwise fun a b => codeK a ≤ codeK b
theorem insM_up (k : List Int) : ∀ l : List (List Int), UpE l → UpE (insM k l) ∧ (insM k l).Perm (k :: l)
  | [], _ => ⟨List.pairwise_singleton _ _, List.Perm.refl _⟩
  | y :: r, up => by
    have up' := List.pairwise_cons.mp up
    rw [insM]
    by_cases c : codeK k ≤ codeK y
    · rw [if_pos c]
      refine ⟨List.pairwise_cons.mpr ⟨fun x hx => ?_, up⟩, List.Perm.refl _⟩
      rcases List.mem_cons.mp hx with e | hx
      · rw [e]; exact c
      · have := up'.1 x hx; omega
    · rw [if_neg c]
      obtain ⟨i1, i2⟩ := insM_up k r up'.2
      refine ⟨List.pairwise_cons.mpr ⟨fun x hx => ?_, i1⟩, (i2.cons y).trans (List.Perm.swap k y r)⟩
      rcases List.mem_cons.mp (i2.mem_iff.mp hx) with e | hx
      · rw [e]; omega
      · exact up'.1 x hx
theorem sortM_up : ∀ l : List (List Int), UpE (sortM l) ∧ (sortM l).Perm l
  | [] => ⟨List.Pairwise.nil, List.Perm.refl _⟩
  | k :: l => by
    obtain ⟨i1, i2⟩ := sortM_up l
    obtain ⟨j1, j2⟩ := insM_up k (sortM l) i1
    exact ⟨j1, j2.trans (i2.cons k)⟩
theorem upE_uniq {n : Nat} : ∀ {a b : List (List Int)}, a.Perm b → UpE a → UpE b → (∀ k ∈ a, k.length = n ∧ TS.Bd 1048576 k) → a = b
  | [], b, p, _, _, _ => (List.Perm.eq_nil p.symm).symm
  | x :: a, [], p, _, _, _ => absurd p.length_eq (by simp)
  | x :: a, y :: b, p, ha, hb, h => by
    have ha' := List.pairwise_cons.mp ha
    have hb' := List.pairwise_cons.mp hb
    have hy : y ∈ x :: a := p.mem_iff.mpr List.mem_cons_self
    have hx : x ∈ y :: b := p.mem_iff.mp List.mem_cons_self
    have e : x = y := by
      rcases List.mem_cons.mp hy with e | m1
      · exact e.symm
      · rcases List.mem_cons.mp hx with e | m2
        · exact e
        · have l1 := ha'.1 y m1
          have l2 := hb'.1 x m2
          have b1 := h x List.mem_cons_self
          have b2 := h y hy
          exact code_inj (by rw [b1.1, b2.1]) b1.2 b2.2 (Int.le_antisymm l1 l2)
    subst e
    rw [upE_uniq p.cons_inv ha'.2 hb'.2 fun k hk => h k (List.mem_cons_of_mem _ hk)]
section
variable {X : Cx} {mc : MC}
theorem sortR_rd {a : E} {σ : L2.St} {H : Hp} {Q : VK} (h : rd X.K (ev (.prim .sorted (.cons a .nil))) σ H Q) : tCB (rSortedR X.K) (tCons (rd X.K (ev a)) tNil) σ H Q := by
  obtain ⟨c, gT, gF, ρ, s, r, s', P, e, q⟩ := h
  rw [ev] at e
  obtain ⟨rs, s1, e1, e⟩ := bind_ok e
  obtain ⟨e2, rfl⟩ := lift_ok e
  rw [evs] at e1
  obtain ⟨rx, s2, e3, e1⟩ := bind_ok e1
  obtain ⟨ry, s3, e4, e1⟩ := bind_ok e1
  rw [evs] at e4
  cases e4
  cases e1
  have e2 : sortRowsF [rx.d] = some r := e2
  have key : ∃ l ks, (rx.d = .tup l ∨ rx.d = .lst l) ∧ rowsOf l = some ks ∧ sortRowsR ks = some r := by
    unfold sortRowsF at e2
    split at e2 <;> first | (cases e2; done) | skip
    all_goals
      rename_i l heq
      rw [Option.bind_eq_some_iff] at e2
      obtain ⟨ks, h1, h2⟩ := e2
      injection heq with heq _
    · exact ⟨l, ks, .inl heq, h1, h2⟩
    · exact ⟨l, ks, .inr heq, h1, h2⟩
  obtain ⟨l, ks, hd, hr, hs⟩ := key
  unfold sortRowsR at hs
  split at hs <;> first | (cases hs; done) | skip
  rename_i hin
  cases hs
  obtain ⟨h64, n, n1, hks⟩ := rowsIn_of hin
  refine ⟨c, gT, gF, ρ, s, rx, _, P, e3, fun x H1 P1 V1 => ?_⟩
  obtain ⟨T, F, o⟩ := P1
  obtain ⟨l', ps, rfl, hq, hps, hT⟩ := set_rows (X := X) hd hr (o.tv V1.hd)
  have hB : ∀ p ∈ ps, p.2.length = n ∧ TS.Bd 1048576 p.2 := fun p hp => hks p.2 (by rw [← hps]; exact List.mem_map.mpr ⟨p, hp, rfl⟩)
  refine ⟨l', ps, n, 1048576, rfl, hq, by rw [← hps, List.length_map] at h64; exact h64, n1, hT, hB, fun L' B pm pw hB' => ?_⟩
  have srt : L'.map (·.2) = sortM ks := by
    obtain ⟨u1, u2⟩ := sortM_up ks
    refine upE_uniq (n := n) ((pm.map (·.2)).trans (by rw [hps]; exact u2.symm)) (List.pairwise_map.mpr ?_) u1 fun k hk => ?_
    · exact pw.imp fun {a b} h => by rw [code_eq, code_eq] at h; exact h
    · obtain ⟨p, hp, rfl⟩ := List.mem_map.mp hk
      exact hB p (pm.mem_iff.mp hp)
  have rr : Reps X.K c.aS (c.Ow F) H1 ((sortM ks).map fun k => .tup (k.map .int)) (L'.map fun q => V.ref q.1) := by
    rw [← srt]
    exact reps_of_rows fun p hp => hT p (pm.mem_iff.mp hp)
  exact q _ _ ⟨_, _, (o.fresh (o.B.lst hB' rr)).less (rx.subT _ gT) ((rx.subF _ gF).cons_cons _)⟩ ⟨B, rfl⟩
theorem snd_sortR (ok : CtxOk X mc) {a : E} {x : Expr} {y : Str} {k pos : Pos} (hy : callB mc "sorted" y = true) (hx : plainE x = true) (ha : PE X x (rd X.K (ev a))) :
    PE X (.Call (.Name y k) [x] [] pos) (rd X.K (ev (.prim .sorted (.cons a .nil)))) := by
  obtain ⟨rfl, hg, hd⟩ := callB_of ok hy
  have st := star_cons (env := X.env) (es := []) hx
  exact (pe_callB cr_sortedR hg (ok.blt "sorted" (by decide)) (by decide +kernel) (pa_cons ha pa_nil st) (by decide +kernel) hd st rfl).via fun σ H Q h => sortR_rd h
end
end RS
end
section
set_option Elab.async false
set_option linter.all false
set_option maxRecDepth 100000
set_option autoImplicit false
set_option maxHeartbeats 2000000
/-! RSState: the draws' state, read and written. -/
namespace RS
open PySem L2
section
variable {K : PySem.W.Frag} {c : Cfg} {T : Shd} {F gF : Own} {gT : Shd} {H : Hp} {s : OSt} {σ : L2.St} {ρ : Env}
theorem isSt_get {i : Nat} (h : isSt ρ i = true) : ρ[i]? = some (.sh .st) := by
  unfold isSt at h
  rw [List.getD_eq_getElem?_getD] at h
  cases q : ρ[i]? with
  | none => rw [q] at h; cases h
  | some y =>
    rw [q] at h
    dsimp only [Option.getD_some] at h
    split at h <;> first | rfl | cases h
theorem Bs.neF (B : Bs K c T F H s) {a : Addr} (ha : c.O a) : ∀ q ∈ F, q.2 ≠ a := fun q hq e => (B.tF q hq).2.1 (e ▸ ha)
theorem Bs.putState (B : Bs K c T F H s) {n : Nat} : Bs K c T F (upd H c.aS (.dK [(.inr "cells", .ref c.aC), (.inr "lefts", .ref c.aL), (.inr "at", .int n)])) ⟨s.cells, s.lefts, n⟩ := by
  have g : Go K (c.Ow F) (c.Ow F) H (upd H c.aS (.dK [(.inr "cells", .ref c.aC), (.inr "lefts", .ref c.aL), (.inr "at", .int n)])) := by
    refine ⟨fun a z => .inl z, fun a xs q => ?_, fun a xs n q => ?_⟩
    · have ne : ∀ o, H a = some o → (∀ kvs, o ≠ .dK kvs) → a ≠ c.aS := fun o e d z => by rw [z, B.st.dict] at e; exact d _ (Option.some.inj e).symm
      rcases q with (q | ⟨ob, q⟩) | q
      · exact .inl (.inl (by rw [upd_ne (ne _ q fun _ z => by cases z)]; exact q))
      · exact .inl (.inr ⟨ob, by rw [upd_ne (ne _ q fun _ z => by cases z)]; exact q⟩)
      · exact .inr q
    · have : a ≠ c.aS := fun z => n (.inl (z ▸ B.oS.1))
      rw [upd_ne this]; exact q
  have n1 : c.aC ≠ c.aS := fun z => by have := B.st.cells; rw [z, B.st.dict] at this; cases this
  have n2 : c.aL ≠ c.aS := fun z => by have := B.st.lefts; rw [z, B.st.dict] at this; cases this
  refine ⟨fun q hq => Rep.go g _ _ (B.tT q hq), fun q hq => ?_, B.nd, ⟨upd_same, by rw [upd_ne n1]; exact B.st.cells, by rw [upd_ne n2]; exact B.st.lefts, B.st.ne, B.st.len, B.st.pos, B.st.most, tabs_upd (fun o e => by rw [B.st.dict] at e; cases e; trivial) B.st.tab⟩, B.oS, fun a ha => ?_, ⟨fun a o e n h1 h2 => ?_, fun a e => ?_⟩, B.tq⟩
  · obtain ⟨t, n, z⟩ := B.tF q hq
    exact ⟨t.go g fun xs e => by rw [upd_ne (B.neF B.oS.1 q hq)]; exact e, n, z⟩
  · by_cases h : a = c.aS
    · exact ⟨.dK _, by rw [h, upd_same], trivial⟩
    · rw [upd_ne h]; exact B.trk a ha
  · rw [upd_ne h1]; exact B.kp.obj a o e n h1 h2
  · by_cases h : a = c.aS
    · obtain ⟨_, z⟩ := e _ (by rw [h, upd_same]); cases z
    · exact B.kp.there a fun o q => e o (by rw [upd_ne h]; exact q)
theorem Bs.putLefts (B : Bs K c T F H s) {ls : List Int} (hl : ls.length = s.lefts.length) : Bs K c T F (upd H c.aL (.lst (ls.map V.int))) ⟨s.cells, ls, s.pos⟩ := by
  have g : Go K (c.Ow F) (c.Ow F) H (upd H c.aL (.lst (ls.map V.int))) := Go.write (.inl B.oS.2.1) B.st.lefts fun _ z => z
  have n2 : c.aS ≠ c.aL := fun z => by have := B.st.lefts; rw [← z, B.st.dict] at this; cases this
  refine ⟨fun q hq => Rep.go g _ _ (B.tT q hq), fun q hq => ?_, B.nd, ⟨by rw [upd_ne n2]; exact B.st.dict, by rw [upd_ne B.st.ne]; exact B.st.cells, upd_same, B.st.ne, hl.trans B.st.len, B.st.pos, B.st.most, tabs_upd (loose_lst B.st.lefts) B.st.tab⟩, B.oS, fun a ha => ?_, ⟨fun a o e n h1 h2 => ?_, fun a e => ?_⟩, B.tq⟩
  · obtain ⟨t, n, z⟩ := B.tF q hq
    exact ⟨t.go g fun xs e => by rw [upd_ne (B.neF B.oS.2.1 q hq)]; exact e, n, z⟩
  · by_cases h : a = c.aL
    · exact ⟨.lst _, by rw [h, upd_same], trivial⟩
    · rw [upd_ne h]; exact B.trk a ha
  · rw [upd_ne h2]; exact B.kp.obj a o e n h1 h2
  · by_cases h : a = c.aL
    · obtain ⟨_, z⟩ := e _ (by rw [h, upd_same]); cases z
    · exact B.kp.there a fun o q => e o (by rw [upd_ne h]; exact q)
theorem Opn.state {s' : OSt} {H' : Hp} (o : Opn K c gT gF σ H ρ s T F) (B : Bs K c T F H' s') : Pt K c gT gF σ H' ρ s' := ⟨T, F, B, o.hT, o.hF, o.nd, o.sl⟩
theorem Opn.st_at {i : Nat} (o : Opn K c gT gF σ H ρ s T F) (h : isSt ρ i = true) : σ[i]? = some (some (.ref c.aS)) := by
  obtain ⟨v, h1, h2⟩ := o.sl.sh i _ (isSt_get h)
  have r : Rep K c.aS (c.Ow F) H .st v := o.B.tT _ h2
  rw [Rep] at r
  rw [h1, r]
end
section
variable {X : Cx} {mc : MC}
theorem nm_eq (ok : CtxOk X mc) {i : Nat} {x : Str} {p : Pos} (h : nmB mc i (.Name x p) = true) : PE X (.Name x p) (tVar i) := by
  simp only [nmB, Bool.and_eq_true] at h
  exact pe_var (by rw [← ok.N]; exact of_decide_eq_true h.1.1) (ok.vis h.1.2) (dbg1 h.2) (dbg2 h.2)
/-- state[key] -/
theorem pe_st (ok : CtxOk X mc) {i : Nat} {x y : Str} {p p2 pos : Pos} {n : Nat} (h : nmB mc i (.Name x p) = true) : PE X (.Subscript (.Name x p) (.Constant (.str y) n p2) pos) (tDGet (tVar i) (tC (.str y))) :=
  pe_dget (by have := ok.un; omega) (nm_eq ok h) pe_str (fun _ _ => rfl)
theorem reps_ints {K : PySem.W.Frag} {aS : Addr} {O : Addr → Prop} {H : Hp} : ∀ ns : List Int, Reps K aS O H (ns.map D.int) (ns.map V.int)
  | [] => by rw [List.map_nil, List.map_nil]; exact Reps.nil
  | n :: ns => by rw [List.map_cons, List.map_cons]; exact Reps.cons Rep.int' (reps_ints ns)
theorem rd_st {i : Nat} {y : Str} {f : OSt → Cfg → V} {σ : L2.St} {H : Hp} {Q : VK} (hy : ∀ (c : Cfg) (s : OSt), valV [(.inr "cells", .ref c.aC), (.inr "lefts", .ref c.aL), (.inr "at", .int s.pos)] (.inr y : Key) = some (f s c))
    (h : ∃ c gT gF ρ s, Pt X.K c gT gF σ H ρ s ∧ isSt ρ i = true ∧ Q (f s c) H) : tDGet (tVar i) (tC (.str y)) σ H Q := by
  obtain ⟨c, gT, gF, ρ, s, ⟨T, F, o⟩, hs, q⟩ := h
  refine ⟨.ref c.aS, o.st_at hs, c.aS, f s c, rfl, ?_, q⟩
  have := DGet.k (k := (.inr y : Key)) o.B.st.dict
  rw [hy c s] at this
  exact this
theorem snd_stAt (ok : CtxOk X mc) {i : Nat} {x : Str} {p p2 pos : Pos} {n : Nat} (h : nmB mc i (.Name x p) = true) : PE X (.Subscript (.Name x p) (.Constant (.str "at") n p2) pos) (rd X.K (ev (.stAt i))) := by
  refine (pe_st ok h).via fun σ H Q h => ?_
  obtain ⟨c, gT, gF, ρ, s, r, s', P, e, q⟩ := h
  rw [ev] at e
  split at e <;> first | (cases e; done) | skip
  rename_i hs
  cases e
  refine rd_st (f := fun s _ => .int s.pos) (fun _ _ => rfl) ⟨c, gT, gF, ρ, s, P, hs, ?_⟩
  obtain ⟨T, F, o⟩ := P
  exact q.sh o (fun _ h => h) (List.Sublist.refl _) Rep.int'
theorem snd_stLen (ok : CtxOk X mc) {i : Nat} {x f : Str} {p p2 p3 p4 pos : Pos} {n : Nat} (hf : callB mc "len" f = true) (h : nmB mc i (.Name x p) = true) :
    PE X (.Call (.Name f p4) [.Subscript (.Name x p) (.Constant (.str "cells") n p2) p3] [] pos) (rd X.K (ev (.stLen i))) := by
  obtain ⟨rfl, hg, hd⟩ := callB_of ok hf
  refine (pe_callB pr_len hg (ok.blt "len" (by decide)) (by decide +kernel) (pa_cons (pe_st ok h) pa_nil rfl) (by decide +kernel) hd rfl rfl).via fun σ H Q h => ?_
  obtain ⟨c, gT, gF, ρ, s, r, s', P, e, q⟩ := h
  rw [ev] at e
  split at e <;> first | (cases e; done) | skip
  rename_i hs
  cases e
  refine rd_st (f := fun _ c => .ref c.aC) (fun _ _ => rfl) ⟨c, gT, gF, ρ, s, P, hs, ?_⟩
  obtain ⟨T, F, o⟩ := P
  refine ⟨c.aS, c.Ow F, [.lst (s.cells.map D.int)], _, ⟨_, _, rfl, ⟨_, _, rfl, o.B.st.cells, reps_ints _⟩, rfl⟩, rfl, Give.of o (fun _ h => h) (List.Sublist.refl _) ?_ rfl⟩
  rw [List.length_map]
  exact q
theorem cellF_some {l : List Int} {d : D} {r : Rs} (h : cellF l d = some r) : ∃ n x, d = .int n ∧ atI (l.map V.int) n = some (.int x) ∧ r = .sh (.int x) := by
  unfold cellF at h
  split at h <;> first | (cases h; done) | skip
  rename_i n
  rw [Option.bind_eq_some_iff] at h
  obtain ⟨j, h1, h2⟩ := h
  rw [Option.map_eq_some_iff] at h2
  obtain ⟨x, h2, rfl⟩ := h2
  refine ⟨n, x, rfl, ?_, rfl⟩
  unfold atI
  rw [List.length_map]
  show (ixOf l.length n).bind _ = _
  rw [h1]
  show (l.map V.int)[j]? = _
  rw [List.getElem?_map, h2]; rfl
theorem snd_stIx (ok : CtxOk X mc) {i : Nat} {x y : Str} {p p2 p3 pos : Pos} {n : Nat} {k : E} {e : Expr} {l : OSt → List Int} {a : Cfg → Addr} {g : E} (hev : ∀ ρ s, ev g ρ s = if isSt ρ i then (ev k ρ s).bind fun y s1 => lift (cellF (l s1) y.d) s1 else .no)
    (hy : ∀ (c : Cfg) (s : OSt), valV [(.inr "cells", .ref c.aC), (.inr "lefts", .ref c.aL), (.inr "at", .int s.pos)] (.inr y : Key) = some (.ref (a c))) (ha : ∀ c H s, StOk c H s → H (a c) = some (.lst ((l s).map V.int)))
    (h : nmB mc i (.Name x p) = true) (hp : plainE e = true) (hk : PE X e (rd X.K (ev k))) : PE X (.Subscript (.Subscript (.Name x p) (.Constant (.str y) n p2) p3) e pos) (rd X.K (ev g)) := by
  have hs : PlainIx e := fun o i => by cases e <;> first | rfl | cases hp
  refine (pe_ix ix_list (pe_st ok h) hk hs).via fun σ H Q h => ?_
  obtain ⟨c, gT, gF, ρ, s, r, s', P, e, q⟩ := h
  rw [hev] at e
  split at e <;> first | (cases e; done) | skip
  rename_i hs
  obtain ⟨ry, s1, e1, e⟩ := bind_ok e
  obtain ⟨e2, rfl⟩ := lift_ok e
  obtain ⟨m, z, hd, hz, rfl⟩ := cellF_some e2
  refine rd_st (f := fun _ c => .ref (a c)) hy ⟨c, gT, gF, ρ, s, P, hs, ?_⟩
  refine ⟨c, gT, gF, ρ, s, ry, _, P, e1, fun v H1 P1 V1 => ?_⟩
  obtain ⟨T, F, o⟩ := P1
  have t := o.tv V1.hd
  rw [hd] at t
  refine ⟨a c, _, m, _, rfl, t.int, SqL.of (ha c _ _ o.B.st), hz, ?_⟩
  exact q.sh o (ry.subT v gT) (ry.subF v gF) Rep.int'
/-! ### written -/
theorem Pt.isSt {K : PySem.W.Frag} {c : Cfg} {gT : Shd} {gF : Own} {σ : L2.St} {H : Hp} {ρ : Env} {s : OSt} (P : Pt K c gT gF σ H ρ s) {i : Nat} (h : isSt ρ i = true) : σ[i]? = some (some (.ref c.aS)) := by
  obtain ⟨T, F, o⟩ := P
  exact o.st_at h
end
end RS
end
section
set_option Elab.async false
set_option linter.all false
set_option maxRecDepth 100000
set_option autoImplicit false
set_option maxHeartbeats 2000000
/-! RSLoop: targets, what is walked, comprehensions. -/
namespace RS
open PySem L2
/-! ## targets -/
def Like (σ σ' : L2.St) (vs : List Nat) : Prop := σ'.length = σ.length ∧ ∀ i, i ∉ vs → σ'[i]? = σ[i]?
def LikeE (ρ ρ' : Env) (vs : List Nat) : Prop := ρ'.length = ρ.length ∧ ∀ i, i ∉ vs → ρ'[i]? = ρ[i]?
def rdG (K : PySem.W.Frag) (tg : Tg) : TG := fun v σ H Q => ∃ c gT gF ρ s d ρ', Pt K c gT gF σ H ρ s ∧ (d, v) ∈ gT ∧ bindTg tg d ρ = some ρ' ∧ ∀ σ', Pt K c gT gF σ' H ρ' s → Like σ σ' (tgSlots tg) → Q σ' H
def PairsIn (gT : Shd) : List D → List V → Prop
  | [], vs => vs = []
  | d :: ds, vs => ∃ x xs, vs = x :: xs ∧ (d, x) ∈ gT ∧ PairsIn gT ds xs
def rdGs (K : PySem.W.Frag) (tg : Tg) : TGs := fun vs σ H Q => ∃ c gT gF ρ s ds ρ', Pt K c gT gF σ H ρ s ∧ PairsIn gT ds vs ∧ bindTgs tg ds ρ = some ρ' ∧ ∀ σ', Pt K c gT gF σ' H ρ' s → Like σ σ' (tgSlots tg) → Q σ' H
section
variable {K : PySem.W.Frag} {c : Cfg} {gT gT' : Shd} {gF gF' : Own} {σ σ' : L2.St} {H H' : Hp} {ρ : Env} {s s' : OSt} {T : Shd} {F : Own}
theorem Sl.setSh (sl : Sl T F gF σ ρ) {i : Nat} {d : D} {v : V} (hi : i < ρ.length) (h : (d, v) ∈ T) : Sl T F gF (σ.set i (some v)) (ρ.set i (.sh d)) := by
  have hi' : i < σ.length := by rw [← sl.len]; exact hi
  refine ⟨by simp [sl.len], fun j e hj => ?_, fun j e hj => ?_, fun j k e f a hj hk sj sk => ?_⟩
  · by_cases h1 : j = i
    · subst h1
      rw [List.getElem?_set_self hi] at hj
      cases hj
      exact ⟨v, by rw [List.getElem?_set_self hi'], h⟩
    · rw [List.getElem?_set_ne (Ne.symm h1)] at hj ⊢
      exact sl.sh j e hj
  · by_cases h1 : j = i
    · subst h1
      rw [List.getElem?_set_self hi] at hj
      cases hj
    · rw [List.getElem?_set_ne (Ne.symm h1)] at hj ⊢
      exact sl.ow j e hj
  · have nj : j ≠ i := fun z => by subst z; rw [List.getElem?_set_self hi] at hj; cases hj
    have nk : k ≠ i := fun z => by subst z; rw [List.getElem?_set_self hi] at hk; cases hk
    rw [List.getElem?_set_ne (Ne.symm nj)] at hj sj
    rw [List.getElem?_set_ne (Ne.symm nk)] at hk sk
    exact sl.inj j k e f a hj hk sj sk
theorem Pt.setSh (P : Pt K c gT gF σ H ρ s) {i : Nat} {d : D} {v : V} (hi : i < ρ.length) (h : (d, v) ∈ gT) : Pt K c gT gF (σ.set i (some v)) H (ρ.set i (.sh d)) s := by
  obtain ⟨T, F, o⟩ := P
  exact ⟨T, F, o.B, o.hT, o.hF, o.nd, o.sl.setSh hi (o.hT _ h)⟩
theorem Like.refl (σ : L2.St) (vs : List Nat) : Like σ σ vs := ⟨rfl, fun _ _ => rfl⟩
theorem Like.trans {σ1 : L2.St} {vs ws : List Nat} (a : Like σ σ1 vs) (b : Like σ1 σ' ws) : Like σ σ' (vs ++ ws) :=
  ⟨b.1.trans a.1, fun i hi => (b.2 i fun z => hi (List.mem_append_right _ z)).trans (a.2 i fun z => hi (List.mem_append_left _ z))⟩
theorem Opn.addAll (o : Opn K c gT gF σ H ρ s T F) : ∀ {ds : List D} {xs : List V}, Reps K c.aS (c.Ow F) H ds xs → ∃ gT' T', Opn K c gT' gF σ H ρ s T' F ∧ (∀ p ∈ gT, p ∈ gT') ∧ PairsIn gT' ds xs
  | [], xs, h => by rw [Reps] at h; exact ⟨gT, T, o, fun _ h => h, h⟩
  | d :: ds, xs, h => by
    rw [Reps] at h
    obtain ⟨v, vs, rfl, r, t⟩ := h
    obtain ⟨gT', T', o', h1, h2⟩ := Opn.addAll o t
    refine ⟨_, _, o'.addT r, fun p hp => List.mem_cons_of_mem _ (h1 p hp), v, vs, rfl, List.mem_cons_self, ?_⟩
    clear o' t o
    induction ds generalizing vs with
    | nil => exact h2
    | cons e es ih =>
      obtain ⟨x, xs, rfl, h3, h4⟩ := h2
      exact ⟨x, xs, rfl, List.mem_cons_of_mem _ h3, ih _ h4⟩
theorem PairsIn.mono : ∀ {ds : List D} {vs : List V}, PairsIn gT ds vs → (∀ p ∈ gT, p ∈ gT') → PairsIn gT' ds vs
  | [], _, h, _ => h
  | _ :: _, _, h, m => by
    obtain ⟨x, xs, e, h1, h2⟩ := h
    exact ⟨x, xs, e, m _ h1, PairsIn.mono h2 m⟩
theorem PairsIn.length : ∀ {ds : List D} {vs : List V}, PairsIn gT ds vs → vs.length = ds.length
  | [], _, h => by rw [show _ = [] from h]; rfl
  | _ :: _, _, h => by
    obtain ⟨x, xs, rfl, h1, h2⟩ := h
    simp [PairsIn.length h2]
end
theorem assign_len {env : PySem.Env} : ∀ {es : List Expr}, plainEs es = true → (assignEach es env).length = es.length ∧ (assignEach es env).findIdx? (·.1) = none ∧ ∀ e r, es = e :: r → (assignEach es env).map (·.2) = assign e env :: (assignEach r env).map (·.2)
  | [], _ => ⟨rfl, rfl, fun _ _ h => by cases h⟩
  | e :: es, h => by
    rw [plainEs, Bool.and_eq_true] at h
    obtain ⟨h1, h2, _⟩ := assign_len (env := env) h.2
    have e1 : assignEach (e :: es) env = (false, assign e env) :: assignEach es env := by cases e <;> first | rfl | cases h.1
    rw [e1]
    refine ⟨by simp [h1], ?_, fun e' r z => by cases z; rfl⟩
    rw [List.findIdx?_cons]
    simp [h2]
theorem mtTgs_plain (mc : MC) : ∀ (t : Tg) (es : List Expr), mtTgs mc t es = true → plainEs es = true
  | .nil, [], _ => rfl
  | .cons a b, e :: es, h => by
    rw [mtTgs, Bool.and_eq_true, Bool.and_eq_true] at h
    rw [plainEs, h.1.1, mtTgs_plain mc b es h.2]; rfl
  | .nil, _ :: _, h => by simp [mtTgs] at h
  | .cons _ _, [], h => by simp [mtTgs] at h
  | .nm _, _, h => by simp [mtTgs] at h
  | .tup _, _, h => by simp [mtTgs] at h
theorem bindTgs_len : ∀ (t : Tg) (ds : List D) (ρ ρ' : Env) (mc : MC) (es : List Expr), bindTgs t ds ρ = some ρ' → mtTgs mc t es = true → ds.length = es.length
  | .nil, [], _, _, _, [], _, _ => rfl
  | .cons a b, d :: ds, ρ, ρ', mc, e :: es, h, m => by
    rw [bindTgs, Option.bind_eq_some_iff] at h
    obtain ⟨ρ1, _, h2⟩ := h
    rw [mtTgs, Bool.and_eq_true] at m
    simp [bindTgs_len b ds ρ1 ρ' mc es h2 m.2]
  | .nil, [], _, _, _, _ :: _, _, m => by simp [mtTgs] at m
  | .nil, _ :: _, _, _, _, _, h, _ => by simp [bindTgs] at h
  | .cons _ _, [], _, _, _, _, h, _ => by simp [bindTgs] at h
  | .cons _ _, _ :: _, _, _, _, [], _, m => by simp [mtTgs] at m
  | .nm _, _, _, _, _, _, h, _ => by simp [bindTgs] at h
  | .tup _, _, _, _, _, _, h, _ => by simp [bindTgs] at h
section
variable {X : Cx} {mc : MC}
theorem tg_ok (ok : CtxOk X mc) : ∀ (t : Tg), (∀ e, mtTg mc t e = true → PG X e (rdG X.K t)) ∧ (∀ es, mtTgs mc t es = true → PGs X es (rdGs X.K t)) := by
  intro t
  induction t with
  | nm i =>
    refine ⟨fun e h => ?_, fun es h => by simp [mtTgs] at h⟩
    cases e <;> first | (simp [mtTg] at h; done) | skip
    rename_i x pos
    rw [mtTg, Bool.and_eq_true] at h
    have hN := of_decide_eq_true h.1
    obtain ⟨hl, hf⟩ := ok.loc h.2
    have g := pg_name (X := X) (pos := pos) ok.nd (by rw [← ok.N]; exact hN) hl hf
    refine ⟨fun pins s σ H v u Q I r q => g.run pins s σ H v u Q I r ?_⟩
    obtain ⟨c, gT, gF, ρ, st, d, ρ', P, hm, hb, k⟩ := q
    rw [bindTg] at hb
    split at hb <;> first | (cases hb; done) | skip
    rename_i hi
    cases hb
    exact k _ (P.setSh hi hm) ⟨by simp, fun j hj => by rw [List.getElem?_set_ne]; intro z; exact hj (by simp [tgSlots, z])⟩
  | nil =>
    refine ⟨fun e h => by simp [mtTg] at h, fun es h => ?_⟩
    cases es <;> first | (simp [mtTgs] at h; done) | skip
    refine ⟨fun pins s σ H vs us Q I r q => pgs_nil.run pins s σ H vs us Q I r ?_⟩
    obtain ⟨c, gT, gF, ρ, st, ds, ρ', P, hm, hb, k⟩ := q
    cases ds <;> first | (simp [bindTgs] at hb; done) | skip
    rw [bindTgs] at hb
    cases hb
    exact ⟨hm, k σ P (Like.refl _ _)⟩
  | tup t ih =>
    refine ⟨fun e h => ?_, fun es h => by simp [mtTgs] at h⟩
    cases e <;> first | (simp [mtTg] at h; done) | skip
    rename_i es kk pos
    rw [mtTg] at h
    have pl := mtTgs_plain mc t es h
    obtain ⟨l1, l2, _⟩ := assign_len (env := X.env) pl
    have g := pg_tup (pos := pos) (k := kk) ok.calm (ih.2 es h) l1 l2
    refine ⟨fun pins s σ H v u Q I r q => g.run pins s σ H v u Q I r ?_⟩
    obtain ⟨c, gT, gF, ρ, st, d, ρ', ⟨T, F, o⟩, hm, hb, k⟩ := q
    cases d <;> first | (simp [bindTg] at hb; done) | skip
    rename_i ds
    rw [bindTg] at hb
    have rep := o.B.tT _ (o.hT _ hm)
    rw [Rep] at rep
    obtain ⟨a, xs, e1, hs, t'⟩ := rep
    obtain ⟨gT', T', o', h1, h2⟩ := o.addAll t'
    refine ⟨a, xs, e1, hs, by rw [t'.length]; exact bindTgs_len t ds ρ ρ' mc es hb h, c, gT', gF, ρ, st, ds, ρ', ⟨T', F, o'⟩, h2, hb, fun σ' P' L => k σ' (P'.less h1 (List.Sublist.refl _)) L⟩
  | cons a b iha ihb =>
    refine ⟨fun e h => by simp [mtTg] at h, fun es h => ?_⟩
    cases es with
    | nil => simp [mtTgs] at h
    | cons e es =>
      have pl := mtTgs_plain mc _ _ h
      rw [mtTgs, Bool.and_eq_true, Bool.and_eq_true] at h
      have g := pgs_cons (iha.1 e h.1.2) (ihb.2 es h.2) ((assign_len (env := X.env) pl).2.2 e es rfl)
      refine ⟨fun pins s σ H vs us Q I r q => g.run pins s σ H vs us Q I r ?_⟩
      obtain ⟨c, gT, gF, ρ, st, ds, ρ', P, hm, hb, k⟩ := q
      cases ds <;> first | (simp [bindTgs] at hb; done) | skip
      rename_i d ds
      rw [bindTgs, Option.bind_eq_some_iff] at hb
      obtain ⟨ρ1, hb1, hb2⟩ := hb
      obtain ⟨x, xs, rfl, m1, m2⟩ := hm
      exact ⟨x, xs, rfl, c, gT, gF, ρ, st, d, ρ1, P, m1, hb1, fun σ1 P1 L1 => ⟨c, gT, gF, ρ1, st, ds, ρ', P1, m2, hb2, fun σ2 P2 L2 => k σ2 P2 (L1.trans L2)⟩⟩
end
theorem bindTg_like : ∀ (t : Tg), (∀ d ρ ρ', bindTg t d ρ = some ρ' → LikeE ρ ρ' (tgSlots t)) ∧ (∀ ds ρ ρ', bindTgs t ds ρ = some ρ' → LikeE ρ ρ' (tgSlots t)) := by
  intro t
  induction t with
  | nm i =>
    refine ⟨fun d ρ ρ' h => ?_, fun ds ρ ρ' h => by simp [bindTgs] at h⟩
    rw [bindTg] at h
    split at h <;> cases h
    exact ⟨by simp, fun j hj => by rw [List.getElem?_set_ne]; intro z; exact hj (by simp [tgSlots, z])⟩
  | nil =>
    refine ⟨fun d ρ ρ' h => by simp [bindTg] at h, fun ds ρ ρ' h => ?_⟩
    cases ds <;> simp [bindTgs] at h
    subst h
    exact ⟨rfl, fun _ _ => rfl⟩
  | tup t ih =>
    refine ⟨fun d ρ ρ' h => ?_, fun ds ρ ρ' h => by simp [bindTgs] at h⟩
    cases d <;> first | (simp [bindTg] at h; done) | skip
    rw [bindTg] at h
    exact ih.2 _ _ _ h
  | cons a b iha ihb =>
    refine ⟨fun d ρ ρ' h => by simp [bindTg] at h, fun ds ρ ρ' h => ?_⟩
    cases ds <;> first | (simp [bindTgs] at h; done) | skip
    rw [bindTgs, Option.bind_eq_some_iff] at h
    obtain ⟨ρ1, h1, h2⟩ := h
    obtain ⟨a1, a2⟩ := iha.1 _ _ _ h1
    obtain ⟨b1, b2⟩ := ihb.2 _ _ _ h2
    exact ⟨b1.trans a1, fun i hi => (b2 i fun z => hi (by simp [tgSlots, z])).trans (a2 i fun z => hi (by simp [tgSlots, z]))⟩
/-! ## what is walked -/
structure Wk (K : PySem.W.Frag) (J : It) (c : Cfg) (gT : Shd) (gF : Own) (items : List D) : Prop where
  goes : ∀ (i : Nat), i < items.length → ∀ gT' gF' σ H ρ s, (∀ p ∈ gT, p ∈ gT') → (∀ p ∈ gF, p ∈ gF') → Pt K c gT' gF' σ H ρ s → J.go i H
  stops : ∀ gT' gF' σ H ρ s, (∀ p ∈ gT, p ∈ gT') → (∀ p ∈ gF, p ∈ gF') → Pt K c gT' gF' σ H ρ s → J.stop items.length H
  yields : ∀ (i : Nat) (d : D), items[i]? = some d → ∀ gT' gF' σ H ρ s x H', (∀ p ∈ gT, p ∈ gT') → (∀ p ∈ gF, p ∈ gF') → Pt K c gT' gF' σ H ρ s → J.yld i H x H' → Pt K c ((d, x) :: gT') gF' σ H' ρ s
def rdI (K : PySem.W.Frag) (f : Env → OSt → R (List D × Option Nat)) : TI := fun σ H R => ∃ c gT gF ρ s items b s', Pt K c gT gF σ H ρ s ∧ f ρ s = .ok (items, b) s' ∧
  ∀ J H' gT' gF' ρ', (b = none → ρ' = ρ ∧ gF' = gF) → (∀ i, b = some i → ρ' = ρ.set i .no ∧ ∃ a, gF' = (.lst items, a) :: gF ∧ σ[i]? = some (some (.ref a)) ∧ ρ[i]? = some (.ow (.lst items))) →
    (∀ p ∈ gT, p ∈ gT') → Pt K c gT' gF' σ H' ρ' s' → Wk K J c gT' gF' items → R J H'
section
variable {K : PySem.W.Frag} {c : Cfg} {gT : Shd} {gF : Own} {items : List D} {a b : Addr}
theorem wk_list (h : (.lst items, .ref a) ∈ gT) : Wk K (Itl K a) c gT gF items := by
  have at_ : ∀ gT' gF' σ H ρ s, (∀ p ∈ gT, p ∈ gT') → Pt K c gT' gF' σ H ρ s → ∃ T F xs, Opn K c gT' gF' σ H ρ s T F ∧ H a = some (.lst xs) ∧ Reps K c.aS (c.Ow F) H items xs := by
    rintro gT' gF' σ H ρ s h1 ⟨T, F, o⟩
    have r := o.B.tT _ (o.hT _ (h1 _ h))
    rw [Rep] at r
    obtain ⟨b, xs, e, _, q, t⟩ := r
    cases e
    exact ⟨T, F, xs, o, q, t⟩
  refine ⟨fun i hi gT' gF' σ H ρ s h1 h2 P => ?_, fun gT' gF' σ H ρ s h1 h2 P => ?_, fun i d hd gT' gF' σ H ρ s x H' h1 h2 P y => ?_⟩
  · obtain ⟨T, F, xs, o, q, t⟩ := at_ _ _ _ _ _ _ h1 P
    have hl := t.length
    exact ⟨xs, xs[i]'(by omega), SqL.of q, by simp [show i < xs.length by omega]⟩
  · obtain ⟨T, F, xs, o, q, t⟩ := at_ _ _ _ _ _ _ h1 P
    exact ⟨xs, SqL.of q, by rw [t.length]; exact Nat.le_refl _⟩
  · obtain ⟨T, F, xs, o, q, t⟩ := at_ _ _ _ _ _ _ h1 P
    obtain ⟨rfl, y⟩ := y
    obtain ⟨v, hv, rv⟩ := t.get hd
    have := y xs (SqL.of q)
    rw [hv] at this; cases this
    exact ⟨_, _, o.addT rv⟩
theorem wk_own (h : (.lst items, a) ∈ gF) : Wk K (Itl K a) c gT gF items := by
  have at_ : ∀ gT' gF' σ H ρ s, (∀ p ∈ gF, p ∈ gF') → Pt K c gT' gF' σ H ρ s → ∃ T F xs, Opn K c gT' gF' σ H ρ s T F ∧ H a = some (.lst xs) ∧ Reps K c.aS (c.Ow F) H items xs := by
    rintro gT' gF' σ H ρ s h1 ⟨T, F, o⟩
    obtain ⟨l, xs, e, q, t⟩ := o.B.top_at (o.hF _ (h1 _ h))
    cases e
    exact ⟨T, F, xs, o, q, t⟩
  refine ⟨fun i hi gT' gF' σ H ρ s h1 h2 P => ?_, fun gT' gF' σ H ρ s h1 h2 P => ?_, fun i d hd gT' gF' σ H ρ s x H' h1 h2 P y => ?_⟩
  · obtain ⟨T, F, xs, o, q, t⟩ := at_ _ _ _ _ _ _ h2 P
    have hl := t.length
    exact ⟨xs, xs[i]'(by omega), SqL.of q, by simp [show i < xs.length by omega]⟩
  · obtain ⟨T, F, xs, o, q, t⟩ := at_ _ _ _ _ _ _ h2 P
    exact ⟨xs, SqL.of q, by rw [t.length]; exact Nat.le_refl _⟩
  · obtain ⟨T, F, xs, o, q, t⟩ := at_ _ _ _ _ _ _ h2 P
    obtain ⟨rfl, y⟩ := y
    obtain ⟨v, hv, rv⟩ := t.get hd
    have := y xs (SqL.of q)
    rw [hv] at this; cases this
    exact ⟨_, _, o.addT rv⟩
theorem tup_at {gT' : Shd} {gF' : Own} {σ : L2.St} {H : Hp} {ρ : Env} {s : OSt} (h : (.tup items, .ref a) ∈ gT') (P : Pt K c gT' gF' σ H ρ s) : ∃ T F xs, Opn K c gT' gF' σ H ρ s T F ∧ SqT K H a xs ∧ Reps K c.aS (c.Ow F) H items xs := by
  obtain ⟨T, F, o⟩ := P
  have r := o.B.tT _ (o.hT _ h)
  rw [Rep] at r
  obtain ⟨b, xs, e, q, t⟩ := r
  cases e
  exact ⟨T, F, xs, o, q, t⟩
theorem lst_at {gT' : Shd} {gF' : Own} {σ : L2.St} {H : Hp} {ρ : Env} {s : OSt} (h : (.lst items, .ref a) ∈ gT') (P : Pt K c gT' gF' σ H ρ s) : ∃ T F xs, Opn K c gT' gF' σ H ρ s T F ∧ H a = some (.lst xs) ∧ Reps K c.aS (c.Ow F) H items xs := by
  obtain ⟨T, F, o⟩ := P
  have r := o.B.tT _ (o.hT _ h)
  rw [Rep] at r
  obtain ⟨b, xs, e, _, q, t⟩ := r
  cases e
  exact ⟨T, F, xs, o, q, t⟩
theorem wk_tup (h : (.tup items, .ref a) ∈ gT) : Wk K (Itt K a) c gT gF items := by
  refine ⟨fun i hi gT' gF' σ H ρ s h1 h2 P => ?_, fun gT' gF' σ H ρ s h1 h2 P => ?_, fun i d hd gT' gF' σ H ρ s x H' h1 h2 P y => ?_⟩
  · obtain ⟨T, F, xs, o, q, t⟩ := tup_at (h1 _ h) P
    have hl := t.length
    exact ⟨xs, xs[i]'(by omega), q, by simp [show i < xs.length by omega]⟩
  · obtain ⟨T, F, xs, o, q, t⟩ := tup_at (h1 _ h) P
    exact ⟨xs, q, by rw [t.length]; exact Nat.le_refl _⟩
  · obtain ⟨T, F, xs, o, q, t⟩ := tup_at (h1 _ h) P
    obtain ⟨rfl, y⟩ := y
    obtain ⟨v, hv, rv⟩ := t.get hd
    have := y xs q
    rw [hv] at this; cases this
    exact ⟨_, _, o.addT rv⟩
theorem wk_range (lo : Int) (n : Nat) : Wk K (Itr lo n) c gT gF (fromInts lo n) := by
  refine ⟨fun i hi gT' gF' σ H ρ s h1 h2 P => by show i < n; simpa [fromInts] using hi, fun gT' gF' σ H ρ s h1 h2 P => by simp [fromInts, Itr], fun i d hd gT' gF' σ H ρ s x H' h1 h2 P y => ?_⟩
  obtain ⟨rfl, rfl⟩ := y
  obtain ⟨T, F, o⟩ := P
  have : d = .int (lo + i) := by
    unfold fromInts at hd
    rw [List.getElem?_map] at hd
    cases hr : (List.range n)[i]? with
    | none => rw [hr] at hd; cases hd
    | some k =>
      rw [hr] at hd; cases hd
      rw [List.getElem?_range] at hr
      · cases hr; rfl
      · by_cases h : i < n
        · exact h
        · rw [List.getElem?_eq_none (by simp; omega)] at hr; cases hr
  subst this
  exact ⟨_, _, o.addT Rep.int'⟩
theorem zipD_get : ∀ {xs ys : List D} {i : Nat} {d : D}, (zipD xs ys)[i]? = some d → ∃ x y, xs[i]? = some x ∧ ys[i]? = some y ∧ d = .tup [x, y]
  | [], _, _, _, h => by simp [zipD] at h
  | _ :: _, [], _, _, h => by simp [zipD] at h
  | x :: xs, y :: ys, 0, _, h => by simp [zipD] at h; exact ⟨x, y, rfl, rfl, h.symm⟩
  | x :: xs, y :: ys, i + 1, _, h => by
    simp [zipD] at h
    obtain ⟨a, b, h1, h2, h3⟩ := zipD_get h
    exact ⟨a, b, by simpa using h1, by simpa using h2, h3⟩
theorem zipD_len : ∀ (xs ys : List D), (zipD xs ys).length = min xs.length ys.length
  | [], _ => by simp [zipD]
  | _ :: _, [] => by simp [zipD]
  | x :: xs, y :: ys => by simp [zipD, zipD_len xs ys]
theorem wk_zipT {xs ys : List D} (ha : (.tup xs, .ref a) ∈ gT) (hb : (.tup ys, .ref b) ∈ gT) : Wk K (RZ.ItzT K a b) c gT gF (zipD xs ys) := by
  refine ⟨fun i hi gT' gF' σ H ρ s h1 h2 P => ?_, fun gT' gF' σ H ρ s h1 h2 P => ?_, fun i d hd gT' gF' σ H ρ s x H' h1 h2 P y => ?_⟩
  · obtain ⟨T, F, us, o, q, t⟩ := tup_at (h1 _ ha) P
    obtain ⟨T2, F2, ws, o2, q2, t2⟩ := tup_at (h1 _ hb) P
    have l1 := t.length; have l2 := t2.length
    rw [zipD_len] at hi
    exact ⟨us, ws, us[i]'(by omega), ws[i]'(by omega), q, q2, by simp [show i < us.length by omega], by simp [show i < ws.length by omega]⟩
  · obtain ⟨T, F, us, o, q, t⟩ := tup_at (h1 _ ha) P
    obtain ⟨T2, F2, ws, o2, q2, t2⟩ := tup_at (h1 _ hb) P
    have l1 := t.length; have l2 := t2.length
    exact ⟨us, ws, q, q2, by rw [zipD_len]; omega⟩
  · obtain ⟨T, F, o⟩ := P
    have r1 := o.B.tT _ (o.hT _ (h1 _ ha))
    have r2 := o.B.tT _ (o.hT _ (h1 _ hb))
    rw [Rep] at r1 r2
    obtain ⟨_, us, e1, q1, t1⟩ := r1
    obtain ⟨_, ws, e2, q2, t2⟩ := r2
    cases e1; cases e2
    obtain ⟨dx, dy, g1, g2, rfl⟩ := zipD_get hd
    obtain ⟨v1, hv1, rv1⟩ := t1.get g1
    obtain ⟨v2, hv2, rv2⟩ := t2.get g2
    obtain ⟨Tp, x1, y1, rfl, hT, rfl, f1, f2⟩ := y
    have z1 := f1 us q1; have z2 := f2 ws q2
    rw [hv1] at z1; cases z1
    rw [hv2] at z2; cases z2
    exact ⟨_, _, o.step (fun p hp => List.mem_cons_of_mem _ hp) (fun p hp => by
      rcases List.mem_cons.mp hp with e | hp
      · rw [e]; exact List.mem_cons_self
      · exact List.mem_cons_of_mem _ (o.hT p hp)) (o.B.tup hT (Reps.cons rv1 (Reps.cons rv2 Reps.nil)))⟩
theorem wk_zipL {xs ys : List D} (ha : (.lst xs, .ref a) ∈ gT) (hb : (.lst ys, .ref b) ∈ gT) : Wk K (Itz K a b) c gT gF (zipD xs ys) := by
  refine ⟨fun i hi gT' gF' σ H ρ s h1 h2 P => ?_, fun gT' gF' σ H ρ s h1 h2 P => ?_, fun i d hd gT' gF' σ H ρ s x H' h1 h2 P y => ?_⟩
  · obtain ⟨T, F, us, o, q, t⟩ := lst_at (h1 _ ha) P
    obtain ⟨T2, F2, ws, o2, q2, t2⟩ := lst_at (h1 _ hb) P
    have l1 := t.length; have l2 := t2.length
    rw [zipD_len] at hi
    exact ⟨us, ws, us[i]'(by omega), ws[i]'(by omega), SqL.of q, SqL.of q2, by simp [show i < us.length by omega], by simp [show i < ws.length by omega]⟩
  · obtain ⟨T, F, us, o, q, t⟩ := lst_at (h1 _ ha) P
    obtain ⟨T2, F2, ws, o2, q2, t2⟩ := lst_at (h1 _ hb) P
    have l1 := t.length; have l2 := t2.length
    exact ⟨us, ws, SqL.of q, SqL.of q2, by rw [zipD_len]; omega⟩
  · obtain ⟨T, F, o⟩ := P
    have r1 := o.B.tT _ (o.hT _ (h1 _ ha))
    have r2 := o.B.tT _ (o.hT _ (h1 _ hb))
    rw [Rep] at r1 r2
    obtain ⟨_, us, e1, _, q1, t1⟩ := r1
    obtain ⟨_, ws, e2, _, q2, t2⟩ := r2
    cases e1; cases e2
    obtain ⟨dx, dy, g1, g2, rfl⟩ := zipD_get hd
    obtain ⟨v1, hv1, rv1⟩ := t1.get g1
    obtain ⟨v2, hv2, rv2⟩ := t2.get g2
    obtain ⟨Tp, x1, y1, rfl, hT, rfl, f1, f2⟩ := y
    have z1 := f1 us (SqL.of q1); have z2 := f2 ws (SqL.of q2)
    rw [hv1] at z1; cases z1
    rw [hv2] at z2; cases z2
    exact ⟨_, _, o.step (fun p hp => List.mem_cons_of_mem _ hp) (fun p hp => by
      rcases List.mem_cons.mp hp with e | hp
      · rw [e]; exact List.mem_cons_self
      · exact List.mem_cons_of_mem _ (o.hT p hp)) (o.B.tup hT (Reps.cons rv1 (Reps.cons rv2 Reps.nil)))⟩
end
end RS
end
section
set_option Elab.async false
set_option linter.all false
set_option maxRecDepth 100000
set_option autoImplicit false
set_option maxHeartbeats 2000000
/-! RSComp: what is walked, by the evaluator; comprehensions. -/
namespace RS
open PySem L2
theorem _root_.L2.PI.via {X : Cx} {tg e : Expr} {t t' : TI} (h : PI X tg e t) (i : ∀ σ H R, t' σ H R → t σ H R) : PI X tg e t' := ⟨fun pins s σ H R I q => h.run pins s σ H R I (i σ H R q)⟩
section
variable {K : PySem.W.Frag} {c : Cfg} {gT gT' : Shd} {gF gF' : Own} {σ σ' : L2.St} {H H' : Hp} {ρ ρ' : Env} {s s' : OSt} {T : Shd} {F : Own}
/-- a slot's own thing lent: the slot is wiped -/
theorem Pt.lend (P : Pt K c gT gF σ H ρ s) {i : Nat} {d : D} {a : Addr} (h1 : ρ[i]? = some (.ow d)) (h2 : σ[i]? = some (some (.ref a))) : Pt K c gT ((d, a) :: gF) σ H (ρ.set i .no) s := by
  obtain ⟨T, F, o⟩ := P
  obtain ⟨b, e, hF, n⟩ := o.sl.ow i d h1
  rw [h2] at e; cases e
  have hi : i < ρ.length := by
    rcases Nat.lt_or_ge i ρ.length with h | h
    · exact h
    · rw [List.getElem?_eq_none h] at h1; cases h1
  refine ⟨T, F, o.B, o.hT, fun p hp => ?_, ?_, by simp [o.sl.len], fun j e hj => ?_, fun j e hj => ?_, fun j k e f b hj hk sj sk => ?_⟩
  · rcases List.mem_cons.mp hp with e | hp
    · rw [e]; exact hF
    · exact o.hF p hp
  · rw [List.map_cons, List.nodup_cons]
    exact ⟨n, o.nd⟩
  · by_cases hij : j = i
    · subst hij; rw [List.getElem?_set_self hi] at hj; cases hj
    · rw [List.getElem?_set_ne (Ne.symm hij)] at hj
      exact o.sl.sh j e hj
  · by_cases hij : j = i
    · subst hij; rw [List.getElem?_set_self hi] at hj; cases hj
    · rw [List.getElem?_set_ne (Ne.symm hij)] at hj
      obtain ⟨b, k1, k2, k3⟩ := o.sl.ow j e hj
      refine ⟨b, k1, k2, fun z => ?_⟩
      rw [List.map_cons] at z
      rcases List.mem_cons.mp z with z | z
      · subst z; exact hij (o.sl.inj j i e d _ hj h1 k1 h2)
      · exact k3 z
  · have nj : j ≠ i := fun z => by subst z; rw [List.getElem?_set_self hi] at hj; cases hj
    have nk : k ≠ i := fun z => by subst z; rw [List.getElem?_set_self hi] at hk; cases hk
    rw [List.getElem?_set_ne (Ne.symm nj)] at hj
    rw [List.getElem?_set_ne (Ne.symm nk)] at hk
    exact o.sl.inj j k e f b hj hk sj sk
/-- and given back -/
theorem Pt.unlend {i : Nat} (P : Pt K c gT gF' σ H (ρ.set i .no) s) {d : D} {a : Addr} (hF : (d, a) ∈ gF') (hs : List.Sublist gF gF') (hn : a ∉ gF.map (·.2)) (h1 : ρ[i]? = some (.ow d)) (h2 : σ[i]? = some (some (.ref a))) : Pt K c gT gF σ H ρ s := by
  obtain ⟨T, F, o⟩ := P
  have o' := o.less (fun _ h => h) hs
  have hi : i < ρ.length := by
    rcases Nat.lt_or_ge i ρ.length with h | h
    · exact h
    · rw [List.getElem?_eq_none h] at h1; cases h1
  have aw : ∀ (j : Nat) (e : D) (b : Addr), j ≠ i → ρ[j]? = some (.ow e) → σ[j]? = some (some (.ref b)) → b ≠ a := fun j e b hij hj sj z => by
    obtain ⟨b', k1, _, k3⟩ := o.sl.ow j e (by rw [List.getElem?_set_ne (Ne.symm hij)]; exact hj)
    rw [sj] at k1; cases k1
    exact k3 (z ▸ List.mem_map.mpr ⟨_, hF, rfl⟩)
  refine ⟨T, F, o.B, o'.hT, o'.hF, o'.nd, by have := o.sl.len; simpa using this, fun j e hj => ?_, fun j e hj => ?_, fun j k e f b hj hk sj sk => ?_⟩
  · have hij : j ≠ i := fun z => by subst z; rw [h1] at hj; cases hj
    exact o.sl.sh j e (by rw [List.getElem?_set_ne (Ne.symm hij)]; exact hj)
  · by_cases hij : j = i
    · subst hij
      rw [h1] at hj; cases hj
      exact ⟨a, h2, o.hF _ hF, hn⟩
    · exact o'.sl.ow j e (by rw [List.getElem?_set_ne (Ne.symm hij)]; exact hj)
  · by_cases hji : j = i
    · by_cases hki : k = i
      · rw [hji, hki]
      · subst hji
        rw [h2] at sj; cases sj
        exact (aw k f _ hki hk sk rfl).elim
    · by_cases hki : k = i
      · subst hki
        rw [h2] at sk; cases sk
        exact (aw j e _ hji hj sj rfl).elim
      · exact o.sl.inj j k e f b (by rw [List.getElem?_set_ne (Ne.symm hji)]; exact hj) (by rw [List.getElem?_set_ne (Ne.symm hki)]; exact hk) sj sk
theorem wipeE_length (ρ : Env) : ∀ vs : List Nat, (wipeE ρ vs).length = ρ.length
  | [] => rfl
  | v :: vs => by unfold wipeE; rw [List.length_set, wipeE_length ρ vs]
theorem wipeE_in {ρ : Env} {i : Nat} {x : Slot} : ∀ {vs : List Nat}, (wipeE ρ vs)[i]? = some x → x ≠ .no → i ∉ vs
  | [], _, _ => by simp
  | v :: vs, h, n => by
    unfold wipeE at h
    intro hm
    by_cases e : v = i
    · subst e
      rw [List.getElem?_set] at h
      simp only [if_true] at h
      split at h
      · cases h; exact n rfl
      · cases h
    · rw [List.getElem?_set_ne e] at h
      rcases List.mem_cons.mp hm with z | z
      · exact e z.symm
      · exact wipeE_in h n z
theorem wipeE_out {ρ : Env} {i : Nat} : ∀ {vs : List Nat}, i ∉ vs → (wipeE ρ vs)[i]? = ρ[i]?
  | [], _ => rfl
  | v :: vs, h => by
    have h1 : v ≠ i := fun e => h (by rw [e]; exact List.mem_cons_self)
    unfold wipeE
    rw [List.getElem?_set_ne h1]
    exact wipeE_out fun m => h (List.mem_cons_of_mem _ m)
theorem wipeE_inside {ρ : Env} {i : Nat} : ∀ {vs : List Nat}, i ∈ vs → i < ρ.length → (wipeE ρ vs)[i]? = some .no
  | [], h, _ => by simp at h
  | v :: vs, h, hl => by
    unfold wipeE
    by_cases e : v = i
    · subst e
      rw [List.getElem?_set_self (by rw [wipeE_length]; exact hl)]
    · rw [List.getElem?_set_ne e]
      rcases List.mem_cons.mp h with z | z
      · exact (e z.symm).elim
      · exact wipeE_inside z hl
theorem wipeE_like {vs : List Nat} (h : LikeE ρ ρ' vs) : wipeE ρ' vs = wipeE ρ vs := by
  apply List.ext_getElem?
  intro i
  by_cases hi : i ∈ vs
  · by_cases hl : i < ρ.length
    · rw [wipeE_inside hi hl, wipeE_inside hi (by rw [h.1]; exact hl)]
    · rw [List.getElem?_eq_none (by rw [wipeE_length, h.1]; omega), List.getElem?_eq_none (by rw [wipeE_length]; omega)]
  · rw [wipeE_out hi, wipeE_out hi, h.2 i hi]
theorem wipe_inside {σ : L2.St} {i : Nat} : ∀ {vs : List Nat}, i ∈ vs → i < σ.length → (wipe σ vs)[i]? = some none
  | [], h, _ => by simp at h
  | v :: vs, h, hl => by
    unfold wipe
    by_cases e : v = i
    · subst e
      rw [List.getElem?_set_self (by rw [wipe_length]; exact hl)]
    · rw [List.getElem?_set_ne e]
      rcases List.mem_cons.mp h with z | z
      · exact (e z.symm).elim
      · exact wipe_inside z hl
theorem wipe_like {vs : List Nat} (h : Like σ σ' vs) : wipe σ' vs = wipe σ vs := by
  apply List.ext_getElem?
  intro i
  by_cases hi : i ∈ vs
  · by_cases hl : i < σ.length
    · rw [wipe_inside hi hl, wipe_inside hi (by rw [h.1]; exact hl)]
    · rw [List.getElem?_eq_none (by rw [wipe_length, h.1]; omega), List.getElem?_eq_none (by rw [wipe_length]; omega)]
  · rw [wipe_out hi, wipe_out hi, h.2 i hi]
theorem wipe_wipe (σ : L2.St) (vs : List Nat) : wipe (wipe σ vs) vs = wipe σ vs := wipe_like ⟨wipe_length _ _, fun i hi => wipe_out hi⟩
theorem wipeE_wipeE (ρ : Env) (vs : List Nat) : wipeE (wipeE ρ vs) vs = wipeE ρ vs := wipeE_like ⟨wipeE_length _ _, fun i hi => wipeE_out hi⟩
theorem Opn.wiped (o : Opn K c gT gF σ H ρ s T F) (vs : List Nat) : Opn K c T gF (wipe σ vs) H (wipeE ρ vs) s T F := by
  refine ⟨o.B, fun _ h => h, o.hF, o.nd, by rw [wipeE_length, wipe_length]; exact o.sl.len, fun i d h => ?_, fun i d h => ?_, fun i j d e a hi hj si sj => ?_⟩
  · have n := wipeE_in h (by intro z; cases z)
    rw [wipeE_out n] at h
    rw [wipe_out n]
    exact o.sl.sh i d h
  · have n := wipeE_in h (by intro z; cases z)
    rw [wipeE_out n] at h
    rw [wipe_out n]
    exact o.sl.ow i d h
  · have n := wipeE_in hi (by intro z; cases z)
    have m := wipeE_in hj (by intro z; cases z)
    rw [wipeE_out n] at hi
    rw [wipeE_out m] at hj
    rw [wipe_out n] at si
    rw [wipe_out m] at sj
    exact o.sl.inj i j d e a hi hj si sj
theorem noOw_not {ρ : Env} {vs : List Nat} (h : noOw ρ vs = true) {i : Nat} {d : D} (hi : i ∈ vs) : ρ[i]? ≠ some (.ow d) := by
  intro z
  have := List.all_eq_true.mp h i hi
  rw [List.getD_eq_getElem?_getD, z] at this
  cases this
theorem Pt.unwiped {vs : List Nat} (P : Pt K c gT gF (wipe σ vs) H (wipeE ρ vs) s) (hl : ρ.length = σ.length) (hn : ∀ i ∈ vs, ∀ d, ρ[i]? ≠ some (.ow d)) (hs : ∀ (i : Nat) (d : D), ρ[i]? = some (.sh d) → ∃ v, σ[i]? = some (some v) ∧ (d, v) ∈ gT) : Pt K c gT gF σ H ρ s := by
  obtain ⟨T, F, o⟩ := P
  have nv : ∀ i d, ρ[i]? = some (.ow d) → i ∉ vs := fun i d h z => hn i z d h
  refine ⟨T, F, o.B, o.hT, o.hF, o.nd, hl, fun i d h => ?_, fun i d h => ?_, fun i j d e a hi hj si sj => ?_⟩
  · obtain ⟨v, h1, h2⟩ := hs i d h
    exact ⟨v, h1, o.hT _ h2⟩
  · have n := nv i d h
    have := o.sl.ow i d (by rw [wipeE_out n]; exact h)
    rw [wipe_out n] at this
    exact this
  · have n := nv i d hi
    have m := nv j e hj
    exact o.sl.inj i j d e a (by rw [wipeE_out n]; exact hi) (by rw [wipeE_out m]; exact hj) (by rw [wipe_out n]; exact si) (by rw [wipe_out m]; exact sj)
/-- a guarded own list changed -/
theorem Pt.put {d : D} {a : Addr} (P : Pt K c gT ((d, a) :: gF) σ H ρ s) {ds : List D} {ys : List V} (r : ∀ F, (∀ T, Opn K c gT ((d, a) :: gF) σ H ρ s T F → Reps K c.aS (c.Ow F) H ds ys)) : Pt K c gT ((.lst ds, a) :: gF) σ (upd H a (.lst ys)) ρ s := by
  obtain ⟨T, F, o⟩ := P
  have hF := o.hF _ List.mem_cons_self
  have nd := o.nd
  rw [List.map_cons, List.nodup_cons] at nd
  refine ⟨T, putO F a (.lst ds), o.B.mut hF (r F T o), o.hT, fun p hp => ?_, ?_, o.sl.len, o.sl.sh, fun i e h => ?_, o.sl.inj⟩
  · rcases List.mem_cons.mp hp with e | hp
    · rw [e]; exact mem_putO hF
    · exact mem_putO_ne (o.hF p (List.mem_cons_of_mem _ hp)) fun e => nd.1 (List.mem_map.mpr ⟨p, hp, e⟩)
  · rw [List.map_cons, List.nodup_cons]; exact nd
  · obtain ⟨b, h1, h2, h3⟩ := o.sl.ow i e h
    refine ⟨b, h1, mem_putO_ne h2 fun z => h3 ?_, h3⟩
    rw [z]; exact List.mem_cons_self
end
section
variable {X : Cx} {mc : MC}
/-! ### what is walked -/
theorem snd_itE {a : E} {x tg : Expr} (ha : PE X x (rd X.K (ev a))) : PI X tg x (rdI X.K (evI (.itE a))) := by
  refine ⟨fun pins s σ H R I h => ?_⟩
  obtain ⟨c, gT, gF, ρ, st, items, b, s', P, e, q⟩ := h
  rw [evI] at e
  obtain ⟨rx, s1, e1, e⟩ := bind_ok e
  cases rx with
  | bo i d =>
    cases d <;> first | (cases e; done) | skip
    rename_i l
    cases e
    refine (pi_list ha).run pins s σ H R I ⟨c, gT, gF, ρ, st, _, _, P, e1, fun v H1 P1 V1 => ?_⟩
    obtain ⟨a, rfl, h1, h2⟩ := V1
    have P2 := Pt.lend P1 h2 h1
    have sq : ∃ xs, SqL X.K H1 a xs := by
      obtain ⟨T, F, o⟩ := P1
      obtain ⟨b, h3, h4, _⟩ := o.sl.ow i _ h2
      rw [h1] at h3; cases h3
      obtain ⟨_, xs, _, q1, _⟩ := o.B.top_at h4
      exact ⟨xs, SqL.of q1⟩
    exact ⟨a, rfl, sq, q _ _ gT _ (ρ.set i .no) (fun z => by cases z) (fun j z => by cases z; exact ⟨rfl, a, rfl, h1, h2⟩) (fun _ h => h) P2 (wk_own List.mem_cons_self)⟩
  | sh d =>
    obtain ⟨e3, rfl⟩ := lift_ok (show lift _ _ = _ from e)
    rw [Option.map_eq_some_iff] at e3
    obtain ⟨l, e4, e'⟩ := e3
    cases e'
    have e := e4
    clear e4
    cases d <;> first | (cases e; done) | skip
    · cases e
      refine (pi_tup ha).run pins s σ H R I ⟨c, gT, gF, ρ, st, _, _, P, e1, fun v H1 P1 V1 => ?_⟩
      obtain ⟨T, F, o⟩ := id P1
      have r := o.B.tT _ (o.hT _ List.mem_cons_self)
      rw [Rep] at r
      obtain ⟨a, xs, rfl, q1, t⟩ := r
      exact ⟨a, rfl, ⟨xs, q1⟩, q _ _ _ gF ρ (fun _ => ⟨rfl, rfl⟩) (fun j z => by cases z) (fun p h => List.mem_cons_of_mem _ h) P1 (wk_tup List.mem_cons_self)⟩
    · cases e
      refine (pi_list ha).run pins s σ H R I ⟨c, gT, gF, ρ, st, _, _, P, e1, fun v H1 P1 V1 => ?_⟩
      obtain ⟨T, F, o⟩ := id P1
      have r := o.B.tT _ (o.hT _ List.mem_cons_self)
      rw [Rep] at r
      obtain ⟨a, xs, rfl, _, q1, t⟩ := r
      exact ⟨a, rfl, ⟨xs, SqL.of q1⟩, q _ _ _ gF ρ (fun _ => ⟨rfl, rfl⟩) (fun j z => by cases z) (fun p h => List.mem_cons_of_mem _ h) P1 (wk_list List.mem_cons_self)⟩
  | fr d =>
    obtain ⟨e3, rfl⟩ := lift_ok (show lift _ _ = _ from e)
    rw [Option.map_eq_some_iff] at e3
    obtain ⟨l, e4, e'⟩ := e3
    cases e'
    have e := e4
    clear e4
    cases d <;> first | (cases e; done) | skip
    · refine (pi_tup ha).run pins s σ H R I ⟨c, gT, gF, ρ, st, _, _, P, e1, fun v H1 P1 V1 => ?_⟩
      obtain ⟨a, rfl⟩ := V1
      obtain ⟨T, F, o⟩ := P1
      obtain ⟨_, xs, z, q1, _⟩ := o.B.top_at (o.hF _ List.mem_cons_self)
      cases z
    · cases e
      refine (pi_list ha).run pins s σ H R I ⟨c, gT, gF, ρ, st, _, _, P, e1, fun v H1 P1 V1 => ?_⟩
      obtain ⟨a, rfl⟩ := V1
      have P2 := Pt.forget (gF := gF) P1
      obtain ⟨T, F, o⟩ := P1
      obtain ⟨_, xs, z, q1, _⟩ := o.B.top_at (o.hF _ List.mem_cons_self)
      exact ⟨a, rfl, ⟨xs, SqL.of q1⟩, q _ _ _ gF ρ (fun _ => ⟨rfl, rfl⟩) (fun j z => by cases z) (fun p h => List.mem_cons_of_mem _ h) P2 (wk_list List.mem_cons_self)⟩
theorem smallR_of {i : Int} (h : smallR i = true) : -(2 ^ 62) ≤ i ∧ i < 2 ^ 62 := by
  have h := of_decide_eq_true h
  omega
theorem snd_itRange (ok : CtxOk X mc) {es : E} {y : Str} {l : List Expr} {tg : Expr} {k pos : Pos} (hy : callB mc "range" y = true) (h2 : (match l with | [_] => true | [_, _] => true | _ => false) = true) (hl : plainEs l = true) (hn : elen es = l.length) (ha : PA X l (rdA X.K (evs es))) :
    PI X tg (.Call (.Name y k) l [] pos) (rdI X.K (evI (.itRange es))) := by
  obtain ⟨rfl, hg, hd⟩ := callB_of ok hy
  have b := ok.blt "range" (by decide)
  have core : ∀ (σ : L2.St) (H : Hp) (R : It → Hp → Prop), rdI X.K (evI (.itRange es)) σ H R → (∃ n : Int, l.length = 1 ∧ iRng1 (rdA X.K (evs es)) σ H R) ∨ (l.length = 2 ∧ iRng2 (rdA X.K (evs es)) σ H R) := by
    intro σ H R h
    obtain ⟨c, gT, gF, ρ, st, items, bb, s', P, e, q⟩ := h
    rw [evI] at e
    obtain ⟨rs, s1, e1, e⟩ := bind_ok e
    obtain ⟨e3, rfl⟩ := lift_ok e
    rw [Option.map_eq_some_iff] at e3
    obtain ⟨l', e4, e'⟩ := e3
    cases e'
    have e := e4
    clear e4
    have hrs : rs.length = l.length := by rw [← hn]; exact evs_len es e1
    have hm : (rs.map Rs.d).length = rs.length := by simp
    unfold rangeF at e
    split at e
    · rename_i n hds
      refine .inl ⟨n, by rw [← hrs, ← hm, hds]; rfl, c, gT, gF, ρ, st, rs, _, P, e1, fun vs H1 P1 V1 => ?_⟩
      split at e <;> first | (cases e; done) | skip
      rename_i hb
      cases e
      obtain ⟨T, F, o⟩ := id P1
      have t := o.tvs V1
      rw [hds] at t
      obtain ⟨x, rfl, tx⟩ := tvs1 t
      refine ⟨n, by rw [tx.int], (smallR_of hb).1, (smallR_of hb).2, q _ _ _ gF ρ (fun _ => ⟨rfl, rfl⟩) (fun j z => by cases z) (subTs _ _ _) (P1.less (fun _ h => h) (subFs _ _ _)) (wk_range 0 _)⟩
    · rename_i n m hds
      refine .inr ⟨by rw [← hrs, ← hm, hds]; rfl, c, gT, gF, ρ, st, rs, _, P, e1, fun vs H1 P1 V1 => ?_⟩
      split at e <;> first | (cases e; done) | skip
      rename_i hb
      cases e
      obtain ⟨T, F, o⟩ := id P1
      have t := o.tvs V1
      rw [hds] at t
      obtain ⟨x, y, rfl, tx, ty⟩ := tvs2 t
      refine ⟨n, m, by rw [tx.int, ty.int], ⟨(smallR_of hb.1).1, (smallR_of hb.1).2, (smallR_of hb.2).1, (smallR_of hb.2).2⟩, q _ _ _ gF ρ (fun _ => ⟨rfl, rfl⟩) (fun j z => by cases z) (subTs _ _ _) (P1.less (fun _ h => h) (subFs _ _ _)) (wk_range n _)⟩
    · cases e
  match l, h2, hl, core, ha with
  | [x], _, hl, core, ha =>
    rw [plainEs, Bool.and_eq_true] at hl
    refine (pi_range1 hg b ha (star_cons hl.1)).via fun σ H R h => ?_
    rcases core _ _ _ h with ⟨_, _, h⟩ | ⟨z, h⟩
    · exact h
    · cases z
  | [x, y], _, hl, core, ha =>
    rw [plainEs, plainEs, Bool.and_eq_true, Bool.and_eq_true] at hl
    refine (pi_range2 hg b ha ((star_cons hl.1).trans (by rw [star_cons hl.2.1]; rfl)) (star_cons hl.2.1)).via fun σ H R h => ?_
    rcases core _ _ _ h with ⟨_, z, h⟩ | ⟨z, h⟩
    · cases z
    · exact h
theorem Pt.hdsh {K : PySem.W.Frag} {c : Cfg} {gT : Shd} {gF : Own} {σ : L2.St} {H : Hp} {ρ : Env} {s : OSt} {r : Rs} {v : V} (P : Pt K c gT (r.exF v gF) σ H ρ s) (h : Hd gT (r.exF v gF) σ ρ r v) (hb : r.isBo = false) : ∃ gT', Pt K c gT' gF σ H ρ s ∧ (∀ p ∈ gT, p ∈ gT') ∧ (r.d, v) ∈ gT' := by
  cases r with
  | sh d => exact ⟨gT, P, fun _ h => h, h⟩
  | fr d =>
    obtain ⟨a, rfl, _⟩ := h
    exact ⟨_, Pt.forget (gF := gF) P, fun _ h => List.mem_cons_of_mem _ h, List.mem_cons_self⟩
  | bo i d => cases hb
theorem snd_itZip (ok : CtxOk X mc) {ea eb : E} {y : Str} {u v : Expr} {tg : Expr} {k pos : Pos} (ht : isTup tg = true) (hy : callB mc "zip" y = true) (hu : plainE u = true) (hv : plainE v = true) (ha : PE X u (rd X.K (ev ea))) (hb : PE X v (rd X.K (ev eb))) :
    PI X tg (.Call (.Name y k) [u, v] [] pos) (rdI X.K (evI (.itZip ea eb))) := by
  obtain ⟨rfl, hg, hd⟩ := callB_of ok hy
  have b := ok.blt "zip" (by decide)
  cases tg <;> first | (cases ht; done) | skip
  have s1 := star_cons (env := X.env) (es := [v]) hu
  have s2 := star_cons (env := X.env) (es := []) hv
  refine (RZ.pi_zipA hg b (pa_cons ha (pa_cons hb pa_nil s2) s1) s1 (by rw [s2]; rfl)).via fun σ H R h => ?_
  obtain ⟨c, gT, gF, ρ, st, items, bb, s', P, e, q⟩ := h
  rw [evI] at e
  obtain ⟨rx, sx, e1, e⟩ := bind_ok e
  obtain ⟨ry, sy, e2, e⟩ := bind_ok e
  split at e <;> first | (cases e; done) | skip
  rename_i hbo
  obtain ⟨e3, rfl⟩ := lift_ok e
  rw [Option.map_eq_some_iff] at e3
  obtain ⟨l', e4, e'⟩ := e3
  cases e'
  have e := e4
  clear e4
  have hx : rx.isBo = false := by cases hh : rx.isBo <;> simp_all
  have hy' : ry.isBo = false := by cases hh : ry.isBo <;> simp_all
  refine ⟨c, gT, gF, ρ, st, rx, sx, P, e1, fun x H1 P1 V1 => ⟨c, _, _, ρ, sx, ry, _, P1, e2, fun z H2 P2 V2 => ?_⟩⟩
  obtain ⟨gT1, P3, k1, k2⟩ := Pt.hdsh P2 V2.hd hy'
  have h1 : Hd gT1 (rx.exF x gF) σ ρ rx x := V1.hd.mono (fun p hp => k1 p (ry.subT z _ p hp)) fun _ h => h
  obtain ⟨gT2, P4, k3, k4⟩ := Pt.hdsh P3 h1 hx
  have sub : ∀ p ∈ gT, p ∈ gT2 := fun p hp => k3 p (k1 p (ry.subT z _ p (rx.subT x _ p hp)))
  obtain ⟨T, F, o⟩ := id P4
  have r1 := (o.B.tT _ (o.hT _ k4))
  have r2 := (o.B.tT _ (o.hT _ (k3 _ k2)))
  have m2 := k3 _ k2
  unfold zipF at e
  split at e <;> first | (cases e; done) | skip
  · rename_i xs ys dx dy
    cases e
    rw [dx] at r1 k4
    rw [dy] at r2 m2
    rw [Rep] at r1 r2
    obtain ⟨a, us, rfl, _, q1, t1⟩ := r1
    obtain ⟨a2, ws, rfl, _, q2, t2⟩ := r2
    exact ⟨a, a2, us, ws, rfl, .inl ⟨SqL.of q1, SqL.of q2, q _ _ gT2 gF ρ (fun _ => ⟨rfl, rfl⟩) (fun j z => by cases z) sub P4 (wk_zipL k4 m2)⟩⟩
  · rename_i xs ys dx dy
    cases e
    rw [dx] at r1 k4
    rw [dy] at r2 m2
    rw [Rep] at r1 r2
    obtain ⟨a, us, rfl, q1, t1⟩ := r1
    obtain ⟨a2, ws, rfl, q2, t2⟩ := r2
    exact ⟨a, a2, us, ws, rfl, .inr ⟨q1, q2, q _ _ gT2 gF ρ (fun _ => ⟨rfl, rfl⟩) (fun j z => by cases z) sub P4 (wk_zipT k4 m2)⟩⟩
end
end RS
end
section
set_option Elab.async false
set_option linter.all false
set_option maxRecDepth 100000
set_option autoImplicit false
set_option maxHeartbeats 2000000
/-! RSComp2: comprehensions. -/
namespace RS
open PySem L2
def isOmit : E → Bool
  | .omit => true
  | _ => false
def rdC (K : PySem.W.Frag) (cnd : E) : TT := match cnd with
  | .omit => tYes
  | _ => rdT K (ev cnd)
theorem rdC_of {K : PySem.W.Frag} {cnd : E} {c : Cfg} {gT : Shd} {gF : Own} {σ : L2.St} {H : Hp} {ρ : Env} {s s' : OSt} {b : Bool} {Q : Bool → Hp → Prop} (P : Pt K c gT gF σ H ρ s) (e : ev cnd ρ s = .ok (.sh (.bl b)) s')
    (q : ∀ H', Pt K c gT gF σ H' ρ s' → Q b H') : rdC K cnd σ H Q := by
  unfold rdC
  split
  · rw [ev] at e; cases e
    exact q H P
  · exact ⟨c, gT, gF, ρ, s, b, s', P, e, q⟩
/-- the evaluator's turn of a comprehension -/
def stepC (ρw : Env) (tg : Tg) (cnd elt : E) (d : D) (s : OSt) : R (Option D) := match bindTg tg d ρw with
  | some ρ1 => (ev cnd ρ1 s).bind fun c s2 => match c with
    | .sh (.bl true) => (ev elt ρ1 s2).bind fun y s3 => if y.isBo then .no else .ok (some y.d) s3
    | .sh (.bl false) => .ok none s2
    | _ => .no
  | none => .no
theorem compL_cons {step : D → OSt → R (Option D)} {d : D} {ds acc l : List D} {s s2 : OSt} (h : compL step (d :: ds) acc s = .ok l s2) :
    (∃ s1, step d s = .ok none s1 ∧ compL step ds acc s1 = .ok l s2) ∨ ∃ y s1, step d s = .ok (some y) s1 ∧ acc.length < LIM ∧ compL step ds (acc ++ [y]) s1 = .ok l s2 := by
  rw [compL] at h
  split at h
  · rename_i s1 e
    exact .inl ⟨s1, e, h⟩
  · rename_i y s1 e
    split at h
    · rename_i hl
      exact .inr ⟨y, s1, e, hl, h⟩
    · cases h
  · cases h
theorem stepC_some {ρw : Env} {tg : Tg} {cnd elt : E} {d : D} {s s' : OSt} {r : Option D} (h : stepC ρw tg cnd elt d s = .ok r s') :
    ∃ ρ1 b s2, bindTg tg d ρw = some ρ1 ∧ ev cnd ρ1 s = .ok (.sh (.bl b)) s2 ∧ (if b = true then ∃ y, ev elt ρ1 s2 = .ok y s' ∧ y.isBo = false ∧ r = some y.d else r = none ∧ s' = s2) := by
  unfold stepC at h
  split at h <;> first | (cases h; done) | skip
  rename_i ρ1 e
  obtain ⟨c, s2, e2, h⟩ := bind_ok h
  split at h <;> first | (cases h; done) | skip
  · obtain ⟨y, s3, e3, h⟩ := bind_ok h
    split at h <;> first | (cases h; done) | skip
    rename_i hb
    cases h
    exact ⟨ρ1, true, s2, e, e2, by rw [if_pos rfl]; exact ⟨y, e3, by simpa using hb, rfl⟩⟩
  · cases h
    exact ⟨ρ1, false, _, e, e2, by rw [if_neg (by simp)]; exact ⟨rfl, rfl⟩⟩
theorem LIM_line {n : Nat} (h : n < LIM) : n < sizeLine := by rw [sizeLine_eq]; unfold LIM at h; omega
theorem tgSub {tg : Tg} {vs : List Nat} (h : (tgSlots tg).all (fun i => vs.contains i) = true) : ∀ i ∈ tgSlots tg, i ∈ vs := fun i hi => by
  have := List.all_eq_true.mp h i hi
  simpa using this
/-- the invariant of a comprehension's loop -/
structure CW (K : PySem.W.Frag) (c : Cfg) (gT : Shd) (gF : Own) (σ : L2.St) (ρ : Env) (vs : List Nat) (tg : Tg) (cnd elt : E) (L : Addr) (items l : List D) (s2 : OSt) (i m : Nat) (H : Hp) : Prop where
  hm : m = items.length - i
  hi : i ≤ items.length
  at_ : ∃ gT' acc s, (∀ p ∈ gT, p ∈ gT') ∧ (∀ (i : Nat) (d : D), ρ[i]? = some (.sh d) → ∃ v, σ[i]? = some (some v) ∧ (d, v) ∈ gT') ∧
    Pt K c gT' ((.lst acc, L) :: gF) (wipe σ vs) H (wipeE ρ vs) s ∧ compL (stepC (wipeE ρ vs) tg cnd elt) (items.drop i) acc s = .ok l s2
section
variable {K : PySem.W.Frag}
theorem comp_walk {c : Cfg} {gT : Shd} {gF : Own} {σ : L2.St} {H1 : Hp} {ρ : Env} {vs : List Nat} {tg : Tg} {cnd elt : E} {items l : List D} {s1 s2 : OSt} {J : It} {Q : VK}
    (hs : ∀ i ∈ tgSlots tg, i ∈ vs) (P : Pt K c gT gF σ H1 ρ s1) (wk : Wk K J c gT gF items) (hn : ∀ i ∈ vs, ∀ d, ρ[i]? ≠ some (.ow d)) (e : compL (stepC (wipeE ρ vs) tg cnd elt) items [] s1 = .ok l s2)
    (q : ∀ gT' L H', (∀ p ∈ gT, p ∈ gT') → Pt K c gT' ((.lst l, L) :: gF) σ H' ρ s2 → Q (.ref L) H') :
    ∀ D, H1 D = none → ∃ W : Nat → Nat → Hp → Prop, (∃ m, W 0 m (upd H1 D (.lst []))) ∧ ∀ i m H, W i m H →
      (J.stop i H ∧ Q (.ref D) H) ∨ (J.go i H ∧ ∃ Nx : Hp → Prop, (∀ H', Nx H' → ∃ m', m' < m ∧ W (i + 1) m' H') ∧ ∀ x H', J.yld i H x H' → rdG K tg x (wipe σ vs) H' fun σ2 H2 => wipe σ2 vs = wipe σ vs ∧ rdC K cnd σ2 H2 fun b H3 =>
        if b = true then rd K (ev elt) σ2 H3 fun y H4 => ∃ acc, H4 D = some (.lst acc) ∧ acc.length < sizeLine ∧ Nx (upd H4 D (.lst (acc ++ [y]))) else Nx H3) := by
  intro L hL
  refine ⟨CW K c gT gF σ ρ vs tg cnd elt L items l s2, ⟨items.length, rfl, Nat.zero_le _, ?_⟩, ?_⟩
  · obtain ⟨T, F, o⟩ := P
    have o2 : Opn K c gT ((.lst [], L) :: gF) σ (upd H1 L (.lst [])) ρ s1 T ((.lst [], L) :: F) := o.fresh (o.B.lst hL Reps.nil)
    exact ⟨T, [], s1, o.hT, o.sl.sh, ⟨_, _, o2.wiped vs⟩, e⟩
  · rintro i m H ⟨rfl, hi, gT', acc, s, h1, h2, P', e'⟩
    by_cases hlt : i < items.length
    · refine .inr ⟨wk.goes i hlt _ _ _ _ _ _ h1 (fun p hp => List.mem_cons_of_mem _ hp) P', CW K c gT gF σ ρ vs tg cnd elt L items l s2 (i + 1) (items.length - (i + 1)), fun H' w => ⟨_, by omega, w⟩, fun x H' y => ?_⟩
      have hd : items[i]? = some items[i] := List.getElem?_eq_getElem hlt
      have P2 := wk.yields i _ hd _ _ _ _ _ _ x H' h1 (fun p hp => List.mem_cons_of_mem _ hp) P' y
      rw [List.drop_eq_getElem_cons hlt] at e'
      have st : ∃ r s3, stepC (wipeE ρ vs) tg cnd elt items[i] s = .ok r s3 ∧ (match r with | none => compL (stepC (wipeE ρ vs) tg cnd elt) (items.drop (i + 1)) acc s3 = .ok l s2 | some y => acc.length < LIM ∧ compL (stepC (wipeE ρ vs) tg cnd elt) (items.drop (i + 1)) (acc ++ [y]) s3 = .ok l s2) := by
        rcases compL_cons e' with ⟨s3, a, b⟩ | ⟨y, s3, a, b⟩
        · exact ⟨none, s3, a, b⟩
        · exact ⟨some y, s3, a, b⟩
      obtain ⟨r, s3, e1, e2⟩ := st
      obtain ⟨ρ1, b, s4, hb, ec, ee⟩ := stepC_some e1
      refine ⟨c, _, _, _, s, _, ρ1, P2, List.mem_cons_self, hb, fun σ' P3 lk => ?_⟩
      have lk' : Like (wipe σ vs) σ' vs := ⟨lk.1, fun i hi => lk.2 i fun z => hi (hs i z)⟩
      have lkE : LikeE (wipeE ρ vs) ρ1 vs := by
        obtain ⟨a, b⟩ := (bindTg_like tg).1 _ _ _ hb
        exact ⟨a, fun i hi => b i fun z => hi (hs i z)⟩
      have w1 : wipe σ' vs = wipe σ vs := (wipe_like lk').trans (wipe_wipe σ vs)
      have w2 : wipeE ρ1 vs = wipeE ρ vs := (wipeE_like lkE).trans (wipeE_wipeE ρ vs)
      refine ⟨w1, rdC_of P3 ec fun H3 P4 => ?_⟩
      have back : ∀ {gT2 : Shd} {acc2 : List D} {H5 : Hp} {s5 : OSt}, (∀ p ∈ gT', p ∈ gT2) → Pt K c gT2 ((.lst acc2, L) :: gF) σ' H5 ρ1 s5 → compL (stepC (wipeE ρ vs) tg cnd elt) (items.drop (i + 1)) acc2 s5 = .ok l s2 → CW K c gT gF σ ρ vs tg cnd elt L items l s2 (i + 1) (items.length - (i + 1)) H5 := fun k P5 e5 => by
        obtain ⟨T, F, o⟩ := P5
        refine ⟨rfl, hlt, T, _, _, fun p hp => o.hT p (k p (h1 p hp)), fun j d hj => ?_, ?_, e5⟩
        · obtain ⟨v, a, b⟩ := h2 j d hj
          exact ⟨v, a, o.hT _ (k _ b)⟩
        · have o2 := o.wiped vs
          rw [w1, w2] at o2
          exact ⟨_, _, o2⟩
      cases b with
      | false =>
        rw [if_neg (by simp)] at ee ⊢
        obtain ⟨rfl, rfl⟩ := ee
        exact back (fun p hp => List.mem_cons_of_mem _ hp) P4 e2
      | true =>
        rw [if_pos rfl] at ee ⊢
        obtain ⟨ye, ee, hbo, rfl⟩ := ee
        refine ⟨c, _, _, ρ1, s4, ye, s3, P4, ee, fun v H4 P5 V5 => ?_⟩
        have P6 := Pt.share1 P5 V5 hbo
        have ok : ∃ xs, H4 L = some (.lst xs) ∧ xs.length = acc.length := by
          obtain ⟨T, F, o⟩ := P6
          obtain ⟨_, xs, z, a, t⟩ := o.B.top_at (o.hF _ List.mem_cons_self)
          cases z
          exact ⟨xs, a, t.length⟩
        obtain ⟨xs, hx, hlx⟩ := ok
        refine ⟨xs, hx, by rw [hlx]; exact LIM_line e2.1, ?_⟩
        have P7 := Pt.put (ds := acc ++ [ye.d]) (ys := xs ++ [v]) P6 fun F T o => by
          obtain ⟨_, xs', z, a, t⟩ := o.B.top_at (o.hF _ List.mem_cons_self)
          cases z
          rw [hx] at a; cases a
          exact t.append (Reps.cons (o.B.tT _ (o.hT _ List.mem_cons_self)) Reps.nil)
        exact back (fun p hp => List.mem_cons_of_mem _ (List.mem_cons_of_mem _ hp)) P7 e2.2
    · have hi' : i = items.length := by omega
      subst hi'
      rw [List.drop_length] at e'
      cases e'
      have st := wk.stops _ _ _ _ _ _ h1 (fun p hp => List.mem_cons_of_mem _ hp) P'
      obtain ⟨T, F, o⟩ := P
      exact .inl ⟨st, q gT' L H h1 (P'.unwiped o.sl.len hn h2)⟩
theorem comp_tlc {vs : List Nat} {tg : Tg} {it cnd elt : E} (hs : ∀ i ∈ tgSlots tg, i ∈ vs) {σ : L2.St} {H : Hp} {Q : VK} (h : rd K (ev (.comp vs tg it cnd elt)) σ H Q) : tLc (rdI K (evI it)) (rdG K tg) (rdC K cnd) (rd K (ev elt)) vs σ H Q := by
  obtain ⟨c, gT, gF, ρ, s, r, s', P, e, q⟩ := h
  rw [ev] at e
  obtain ⟨⟨items, b⟩, s1, e1, e⟩ := bind_ok e
  dsimp only at e
  split at e <;> first | (cases e; done) | skip
  rename_i hno
  obtain ⟨l, s2, e2, e⟩ := bind_ok e
  cases e
  refine ⟨c, gT, gF, ρ, s, items, b, s1, P, e1, fun J H1 gT' gF' ρ' hb1 hb2 hsub P' wk => ?_⟩
  have e2 : compL (stepC (wipeE ρ' vs) tg cnd elt) items [] s1 = .ok l s' := by
    cases b with
    | none => rw [(hb1 rfl).1]; exact e2
    | some i => rw [(hb2 i rfl).1]; exact e2
  have hn : ∀ i ∈ vs, ∀ d, ρ'[i]? ≠ some (.ow d) := fun i hi d z => by
    cases b with
    | none => rw [(hb1 rfl).1] at z; exact noOw_not hno hi z
    | some k =>
      rw [(hb2 k rfl).1] at z
      by_cases hk : k = i
      · subst hk
        rw [List.getElem?_set] at z
        simp only [if_true] at z
        split at z <;> cases z
      · rw [List.getElem?_set_ne hk] at z
        exact noOw_not hno hi z
  refine comp_walk hs P' wk hn e2 fun gT2 L H2 k P2 => ?_
  refine q (.ref L) H2 ?_ ⟨L, rfl⟩
  cases b with
  | none =>
    obtain ⟨rfl, rfl⟩ := hb1 rfl
    exact P2.less (fun p hp => k p (hsub p hp)) (List.Sublist.refl _)
  | some i =>
    obtain ⟨rfl, a, rfl, h1, h2⟩ := hb2 i rfl
    have nd : (((D.lst l, L) :: (D.lst items, a) :: gF).map (·.2)).Nodup := by
      obtain ⟨T, F, o⟩ := P2
      exact o.nd
    simp only [List.map_cons, List.nodup_cons, List.mem_cons, not_or] at nd
    refine Pt.less (Pt.unlend (gF := (D.lst l, L) :: gF) P2 (List.mem_cons_of_mem _ List.mem_cons_self) ((List.sublist_cons_self _ _).cons_cons _) ?_ h2 h1) (fun p hp => k p (hsub p hp)) (List.Sublist.refl _)
    simp only [List.map_cons, List.mem_cons, not_or]
    exact ⟨fun z => nd.1.1 z.symm, nd.2.1⟩
end
end RS
end
section
set_option Elab.async false
set_option linter.all false
set_option maxRecDepth 100000
set_option autoImplicit false
set_option maxHeartbeats 2000000
/-! RSEnum0: enumerate over a tuple. -/
namespace RS
open PySem PySem.Spec PyProof.Rows L2
theorem meets_enum1 {v : Value} {o : Obj} {Hh : Heap → Prop} (B : Begins v o Hh) :
    Meets (Builtin.«enumerate.__new__» ⟨[.type "enumerate", v], []⟩) (fun _ R s => Hh s.heap ∧
      R (.ok (.ret (.ref (s.heap.push o).objs.size))) { s with heap := (s.heap.push o).push { cls := .type "enumerate", data := .fields #[.none, .bool false, .ref s.heap.objs.size, rawInt 0, .none, .none] } }) :=
  .of_wp fun prog w A R s h => by
    obtain ⟨hp, g, d, tk, os⟩ := s; obtain ⟨h1, h⟩ := h
    have hsub := sub_enumerate
    have q1 : ∀ {A' : Around} {E : Value → Shared → Prop} {Q : Value → Shared → Prop}, Q (.ref hp.objs.size) ⟨hp.push o, g, d, tk, os⟩ → wpAny (model prog w) A' (pyIter v) Q E ⟨hp, g, d, tk, os⟩ :=
      fun q => B.iter prog w _ _ ⟨hp, g, d, tk, os⟩ _ h1 q
    wp_walk using q1
    refine wpAny_stack_any fun st => wpAny_pure ?_
    split
    · rename_i c _ _ _ _ _
      cases (c == Value.type "enumerate")
      · wp_walk using q1
        exact ⟨_, rfl, h⟩
      · wp_walk using q1
        exact ⟨_, rfl, h⟩
    · wp_walk using q1
      exact ⟨_, rfl, h⟩
section
variable {prog : Program} {w : World} {A : Around} {E : Value → Shared → Prop} {s : Shared}
theorem call_enum1 {v : Value} {o : Obj} {Hh : Heap → Prop} {Q : Value → Shared → Prop} (B : Begins v o Hh) (h1 : Hh s.heap)
    (h : ∀ h', IsEnum h' (s.heap.objs.size + 1) s.heap.objs.size 0 .none → h'.get? s.heap.objs.size = some o → h'.objs.size = s.heap.objs.size + 2 →
      (∀ b o, s.heap.get? b = some o → h'.get? b = some o) → Q (.ref (s.heap.objs.size + 1)) { s with heap := h' }) :
    wpAny (model prog w) A (call (.type "enumerate") [v]) Q E s := by
  refine callType_new F.called_enumerate (by decide) (F.typeCall_enumerate_1 _) (F.newCall_enumerate_1 _) (fun obj => F.args_object_init_2 obj _) F.entry_enumerate_new (meets_enum1 B) ⟨h1, ?_⟩
  have hz : (s.heap.push o).objs.size = s.heap.objs.size + 1 := Heap.size_push ..
  show _ ∧ _
  rw [hz]
  have he : IsEnum ((s.heap.push o).push { cls := .type "enumerate", data := .fields #[.none, .bool false, .ref s.heap.objs.size, rawInt 0, .none, .none] }) (s.heap.objs.size + 1) s.heap.objs.size 0 .none := by
    have := Heap.get?_push_size (s.heap.push o) (o := { cls := .type "enumerate", data := .fields #[.none, .bool false, .ref s.heap.objs.size, rawInt 0, .none, .none] }) rfl
    rw [hz] at this; exact this
  refine ⟨⟨_, he, rfl⟩, h _ he (Heap.get?_push_of_some _ (Heap.get?_push_size _ B.free)) (by rw [Heap.size_push, hz]) fun b o x => Heap.get?_push_of_some _ (Heap.get?_push_of_some _ x)⟩
end
/-- the tuple at a, each item in a new pair -/
def IteT (K : PySem.W.Frag) (a : Addr) : It :=
  ⟨fun i H => ∃ (xs : List V) (x : V), SqT K H a xs ∧ xs[i]? = some x, fun i H v H' => ∃ T x, v = .ref T ∧ H T = none ∧ H' = upd H T (.tup [.int (i : Nat), x]) ∧ ∀ xs, SqT K H a xs → xs[i]? = some x, fun i H => ∃ xs : List V, SqT K H a xs ∧ xs.length ≤ i⟩
theorem turn_enumT {P : Program} {w : World} {K : PySem.W.Frag} {elts : List Expr} {kk : Nat} {tpos : Pos} (a e it : Addr) :
    Turn P w K (.Tuple elts kk tpos) (IteT K a) [e, it] e (fun i h => (∃ old, IsEnum h e it ((i : Nat) : Int) old) ∧ h.IsTupleIter it a i ∧ e ≠ it ∧ a ≠ it ∧ e ≠ a) where
  mem := by simp
  obj := fun i h st b hb => by
    obtain ⟨⟨old, he⟩, ⟨o, ho, hc, hd⟩, _⟩ := st
    have e' : b = e ∨ b = it := by simpa using hb
    rcases e' with z | z
    · rw [z]; exact ⟨_, he, fun v q => nomatch q⟩
    · rw [z]; exact ⟨o, ho, fun v q => by rw [hd] at q; cases q⟩
  keep := fun i h h' st k => let ⟨⟨old, he⟩, hi, hne⟩ := st; ⟨⟨old, k e (by simp) _ he⟩, hi.at fun o q => k it (by simp) o q, hne⟩
  item := by
    intro X hP hw hK hc i pins s σ H E I hf st hg
    subst hP hw hK
    obtain ⟨⟨old, he⟩, hit, hne, hai, hea⟩ := st
    obtain ⟨xs, x, hq, hx⟩ := hg
    obtain ⟨its, rv, p, hz⟩ := I.tuple hq
    obtain ⟨u, hu, ru⟩ := rv.get hx
    have hel : e < s.heap.objs.size := Heap.lt_size he
    have hil : it < s.heap.objs.size := by obtain ⟨_, q, _⟩ := hit; exact Heap.lt_size q
    have hlt : i < its.toArray.size := by
      have := (List.getElem?_eq_some_iff.mp hu).1
      simpa using this
    have D := Draws.tuple (prog := X.prog) (w := X.w) (A := X.A.in1) (by have := I.ok.hd hc; simp [this]) it a hai its.toArray
    refine wpAny_pyNext_enum_itemD D he ⟨hit, p⟩ hlt hne (by simp; exact ⟨hne, hea⟩) fun y h' tk hy ho hit' hT hsz hk => ?_
    have hy2 : its[i]? = some y := by simpa using hy
    rw [hu] at hy2; cases hy2
    refine ⟨_, rfl, wpAny_letOwnedTupleGo_enum (s := { s with heap := h', toks := tk + 1 }) ho fun h'' he' sb => ?_⟩
    have hT2 : h''.get? s.heap.objs.size = some { cls := .type "tuple", data := .seq #[.int i tk, u] } := (sb.2 _ (Nat.ne_of_gt hel)).trans hT
    have new : ObjOk X.prog X.w (upd H s.heap.objs.size (.tup [.int (i : Nat), x])) h'' s.heap.objs.size (.tup [.int (i : Nat), x]) :=
      ⟨by show 2 ≤ sizeLine; decide, [.int i tk, u], .cons ⟨_, rfl⟩ (.cons ru .nil), ⟨_, hT2, rfl, _, rfl⟩⟩
    have I1 : Inv X pins σ (upd H s.heap.objs.size (.tup [.int (i : Nat), x])) { s with heap := h'', toks := tk + 1 } :=
      I.turnedNew (ch := [e, it]) (fun b ob hb q => (sb.2 b (fun z => hb (by simp [z]))).trans (hk b ob (fun z => hb (by simp [z])) (fun z => hb (by simp [z])) q)) hf (Nat.le_refl _) new
    refine ⟨.ref s.heap.objs.size, _, I1, rfl, ⟨_, x, rfl, I.hok.fresh (Nat.le_refl _), rfl, fun ys hy => by rw [I.tuple_inj hy hq]; exact hx⟩, ⟨⟨u, ?_⟩, hit'.1.at fun o q => (sb.2 it (Ne.symm hne)).trans q, hne, hai, hea⟩, fun b hb => ?_⟩
    · have e1 : ((i + 1 : Nat) : Int) = (i : Int) + 1 := by omega
      rw [e1]; exact he'
    · have hb' : b < s.heap.objs.size := by
        have e' : b = e ∨ b = it := by simpa using hb
        rcases e' with z | z
        · rw [z]; exact hel
        · rw [z]; exact hil
      rw [upd_ne (Nat.ne_of_lt hb')]
      exact (hf b hb).1
  done := by
    intro X hP hw hK hc i pins s σ H E I hf st hg
    subst hP hw hK
    obtain ⟨⟨old, he⟩, hit, hne, hai, hea⟩ := st
    obtain ⟨xs, hq, hx⟩ := hg
    obtain ⟨its, rv, p, hz⟩ := I.tuple hq
    obtain ⟨f0, f1, f2, f3, f4, f5⟩ := hf it (by simp)
    have hl := rv.length
    obtain ⟨o, ho, hcl, hdt⟩ := id hit
    unfold pyNext
    refine wpAny_bind (wpAny_attempt (wpAny_callSpecial?_slot (name := Str.ofString "__next__") (show s.TypeIs (.ref e) "enumerate" from ⟨_, he, rfl⟩) F.slot_enumerate_next
      (wpAny_call_entry F.slot_enumerate_next ⟨_, he, rfl⟩ F.entry_enumerate_next ?_ (F.args_enumerate_next_1 _))))
    show wpAny _ _ (field (.ref e) 2 >>= _) _ _ _
    refine wpAny_bind (wpAny_field he rfl (x := .ref it) rfl ?_)
    refine wpAny_bind (wpAny_nextOf_tuple_end (by have := I.ok.hd hc; simp [this]) hit p (by simp; omega) fun h' x he' hx' => ?_)
    obtain ⟨o, ho, hc⟩ := hx'
    refine wpAny_bind (wpAny_isInstance (T := "StopIteration") (b := true) ⟨o, ho, hc⟩ isSubtype_stop ?_)
    exact wpAny_pure ⟨rfl, I.turned (t' := s.toks) (fun b o hb q => he' b o hb q) f0 f1 f3 f4 f5⟩
  self := fun A i s Q E st h => let ⟨⟨_, he⟩, _⟩ := st; wpAny_pyIter_enum he h
def iEnumA (K : PySem.W.Frag) (ta : TA) : TI := fun σ H R => ta σ H fun vs H1 => ∃ a xs, vs = [.ref a] ∧ ((SqL K H1 a xs ∧ R (Ite K a) H1) ∨ (SqT K H1 a xs ∧ R (IteT K a) H1))
theorem pi_enumA {X : Cx} {e : Expr} {ta : TA} {p pos tpos : Pos} {elts : List Expr} {kk : Nat} (hg : Gl X "enumerate") (hm : X.mg "enumerate" = none) (ha : PA X [e] ta) (hs : starEach [e] X.env = [(false, eval e X.env)] := by rfl) :
    PI X (.Tuple elts kk tpos) (.Call (.Name "enumerate" p) [e] [] pos) (iEnumA X.K ta) := by
  refine ⟨fun pins s σ H R I h => ?_⟩
  refine Call_ (ld_blt I hg hm PyProof.Rows.boot_enumerate (PyProof.Rows.callWith_type1 (thn (ha.run pos pins s σ H _ I h) fun us s1 ⟨vs, H1, I1, r1, q1⟩ => ?_) hs rfl))
  obtain ⟨a, xs, ex, q1⟩ := q1
  subst ex
  cases r1 with
  | cons r rr =>
    cases rr
    cases r
    have fresh2 : ∀ b, b ∈ [s1.heap.objs.size + 1, s1.heap.objs.size] → FpOk X pins H1 b := fun b hb => by
      have e' : b = s1.heap.objs.size + 1 ∨ b = s1.heap.objs.size := by simpa using hb
      have hle : s1.heap.objs.size ≤ b := by
        rcases e' with z | z
        · rw [z]; exact Nat.le_add_right _ _
        · rw [z]; exact Nat.le_refl _
      exact I1.fpOk hle (I1.hok.fresh hle)
    rcases q1 with ⟨hq, q⟩ | ⟨hq, q⟩
    · obtain ⟨its, rv, p', hz⟩ := I1.list hq
      refine call_enumerate_list p'.isList fun h' he hit hsz hk => wpAny_pyIter_enum he ?_
      have I2 : Inv X pins σ H1 { s1 with heap := h' } := I1.kept (t' := s1.toks) hk
      exact ⟨s1.heap.objs.size + 1, [s1.heap.objs.size + 1, s1.heap.objs.size], _, _, H1, rfl, I2, turn_enum a (s1.heap.objs.size + 1) s1.heap.objs.size, ⟨⟨.none, he⟩, hit, Nat.succ_ne_self _⟩, fresh2, q⟩
    · obtain ⟨its, rv, p', hz⟩ := I1.tuple hq
      obtain ⟨ot, hot, _⟩ := id p'
      have hlt := Heap.lt_size hot
      refine call_enum1 (begins_tuple a its.toArray) p' fun h' he hit hsz hk => wpAny_pyIter_enum he ?_
      have I2 : Inv X pins σ H1 { s1 with heap := h' } := I1.kept (t' := s1.toks) hk
      exact ⟨s1.heap.objs.size + 1, [s1.heap.objs.size + 1, s1.heap.objs.size], _, _, H1, rfl, I2, turn_enumT a (s1.heap.objs.size + 1) s1.heap.objs.size, ⟨⟨.none, he⟩, ⟨_, hit, rfl, rfl⟩, Nat.succ_ne_self _, Nat.ne_of_lt hlt, (Nat.ne_of_lt (Nat.lt_succ_of_lt hlt)).symm⟩, fresh2, q⟩
end RS
end
section
set_option Elab.async false
set_option linter.all false
set_option maxRecDepth 100000
set_option autoImplicit false
set_option maxHeartbeats 2000000
/-! RSEnum1: enumerate walked. -/
namespace RS
open PySem L2
theorem enumD_get : ∀ {xs : List D} {n i : Nat} {d : D}, (enumD n xs)[i]? = some d → ∃ x, xs[i]? = some x ∧ d = .tup [.int ((n + i : Nat) : Int), x]
  | [], _, _, _, h => by simp [enumD] at h
  | x :: xs, n, 0, _, h => by simp [enumD] at h; exact ⟨x, rfl, by rw [← h]; rfl⟩
  | x :: xs, n, i + 1, _, h => by
    simp [enumD] at h
    obtain ⟨y, h1, h2⟩ := enumD_get h
    exact ⟨y, by simpa using h1, by rw [h2, show n + 1 + i = n + (i + 1) by omega]⟩
theorem enumD_len : ∀ (n : Nat) (xs : List D), (enumD n xs).length = xs.length
  | _, [] => rfl
  | n, x :: xs => by simp [enumD, enumD_len (n + 1) xs]
section
variable {K : PySem.W.Frag} {c : Cfg} {gT : Shd} {gF : Own} {a : Addr}
theorem wk_enumT {xs : List D} (ha : (.tup xs, .ref a) ∈ gT) : Wk K (IteT K a) c gT gF (enumD 0 xs) := by
  refine ⟨fun i hi gT' gF' σ H ρ s h1 h2 P => ?_, fun gT' gF' σ H ρ s h1 h2 P => ?_, fun i d hd gT' gF' σ H ρ s x H' h1 h2 P y => ?_⟩
  · obtain ⟨T, F, us, o, q, t⟩ := tup_at (h1 _ ha) P
    have l1 := t.length
    rw [enumD_len] at hi
    exact ⟨us, us[i]'(by omega), q, by simp [show i < us.length by omega]⟩
  · obtain ⟨T, F, us, o, q, t⟩ := tup_at (h1 _ ha) P
    exact ⟨us, q, by rw [enumD_len, t.length]; exact Nat.le_refl _⟩
  · obtain ⟨T, F, o⟩ := P
    have r1 := o.B.tT _ (o.hT _ (h1 _ ha))
    rw [Rep] at r1
    obtain ⟨_, us, e1, q1, t1⟩ := r1
    cases e1
    obtain ⟨dx, g1, rfl⟩ := enumD_get hd
    obtain ⟨v1, hv1, rv1⟩ := t1.get g1
    obtain ⟨Tp, x1, rfl, hT, rfl, f1⟩ := y
    have z1 := f1 us q1
    rw [hv1] at z1; cases z1
    rw [Nat.zero_add]
    exact ⟨_, _, o.step (fun p hp => List.mem_cons_of_mem _ hp) (fun p hp => by
      rcases List.mem_cons.mp hp with e | hp
      · rw [e]; exact List.mem_cons_self
      · exact List.mem_cons_of_mem _ (o.hT p hp)) (o.B.tup hT (Reps.cons Rep.int' (Reps.cons rv1 Reps.nil)))⟩
theorem wk_enumL {xs : List D} (ha : (.lst xs, .ref a) ∈ gT) : Wk K (Ite K a) c gT gF (enumD 0 xs) := by
  refine ⟨fun i hi gT' gF' σ H ρ s h1 h2 P => ?_, fun gT' gF' σ H ρ s h1 h2 P => ?_, fun i d hd gT' gF' σ H ρ s x H' h1 h2 P y => ?_⟩
  · obtain ⟨T, F, us, o, q, t⟩ := lst_at (h1 _ ha) P
    have l1 := t.length
    rw [enumD_len] at hi
    exact ⟨us, us[i]'(by omega), SqL.of q, by simp [show i < us.length by omega]⟩
  · obtain ⟨T, F, us, o, q, t⟩ := lst_at (h1 _ ha) P
    exact ⟨us, SqL.of q, by rw [enumD_len, t.length]; exact Nat.le_refl _⟩
  · obtain ⟨T, F, o⟩ := P
    have r1 := o.B.tT _ (o.hT _ (h1 _ ha))
    rw [Rep] at r1
    obtain ⟨_, us, e1, _, q1, t1⟩ := r1
    cases e1
    obtain ⟨dx, g1, rfl⟩ := enumD_get hd
    obtain ⟨v1, hv1, rv1⟩ := t1.get g1
    obtain ⟨Tp, x1, rfl, hT, rfl, f1⟩ := y
    have z1 := f1 us (SqL.of q1)
    rw [hv1] at z1; cases z1
    rw [Nat.zero_add]
    exact ⟨_, _, o.step (fun p hp => List.mem_cons_of_mem _ hp) (fun p hp => by
      rcases List.mem_cons.mp hp with e | hp
      · rw [e]; exact List.mem_cons_self
      · exact List.mem_cons_of_mem _ (o.hT p hp)) (o.B.tup hT (Reps.cons Rep.int' (Reps.cons rv1 Reps.nil)))⟩
end
section
variable {X : Cx} {mc : MC}
theorem snd_itEnum (ok : CtxOk X mc) {ea : E} {y : Str} {u : Expr} {tg : Expr} {k pos : Pos} (ht : isTup tg = true) (hy : callB mc "enumerate" y = true) (hu : plainE u = true) (ha : PE X u (rd X.K (ev ea))) :
    PI X tg (.Call (.Name y k) [u] [] pos) (rdI X.K (evI (.itEnum ea))) := by
  obtain ⟨rfl, hg, hd⟩ := callB_of ok hy
  have b := ok.blt "enumerate" (by decide)
  cases tg <;> first | (cases ht; done) | skip
  have s1 := star_cons (env := X.env) (es := []) hu
  refine (pi_enumA hg b (pa_cons ha pa_nil s1) s1).via fun σ H R h => ?_
  obtain ⟨c, gT, gF, ρ, st, items, bb, s', P, e, q⟩ := h
  rw [evI] at e
  obtain ⟨rx, sx, e1, e⟩ := bind_ok e
  split at e <;> first | (cases e; done) | skip
  rename_i hbo
  obtain ⟨e3, rfl⟩ := lift_ok e
  rw [Option.map_eq_some_iff] at e3
  obtain ⟨l', e4, e'⟩ := e3
  cases e'
  have hx : rx.isBo = false := by simpa using hbo
  refine ⟨c, gT, gF, ρ, st, rx, _, P, e1, fun x H1 P1 V1 => ?_⟩
  obtain ⟨gT2, P4, k3, k4⟩ := Pt.hdsh P1 V1.hd hx
  have sub : ∀ p ∈ gT, p ∈ gT2 := fun p hp => k3 p (rx.subT x _ p hp)
  obtain ⟨T, F, o⟩ := id P4
  have r1 := (o.B.tT _ (o.hT _ k4))
  generalize hdx : rx.d = dx at e4 r1 k4
  cases dx <;> first | (cases e4; done) | skip
  · cases e4
    rw [Rep] at r1
    obtain ⟨a, us, rfl, q1, t1⟩ := r1
    exact ⟨a, us, rfl, .inr ⟨q1, q _ _ gT2 gF ρ (fun _ => ⟨rfl, rfl⟩) (fun j z => by cases z) sub P4 (wk_enumT k4)⟩⟩
  · cases e4
    rw [Rep] at r1
    obtain ⟨a, us, rfl, _, q1, t1⟩ := r1
    exact ⟨a, us, rfl, .inl ⟨SqL.of q1, q _ _ gT2 gF ρ (fun _ => ⟨rfl, rfl⟩) (fun j z => by cases z) sub P4 (wk_enumL k4)⟩⟩
end
end RS
end
section
set_option Elab.async false
set_option linter.all false
set_option maxRecDepth 100000
set_option autoImplicit false
set_option maxHeartbeats 4000000
/-! RSSnd: every expression that matches does what the evaluator says. -/
namespace RS
open PySem L2
theorem fold_plain {x : Expr} (h : plainE x = true) (env : PySem.Env) : ∀ v, foldedSetIterable x env v = pure v := by
  intro v
  cases x <;> first | rfl | cases h
theorem mtEs_len (mc : MC) : ∀ (e : E) (l : List Expr), mtEs e mc l = true → elen e = l.length := by
  intro e
  induction e with
  | nil => intro l h; cases l <;> simp [mtEs, elen] at h ⊢
  | cons a b _ ih =>
    intro l h
    cases l with
    | nil => simp [mtEs] at h
    | cons x r =>
      rw [mtEs, Bool.and_eq_true] at h
      simp [elen, ih r h.2]
  | _ => intro l h; simp [mtEs] at h
def SndAll (e : E) : Prop := ∀ (X : Cx) (mc : MC), CtxOk X mc → okE (lvOf X) e →
  (∀ x, mtE e mc x = true → Snd X x (ev e)) ∧ (∀ l, mtEs e mc l = true → PA X l (rdA X.K (evs e))) ∧ (∀ tg x, mtI e mc tg x = true → PI X tg x (rdI X.K (evI e)) ∧ ∀ v, foldedSetIterable x X.env v = pure v)
theorem SndAll.of {e : E} (h : ∀ (X : Cx) (mc : MC), CtxOk X mc → okE (lvOf X) e → ∀ x, mtE e mc x = true → Snd X x (ev e)) (h1 : ∀ mc l, mtEs e mc l = false) (h2 : ∀ mc tg x, mtI e mc tg x = false) : SndAll e :=
  fun X mc ok hk => ⟨h X mc ok hk, ⟨fun l z => absurd z (by rw [h1]; simp), fun tg x z => absurd z (by rw [h2]; simp)⟩⟩
theorem SndAll.ofA {e : E} (h : ∀ (X : Cx) (mc : MC), CtxOk X mc → okE (lvOf X) e → ∀ l, mtEs e mc l = true → PA X l (rdA X.K (evs e))) (h1 : ∀ mc l, mtE e mc l = false) (h2 : ∀ mc tg x, mtI e mc tg x = false) : SndAll e :=
  fun X mc ok hk => ⟨fun l z => absurd z (by rw [h1]; simp), ⟨h X mc ok hk, fun tg x z => absurd z (by rw [h2]; simp)⟩⟩
theorem SndAll.ofI {e : E} (h : ∀ (X : Cx) (mc : MC), CtxOk X mc → okE (lvOf X) e → ∀ tg x, mtI e mc tg x = true → PI X tg x (rdI X.K (evI e)) ∧ ∀ v, foldedSetIterable x X.env v = pure v) (h1 : ∀ mc l, mtE e mc l = false) (h2 : ∀ mc l, mtEs e mc l = false) : SndAll e :=
  fun X mc ok hk => ⟨fun l z => absurd z (by rw [h1]; simp), ⟨fun l z => absurd z (by rw [h2]; simp), h X mc ok hk⟩⟩
theorem blk_ok {X : Cx} {mc : MC} (ok : CtxOk X mc) {scope : Scope} {own : List (Str × Nat)} (h : blkC mc.N mc.sc scope own = true) (s : Shared) (H : Hp) (C : Addr) (cl : List (Str × Addr)) (fp : List Addr) :
    CtxOk (X.blk s H scope (compEnvC scope cl C X.env) fp) ⟨mc.N, relS scope mc.sc, fun y => scope.names.lookup y == some .cell, mc.g⟩ :=
  ⟨ok.nd, ok.calm, ok.blt, ok.gd, ok.un, ok.N, by rw [ok.sc]; rfl, fun x h => h, (blkOk_by h).kind⟩
def SndK (e : E) : Prop := ∀ (X : Cx) (mc : MC), CtxOk X mc → okE (lvOf X) e → ∀ kws : List Keyword, mtEs e mc (kws.map (·.value)) = true → PK X kws (rdA X.K (evs e))
theorem _root_.L2.PK.via {X : Cx} {ks : List Keyword} {t t' : TA} (h : PK X ks t) (i : ∀ σ H Q, t' σ H Q → t σ H Q) : PK X ks t' := ⟨fun pos pins s σ H Q I q => h.run pos pins s σ H Q I (i σ H Q q)⟩
theorem kws_nil {X : Cx} : PK X [] (rdA X.K (evs .nil)) := pk_nil.via fun σ H Q h => by
  obtain ⟨c, gT, gF, ρ, s, rs, s', P, e, q⟩ := h
  rw [evs] at e
  cases e
  exact q [] H P rfl
theorem kws_cons {X : Cx} {nm : Option Str} {kpos : Pos} {e : Expr} {es : List Keyword} {ea eb : E} (ha : PE X e (rd X.K (ev ea))) (hb : PK X es (rdA X.K (evs eb))) : PK X (⟨nm, e, kpos⟩ :: es) (rdA X.K (evs (.cons ea eb))) := by
  refine (pk_cons ha hb).via fun σ H Q h => ?_
  obtain ⟨c, gT, gF, ρ, s, rs, s', P, e, q⟩ := h
  rw [evs] at e
  obtain ⟨rx, s1, e1, e⟩ := bind_ok e
  obtain ⟨ry, s2, e2, e⟩ := bind_ok e
  cases e
  refine ⟨c, gT, gF, ρ, s, rx, s1, P, e1, fun x H1 P1 V1 => ⟨c, _, _, ρ, s1, ry, _, P1, e2, fun vs H2 P2 V2 => ?_⟩⟩
  exact q (x :: vs) H2 P2 ⟨x, vs, rfl, V1.hd.mono (subTs ry vs _) fun p hp => (subFs ry vs _).subset hp, V2⟩
theorem kw_all {pos : Pos} {env : PySem.Env} : ∀ {kws : List Keyword} {ks : List String}, kws.map (·.arg) = (ks.map fun k => some (Str.ofString k)) →
    (backToKw pos (keywordEach kws env)).all (·.1.isSome) = true ∧ (backToKw pos (keywordEach kws env)).filterMap (·.1) = ks.map Str.ofString ∧ (backToKw pos (keywordEach kws env)).any (·.1.isNone) = false
  | [], [], _ => ⟨rfl, rfl, rfl⟩
  | [], _ :: _, h => by cases h
  | _ :: _, [], h => by cases h
  | ⟨nm, e, p⟩ :: r, y :: ys, h => by
    rw [List.map_cons, List.map_cons, List.cons.injEq] at h
    obtain ⟨h1, h2⟩ := h
    obtain ⟨a, b, c⟩ := kw_all h2
    have h1 : nm = some (Str.ofString y) := h1
    subst h1
    refine ⟨?_, ?_, ?_⟩
    · show (true && (backToKw pos (keywordEach r env)).all (·.1.isSome)) = true
      rw [a]; rfl
    · show Str.ofString y :: (backToKw pos (keywordEach r env)).filterMap (·.1) = _
      rw [b]; rfl
    · show (false || (backToKw pos (keywordEach r env)).any (·.1.isNone)) = false
      rw [c]; rfl
theorem vals_get : ∀ {vs : List V} {us : List Value}, Vals vs us → ∀ i, i < vs.length → RelV (vs.getD i .non) (us.getD i .none)
  | _, _, .nil, i, h => by simp at h
  | _, _, .cons r rr, 0, h => r
  | _, _, .cons r rr, i + 1, h => by
    have := vals_get rr i (by simpa using h)
    simpa using this
theorem vals_map {perm : List Nat} {f : Nat → V} {g : Nat → Value} : (∀ i ∈ perm, RelV (f i) (g i)) → Vals (perm.map f) (perm.map g) := by
  intro h
  induction perm with
  | nil => exact .nil
  | cons i r ih => exact .cons (h i List.mem_cons_self) (ih fun j hj => h j (List.mem_cons_of_mem _ hj))
theorem pe_gK {X : Cx} {k : Nat} {f : Addr} {fd : FuncData} {ps : List Str} {fn : Fn} {x : Str} {p pos : Pos} {kws : List Keyword} {ks : List String} {perm : List Nat} {tk : TA}
    {g : Bool} (F : FnG X.prog X.w X.K X.mg X.base k f fd ps fn g) (hr : Room k X.A) (hgd : g = true → X.A.guards = some []) (hg : Gl X x) (hm : X.mg x = some (.ref f)) (hk : PySem.W.keepIn X.K (.ref f) = true)
    (hb : ∀ (s : Shared) (ws : List Value), X.K.In s.heap → ws.length = ks.length → BindsTo s fd ⟨[], (ks.map Str.ofString).zip ws⟩ (ps.zip (perm.map fun i => ws.getD i .none))) (hp : ∀ i ∈ perm, i < ks.length)
    (hkw : PK X kws tk) (hn : kws.map (·.arg) = (ks.map fun k => some (Str.ofString k))) (hl : ∀ σ H Q, tk σ H Q → tk σ H fun vs H1 => vs.length = ks.length ∧ Q vs H1) (hdb : (x == ("__debug__" : Str)) = false) :
    PE X (.Call (.Name x p) [] kws pos) (tCallG X.K fn ps.length (fun σ H Q => tk σ H fun ws H1 => Q (perm.map fun i => ws.getD i .non) H1)) := by
  obtain ⟨h1, h2, h3⟩ := kw_all (pos := pos) (env := X.env) hn
  refine ⟨fun pins s σ H Q I h => wpAny_Call_Name_kw (ld_glob I hg hm ?_ hdb)⟩
  have h : tk σ H fun ws H1 => spF X.K fn ps.length (perm.map fun i => ws.getD i .non) H1 Q := h
  refine PySem.W.callWith_KW0 (h₀ := X.base) I.ok.mod.kin hk h1 (thn (hkw.run pos pins s σ H _ I (hl _ _ _ h)) fun us s1 ⟨vs, H1, I1, r, q1, q⟩ => ⟨I1.kIn, ?_⟩) (by rw [h3]; rfl)
  rw [h2]
  have hlu : us.length = ks.length := by rw [← r.length]; exact q1
  have rel : Vals (perm.map fun i => vs.getD i .non) (perm.map fun i => us.getD i .none) := vals_map fun i hi => vals_get r i (by rw [q1]; exact hp i hi)
  refine wpAny_call (codeAny_mono (F.go X.A X.stack s1 H1 ⟨[], (ks.map Str.ofString).zip us⟩ _ _ Q hr hgd I1.env0 (hb s1 us I1.kIn hlu) rel q) fun res s' hq => ?_)
  cases res with
  | error e => exact False.elim hq
  | ok fl =>
    cases fl with
    | ret u => exact I1.after hq
    | next => exact False.elim hq
    | brk => exact False.elim hq
    | cont => exact False.elim hq
/-- a def called that a name holds -/
def tCallV (X : Cx) (i : Nat) (t : TA) : TE := fun σ H Q => ∃ a fn g k fd ps, σ[i]? = some (some (.ref a)) ∧ PySem.W.keepIn X.K (.ref a) = true ∧ Binds X.K fd ps [] ∧ FnG X.prog X.w X.K X.mg X.base k a fd ps fn g ∧ (Room k X.A ∧ (g = true → X.A.guards = some [])) ∧ tCallG X.K fn ps.length t σ H Q
theorem pe_gV {X : Cx} {i : Nat} {x : Str} {p pos : Pos} {e : Expr} {es : List Expr} {t : TA} (hN : X.N[i]? = some x) (hv : Vis X.env.scope x) (ha : PA X (e :: es) t) (hd1 : (x == ("__debug__" : Str)) = false) (hd2 : (x == ("__classdict__" : Str)) = false)
    (he : starEach (e :: es) X.env = (false, eval e X.env) :: starEach es X.env) (hpl : (backTo pos (starEach es X.env)).any (·.1) = false) : PE X (.Call (.Name x p) (e :: es) [] pos) (tCallV X i t) := by
  refine ⟨fun pins s σ H Q I ⟨a, fn, g, k, fd, ps, hs, hk, hb, F, ⟨hr, hgd⟩, h⟩ => ?_⟩
  refine wpAny_Call_Name_kw (thn ((pe_var (pos := p) (i := i) hN hv hd1 hd2).run pins s σ H (fun v H1 => v = .ref a ∧ H1 = H) I ⟨.ref a, hs, rfl, rfl⟩) fun u s1 ⟨v, H1, I1, r1, q1⟩ => ?_)
  obtain ⟨ev, eH⟩ := q1
  subst ev eH
  obtain rfl : u = Value.ref a := r1
  refine PySem.W.callWith_K (h₀ := X.base) I.ok.mod.kin hk (thn (ha.run pos pins s1 σ H1 _ I1 h) fun us s1 ⟨vs, H1, I1, r, q⟩ => ⟨I1.kIn, ?_⟩) he hpl
  exact run_g F hr hgd hb I1 r q
/-- the same, with keywords alone -/
def tCallVK (X : Cx) (i : Nat) (ks : List String) (perm : List Nat) (t : TA) : TE := fun σ H Q => ∃ a fn g k fd ps, σ[i]? = some (some (.ref a)) ∧ PySem.W.keepIn X.K (.ref a) = true ∧
  (∀ (s : Shared) (ws : List Value), X.K.In s.heap → ws.length = ks.length → BindsTo s fd ⟨[], (ks.map Str.ofString).zip ws⟩ (ps.zip (perm.map fun i => ws.getD i .none))) ∧
  FnG X.prog X.w X.K X.mg X.base k a fd ps fn g ∧ (Room k X.A ∧ (g = true → X.A.guards = some [])) ∧ tCallG X.K fn ps.length t σ H Q
theorem pe_gVK {X : Cx} {i : Nat} {x : Str} {p pos : Pos} {kws : List Keyword} {ks : List String} {perm : List Nat} {tk : TA} (hN : X.N[i]? = some x) (hv : Vis X.env.scope x) (hd1 : (x == ("__debug__" : Str)) = false) (hd2 : (x == ("__classdict__" : Str)) = false) (hp : ∀ i ∈ perm, i < ks.length)
    (hkw : PK X kws tk) (hn : kws.map (·.arg) = (ks.map fun k => some (Str.ofString k))) (hl : ∀ σ H Q, tk σ H Q → tk σ H fun vs H1 => vs.length = ks.length ∧ Q vs H1) :
    PE X (.Call (.Name x p) [] kws pos) (tCallVK X i ks perm (fun σ H Q => tk σ H fun ws H1 => Q (perm.map fun i => ws.getD i .non) H1)) := by
  obtain ⟨h1, h2, h3⟩ := kw_all (pos := pos) (env := X.env) hn
  refine ⟨fun pins s σ H Q I ⟨a, fn, g, k, fd, ps, hs, hk, hb, F, ⟨hr, hgd⟩, h⟩ => ?_⟩
  refine wpAny_Call_Name_kw (thn ((pe_var (pos := p) (i := i) hN hv hd1 hd2).run pins s σ H (fun v H1 => v = .ref a ∧ H1 = H) I ⟨.ref a, hs, rfl, rfl⟩) fun u s1 ⟨v, H1, I1, r1, q1⟩ => ?_)
  obtain ⟨ev, eH⟩ := q1
  subst ev eH
  obtain rfl : u = Value.ref a := r1
  have h : tk σ H1 fun ws H1 => spF X.K fn ps.length (perm.map fun i => ws.getD i .non) H1 Q := h
  refine PySem.W.callWith_KW0 (h₀ := X.base) I.ok.mod.kin hk h1 (thn (hkw.run pos pins s1 σ H1 _ I1 (hl _ _ _ h)) fun us s1 ⟨vs, H1, I1, r, q1, q⟩ => ⟨I1.kIn, ?_⟩) (by rw [h3]; rfl)
  rw [h2]
  have hlu : us.length = ks.length := by rw [← r.length]; exact q1
  have rel : Vals (perm.map fun i => vs.getD i .non) (perm.map fun i => us.getD i .none) := vals_map fun i hi => vals_get r i (by rw [q1]; exact hp i hi)
  refine wpAny_call (codeAny_mono (F.go X.A X.stack s1 H1 ⟨[], (ks.map Str.ofString).zip us⟩ _ _ Q hr hgd I1.env0 (hb s1 us I1.kIn hlu) rel q) fun res s' hq => ?_)
  cases res with
  | error e => exact False.elim hq
  | ok fl =>
    cases fl with
    | ret u => exact I1.after hq
    | next => exact False.elim hq
    | brk => exact False.elim hq
    | cont => exact False.elim hq
theorem nlook_mem {α : Type} {a : Nat} {f : α} : ∀ {l : List (Nat × α)}, l.lookup a = some f → (a, f) ∈ l
  | [], h => by cases h
  | (b, g) :: l, h => by
    rw [List.lookup] at h
    split at h
    · rename_i e
      cases h
      rw [show a = b from by simpa using e]
      exact List.mem_cons_self
    · exact List.mem_cons_of_mem _ (nlook_mem h)
theorem fnAt_some {alts : List (Nat × Fn)} {sl : Slot} {f : Fn} (h : fnAt alts sl = some f) : ∃ a, sl = .sh (.fn a) ∧ (a, f) ∈ alts := by
  unfold fnAt at h
  split at h
  · exact ⟨_, rfl, nlook_mem h⟩
  · cases h
theorem fn_slot {K : PySem.W.Frag} {c : Cfg} {gT : Shd} {gF : Own} {σ : L2.St} {H : Hp} {ρ : Env} {s : OSt} {i a : Nat} (P : Pt K c gT gF σ H ρ s) (h : ρ.getD i .no = .sh (.fn a)) : σ[i]? = some (some (.ref a)) := by
  obtain ⟨T, F, o⟩ := P
  have hs' : ρ[i]? = some (.sh (.fn a)) := by
    rw [List.getD_eq_getElem?_getD] at h
    cases q : ρ[i]? with
    | none => rw [q] at h; cases h
    | some y => rw [q] at h; rw [show y = .sh (.fn a) from h]
  obtain ⟨v, h1, h2⟩ := o.sl.sh i _ hs'
  have := o.B.tT _ h2
  rw [Rep] at this
  have this : v = .ref a := this
  rw [h1, this]
theorem freeze_ok {fa : R (List Rs)} {f : Fn} {r : Rs} {s : OSt} (e : (fa.bind fun rs s' => if freeze rs then callR f rs s' else .no) = .ok r s) : (fa.bind fun rs s' => callR f rs s') = .ok r s := by
  obtain ⟨rs, s1, e1, e⟩ := bind_ok e
  split at e <;> first | (cases e; done) | skip
  rw [e1]; exact e
theorem nm_of {mc : MC} {X : Cx} (ok : CtxOk X mc) {i : Nat} {y : Str} {p : Pos} (h : nmB mc i (.Name y p) = true) : X.N[i]? = some y ∧ Vis X.env.scope y ∧ (y == ("__debug__" : Str)) = false ∧ (y == ("__classdict__" : Str)) = false := by
  unfold nmB at h
  rw [Bool.and_eq_true, Bool.and_eq_true] at h
  exact ⟨by rw [← ok.N]; exact of_decide_eq_true h.1.1, ok.vis h.1.2, dbg1 h.2, dbg2 h.2⟩
theorem snd_all (e : E) : SndAll e ∧ (∀ a b, e = .cons a b → SndAll a) ∧ SndK e := by

  induction e with
  | var i =>
    refine ⟨?_, (fun _ _ z => by cases z), fun X mc ok hk kws z => by simp [mtEs] at z⟩
    refine .of (fun X mc ok hk x h => ?_) (by intro mc l; simp [mtEs]) (by intro mc tg x; simp [mtI])
    cases x <;> first | (simp [mtE] at h; done) | skip
    rename_i x pos
    rw [mtE, Bool.and_eq_true, Bool.and_eq_true] at h
    exact .of_pe (snd_var ok (of_decide_eq_true h.1.1) h.1.2 h.2) (fun _ => rfl) (fun _ _ _ z => by cases z)
  | con d =>
    refine ⟨?_, (fun _ _ z => by cases z), fun X mc ok hk kws z => by simp [mtEs] at z⟩
    refine .of (fun X mc ok hk x h => ?_) (by intro mc l; simp [mtEs]) (by intro mc tg x; simp [mtI])
    cases x <;> first | (simp [mtE] at h; done) | skip
    rw [mtE] at h
    exact .of_pe (snd_con h) (fun _ => rfl) (fun _ _ _ z => by cases z)
  | glob y d =>
    refine ⟨?_, (fun _ _ z => by cases z), fun X mc ok hk kws z => by simp [mtEs] at z⟩
    refine .of (fun X mc ok hk x h => ?_) (by intro mc l; simp [mtEs]) (by intro mc tg x; simp [mtI])
    cases x <;> first | (simp [mtE] at h; done) | skip
    rw [mtE] at h
    exact .of_pe (snd_glob ok hk h) (fun _ => rfl) (fun _ _ _ z => by cases z)
  | nil =>
    refine ⟨?_, (fun _ _ z => by cases z), fun X mc ok hk kws z => by
      first | (cases kws <;> first | (simp [mtEs] at z; done) | exact kws_nil)⟩
    refine .ofA (fun X mc ok hk l h => ?_) (by intro mc l; simp [mtE]) (by intro mc tg x; simp [mtI])
    cases l <;> first | (simp [mtEs] at h; done) | skip
    exact args_nil
  | cons a b iha ihb =>
    have iha := iha.1
    have ihk := ihb
    have ihb := ihb.1
    have ihk := ihk.2.2
    refine ⟨?_, (fun _ _ z => by cases z; exact iha), fun X mc ok hk kws z => by
      cases kws <;> first | (simp [mtEs] at z; done) | skip
      rename_i kw _
      obtain ⟨_, _, _⟩ := kw
      rw [List.map_cons, mtEs, Bool.and_eq_true, Bool.and_eq_true] at z
      exact kws_cons ((iha X mc ok hk.1).1 _ z.1.2).pe (ihk X mc ok hk.2 _ z.2)⟩
    refine .ofA (fun X mc ok hk l h => ?_) (by intro mc l; simp [mtE]) (by intro mc tg x; simp [mtI])
    cases l <;> first | (simp [mtEs] at h; done) | skip
    rw [mtEs, Bool.and_eq_true, Bool.and_eq_true] at h
    exact args_cons h.1.1 ((iha X mc ok hk.1).1 _ h.1.2).pe ((ihb X mc ok hk.2).2.1 _ h.2)
  | «omit» =>
    refine ⟨?_, (fun _ _ z => by cases z), fun X mc ok hk kws z => by simp [mtEs] at z⟩
    refine .of (fun X mc ok hk x h => ?_) (by intro mc l; simp [mtEs]) (by intro mc tg x; simp [mtI])
    simp [mtE] at h
  | tup es ih =>
    have ih := ih.1
    refine ⟨?_, (fun _ _ z => by cases z), fun X mc ok hk kws z => by simp [mtEs] at z⟩
    refine .of (fun X mc ok hk x h => ?_) (by intro mc l; simp [mtEs]) (by intro mc tg x; simp [mtI])
    cases x <;> first | (simp [mtE] at h; done) | skip
    rw [mtE, Bool.and_eq_true] at h
    exact .of_pe (snd_tup (of_decide_eq_true h.1) ((ih X mc ok hk).2.1 _ h.2)) (fun _ => rfl) (fun _ _ _ z => by cases z)
  | lst es ih =>
    have ih := ih.1
    refine ⟨?_, (fun _ _ z => by cases z), fun X mc ok hk kws z => by simp [mtEs] at z⟩
    refine .of (fun X mc ok hk x h => ?_) (by intro mc l; simp [mtEs]) (by intro mc tg x; simp [mtI])
    cases x <;> first | (simp [mtE] at h; done) | skip
    rw [mtE, Bool.and_eq_true] at h
    exact .of_pe (snd_lst (of_decide_eq_true h.1) ((ih X mc ok hk).2.1 _ h.2)) (fun _ => rfl) (fun _ _ _ z => by cases z)
  | bin o a b iha ihb =>
    have iha := iha.1
    have ihb := ihb.1
    refine ⟨?_, (fun _ _ z => by cases z), fun X mc ok hk kws z => by simp [mtEs] at z⟩
    refine .of (fun X mc ok hk x h => ?_) (by intro mc l; simp [mtEs]) (by intro mc tg x; simp [mtI])
    cases x <;> first | (simp [mtE] at h; done) | skip
    rw [mtE, Bool.and_eq_true, Bool.and_eq_true] at h
    obtain ⟨⟨h1, h2⟩, h3⟩ := h
    rw [of_decide_eq_true h1]
    exact .of_pe (snd_bin ((iha X mc ok hk.1).1 _ h2).pe ((ihb X mc ok hk.2).1 _ h3).pe) (fun _ => rfl) (fun _ _ _ z => by cases z)
  | neg a iha =>
    have iha := iha.1
    refine ⟨?_, (fun _ _ z => by cases z), fun X mc ok hk kws z => by simp [mtEs] at z⟩
    refine .of (fun X mc ok hk x h => ?_) (by intro mc l; simp [mtEs]) (by intro mc tg x; simp [mtI])
    cases x <;> first | (simp [mtE] at h; done) | skip
    rw [mtE, Bool.and_eq_true] at h
    rw [of_decide_eq_true h.1]
    exact .of_pe (snd_neg ((iha X mc ok hk).1 _ h.2).pe) (fun _ => rfl) (fun _ _ _ z => by cases z)
  | cmp o a b iha ihb =>
    have iha := iha.1
    have ihb := ihb.1
    refine ⟨?_, (fun _ _ z => by cases z), fun X mc ok hk kws z => by simp [mtEs] at z⟩
    refine .of (fun X mc ok hk x h => ?_) (by intro mc l; simp [mtEs]) (by intro mc tg x; simp [mtI])
    cases x <;> first | (simp [mtE] at h; done) | skip
    rename_i x ops cs pos
    cases ops with
    | nil => simp [mtE] at h
    | cons op r =>
      cases r with
      | cons _ _ => simp [mtE] at h
      | nil =>
        cases cs with
        | nil => simp [mtE] at h
        | cons y r =>
          cases r with
          | cons _ _ => simp [mtE] at h
          | nil =>
            rw [mtE, Bool.and_eq_true, Bool.and_eq_true, Bool.and_eq_true] at h
            obtain ⟨⟨⟨h1, h2⟩, h3⟩, h4⟩ := h
            rw [of_decide_eq_true h1]
            have pa := ((iha X mc ok hk.1).1 _ h3).pe
            have pb := ((ihb X mc ok hk.2).1 _ h4).pe
            exact ⟨snd_cmp ok h2 pa pb, tst_cmp ok h2 pa pb, fun _ _ _ z => by cases z⟩
  | chain o1 o2 a b c iha ihb ihc =>
    have iha := iha.1
    have ihb := ihb.1
    have ihc := ihc.1
    refine ⟨?_, (fun _ _ z => by cases z), fun X mc ok hk kws z => by simp [mtEs] at z⟩
    refine .of (fun X mc ok hk x h => ?_) (by intro mc l; simp [mtEs]) (by intro mc tg x; simp [mtI])
    cases x <;> first | (simp [mtE] at h; done) | skip
    rename_i x ops cs pos
    match ops, cs, h with
    | [p, q], [y, z], h =>
      rw [mtE] at h
      simp only [Bool.and_eq_true] at h
      obtain ⟨⟨⟨⟨⟨⟨h1, h2⟩, h3⟩, h4⟩, h5⟩, h6⟩, h7⟩ := h
      rw [of_decide_eq_true h1, of_decide_eq_true h2]
      exact snd_chain ok h4 ((iha X mc ok hk.1).1 _ h5).pe ((ihb X mc ok hk.2.1).1 _ h6).pe ((ihc X mc ok hk.2.2).1 _ h7).pe
    | [], _, h => simp [mtE] at h
    | [_], _, h => simp [mtE] at h
    | _ :: _ :: _ :: _, _, h => simp [mtE] at h
    | [_, _], [], h => simp [mtE] at h
    | [_, _], [_], h => simp [mtE] at h
    | [_, _], _ :: _ :: _ :: _, h => simp [mtE] at h
  | and a b iha ihb =>
    have iha := iha.1
    have ihb := ihb.1
    refine ⟨?_, (fun _ _ z => by cases z), fun X mc ok hk kws z => by simp [mtEs] at z⟩
    refine .of (fun X mc ok hk x h => ?_) (by intro mc l; simp [mtEs]) (by intro mc tg x; simp [mtI])
    cases x <;> first | (simp [mtE] at h; done) | skip
    rename_i op vs pos
    match vs, h with
    | [], h => simp [mtE] at h
    | [_], h => simp [mtE] at h
    | [x, y], h =>
      simp only [mtE, Bool.and_eq_true] at h
      obtain ⟨⟨h1, h2⟩, h3⟩ := h
      rw [of_decide_eq_true h1]
      have pb := (ihb X mc ok hk.2).1 _ h3
      exact snd_and ((iha X mc ok hk.1).1 _ h2) (pe_one pb.pe) (pw_and1 pb.pt)
    | x :: y :: z :: r, h =>
      simp only [mtE, Bool.and_eq_true] at h
      obtain ⟨⟨h1, h2⟩, h3⟩ := h
      rw [of_decide_eq_true h1]
      have pb := (ihb X mc ok hk.2).1 _ h3
      exact snd_and ((iha X mc ok hk.1).1 _ h2) pb.pe (pb.pw _ _ _ rfl)
  | or a b iha ihb =>
    have iha := iha.1
    have ihb := ihb.1
    refine ⟨?_, (fun _ _ z => by cases z), fun X mc ok hk kws z => by simp [mtEs] at z⟩
    refine .of (fun X mc ok hk x h => ?_) (by intro mc l; simp [mtEs]) (by intro mc tg x; simp [mtI])
    cases x <;> first | (simp [mtE] at h; done) | skip
    rename_i op vs pos
    match vs, h with
    | [], h => simp [mtE] at h
    | [_], h => simp [mtE] at h
    | [x, y], h =>
      simp only [mtE, Bool.and_eq_true] at h
      obtain ⟨⟨h1, h2⟩, h3⟩ := h
      rw [of_decide_eq_true h1]
      have pb := (ihb X mc ok hk.2).1 _ h3
      exact snd_or ((iha X mc ok hk.1).1 _ h2) (pe_one pb.pe) (pw_or1 pb.pt)
    | x :: y :: z :: r, h =>
      simp only [mtE, Bool.and_eq_true] at h
      obtain ⟨⟨h1, h2⟩, h3⟩ := h
      rw [of_decide_eq_true h1]
      have pb := (ihb X mc ok hk.2).1 _ h3
      exact snd_or ((iha X mc ok hk.1).1 _ h2) pb.pe (pb.pw _ _ _ rfl)
  | not a iha =>
    have iha := iha.1
    refine ⟨?_, (fun _ _ z => by cases z), fun X mc ok hk kws z => by simp [mtEs] at z⟩
    refine .of (fun X mc ok hk x h => ?_) (by intro mc l; simp [mtEs]) (by intro mc tg x; simp [mtI])
    cases x <;> first | (simp [mtE] at h; done) | skip
    rw [mtE, Bool.and_eq_true] at h
    rw [of_decide_eq_true h.1]
    exact snd_not ((iha X mc ok hk).1 _ h.2)
  | ife c a b ihc iha ihb =>
    have ihc := ihc.1
    have iha := iha.1
    have ihb := ihb.1
    refine ⟨?_, (fun _ _ z => by cases z), fun X mc ok hk kws z => by simp [mtEs] at z⟩
    refine .of (fun X mc ok hk x h => ?_) (by intro mc l; simp [mtEs]) (by intro mc tg x; simp [mtI])
    cases x <;> first | (simp [mtE] at h; done) | skip
    rw [mtE, Bool.and_eq_true, Bool.and_eq_true] at h
    exact snd_ife ((ihc X mc ok hk.1).1 _ h.1.1) ((iha X mc ok hk.2.1).1 _ h.1.2) ((ihb X mc ok hk.2.2).1 _ h.2)
  | idx a i iha ihi =>
    have iha := iha.1
    have ihi := ihi.1
    refine ⟨?_, (fun _ _ z => by cases z), fun X mc ok hk kws z => by simp [mtEs] at z⟩
    refine .of (fun X mc ok hk x h => ?_) (by intro mc l; simp [mtEs]) (by intro mc tg x; simp [mtI])
    cases x <;> first | (simp [mtE] at h; done) | skip
    rw [mtE, Bool.and_eq_true, Bool.and_eq_true] at h
    exact .of_pe (snd_idx h.1.1 ((iha X mc ok hk.1).1 _ h.1.2).pe ((ihi X mc ok hk.2).1 _ h.2).pe) (fun _ => rfl) (fun _ _ _ z => by cases z)
  | slc a lo hi iha ihl ihh =>
    have iha := iha.1
    have ihl := ihl.1
    have ihh := ihh.1
    refine ⟨?_, (fun _ _ z => by cases z), fun X mc ok hk kws z => by simp [mtEs] at z⟩
    refine .of (fun X mc ok hk x h => ?_) (by intro mc l; simp [mtEs]) (by intro mc tg x; simp [mtI])
    cases x <;> first | (simp [mtE] at h; done) | skip
    rename_i x y pos
    cases y <;> first | (simp [mtE] at h; done) | skip
    rename_i l hh st p2
    cases st with
    | some _ => simp [mtE] at h
    | none =>
      unfold mtE at h
      rw [Bool.and_eq_true, Bool.and_eq_true] at h
      obtain ⟨⟨h1, h2⟩, h3⟩ := h
      refine .of_pe (snd_slc ((iha X mc ok hk.1).1 _ h1).pe (lo := l) (hi := hh) ?_ ?_) (fun _ => rfl) (fun _ _ _ z => by cases z)
      · cases l with
        | none =>
          cases lo <;> first | (cases h2; done) | exact po_omit
        | some l => exact po_int ((ihl X mc ok hk.2.1).1 _ h2).pe (by rintro rfl; simp [mtE] at h2)
      · cases hh with
        | none =>
          cases hi <;> first | (cases h3; done) | exact po_omit
        | some l => exact po_int ((ihh X mc ok hk.2.2).1 _ h3).pe (by rintro rfl; simp [mtE] at h3)
  | rev a iha =>
    have iha := iha.1
    refine ⟨?_, (fun _ _ z => by cases z), fun X mc ok hk kws z => by simp [mtEs] at z⟩
    refine .of (fun X mc ok hk x h => ?_) (by intro mc l; simp [mtEs]) (by intro mc tg x; simp [mtI])
    unfold mtE at h
    split at h <;> first | (rename_i z; cases z; done) | (cases h; done) | skip
    all_goals first | (exfalso; simp_all; done) | skip
    rename_i heq
    cases heq
    rw [Bool.and_eq_true] at h
    rw [of_decide_eq_true h.1]
    exact .of_pe (snd_rev ((iha _ _ ok hk).1 _ h.2).pe) (fun _ => rfl) (fun _ _ _ z => by cases z)
  | call y f es ih =>
    have ih := ih.1
    refine ⟨?_, (fun _ _ z => by cases z), fun X mc ok hk kws z => by simp [mtEs] at z⟩
    refine .of (fun X mc ok hk x h => ?_) (by intro mc l; simp [mtEs]) (by intro mc tg x; simp [mtI])
    cases x <;> first | (simp [mtE] at h; done) | skip
    rename_i g l ks pos
    cases g <;> first | (simp [mtE] at h; done) | skip
    cases ks with
    | cons _ _ => simp [mtE] at h
    | nil =>
      rw [mtE, Bool.and_eq_true, Bool.and_eq_true] at h
      obtain ⟨⟨h1, h2⟩, h3⟩ := h
      obtain ⟨rfl, hg, hd⟩ := callB_of ok h1
      obtain ⟨⟨g, k, ad, fd, ps, c1, c2, c3, c4, c5, c6⟩, he⟩ := hk
      have pl := mtEs_plain mc _ _ h2
      cases l with
      | nil => simp at h3
      | cons z r =>
        have pl' := pl
        rw [plainEs, Bool.and_eq_true] at pl'
        refine .of_pe ((pe_g c4 c5.1 c5.2 hg c1 c2 c3 ((ih X mc ok he).2.1 _ h2) hd (star_cons pl'.1) (star_plain _ _ _ pl'.2)).via fun σ H Q q => call_rd c6 ?_) (fun _ => rfl) (fun _ _ _ z => by cases z)
        obtain ⟨c, gT, gF, ρ, s, rr, s', P, e, q⟩ := q
        rw [ev] at e
        exact ⟨c, gT, gF, ρ, s, rr, s', P, e, q⟩
  | callK y f es ks kes perm ih1 ih2 =>
    have ihk := ih2.2.2
    refine ⟨?_, (fun _ _ z => by cases z), fun X mc ok hk kws z => by simp [mtEs] at z⟩
    refine .of (fun X mc ok hk x h => ?_) (by intro mc l; simp [mtEs]) (by intro mc tg x; simp [mtI])
    unfold mtE at h
    split at h <;> first | (rename_i z; cases z; done) | (cases h; done) | skip
    all_goals first | (exfalso; simp_all; done) | skip
    rename_i heq
    cases heq
    simp only [Bool.and_eq_true] at h
    obtain ⟨⟨h1, h2⟩, h3⟩ := h
    obtain ⟨rfl, hg, hd⟩ := callB_of ok h1
    obtain ⟨⟨g, k, ad, fd, ps, c1, c2, c3, c4, c5, c6, c7⟩, he⟩ := hk
    have hn := of_decide_eq_true h2
    have el : elen kes = ks.length := by
      have := mtEs_len _ _ _ h3
      have e2 := congrArg List.length hn
      simp at this e2
      omega
    refine .of_pe ((pe_gK c5 c6.1 c6.2 hg c1 c2 c3 c4 (ihk _ _ ok he _ h3) hn (fun σ H Q q => ?_) hd).via fun σ H Q q => ?_) (fun _ => rfl) (fun _ _ _ z => by cases z)
    · obtain ⟨c, gT, gF, ρ, s, rs, s', P, e, q⟩ := q
      exact ⟨c, gT, gF, ρ, s, rs, s', P, e, fun vs H' P' V => ⟨by rw [V.length, evs_len _ e, el], q vs H' P' V⟩⟩
    · obtain ⟨c, gT, gF, ρ, s, rr, s', P, e, q⟩ := q
      rw [ev] at e
      exact perm_rd el c4 (call_rd c7 ⟨c, gT, gF, ρ, s, rr, s', P, e, q⟩)
  | callX y f es ih =>
    have ih := ih.1
    refine ⟨?_, (fun _ _ z => by cases z), fun X mc ok hk kws z => by simp [mtEs] at z⟩
    refine .of (fun X mc ok hk x h => ?_) (by intro mc l; simp [mtEs]) (by intro mc tg x; simp [mtI])
    cases x <;> first | (simp [mtE] at h; done) | skip
    rename_i g l ks pos
    cases g <;> first | (simp [mtE] at h; done) | skip
    cases ks with
    | cons _ _ => simp [mtE] at h
    | nil =>
      rw [mtE, Bool.and_eq_true, Bool.and_eq_true] at h
      obtain ⟨⟨h1, h2⟩, h3⟩ := h
      obtain ⟨rfl, hg, hd⟩ := callB_of ok h1
      obtain ⟨⟨g, k, ad, fd, ps, c1, c2, c3, c4, c5, c6⟩, he⟩ := hk
      have pl := mtEs_plain mc _ _ h2
      cases l with
      | nil => simp at h3
      | cons z r =>
        have pl' := pl
        rw [plainEs, Bool.and_eq_true] at pl'
        refine .of_pe ((pe_g c4 c5.1 c5.2 hg c1 c2 c3 ((ih X mc ok he).2.1 _ h2) hd (star_cons pl'.1) (star_plain _ _ _ pl'.2)).via fun σ H Q q => call_rd c6 ?_) (fun _ => rfl) (fun _ _ _ z => by cases z)
        obtain ⟨c, gT, gF, ρ, s, rr, s', P, e, q⟩ := q
        rw [ev] at e
        exact ⟨c, gT, gF, ρ, s, rr, s', P, freeze_ok e, q⟩
  | callV i alts es ih =>
    have ih := ih.1
    refine ⟨?_, (fun _ _ z => by cases z), fun X mc ok hk kws z => by simp [mtEs] at z⟩
    refine .of (fun X mc ok hk x h => ?_) (by intro mc l; simp [mtEs]) (by intro mc tg x; simp [mtI])
    cases x <;> first | (simp [mtE] at h; done) | skip
    rename_i g l ks pos
    cases g <;> first | (simp [mtE] at h; done) | skip
    cases ks with
    | cons _ _ => simp [mtE] at h
    | nil =>
      rw [mtE, Bool.and_eq_true, Bool.and_eq_true] at h
      obtain ⟨⟨h1, h2⟩, h3⟩ := h
      obtain ⟨n1, n2, n3, n4⟩ := nm_of ok h1
      have pl := mtEs_plain mc _ _ h2
      cases l with
      | nil => simp at h3
      | cons z r =>
        have pl' := pl
        rw [plainEs, Bool.and_eq_true] at pl'
        refine .of_pe ((pe_gV n1 n2 ((ih X mc ok hk.2).2.1 _ h2) n3 n4 (star_cons pl'.1) (star_plain _ _ _ pl'.2)).via fun σ H Q q => ?_) (fun _ => rfl) (fun _ _ _ z => by cases z)
        obtain ⟨c, gT, gF, ρ, s, rr, s', P, e, q⟩ := q
        rw [ev] at e
        split at e <;> first | (cases e; done) | skip
        rename_i f hf
        obtain ⟨a, e1, e2⟩ := fnAt_some hf
        obtain ⟨g, k, fd, ps, c2, c3, c4, c5, c6⟩ := hk.1 _ e2
        exact ⟨a, f, g, k, fd, ps, fn_slot P e1, c2, c3, c4, c5, call_rd c6 ⟨c, gT, gF, ρ, s, rr, s', P, freeze_ok e, q⟩⟩
  | callVK i alts ks kes perm ih =>
    have ihk := ih.2.2
    refine ⟨?_, (fun _ _ z => by cases z), fun X mc ok hk kws z => by simp [mtEs] at z⟩
    refine .of (fun X mc ok hk x h => ?_) (by intro mc l; simp [mtEs]) (by intro mc tg x; simp [mtI])
    unfold mtE at h
    split at h <;> first | (rename_i z; cases z; done) | (cases h; done) | skip
    all_goals first | (exfalso; simp_all; done) | skip
    rename_i heq
    cases heq
    simp only [Bool.and_eq_true] at h
    obtain ⟨⟨h1, h2⟩, h3⟩ := h
    obtain ⟨n1, n2, n3, n4⟩ := nm_of ok h1
    have hn := of_decide_eq_true h2
    have el : elen kes = ks.length := by
      have := mtEs_len _ _ _ h3
      have e2 := congrArg List.length hn
      simp at this e2
      omega
    by_cases hpm : ∀ i ∈ perm, i < ks.length
    · refine .of_pe ((pe_gVK n1 n2 n3 n4 hpm (ihk _ _ ok hk.2 _ h3) hn (fun σ H Q q => ?_)).via fun σ H Q q => ?_) (fun _ => rfl) (fun _ _ _ z => by cases z)
      · obtain ⟨c, gT, gF, ρ, s, rs, s', P, e, q⟩ := q
        exact ⟨c, gT, gF, ρ, s, rs, s', P, e, fun vs H' P' V => ⟨by rw [V.length, evs_len _ e, el], q vs H' P' V⟩⟩
      · obtain ⟨c, gT, gF, ρ, s, rr, s', P, e, q⟩ := q
        rw [ev] at e
        split at e <;> first | (cases e; done) | skip
        rename_i f hf
        obtain ⟨a, e1, e2⟩ := fnAt_some hf
        obtain ⟨g, k, fd, ps, c2, c3, c4, c5, c6, c7⟩ := hk.1 _ e2
        exact ⟨a, f, g, k, fd, ps, fn_slot P e1, c2, c3, c5, c6, perm_rd el c4 (call_rd c7 ⟨c, gT, gF, ρ, s, rr, s', P, e, q⟩)⟩
    · refine .of_pe ⟨fun pins s σ H Q I q => ?_⟩ (fun _ => rfl) (fun _ _ _ z => by cases z)
      exfalso
      obtain ⟨c, gT, gF, ρ, s, rr, s', P, e, q⟩ := q
      rw [ev] at e
      split at e <;> first | (cases e; done) | skip
      rename_i f hf
      obtain ⟨a, e1, e2⟩ := fnAt_some hf
      obtain ⟨g, k, fd, ps, c2, c3, c4, c5, c6, c7⟩ := hk.1 _ e2
      exact hpm c4
  | heard y k pre hs e ih =>
    refine ⟨?_, (fun _ _ z => by cases z), fun X mc ok hk kws z => by simp [mtEs] at z⟩
    refine .of (fun X mc ok hk x h => ?_) (by intro mc l; simp [mtEs]) (by intro mc tg x; simp [mtI])
    have p := hk X mc x ok rfl h
    cases x <;> first | (simp [mtE] at h; done) | skip
    exact .of_pe p (fun _ => rfl) (fun _ _ _ z => by cases z)
  | prim p es ih =>
    have ih0 := ih.2.1
    have ih := ih.1
    refine ⟨?_, (fun _ _ z => by cases z), fun X mc ok hk kws z => by simp [mtEs] at z⟩
    refine .of (fun X mc ok hk x h => ?_) (by intro mc l; simp [mtEs]) (by intro mc tg x; simp [mtI])
    cases x <;> first | (simp [mtE] at h; done) | skip
    rename_i g l ks pos
    cases g <;> first | (simp [mtE] at h; done) | skip
    cases ks with
    | cons _ _ => simp [mtE] at h
    | nil =>
      unfold mtE at h
      by_cases hp : primPlain p = true
      · rw [if_pos hp] at h
        simp only [Bool.and_eq_true] at h
        obtain ⟨⟨h1, h2⟩, h3⟩ := h
        exact .of_pe (snd_prim ok hp h1 (mtEs_plain mc _ _ h2) (by rintro rfl; simp at h3) ((ih X mc ok hk.2).2.1 _ h2) hk.1) (fun _ => rfl) (fun _ _ _ z => by cases z)
      · rw [if_neg hp] at h
        by_cases hs : p = .sortedSet
        · rw [if_pos hs] at h
          subst hs
          split at h <;> first | (cases h; done) | skip
          simp only [Bool.and_eq_true] at h
          obtain ⟨⟨⟨h1, h2⟩, h3⟩, h4⟩ := h
          exact .of_pe (snd_sortSet ok h1 h2 h3 ((ih0 _ _ rfl X mc ok hk.2.1).1 _ h4).pe) (fun _ => rfl) (fun _ _ _ z => by cases z)
        rw [if_neg hs] at h
        by_cases hs2 : p = .sorted
        · rw [if_pos hs2] at h
          subst hs2
          split at h <;> first | (cases h; done) | skip
          simp only [Bool.and_eq_true] at h
          obtain ⟨⟨h1, h2⟩, h3⟩ := h
          exact .of_pe (snd_sortR ok h1 h2 ((ih0 _ _ rfl X mc ok hk.2.1).1 _ h3).pe) (fun _ => rfl) (fun _ _ _ z => by cases z)
        rw [if_neg hs2] at h
        split at h <;> first | (cases h; done) | skip
        simp only [Bool.and_eq_true] at h
        obtain ⟨⟨⟨h1, h2⟩, h3⟩, h4⟩ := h
        exact .of_pe (snd_is ok ‹isTy p = some _› h1 h2 h3 ((ih0 _ _ rfl X mc ok hk.2.1).1 _ h4).pe) (fun _ => rfl) (fun _ _ _ z => by cases z)
  | reprEq a b iha ihb =>
    have iha := iha.1
    have ihb := ihb.1
    refine ⟨?_, (fun _ _ z => by cases z), fun X mc ok hk kws z => by simp [mtEs] at z⟩
    refine .of (fun X mc ok hk x h => ?_) (by intro mc l; simp [mtEs]) (by intro mc tg x; simp [mtI])
    unfold mtE at h
    split at h <;> first | (rename_i z; cases z; done) | (cases h; done) | skip
    all_goals first | (exfalso; simp_all; done) | skip
    rename_i heq
    cases heq
    simp only [Bool.and_eq_true] at h
    obtain ⟨⟨⟨⟨⟨⟨⟨h0, h1⟩, h2⟩, h3⟩, h4⟩, h5⟩, h6⟩, h7⟩ := h
    rw [of_decide_eq_true h1]
    exact snd_reprEq ok (ok.gd h0) h2 h3 h4 h5 ((iha _ _ ok hk.1).1 _ h6).pe ((ihb _ _ ok hk.2).1 _ h7).pe
  | comp vs tg it cnd elt ihi ihc ihe =>
    have ihi := ihi.1
    have ihc := ihc.1
    have ihe := ihe.1
    refine ⟨?_, (fun _ _ z => by cases z), fun X mc ok hk kws z => by simp [mtEs] at z⟩
    refine .of (fun X mc ok hk x h => ?_) (by intro mc l; simp [mtEs]) (by intro mc tg x; simp [mtI])
    cases x <;> first | (simp [mtE] at h; done) | skip
    rename_i x gs scope pos
    match gs, h with
    | [], h => simp [mtE] at h
    | _ :: _ :: _, h => simp [mtE] at h
    | [⟨t, i, ifs, as⟩], h =>
      unfold mtE at h
      dsimp only at h
      simp only [Bool.and_eq_true] at h
      obtain ⟨⟨⟨⟨h0, h1⟩, h2⟩, h3⟩, ⟨⟨⟨h4, h5⟩, h6⟩, h7⟩⟩ := h
      have h0 := of_decide_eq_true h0
      subst h0
      have hv : (ownOf mc.N vs).map (·.2) = vs := by unfold ownOf; rw [List.map_map]; exact List.map_id' vs
      have bk : BlkOk X.N X.env.scope scope (ownOf mc.N vs) := by rw [← ok.N, ← ok.sc]; exact blkOk_by h3
      have L := (ihi X mc ok hk.1).2.2 _ _ h2
      have Q := pe_lc (elt := x) (tg := t) (iter := i) (ifs := ifs) (pos := pos) (g := rdG X.K tg) (tt := rdC X.K cnd) (te := rd X.K (ev elt)) ok.calm ok.nd L.1 bk
        (fun s H C cl fp => (tg_ok (blk_ok ok h3 s H C cl fp) tg).1 _ h4)
        (fun s H C cl fp => by
          cases ifs with
          | nil => cases cnd <;> first | (cases h7; done) | exact pts_nil
          | cons c r =>
            cases r with
            | cons _ _ => cases h7
            | nil =>
              have q := ((ihc _ _ (blk_ok ok h3 s H C cl fp) hk.2.1).1 _ h7).pt
              have e : rdC X.K cnd = rdT X.K (ev cnd) := by
                cases cnd <;> first | rfl | (simp [mtE] at h7; done)
              rw [e]
              exact pts_one q)
        (fun s H C cl fp => ((ihe _ _ (blk_ok ok h3 s H C cl fp) hk.2.2).1 _ h6).pe) L.2
      rw [hv] at Q
      exact .of_pe (Q.via fun σ H Q q => comp_tlc (tgSub h5) q) (fun _ => rfl) (fun _ _ _ z => by cases z)
  | itE a iha =>
    have iha := iha.1
    refine ⟨?_, (fun _ _ z => by cases z), fun X mc ok hk kws z => by simp [mtEs] at z⟩
    refine .ofI (fun X mc ok hk tg x h => ?_) (by intro mc l; simp [mtE]) (by intro mc l; simp [mtEs])
    rw [mtI, Bool.and_eq_true] at h
    exact ⟨snd_itE ((iha X mc ok hk).1 _ h.2).pe, fold_plain h.1 _⟩
  | itRange es ih =>
    have ih := ih.1
    refine ⟨?_, (fun _ _ z => by cases z), fun X mc ok hk kws z => by simp [mtEs] at z⟩
    refine .ofI (fun X mc ok hk tg x h => ?_) (by intro mc l; simp [mtE]) (by intro mc l; simp [mtEs])
    cases x <;> first | (simp [mtI] at h; done) | skip
    rename_i g l ks pos
    cases g <;> first | (simp [mtI] at h; done) | skip
    cases ks with
    | cons _ _ => simp [mtI] at h
    | nil =>
      unfold mtI at h
      rw [Bool.and_eq_true, Bool.and_eq_true] at h
      exact ⟨snd_itRange ok h.1.1 h.2 (mtEs_plain mc _ _ h.1.2) (mtEs_len mc _ _ h.1.2) ((ih X mc ok hk).2.1 _ h.1.2), fun _ => rfl⟩
  | itZip a b iha ihb =>
    have iha := iha.1
    have ihb := ihb.1
    refine ⟨?_, (fun _ _ z => by cases z), fun X mc ok hk kws z => by simp [mtEs] at z⟩
    refine .ofI (fun X mc ok hk tg x h => ?_) (by intro mc l; simp [mtE]) (by intro mc l; simp [mtEs])
    cases x <;> first | (simp [mtI] at h; done) | skip
    rename_i g l ks pos
    cases g <;> first | (simp [mtI] at h; done) | skip
    match l, ks, h with
    | [], _, h => simp [mtI] at h
    | [_], _, h => simp [mtI] at h
    | [u, v], [], h =>
      rw [mtI] at h
      simp only [Bool.and_eq_true] at h
      obtain ⟨⟨⟨⟨⟨h1, h2⟩, h3⟩, h4⟩, h5⟩, h6⟩ := h
      exact ⟨snd_itZip ok h1 h2 h3 h4 ((iha X mc ok hk.1).1 _ h5).pe ((ihb X mc ok hk.2).1 _ h6).pe, fun _ => rfl⟩
    | [_, _], _ :: _, h => simp [mtI] at h
    | _ :: _ :: _ :: _, _, h => simp [mtI] at h
  | itEnum a iha =>
    have iha := iha.1
    refine ⟨?_, (fun _ _ z => by cases z), fun X mc ok hk kws z => by simp [mtEs] at z⟩
    refine .ofI (fun X mc ok hk tg x h => ?_) (by intro mc l; simp [mtE]) (by intro mc l; simp [mtEs])
    cases x <;> first | (simp [mtI] at h; done) | skip
    rename_i g l ks pos
    cases g <;> first | (simp [mtI] at h; done) | skip
    match l, ks, h with
    | [], _, h => simp [mtI] at h
    | [u], [], h =>
      rw [mtI] at h
      simp only [Bool.and_eq_true] at h
      obtain ⟨⟨⟨h1, h2⟩, h3⟩, h4⟩ := h
      exact ⟨snd_itEnum ok h1 h2 h3 ((iha X mc ok hk).1 _ h4).pe, fun _ => rfl⟩
    | [_], _ :: _, h => simp [mtI] at h
    | _ :: _ :: _, _, h => simp [mtI] at h
  | stAt i =>
    refine ⟨?_, (fun _ _ z => by cases z), fun X mc ok hk kws z => by simp [mtEs] at z⟩
    refine .of (fun X mc ok hk x h => ?_) (by intro mc l; simp [mtEs]) (by intro mc tg x; simp [mtI])
    unfold mtE at h
    split at h <;> first | (rename_i z; cases z; done) | (cases h; done) | skip
    all_goals first | (exfalso; simp_all; done) | skip
    rename_i heq
    cases heq
    simp only [Bool.and_eq_true] at h
    cases strIs_eq h.2
    exact .of_pe (snd_stAt ok h.1) (fun _ => rfl) (fun _ _ _ z => by cases z)
  | stLen i =>
    refine ⟨?_, (fun _ _ z => by cases z), fun X mc ok hk kws z => by simp [mtEs] at z⟩
    refine .of (fun X mc ok hk x h => ?_) (by intro mc l; simp [mtEs]) (by intro mc tg x; simp [mtI])
    unfold mtE at h
    split at h <;> first | (rename_i z; cases z; done) | (cases h; done) | skip
    all_goals first | (exfalso; simp_all; done) | skip
    rename_i heq
    cases heq
    simp only [Bool.and_eq_true] at h
    cases strIs_eq h.2
    exact .of_pe (snd_stLen ok h.1.1 h.1.2) (fun _ => rfl) (fun _ _ _ z => by cases z)
  | stCell i k ihk =>
    have ihk := ihk.1
    refine ⟨?_, (fun _ _ z => by cases z), fun X mc ok hk kws z => by simp [mtEs] at z⟩
    refine .of (fun X mc ok hk x h => ?_) (by intro mc l; simp [mtEs]) (by intro mc tg x; simp [mtI])
    unfold mtE at h
    split at h <;> first | (rename_i z; cases z; done) | (cases h; done) | skip
    all_goals first | (exfalso; simp_all; done) | skip
    rename_i heq
    cases heq
    simp only [Bool.and_eq_true] at h
    cases strIs_eq h.1.1.2
    exact .of_pe (snd_stIx (l := OSt.cells) (a := Cfg.aC) ok (fun ρ s => by rw [ev]) (fun _ _ => rfl) (fun _ _ _ st => st.cells) h.1.1.1 h.1.2 ((ihk _ _ ok hk).1 _ h.2).pe) (fun _ => rfl) (fun _ _ _ z => by cases z)
  | stLeft i k ihk =>
    have ihk := ihk.1
    refine ⟨?_, (fun _ _ z => by cases z), fun X mc ok hk kws z => by simp [mtEs] at z⟩
    refine .of (fun X mc ok hk x h => ?_) (by intro mc l; simp [mtEs]) (by intro mc tg x; simp [mtI])
    unfold mtE at h
    split at h <;> first | (rename_i z; cases z; done) | (cases h; done) | skip
    all_goals first | (exfalso; simp_all; done) | skip
    rename_i heq
    cases heq
    simp only [Bool.and_eq_true] at h
    cases strIs_eq h.1.1.2
    exact .of_pe (snd_stIx (l := OSt.lefts) (a := Cfg.aL) ok (fun ρ s => by rw [ev]) (fun _ _ => rfl) (fun _ _ _ st => st.lefts) h.1.1.1 h.1.2 ((ihk _ _ ok hk).1 _ h.2).pe) (fun _ => rfl) (fun _ _ _ z => by cases z)
end RS
end
section
set_option Elab.async false
set_option linter.all false
set_option maxRecDepth 100000
set_option autoImplicit false
set_option maxHeartbeats 4000000
/-! RSStmt: statements: the matcher, what is wanted at the ends, the small ones. -/
namespace RS
open PySem L2
def noSw (v : Expr) : Bool := match v with
  | .ListComp _ _ _ _ => false
  | .SetComp _ _ _ _ => false
  | .DictComp _ _ _ _ _ => false
  | _ => true
def swE (mc : MC) (x : Str) (px : Pos) (v : Expr) : Bool := match v with
  | .ListComp _ _ scope pos => decide (mc.sc.names.lookup x = some .local) && (px.line == pos.line) && !(scope.names.any fun (n, k) => n == x && (k == .local || k == .cell))
  | .SetComp _ _ _ _ => false
  | .DictComp _ _ _ _ _ => false
  | _ => true
/-- the tuple is unpacked as it stands -/
def unpE (es : List Expr) (v : Expr) : Bool := match v with
  | .Tuple vs _ _ => !(es.length == 2 || es.length == 3) || vs.length != es.length || (vs.all (foldedForSure 8))
  | .ListComp _ _ _ _ => false
  | .SetComp _ _ _ _ => false
  | .DictComp _ _ _ _ _ => false
  | _ => true
/-- some target is no plain local -/
def cellE (mc : MC) (es : List Expr) : Bool := es.any fun e => match e with
  | .Name x _ => !(decide (mc.sc.names.lookup x = some .local))
  | _ => true
def unpM (mc : MC) (es : List Expr) (v : Expr) : Bool := match v with
  | .Tuple vs k p => unpE es (.Tuple vs k p) || cellE mc es
  | v => unpE es v
def locOnly (mc : MC) (x : Str) : Bool := decide (mc.sc.names.lookup x = some .local)
mutual
def mtS : S → MC → Stmt → Bool
  | .skip, _, .Pass _ => true
  | .skip, _, .Expr (.Constant (.str _) _ _) _ => true
  | .asg i e, mc, .Assign [.Name x p] v _ => decide (mc.N[i]? = some x) && locB mc x && mtE e mc v && swE mc x p v
  | .asgS i e, mc, .Assign [.Name x p] v _ => decide (mc.N[i]? = some x) && locB mc x && mtE e mc v && swE mc x p v
  | .asgT tg e, mc, .Assign [.Tuple es k p] v _ => mtTg mc tg (.Tuple es k p) && mtE e mc v && unpM mc es v
  | .par [i, j] es, mc, .Assign [.Tuple [.Name x p, .Name y q] _ _] (.Tuple [a, b] _ _) _ => decide (mc.N[i]? = some x) && decide (mc.N[j]? = some y) && decide (i ≠ j) && decide (x ≠ y) && locOnly mc x && locOnly mc y && (p.line == p.line) && (q.line == p.line) &&
      mtEs es mc [a, b] && !(foldedForSure 8 a && foldedForSure 8 b) && !(constantsAlone 8 a && constantsAlone 8 b)
  | .par [i, j, l] es, mc, .Assign [.Tuple [.Name x p, .Name y q, .Name z r] _ _] (.Tuple [a, b, c] _ _) _ => decide (mc.N[i]? = some x) && decide (mc.N[j]? = some y) && decide (mc.N[l]? = some z) && decide (i ≠ j) && decide (i ≠ l) && decide (j ≠ l) && decide (x ≠ y) && decide (x ≠ z) && decide (y ≠ z) &&
      locOnly mc x && locOnly mc y && locOnly mc z && (q.line == p.line) && (r.line == p.line) && mtEs es mc [a, b, c] && !(foldedForSure 8 a && foldedForSure 8 b && foldedForSure 8 c) && !(constantsAlone 8 a && constantsAlone 8 b && constantsAlone 8 c)
  | .app i e, mc, .Expr (.Call (.Attribute (.Name x p) m ap) [v] [] cp) _ => mtE (.var i) mc (.Name x p) && strIs "append" m && (ap.endLine == cp.line) && plainE v && mtE e mc v
  | .ext i e, mc, .Expr (.Call (.Attribute (.Name x p) m ap) [v] [] cp) _ => mtE (.var i) mc (.Name x p) && strIs "extend" m && (ap.endLine == cp.line) && plainE v && mtE e mc v
  | .seti i k e, mc, .Assign [.Subscript (.Name x p) y _] v _ => mtE (.var i) mc (.Name x p) && plainE y && mtE k mc y && mtE e mc v
  | .expr e, mc, .Expr v _ => mtE e mc v && noSw v
  | .ret e, mc, .Return (some v) _ => mtE e mc v
  | .ret (.con .non), _, .Return none _ => true
  | .ife c a b, mc, .If x l r _ => mtE c mc x && mtSs a mc l && mtSs b mc r
  | .for tg it b, mc, .For t x l [] _ => mtTg mc tg t && mtI it mc t x && mtSs b mc l
  | .whl _ c b, mc, .While x l [] _ => mtE c mc x && mtSs b mc l
  | .brk, _, .Break _ => true
  | .cont, _, .Continue _ => true
  | .never, _, _ => true
  | .raise c e, mc, .Raise (some (.Call (.Name y _) [a] [] _)) none _ => callB mc c y && plainE a && mtE e mc a
  | .stPut i e, mc, .Assign [.Subscript (.Name x p) (.Constant (.str y) _ _) _] v _ => nmB mc i (.Name x p) && strIs "at" y && mtE e mc v
  | .stPutLeft i k e, mc, .Assign [.Subscript (.Subscript (.Name x p) (.Constant (.str y) _ _) _) q _] v _ => nmB mc i (.Name x p) && strIs "lefts" y && plainE q && mtE k mc q && mtE e mc v
  | _, _, _ => false
def mtSs : S → MC → List Stmt → Bool
  | .skip, _, sts => sts.isEmpty
  | .seq a b, mc, sts => match a with
    | .share _ => mtSs b mc sts
    | a => match sts with
      | st :: r => mtS a mc st && mtSs b mc r
      | [] => false
  | .never, _, _ => true
  | _, _, _ => false
end
def okS (L : Lv) : S → Prop
  | .seq a b => okS L a ∧ okS L b
  | .asg _ e => okE L e
  | .asgS _ e => okE L e
  | .asgT _ e => okE L e
  | .par _ es => okE L es
  | .app _ e => okE L e
  | .ext _ e => okE L e
  | .seti _ k e => okE L k ∧ okE L e
  | .expr e => okE L e
  | .ret e => okE L e
  | .ife c a b => okE L c ∧ okS L a ∧ okS L b
  | .for _ it b => okE L it ∧ okS L b
  | .whl _ c b => okE L c ∧ okS L b
  | .stPut _ e => okE L e
  | .stPutLeft _ k e => okE L k ∧ okE L e
  | .raise _ e => okE L e
  | _ => True
def RtV : Rs → V → Prop
  | .sh _, _ => True
  | .fr _, v => ∃ a, v = .ref a
  | .bo _ _, _ => False
def Fin (K : PySem.W.Frag) (c : Cfg) (gT : Shd) (gF : Own) (D : Ends) : Out → Prop
  | .nx ρ s => ∀ σ H, Pt K c gT gF σ H ρ s → D.nx σ H
  | .bk ρ s => ∀ σ H, Pt K c gT gF σ H ρ s → D.bk σ H
  | .ct ρ s => ∀ σ H, Pt K c gT gF σ H ρ s → D.ct σ H
  | .rt r s => r.isBo = false ∧ ∀ v σ ρ H, Pt K c (r.exT v gT) (r.exF v gF) σ H ρ s → RtV r v → D.rt v H
  | .exc _ _ _ => False
  | .no => False
def rdS (K : PySem.W.Frag) (f : Env → OSt → Out) : TS := fun D σ H => ∃ c gT gF ρ s, Pt K c gT gF σ H ρ s ∧ Fin K c gT gF D (f ρ s)
section
variable {K : PySem.W.Frag} {c : Cfg} {gT gT' : Shd} {gF gF' : Own} {σ σ' : L2.St} {H H' : Hp} {ρ ρ' : Env} {s s' : OSt} {T : Shd} {F : Own}
theorem withV_fin {D : Ends} {r : R Rs} {f : Rs → OSt → Out} (h : Fin K c gT gF D (withV r f)) : ∃ a s1, r = .ok a s1 ∧ Fin K c gT gF D (f a s1) := by
  cases r with
  | ok a s1 => exact ⟨a, s1, rfl, h⟩
  | exc => exact h.elim
  | no => exact h.elim
theorem outOf_fin {D : Ends} {o : Option Env} (h : Fin K c gT gF D (outOf o s)) : ∃ ρ', o = some ρ' ∧ ∀ σ H, Pt K c gT gF σ H ρ' s → D.nx σ H := by
  cases o with
  | none => exact h.elim
  | some ρ' => exact ⟨ρ', rfl, h⟩
theorem set_same {σ : L2.St} {i : Nat} {x : Option V} (h : σ[i]? = some x) : σ.set i x = σ := by
  apply List.ext_getElem?
  intro j
  rw [List.getElem?_set]
  split
  · rename_i e; subst e
    split
    · rw [h]
    · rename_i hl; rw [List.getElem?_eq_none (by omega)] at h; cases h
  · rfl
theorem lt_of_get {α : Type} {l : List α} {i : Nat} {x : α} (h : l[i]? = some x) : i < l.length := by
  rcases Nat.lt_or_ge i l.length with q | q
  · exact q
  · rw [List.getElem?_eq_none q] at h; cases h
/-- a slot takes what is held -/
theorem Pt.takes {d : D} {a : Addr} (P : Pt K c gT ((d, a) :: gF) σ H ρ s) {i : Nat} (hi : i < ρ.length) : Pt K c gT gF (σ.set i (some (.ref a))) H (ρ.set i (.ow d)) s := by
  obtain ⟨T, F, o⟩ := P
  have o' := o.less (gT' := gT) (fun _ h => h) (List.sublist_cons_self (d, a) gF)
  have nd := o.nd
  rw [List.map_cons, List.nodup_cons] at nd
  have hi' : i < σ.length := by rw [← o.sl.len]; exact hi
  have aw : ∀ (j : Nat) (e : D) (b : Addr), ρ[j]? = some (.ow e) → σ[j]? = some (some (.ref b)) → b ≠ a := fun j e b hj sj z => by
    obtain ⟨b', k1, _, k3⟩ := o.sl.ow j e hj
    rw [sj] at k1; cases k1
    exact k3 (by rw [z]; exact List.mem_cons_self)
  refine ⟨T, F, o.B, o'.hT, o'.hF, o'.nd, by simp [o.sl.len], fun j e hj => ?_, fun j e hj => ?_, fun j k e f b hj hk sj sk => ?_⟩
  · have hij : j ≠ i := fun z => by subst z; rw [List.getElem?_set_self hi] at hj; cases hj
    rw [List.getElem?_set_ne (Ne.symm hij)] at hj ⊢
    exact o.sl.sh j e hj
  · by_cases hij : j = i
    · subst hij
      rw [List.getElem?_set_self hi] at hj; cases hj
      exact ⟨a, by rw [List.getElem?_set_self hi'], o.hF _ List.mem_cons_self, nd.1⟩
    · rw [List.getElem?_set_ne (Ne.symm hij)] at hj ⊢
      exact o'.sl.ow j e hj
  · by_cases hji : j = i
    · by_cases hki : k = i
      · rw [hji, hki]
      · subst hji
        rw [List.getElem?_set_self hi'] at sj; cases sj
        rw [List.getElem?_set_ne (Ne.symm hki)] at hk sk
        exact (aw k f _ hk sk rfl).elim
    · by_cases hki : k = i
      · subst hki
        rw [List.getElem?_set_self hi'] at sk; cases sk
        rw [List.getElem?_set_ne (Ne.symm hji)] at hj sj
        exact (aw j e _ hj sj rfl).elim
      · rw [List.getElem?_set_ne (Ne.symm hji)] at hj sj
        rw [List.getElem?_set_ne (Ne.symm hki)] at hk sk
        exact o.sl.inj j k e f b hj hk sj sk
/-- a slot's own list changed -/
theorem Pt.mutSlot (P : Pt K c gT gF σ H ρ s) {i : Nat} {l ds : List D} {a : Addr} {xs ys : List V} (h1 : ρ[i]? = some (.ow (.lst l))) (h2 : σ[i]? = some (some (.ref a))) (hx : H a = some (.lst xs))
    (r : ∀ O, (∀ d v, (d, v) ∈ gT → Rep K c.aS O H d v) → Reps K c.aS O H l xs → Reps K c.aS O H ds ys) : Pt K c gT gF σ (upd H a (.lst ys)) (ρ.set i (.ow (.lst ds))) s := by
  have P1 := Pt.lend P h1 h2
  have P2 := Pt.put (ds := ds) (ys := ys) P1 fun F T o => by
    obtain ⟨l', xs', z, e, t⟩ := o.B.top_at (o.hF _ List.mem_cons_self)
    cases z
    rw [hx] at e; cases e
    exact r _ (fun d v hm => o.B.tT _ (o.hT _ hm)) t
  have P3 := Pt.takes (i := i) P2 (by simp; exact lt_of_get h1)
  rw [set_same h2, List.set_set] at P3
  exact P3
theorem Pt.shareSlot (P : Pt K c gT gF σ H ρ s) {i : Nat} {d : D} (h1 : ρ[i]? = some (.ow d)) : Pt K c gT gF σ H (ρ.set i (.sh d)) s := by
  have : ∃ a, σ[i]? = some (some (.ref a)) := by
    obtain ⟨T, F, o⟩ := P
    obtain ⟨a, e, _⟩ := o.sl.ow i d h1
    exact ⟨a, e⟩
  obtain ⟨a, h2⟩ := this
  have P2 := Pt.forget (gF := gF) (Pt.lend P h1 h2)
  have P3 := Pt.setSh (i := i) P2 (by simp; exact lt_of_get h1) List.mem_cons_self
  rw [set_same h2, List.set_set] at P3
  exact P3.less (fun p hp => List.mem_cons_of_mem _ hp) (List.Sublist.refl _)
theorem getD_ow {ρ : Env} {i : Nat} {d : D} (h : ρ.getD i .no = .ow d) : ρ[i]? = some (.ow d) := by
  rw [List.getD_eq_getElem?_getD] at h
  cases q : ρ[i]? with
  | none => rw [q] at h; cases h
  | some y => rw [q] at h; rw [show y = .ow d from h]
theorem getD_sh {ρ : Env} {i : Nat} {d : D} (h : ρ.getD i .no = .sh d) : ρ[i]? = some (.sh d) := by
  rw [List.getD_eq_getElem?_getD] at h
  cases q : ρ[i]? with
  | none => rw [q] at h; cases h
  | some y => rw [q] at h; rw [show y = .sh d from h]
/-- name = a value -/
theorem assign1 {i : Nat} {r : Rs} {v : V} {ρ' : Env} (P : Pt K c (r.exT v gT) (r.exF v gF) σ H ρ s) (V : Vw σ ρ r v) (h : assignAll [i] [r] ρ = some ρ') : Pt K c gT gF (σ.set i (some v)) H ρ' s := by
  rw [assignAll] at h
  cases r with
  | bo k d => cases h
  | sh d =>
    dsimp only [slotOf] at h
    split at h <;> first | (cases h; done) | skip
    rename_i hi
    rw [assignAll] at h; cases h
    exact (P.setSh hi List.mem_cons_self).less (fun p hp => List.mem_cons_of_mem _ hp) (List.Sublist.refl _)
  | fr d =>
    dsimp only [slotOf] at h
    split at h <;> first | (cases h; done) | skip
    rename_i hi
    rw [assignAll] at h; cases h
    obtain ⟨a, rfl⟩ := V
    exact Pt.takes P hi
end
end RS
end
section
set_option Elab.async false
set_option linter.all false
set_option maxRecDepth 100000
set_option autoImplicit false
set_option maxHeartbeats 4000000
/-! RSStmt2: statements that match do what the evaluator says. -/
namespace RS
open PySem L2
section
variable {X : Cx} {mc : MC}
/-! ### name = e -/
theorem asg_rd {i : Nat} {e : E} {D : Ends} {σ : L2.St} {H : Hp} (h : rdS X.K (exS (.asg i e)) D σ H) : rd X.K (ev e) σ H (fun v H' => D.nx (σ.set i (some v)) H') := by
  obtain ⟨c, gT, gF, ρ, s, P, q⟩ := h
  rw [exS] at q
  obtain ⟨r, s1, e1, q⟩ := withV_fin q
  obtain ⟨ρ', e2, q⟩ := outOf_fin q
  exact ⟨c, gT, gF, ρ, s, r, s1, P, e1, fun v H' P' V => q _ _ (assign1 P' V e2)⟩
theorem asgS_rd {i : Nat} {e : E} {D : Ends} {σ : L2.St} {H : Hp} (h : rdS X.K (exS (.asgS i e)) D σ H) : rd X.K (ev e) σ H (fun v H' => D.nx (σ.set i (some v)) H') := by
  obtain ⟨c, gT, gF, ρ, s, P, q⟩ := h
  rw [exS] at q
  obtain ⟨r, s1, e1, q⟩ := withV_fin q
  cases hb : r.isBo with
  | true => rw [hb, if_pos rfl] at q; exact q.elim
  | false =>
    rw [hb, if_neg (by simp)] at q
    obtain ⟨ρ', e2, q⟩ := outOf_fin q
    refine ⟨c, gT, gF, ρ, s, r, s1, P, e1, fun v H' P' V => q _ _ ?_⟩
    exact assign1 (r := .sh r.d) (Pt.share1 P' V hb) trivial e2
theorem sw_no {x : Str} {px : Pos} {v : Expr} {l : Nat} {env : PySem.Env} (h : noSw v = true) : swapsWith v (some (.Name x px)) l env = pure false := by
  cases v <;> first | rfl | cases h
theorem ps_name (ok : CtxOk X mc) {i : Nat} {x : Str} {p pos : Pos} {e : E} {v : Expr} (hk : okE (lvOf X) e) (hi : mc.N[i]? = some x) (hl : locB mc x = true) (he : mtE e mc v = true) (hs : swE mc x p v = true) :
    PS X (.Assign [.Name x p] v pos) (tAsg (rd X.K (ev e)) (gName i)) := by
  obtain ⟨h1, h2⟩ := ok.loc hl
  have hi' : X.N[i]? = some x := by rw [← ok.N]; exact hi
  by_cases hn : noSw v = true
  · exact ps_set ok.nd hi' h1 ((snd_all e).1 X mc ok hk |>.1 v he).pe (sw_no hn) h2
  · cases v <;> first | (exact (hn rfl).elim) | (cases hs; done) | skip
    rename_i elt gs scope vpos
    simp only [swE, Bool.and_eq_true, Bool.not_eq_true'] at hs
    obtain ⟨⟨hs1, hs2⟩, hs3⟩ := hs
    have hs1 := of_decide_eq_true hs1
    rw [ok.sc] at hs1
    have sw := sw_true (elt := elt) (gs := gs) (scope := scope) (pos := vpos) (py := p) (l := pos.line) ok.kind hs1 hs2 hs3
    cases e <;> first | (simp [mtE] at he; done) | skip
    rename_i vs tg it cnd elt'
    match gs, he, sw with
    | [], he, _ => simp [mtE] at he
    | _ :: _ :: _, he, _ => simp [mtE] at he
    | [⟨t, i', ifs, as⟩], he, sw =>
      unfold mtE at he
      dsimp only at he
      simp only [Bool.and_eq_true] at he
      obtain ⟨⟨⟨⟨h0, k1⟩, k2⟩, h3⟩, ⟨⟨⟨h4, h5⟩, h6⟩, h7⟩⟩ := he
      have h0 := of_decide_eq_true h0
      subst h0
      have hv : (ownOf mc.N vs).map (·.2) = vs := by unfold ownOf; rw [List.map_map]; exact List.map_id' vs
      have bk : BlkOk X.N X.env.scope scope (ownOf mc.N vs) := by rw [← ok.N, ← ok.sc]; exact blkOk_by h3
      have L := ((snd_all it).1 X mc ok hk.1).2.2 _ _ k2
      have Q := ps_setLc (i := i) (y := x) (py := p) (spos := pos) (elt := elt) (tg := t) (iter := i') (ifs := ifs) (pos := vpos) (g := rdG X.K tg) (tt := rdC X.K cnd) (te := rd X.K (ev elt')) ok.calm ok.nd hi' hs1 sw L.1 bk
        (fun s H C cl fp => (tg_ok (blk_ok ok h3 s H C cl fp) tg).1 _ h4)
        (fun s H C cl fp => by
          cases ifs with
          | nil => cases cnd <;> first | (cases h7; done) | exact pts_nil
          | cons c r =>
            cases r with
            | cons _ _ => cases h7
            | nil =>
              have q := (((snd_all cnd).1 _ _ (blk_ok ok h3 s H C cl fp) hk.2.1).1 _ h7).pt
              have e : rdC X.K cnd = rdT X.K (ev cnd) := by
                cases cnd <;> first | rfl | (simp [mtE] at h7; done)
              rw [e]
              exact pts_one q)
        (fun s H C cl fp => (((snd_all elt').1 _ _ (blk_ok ok h3 s H C cl fp) hk.2.2).1 _ h6).pe) L.2
      rw [hv] at Q
      exact Q.via fun D σ H q => comp_tlc (tgSub h5) q
theorem ps_asgE (ok : CtxOk X mc) {i : Nat} {x : Str} {p pos : Pos} {e : E} {v : Expr} (hk : okE (lvOf X) e) (hi : mc.N[i]? = some x) (hl : locB mc x = true) (he : mtE e mc v = true) (hs : swE mc x p v = true) :
    PS X (.Assign [.Name x p] v pos) (rdS X.K (exS (.asg i e))) := (ps_name ok hk hi hl he hs).via fun D σ H q => asg_rd q
theorem ps_asgSE (ok : CtxOk X mc) {i : Nat} {x : Str} {p pos : Pos} {e : E} {v : Expr} (hk : okE (lvOf X) e) (hi : mc.N[i]? = some x) (hl : locB mc x = true) (he : mtE e mc v = true) (hs : swE mc x p v = true) :
    PS X (.Assign [.Name x p] v pos) (rdS X.K (exS (.asgS i e))) := (ps_name ok hk hi hl he hs).via fun D σ H q => asgS_rd q
/-! ### (a, b, ..) = e -/
theorem unp_none {es : List Expr} {v : Expr} {k : Nat} {p : Pos} {env : PySem.Env} (h : unpE es v = true) : swappedStores [.Tuple es k p] v env = pure none := by
  cases v <;> first | rfl | (cases h; done) | skip
  rename_i vs _ _
  simp only [unpE, Bool.or_eq_true, Bool.not_eq_true', Bool.or_eq_false_iff] at h
  unfold swappedStores
  dsimp only
  by_cases h1 : (!(es.length == 2 || es.length == 3) || vs.length != es.length || env.blockKind != .function) = true
  · rw [if_pos h1]
  · rw [if_neg h1]
    have h2 : vs.all (foldedForSure 8) = true := by
      rcases h with h | h
      · exfalso
        apply h1
        rcases h with h | h
        · simp [h]
        · simp [h]
      · exact h
    rw [h2]
    split
    · rfl
    · split
      · rfl
      · rfl
theorem asgT_rd {tg : Tg} {e : E} {D : Ends} {σ : L2.St} {H : Hp} (h : rdS X.K (exS (.asgT tg e)) D σ H) : rd X.K (ev e) σ H (fun v H' => rdG X.K tg v σ H' D.nx) := by
  obtain ⟨c, gT, gF, ρ, s, P, q⟩ := h
  rw [exS] at q
  obtain ⟨r, s1, e1, q⟩ := withV_fin q
  cases hb : r.isBo with
  | true => rw [hb, if_pos rfl] at q; exact q.elim
  | false =>
    rw [hb, if_neg (by simp)] at q
    obtain ⟨ρ', e2, q⟩ := outOf_fin q
    refine ⟨c, gT, gF, ρ, s, r, s1, P, e1, fun v H' P' V => ⟨c, _, gF, ρ, s1, r.d, ρ', Pt.share1 P' V hb, List.mem_cons_self, e2, fun σ' P2 _ => q _ _ (P2.less (fun p hp => List.mem_cons_of_mem _ hp) (List.Sublist.refl _))⟩⟩
theorem few_names {f : Expr → Option Str} {es : List Expr} (h : ∃ e ∈ es, f e = none) : (es.filterMap f).length ≠ es.length := by
  intro hl
  obtain ⟨e, he, hn⟩ := h
  have key : ∀ l : List Expr, (l.filterMap f).length ≤ l.length := fun l => List.length_filterMap_le f l
  have : ∀ l : List Expr, e ∈ l → (l.filterMap f).length < l.length := by
    intro l
    induction l with
    | nil => intro z; cases z
    | cons a l ih =>
      intro hm
      rcases List.mem_cons.mp hm with z | z
      · subst z
        rw [List.filterMap_cons_none hn, List.length_cons]
        exact Nat.lt_succ_of_le (key l)
      · cases q : f a with
        | none => rw [List.filterMap_cons_none q, List.length_cons]; exact Nat.lt_succ_of_le (key l)
        | some b => rw [List.filterMap_cons_some q, List.length_cons, List.length_cons]; exact Nat.succ_lt_succ (ih z)
  exact absurd hl (Nat.ne_of_lt (this es he))
theorem unp_noneM (ok : CtxOk X mc) {es : List Expr} {v : Expr} {k : Nat} {p : Pos} (h : unpM mc es v = true) : swappedStores [.Tuple es k p] v X.env = pure none := by
  cases v <;> first | exact unp_none h | skip
  rename_i vs k2 p2
  rw [unpM, Bool.or_eq_true] at h
  rcases h with h | h
  · exact unp_none h
  obtain ⟨e, he, hc⟩ := List.any_eq_true.mp h
  unfold swappedStores
  dsimp only
  split
  · rfl
  · split
    · rfl
    · rw [if_pos ?_]
      rw [Bool.or_eq_true]
      left
      rw [bne_iff_ne]
      refine few_names ⟨e, he, ?_⟩
      cases e <;> first | rfl | skip
      rename_i x px
      have hx : ¬ (mc.sc.names.lookup x = some .local) := by simpa using hc
      have hk : X.env.kindOf x = mc.sc.names.lookup x := by rw [ok.sc]; rfl
      dsimp only
      rw [hk, if_neg]
      intro z
      rw [Bool.and_eq_true, beq_iff_eq] at z
      exact hx z.1
theorem ps_asgTE (ok : CtxOk X mc) {tg : Tg} {es : List Expr} {k : Nat} {p pos : Pos} {e : E} {v : Expr} (hk : okE (lvOf X) e) (ht : mtTg mc tg (.Tuple es k p) = true) (he : mtE e mc v = true) (hu : unpM mc es v = true) :
    PS X (.Assign [.Tuple es k p] v pos) (rdS X.K (exS (.asgT tg e))) := by
  have hs : swapsWithSole [.Tuple es k p] v pos.line X.env = pure false := by
    cases v <;> first | rfl | cases hu
  exact (ps_asg ((snd_all e).1 X mc ok hk |>.1 v he).pe ((tg_ok ok tg).1 _ ht) hs (unp_noneM ok hu)).via fun D σ H q => asgT_rd q
end
end RS
end
section
set_option Elab.async false
set_option linter.all false
set_option maxRecDepth 100000
set_option autoImplicit false
set_option maxHeartbeats 4000000
/-! RSStmt3: pairs and triples assigned; append, extend, items stored. -/
namespace RS
open PySem L2
def setAll : L2.St → List Nat → List V → L2.St
  | σ, i :: is, v :: vs => setAll (σ.set i (some v)) is vs
  | σ, _, _ => σ
section
variable {K : PySem.W.Frag} {c : Cfg} {gT gT' : Shd} {gF gF' : Own} {σ σ' : L2.St} {H H' : Hp} {ρ ρ' : Env} {s s' : OSt} {T : Shd} {F : Own}
theorem exFs_app : ∀ (rs : List Rs) (vs : List V) (F : Own), exFs rs vs F = exFs rs vs [] ++ F
  | [], vs, F => by simp [exFs]
  | r :: rs, [], F => by simp [exFs]
  | r :: rs, v :: vs, F => by
    rw [exFs, exFs, exFs_app rs vs (r.exF v F), exFs_app rs vs (r.exF v [])]
    cases r <;> simp [Rs.exF]
    cases v <;> simp
/-- a slot takes what is held, wherever it lies -/
theorem Pt.takes2 {d : D} {a : Addr} (P : Pt K c gT gF' σ H ρ s) (hF : (d, a) ∈ gF') (hs : List.Sublist gF gF') (hn : a ∉ gF.map (·.2)) {i : Nat} (hi : i < ρ.length) : Pt K c gT gF (σ.set i (some (.ref a))) H (ρ.set i (.ow d)) s := by
  obtain ⟨T, F, o⟩ := P
  refine Pt.takes ⟨T, F, o.B, o.hT, fun p hp => ?_, ?_, o.sl.len, o.sl.sh, fun j e hj => ?_, o.sl.inj⟩ hi
  · rcases List.mem_cons.mp hp with e | hp
    · rw [e]; exact o.hF _ hF
    · exact o.hF _ (hs.subset hp)
  · rw [List.map_cons, List.nodup_cons]
    exact ⟨hn, (hs.map (·.2)).nodup o.nd⟩
  · obtain ⟨b, h1, h2, h3⟩ := o.sl.ow j e hj
    refine ⟨b, h1, h2, fun z => h3 ?_⟩
    rw [List.map_cons] at z
    rcases List.mem_cons.mp z with z | z
    · rw [z]; exact List.mem_map.mpr ⟨_, hF, rfl⟩
    · exact (hs.map (·.2)).subset z
theorem assigns : ∀ (is : List Nat) (rs : List Rs) (vs : List V) {σ : L2.St} {ρ : Env}, vs.length = rs.length → (∀ (k : Nat) (r : Rs) (v : V), rs[k]? = some r → vs[k]? = some v → match r with | .sh d => (d, v) ∈ gT | .fr _ => ∃ a, v = .ref a | .bo _ _ => True) →
    Pt K c gT (exFs rs vs gF) σ H ρ s → assignAll is rs ρ = some ρ' → Pt K c gT gF (setAll σ is vs) H ρ' s
  | [], [], [], σ, ρ, _, _, P, e => by rw [assignAll] at e; cases e; exact P
  | [], [], _ :: _, _, _, hl, _, _, _ => by simp at hl
  | [], _ :: _, _, _, _, _, _, _, e => by simp [assignAll] at e
  | _ :: _, [], _, _, _, _, _, _, e => by simp [assignAll] at e
  | _ :: _, _ :: _, [], _, _, hl, _, _, _ => by simp at hl
  | i :: is, r :: rs, v :: vs, σ, ρ, hl, hd, P, e => by
    have hd' : ∀ (k : Nat) (q : Rs) (w : V), rs[k]? = some q → vs[k]? = some w → match q with | .sh d => (d, w) ∈ gT | .fr _ => ∃ a, w = .ref a | .bo _ _ => True := fun k q w a b => hd (k + 1) q w (by simpa using a) (by simpa using b)
    have h0 := hd 0 r v rfl rfl
    have hl' : vs.length = rs.length := by simpa using hl
    rw [assignAll] at e
    rw [setAll]
    cases r with
    | bo k d => cases e
    | sh d =>
      dsimp only [slotOf] at e
      split at e <;> first | (cases e; done) | skip
      rename_i hi
      exact assigns is rs vs hl' hd' (Pt.setSh (gF := exFs rs vs gF) P hi h0) e
    | fr d =>
      dsimp only [slotOf] at e
      split at e <;> first | (cases e; done) | skip
      rename_i hi
      obtain ⟨a, rfl⟩ := h0
      have eF : exFs (Rs.fr d :: rs) (V.ref a :: vs) gF = exFs rs vs [] ++ (d, a) :: gF := by
        rw [exFs, exFs_app]; rfl
      rw [eF] at P
      have nd : ((exFs rs vs [] ++ (d, a) :: gF).map (·.2)).Nodup := by
        obtain ⟨T, F, o⟩ := P
        exact o.nd
      have P2 := Pt.takes2 (gF := exFs rs vs [] ++ gF) (i := i) (d := d) (a := a) P (by simp) (List.Sublist.append (List.Sublist.refl _) (List.sublist_cons_self _ _)) (by
        rw [List.map_append, List.map_cons, List.nodup_append] at nd
        obtain ⟨_, n2, n3⟩ := nd
        rw [List.nodup_cons] at n2
        rw [List.map_append, List.mem_append]
        rintro (z | z)
        · exact n3 _ z _ List.mem_cons_self rfl
        · exact n2.1 z) hi
      rw [← exFs_app rs vs gF] at P2
      exact assigns is rs vs hl' hd' P2 e
theorem Hds.have {rs : List Rs} {vs : List V} (h : Hds gT gF σ ρ rs vs) : ∀ (k : Nat) (r : Rs) (v : V), rs[k]? = some r → vs[k]? = some v → match r with | .sh d => (d, v) ∈ gT | .fr _ => ∃ a, v = .ref a | .bo _ _ => True := fun k r v a b => by
  have q := h.get k r v a b
  cases r with
  | sh d => exact q
  | fr d => obtain ⟨x, e, _⟩ := q; exact ⟨x, e⟩
  | bo i d => trivial
end
section
variable {X : Cx} {mc : MC}
theorem par_rd {is : List Nat} {es : E} {D : Ends} {σ : L2.St} {H : Hp} (h : rdS X.K (exS (.par is es)) D σ H) : rdA X.K (evs es) σ H fun vs H' => vs.length = is.length ∧ D.nx (setAll σ is vs) H' := by
  obtain ⟨c, gT, gF, ρ, s, P, q⟩ := h
  rw [exS] at q
  split at q <;> first | (exact q.elim) | skip
  rename_i rs s1 e1
  obtain ⟨ρ', e2, q⟩ := outOf_fin q
  refine ⟨c, gT, gF, ρ, s, rs, s1, P, e1, fun vs H' P' V => ?_⟩
  have hl : ∀ (is : List Nat) (rs : List Rs) (ρ : Env), assignAll is rs ρ = some ρ' → rs.length = is.length := by
    intro is
    induction is with
    | nil => intro rs ρ e; cases rs <;> simp [assignAll] at e ⊢
    | cons i is ih =>
      intro rs ρ e
      cases rs with
      | nil => simp [assignAll] at e
      | cons r rs =>
        rw [assignAll] at e
        split at e <;> first | (cases e; done) | skip
        split at e <;> first | (cases e; done) | skip
        simp [ih rs _ e]
  exact ⟨by rw [V.length]; exact hl is rs ρ e2, q _ _ ((assigns is rs vs V.length V.have P' e2).less (subTs rs vs gT) (List.Sublist.refl _))⟩
theorem bk_fn {env : PySem.Env} (h : env.scope.kind = .function) : env.blockKind = .function := by unfold Env.blockKind; rw [h]; rfl
theorem swap2 {x y : Str} {p q pt pt2 : Pos} {k k2 : Nat} {a b : Expr} {env : PySem.Env} (hk : env.scope.kind = .function) (hx : env.scope.names.lookup x = some .local) (hy : env.scope.names.lookup y = some .local) (hxy : x ≠ y) (hl : (q.line == p.line) = true)
    (ha : plainE a = true) (hb : plainE b = true) (hf : (foldedForSure 8 a && foldedForSure 8 b) = false) (hc : (constantsAlone 8 a && constantsAlone 8 b) = false) :
    swappedStores [.Tuple [.Name x p, .Name y q] k pt] (.Tuple [a, b] k2 pt2) env = pure (some [x, y]) := by
  have kx : env.kindOf x = some .local := hx
  have ky : env.kindOf y = some .local := hy
  have hb' := bk_fn hk
  unfold swappedStores
  dsimp only
  rw [if_neg (by simp [hb'])]
  rw [if_neg (by
    intro h
    simp only [List.any_cons, List.any_nil, Bool.or_false, Bool.or_eq_true] at h
    rcases h with h | h
    · cases a <;> first | (cases ha; done) | (cases h; done)
    · cases b <;> first | (cases hb; done) | (cases h; done))]
  have hl' : q.line = p.line := by simpa using hl
  simp [kx, ky, Expr.pos, hl', List.eraseDups_cons, Ne.symm hxy]
  rw [if_neg (by rw [← Bool.and_eq_true, hf]; simp), if_neg (by rw [← Bool.and_eq_true, hc]; simp)]
theorem swap3 {x y z : Str} {p q r pt pt2 : Pos} {k k2 : Nat} {a b c : Expr} {env : PySem.Env} (hk : env.scope.kind = .function) (hx : env.scope.names.lookup x = some .local) (hy : env.scope.names.lookup y = some .local) (hz : env.scope.names.lookup z = some .local) (hxy : x ≠ y) (hxz : x ≠ z) (hyz : y ≠ z) (hl : (q.line == p.line) = true) (hl2 : (r.line == p.line) = true)
    (ha : plainE a = true) (hb : plainE b = true) (hcc : plainE c = true) (hf : (foldedForSure 8 a && foldedForSure 8 b && foldedForSure 8 c) = false) (hc : (constantsAlone 8 a && constantsAlone 8 b && constantsAlone 8 c) = false) :
    swappedStores [.Tuple [.Name x p, .Name y q, .Name z r] k pt] (.Tuple [a, b, c] k2 pt2) env = pure (some [x, y, z]) := by
  have kx : env.kindOf x = some .local := hx
  have ky : env.kindOf y = some .local := hy
  have kz : env.kindOf z = some .local := hz
  have hb' := bk_fn hk
  unfold swappedStores
  dsimp only
  rw [if_neg (by simp [hb'])]
  rw [if_neg (by
    intro h
    simp only [List.any_cons, List.any_nil, Bool.or_false, Bool.or_eq_true] at h
    rcases h with h | h | h
    · cases a <;> first | (cases ha; done) | (cases h; done)
    · cases b <;> first | (cases hb; done) | (cases h; done)
    · cases c <;> first | (cases hcc; done) | (cases h; done))]
  have hl' : q.line = p.line := by simpa using hl
  have hl2' : r.line = p.line := by simpa using hl2
  simp [kx, ky, kz, Expr.pos, hl', hl2', List.eraseDups_cons, Ne.symm hxy, Ne.symm hxz, Ne.symm hyz]
  rw [if_neg (by rintro ⟨h1, h2, h3⟩; rw [h1, h2, h3] at hf; cases hf), if_neg (by rintro ⟨h1, h2, h3⟩; rw [h1, h2, h3] at hc; cases hc)]
theorem loc_only (ok : CtxOk X mc) {x : Str} (h : locOnly mc x = true) : X.env.scope.names.lookup x = some .local := by
  have := of_decide_eq_true h
  rw [← ok.sc]; exact this
theorem ps_par2E (ok : CtxOk X mc) {i j : Nat} {es : E} {x y : Str} {p q pt pt2 pos : Pos} {k k2 : Nat} {a b : Expr} (hk : okE (lvOf X) es) (hi : mc.N[i]? = some x) (hj : mc.N[j]? = some y) (hij : i ≠ j) (hxy : x ≠ y) (hx : locOnly mc x = true) (hy : locOnly mc y = true) (hl : (q.line == p.line) = true)
    (he : mtEs es mc [a, b] = true) (hf : (foldedForSure 8 a && foldedForSure 8 b) = false) (hc : (constantsAlone 8 a && constantsAlone 8 b) = false) :
    PS X (.Assign [.Tuple [.Name x p, .Name y q] k pt] (.Tuple [a, b] k2 pt2) pos) (rdS X.K (exS (.par [i, j] es))) := by
  have pl := mtEs_plain mc _ _ he
  simp only [plainEs, Bool.and_eq_true] at pl
  have lx := loc_only ok hx
  have ly := loc_only ok hy
  refine (ps_par ok.calm ok.nd (by rw [← ok.N]; exact hi) (by rw [← ok.N]; exact hj) hij lx ly ((snd_all es).1 X mc ok hk |>.2.1 _ he) (swap2 ok.kind lx ly hxy hl pl.1 pl.2.1 hf hc)).via fun D σ H h => ?_
  obtain ⟨c, gT, gF, ρ, s, rs, s', P, e, q⟩ := par_rd h
  refine ⟨c, gT, gF, ρ, s, rs, s', P, e, fun vs H' P' V => ?_⟩
  obtain ⟨q1, q2⟩ := q vs H' P' V
  match vs, q1 with
  | [v, w], _ => exact ⟨v, w, rfl, q2⟩
theorem ps_par3E (ok : CtxOk X mc) {i j l : Nat} {es : E} {x y z : Str} {p q r pt pt2 pos : Pos} {k k2 : Nat} {a b d : Expr} (hk : okE (lvOf X) es) (hi : mc.N[i]? = some x) (hj : mc.N[j]? = some y) (hn : mc.N[l]? = some z) (hij : i ≠ j) (hil : i ≠ l) (hjl : j ≠ l) (hxy : x ≠ y) (hxz : x ≠ z) (hyz : y ≠ z)
    (hx : locOnly mc x = true) (hy : locOnly mc y = true) (hz : locOnly mc z = true) (hl : (q.line == p.line) = true) (hl2 : (r.line == p.line) = true)
    (he : mtEs es mc [a, b, d] = true) (hf : (foldedForSure 8 a && foldedForSure 8 b && foldedForSure 8 d) = false) (hc : (constantsAlone 8 a && constantsAlone 8 b && constantsAlone 8 d) = false) :
    PS X (.Assign [.Tuple [.Name x p, .Name y q, .Name z r] k pt] (.Tuple [a, b, d] k2 pt2) pos) (rdS X.K (exS (.par [i, j, l] es))) := by
  have pl := mtEs_plain mc _ _ he
  simp only [plainEs, Bool.and_eq_true] at pl
  have lx := loc_only ok hx
  have ly := loc_only ok hy
  have lz := loc_only ok hz
  refine (ps_par3 ok.calm ok.nd (by rw [← ok.N]; exact hi) (by rw [← ok.N]; exact hj) (by rw [← ok.N]; exact hn) hij hil hjl lx ly lz ((snd_all es).1 X mc ok hk |>.2.1 _ he) (swap3 ok.kind lx ly lz hxy hxz hyz hl hl2 pl.1 pl.2.1 pl.2.2.1 hf hc)).via fun D σ H h => ?_
  obtain ⟨c, gT, gF, ρ, s, rs, s', P, e, q⟩ := par_rd h
  refine ⟨c, gT, gF, ρ, s, rs, s', P, e, fun vs H' P' V => ?_⟩
  obtain ⟨q1, q2⟩ := q vs H' P' V
  match vs, q1 with
  | [v, w, u], _ => exact ⟨v, w, u, rfl, q2⟩
/-! ### append, extend -/
theorem few1 {e : Expr} {env : PySem.Env} {cpos : Pos} (h : plainE e = true) : ((backTo cpos (starEach [e] env)).all (fun x => !x.1) && (backToKw cpos (keywordEach [] env)).all (fun x => x.1.isSome)
      && decide (([e] : List Expr).length + ([] : List Keyword).length + (if ([] : List Keyword).isEmpty then 0 else 1) < 30)) = true := by
  rw [star_cons h]; rfl
theorem app_rd {i : Nat} {e : E} {D : Ends} {σ : L2.St} {H : Hp} (h : rdS X.K (exS (.app i e)) D σ H) : tBM X.K "list" rAppend (rd X.K (ev (.var i))) (tCons (rd X.K (ev e)) tNil) σ H (fun _ H' => D.nx σ H') := by
  obtain ⟨c, gT, gF, ρ, s, P, q⟩ := h
  rw [exS] at q
  obtain ⟨r, s1, e1, q⟩ := withV_fin q
  split at q <;> first | (exact q.elim) | skip
  rename_i l hs
  split at q <;> first | (exact q.elim) | skip
  rename_i hb
  have hs' := getD_ow hs
  refine ⟨c, gT, gF, ρ, s, .bo i (.lst l), s, P, by rw [ev, hs]; rfl, fun v H1 P1 V1 => ?_⟩
  obtain ⟨a, rfl, h1, _⟩ := V1
  have at_ : ∀ {gT gF H s}, Pt X.K c gT gF σ H ρ s → ∃ xs, H a = some (.lst xs) ∧ xs.length = l.length := fun P => by
    obtain ⟨T, F, o⟩ := P
    obtain ⟨b, h3, h4, _⟩ := o.sl.ow i _ hs'
    rw [h1] at h3; cases h3
    obtain ⟨_, xs, z, q1, t⟩ := o.B.top_at h4
    cases z
    exact ⟨xs, q1, t.length⟩
  obtain ⟨xs0, hx0, _⟩ := at_ P1
  refine ⟨.inl ⟨rfl, xs0, SqL.of hx0⟩, c, gT, gF, ρ, s, r, s1, P1, e1, fun v H2 P2 V2 => ?_⟩
  obtain ⟨xs, hx, hl⟩ := at_ P2
  have P3 := Pt.share1 P2 V2 hb.1
  refine ⟨a, xs, v, rfl, rfl, hx, by rw [hl]; exact LIM_line hb.2, ?_⟩
  have P4 := Pt.mutSlot (ds := l ++ [r.d]) (ys := xs ++ [v]) P3 hs' h1 hx fun O hm t => t.append (Reps.cons (hm _ _ List.mem_cons_self) Reps.nil)
  exact q _ _ (P4.less (fun p hp => List.mem_cons_of_mem _ hp) (List.Sublist.refl _))
theorem ps_appE (ok : CtxOk X mc) {i : Nat} {e : E} {x : Str} {p ap cp pos : Pos} {v : Expr} (hk : okE (lvOf X) e) (hx : mtE (.var i) mc (.Name x p) = true) (hl : (ap.endLine == cp.line) = true) (hv : plainE v = true) (he : mtE e mc v = true) :
    PS X (.Expr (.Call (.Attribute (.Name x p) "append" ap) [v] [] cp) pos) (rdS X.K (exS (.app i e))) := by
  have pv := ((snd_all (.var i)).1 X mc ok trivial |>.1 _ hx).pe
  have pe := ((snd_all e).1 X mc ok hk |>.1 _ he).pe
  have st := star_cons (env := X.env) (es := []) hv
  exact (ps_expr (pe_bm PySem.F.plainAttrs_list PySem.F.slot_list_append PySem.F.type_list_append mt_append pv (pa_cons pe pa_nil st) rfl (few1 hv) hl st rfl)).via fun D σ H q => app_rd q
theorem ext_rd {i : Nat} {e : E} {D : Ends} {σ : L2.St} {H : Hp} (h : rdS X.K (exS (.ext i e)) D σ H) : tBM X.K "list" rExtend (rd X.K (ev (.var i))) (tCons (rd X.K (ev e)) tNil) σ H (fun _ H' => D.nx σ H') := by
  obtain ⟨c, gT, gF, ρ, s, P, q⟩ := h
  rw [exS] at q
  obtain ⟨r, s1, e1, q⟩ := withV_fin q
  split at q <;> first | (exact q.elim) | skip
  rename_i l hs
  split at q <;> first | (exact q.elim) | skip
  rename_i m hm
  split at q <;> first | (exact q.elim) | skip
  rename_i hb
  have hs' := getD_ow hs
  refine ⟨c, gT, gF, ρ, s, .bo i (.lst l), s, P, by rw [ev, hs]; rfl, fun v H1 P1 V1 => ?_⟩
  obtain ⟨a, rfl, h1, _⟩ := V1
  have at_ : ∀ {gT gF H s}, Pt X.K c gT gF σ H ρ s → ∃ xs, H a = some (.lst xs) ∧ xs.length = l.length := fun P => by
    obtain ⟨T, F, o⟩ := P
    obtain ⟨b, h3, h4, _⟩ := o.sl.ow i _ hs'
    rw [h1] at h3; cases h3
    obtain ⟨_, xs, z, q1, t⟩ := o.B.top_at h4
    cases z
    exact ⟨xs, q1, t.length⟩
  obtain ⟨xs0, hx0, _⟩ := at_ P1
  refine ⟨.inl ⟨rfl, xs0, SqL.of hx0⟩, c, gT, gF, ρ, s, r, s1, P1, e1, fun v H2 P2 V2 => ?_⟩
  obtain ⟨xs, hx, hl⟩ := at_ P2
  have P3 := Pt.share1 P2 V2 hb.1
  rw [hm] at P3
  have : ∃ b zs, v = .ref b ∧ H2 b = some (.lst zs) ∧ zs.length = m.length := by
    obtain ⟨T, F, o⟩ := P3
    have r := o.B.tT _ (o.hT _ List.mem_cons_self)
    rw [Rep] at r
    obtain ⟨b, zs, e, _, hz, t⟩ := r
    exact ⟨b, zs, e, hz, t.length⟩
  obtain ⟨b, zs, rfl, hz, hlz⟩ := this
  refine ⟨a, b, xs, zs, rfl, rfl, hx, hz, by rw [hl, hlz, sizeLine_eq]; have := hb.2; unfold LIM at this; omega, ?_⟩
  have P4 := Pt.mutSlot (ds := l ++ m) (ys := xs ++ zs) P3 hs' h1 hx fun O hm t => by
    have r := hm _ _ List.mem_cons_self
    rw [Rep] at r
    obtain ⟨b', zs', e, _, hz', t'⟩ := r
    cases e
    rw [hz] at hz'
    cases hz'
    exact t.append t'
  exact q _ _ (P4.less (fun p hp => List.mem_cons_of_mem _ hp) (List.Sublist.refl _))
theorem ps_extE (ok : CtxOk X mc) {i : Nat} {e : E} {x : Str} {p ap cp pos : Pos} {v : Expr} (hk : okE (lvOf X) e) (hx : mtE (.var i) mc (.Name x p) = true) (hl : (ap.endLine == cp.line) = true) (hv : plainE v = true) (he : mtE e mc v = true) :
    PS X (.Expr (.Call (.Attribute (.Name x p) "extend" ap) [v] [] cp) pos) (rdS X.K (exS (.ext i e))) := by
  have pv := ((snd_all (.var i)).1 X mc ok trivial |>.1 _ hx).pe
  have pe := ((snd_all e).1 X mc ok hk |>.1 _ he).pe
  have st := star_cons (env := X.env) (es := []) hv
  exact (ps_expr (pe_bm PySem.F.plainAttrs_list PySem.F.slot_list_extend PySem.F.type_list_extend mt_extend pv (pa_cons pe pa_nil st) rfl (few1 hv) hl st rfl)).via fun D σ H q => ext_rd q
/-! ### xs[k] = e -/
theorem seti_rd {i : Nat} {k e : E} {D : Ends} {σ : L2.St} {H : Hp} (h : rdS X.K (exS (.seti i k e)) D σ H) : rd X.K (ev e) σ H fun v H' => gSub (rd X.K (ev (.var i))) (rd X.K (ev k)) rSetL v σ H' D.nx := by
  obtain ⟨c, gT, gF, ρ, s, P, q⟩ := h
  rw [exS] at q
  obtain ⟨r, s1, e1, q⟩ := withV_fin q
  obtain ⟨z, s2, e2, q⟩ := withV_fin q
  split at q <;> first | (exact q.elim) | skip
  rename_i l n hs hz
  split at q <;> first | (exact q.elim) | skip
  rename_i j hj
  split at q <;> first | (exact q.elim) | skip
  rename_i hb
  have hs' := getD_ow hs
  refine ⟨c, gT, gF, ρ, s, r, s1, P, e1, fun v H1 P1 V1 => ?_⟩
  have P1' := Pt.share1 P1 V1 hb
  refine ⟨c, _, gF, ρ, s1, .bo i (.lst l), s1, P1', by rw [ev, hs]; rfl, fun o H2 P2 V2 => ?_⟩
  obtain ⟨a, rfl, h1, _⟩ := V2
  refine ⟨c, _, gF, ρ, s1, z, s2, P2, e2, fun u H3 P3 V3 => ?_⟩
  have hu : u = .int n := by
    obtain ⟨T, F, o⟩ := P3
    have t := o.tv V3.hd
    rw [hz] at t
    exact t.int
  have P4 := P3.less (gT' := (r.d, v) :: gT) (fun p hp => z.subT u _ p hp) (z.subF u gF)
  have : ∃ xs, H3 a = some (.lst xs) ∧ xs.length = l.length := by
    obtain ⟨T, F, o⟩ := P4
    obtain ⟨b, h3, h4, _⟩ := o.sl.ow i _ hs'
    rw [h1] at h3; cases h3
    obtain ⟨_, xs, z, q1, t⟩ := o.B.top_at h4
    cases z
    exact ⟨xs, q1, t.length⟩
  obtain ⟨xs, hx, hl⟩ := this
  refine ⟨a, xs, n, j, rfl, hu, hx, by rw [hl]; exact hj, ?_⟩
  have P5 := Pt.mutSlot (ds := l.set j r.d) (ys := xs.set j v) P4 hs' h1 hx fun O hm t => t.set j (hm _ _ List.mem_cons_self)
  exact q _ _ (P5.less (fun p hp => List.mem_cons_of_mem _ hp) (List.Sublist.refl _))
theorem ps_setiE (ok : CtxOk X mc) {i : Nat} {k e : E} {x : Str} {p p2 pos : Pos} {y v : Expr} (hk : okE (lvOf X) k) (hke : okE (lvOf X) e) (hx : mtE (.var i) mc (.Name x p) = true) (hy : plainE y = true) (hi : mtE k mc y = true) (he : mtE e mc v = true) :
    PS X (.Assign [.Subscript (.Name x p) y p2] v pos) (rdS X.K (exS (.seti i k e))) := by
  have pv := ((snd_all (.var i)).1 X mc ok trivial |>.1 _ hx).pe
  have pk := ((snd_all k).1 X mc ok hk |>.1 _ hi).pe
  have pe := ((snd_all e).1 X mc ok hke |>.1 _ he).pe
  refine (ps_asg pe (pg_sub pv pk set_list (by cases y <;> first | (intro _; rfl) | cases hy)) ?_ ?_).via fun D σ H q => seti_rd q
  · cases v <;> rfl
  · cases v <;> rfl
end
end RS
end
section
set_option Elab.async false
set_option linter.all false
set_option maxRecDepth 100000
set_option autoImplicit false
set_option maxHeartbeats 4000000
/-! RSStmt3b: the draws' state written. -/
namespace RS
open PySem L2
section
variable {X : Cx} {mc : MC}
theorem ps_stPut (ok : CtxOk X mc) {i : Nat} {e : E} {x : Str} {p p2 p3 pos : Pos} {n : Nat} {v : Expr} (hk : okE (lvOf X) e) (h : nmB mc i (.Name x p) = true) (he : mtE e mc v = true) :
    PS X (.Assign [.Subscript (.Name x p) (.Constant (.str "at") n p2) p3] v pos) (rdS X.K (exS (.stPut i e))) := by
  have pe := ((snd_all e).1 X mc ok hk |>.1 _ he).pe
  refine (ps_dput (by have := ok.un; omega) (nm_eq ok h) pe_str pe (by cases v <;> rfl)).via fun D σ H h => ?_
  obtain ⟨c, gT, gF, ρ, s, P, q⟩ := h
  rw [exS] at q
  obtain ⟨r, s1, e1, q⟩ := withV_fin q
  split at q <;> first | (exact q.elim) | skip
  rename_i hs
  split at q <;> first | (exact q.elim) | skip
  rename_i s2 hp
  unfold putAt at hp
  split at hp <;> first | (cases hp; done) | skip
  rename_i m hd
  split at hp <;> first | (cases hp; done) | skip
  rename_i h0
  cases hp
  refine ⟨c, gT, gF, ρ, s, r, s1, P, e1, fun v H1 P1 V1 => ⟨.ref c.aS, P1.isSt hs, ?_⟩⟩
  obtain ⟨T, F, o⟩ := id P1
  have t := o.tv V1.hd
  rw [hd] at t
  refine ⟨c.aS, _, rfl, DPut.k (k := (.inr "at" : Key)) o.B.st.dict (by rw [sizeLine_eq]; show 3 < _; omega), ?_⟩
  obtain ⟨T, F, o⟩ := P1.less (gT' := gT) (r.subT v gT) (r.subF v gF)
  refine q σ _ (o.state ?_)
  have B := o.B.putState (n := m.toNat)
  rw [t.int]
  have em : (m.toNat : Int) = m := by omega
  rw [em] at B
  exact B
theorem ps_stPutLeft (ok : CtxOk X mc) {i : Nat} {k e : E} {x : Str} {p p2 p3 p4 pos : Pos} {n : Nat} {y v : Expr} (hk : okE (lvOf X) k) (hke : okE (lvOf X) e) (h : nmB mc i (.Name x p) = true) (hy : plainE y = true) (hi : mtE k mc y = true) (he : mtE e mc v = true) :
    PS X (.Assign [.Subscript (.Subscript (.Name x p) (.Constant (.str "lefts") n p2) p3) y p4] v pos) (rdS X.K (exS (.stPutLeft i k e))) := by
  have pe := ((snd_all e).1 X mc ok hke |>.1 _ he).pe
  have pk := ((snd_all k).1 X mc ok hk |>.1 _ hi).pe
  refine (ps_asg pe (pg_sub (pe_st ok h) pk set_list (by cases y <;> first | (intro _; rfl) | cases hy)) (by cases v <;> rfl) (by cases v <;> rfl)).via fun D σ H h => ?_
  obtain ⟨c, gT, gF, ρ, s, P, q⟩ := h
  rw [exS] at q
  obtain ⟨r, s1, e1, q⟩ := withV_fin q
  obtain ⟨z, s2, e2, q⟩ := withV_fin q
  split at q <;> first | (exact q.elim) | skip
  rename_i hs
  split at q <;> first | (exact q.elim) | skip
  rename_i s3 hp
  unfold putLeft at hp
  split at hp <;> first | (cases hp; done) | skip
  rename_i m xx hm hx
  rw [Option.map_eq_some_iff] at hp
  obtain ⟨j, hj, rfl⟩ := hp
  refine ⟨c, gT, gF, ρ, s, r, s1, P, e1, fun v H1 P1 V1 => ?_⟩
  refine rd_st (f := fun _ c => .ref c.aL) (fun _ _ => rfl) ⟨c, _, _, ρ, s1, P1, hs, ?_⟩
  have hv : v = .int xx := by
    obtain ⟨T, F, o⟩ := P1
    have t := o.tv V1.hd
    rw [hx] at t
    exact t.int
  refine ⟨c, _, _, ρ, s1, z, s2, P1, e2, fun u H3 P3 V3 => ?_⟩
  obtain ⟨T, F, o⟩ := id P3
  have t := o.tv V3.hd
  rw [hm] at t
  refine ⟨c.aL, _, m, j, rfl, t.int, o.B.st.lefts, by rw [List.length_map]; exact hj, ?_⟩
  obtain ⟨T, F, o⟩ := P3.less (gT' := gT) (gF' := gF) (fun p hp => z.subT u _ p (r.subT v gT p hp)) ((r.subF v gF).trans (z.subF u _))
  refine q σ _ (o.state ?_)
  have B := o.B.putLefts (ls := s2.lefts.set j xx) (by simp)
  rw [List.map_set] at B
  rw [hv]
  exact B
end
end RS
end
section
set_option Elab.async false
set_option linter.all false
set_option maxRecDepth 100000
set_option autoImplicit false
set_option maxHeartbeats 4000000
/-! RSStmt4: blocks, tests, loops; all statements. -/
namespace RS
open PySem L2
section
variable {K : PySem.W.Frag} {c : Cfg} {gT gT' : Shd} {gF gF' : Own} {σ σ' : L2.St} {H H' : Hp} {ρ ρ' : Env} {s s' : OSt} {T : Shd} {F : Own}
theorem Rs.exT_sub {r : Rs} {v : V} (h : ∀ p ∈ gT, p ∈ gT') : ∀ p ∈ r.exT v gT, p ∈ r.exT v gT' := by
  intro p hp
  cases r with
  | sh d =>
    rcases List.mem_cons.mp hp with e | hp
    · rw [e]; exact List.mem_cons_self
    · exact List.mem_cons_of_mem _ (h p hp)
  | fr d => exact h p hp
  | bo i d => exact h p hp
/-- more may be held -/
theorem Fin.up {D : Ends} {o : Out} (h : Fin K c gT gF D o) (h1 : ∀ p ∈ gT, p ∈ gT') : Fin K c gT' gF D o := by
  cases o with
  | nx ρ s => exact fun σ H P => h σ H (P.less h1 (List.Sublist.refl _))
  | bk ρ s => exact fun σ H P => h σ H (P.less h1 (List.Sublist.refl _))
  | ct ρ s => exact fun σ H P => h σ H (P.less h1 (List.Sublist.refl _))
  | rt r s => exact ⟨h.1, fun v σ ρ H P V => h.2 v σ ρ H (P.less (Rs.exT_sub h1) (List.Sublist.refl _)) V⟩
  | exc => exact h
  | no => exact h
/-- what a loop's turn comes to -/
theorem Fin.turn {D : Ends} {N : L2.St → Hp → Prop} {o : Out} {k : Env → OSt → Out} (h : Fin K c gT gF D (match o with | .nx ρ1 s1 => k ρ1 s1 | .ct ρ1 s1 => k ρ1 s1 | .bk ρ1 s1 => .nx ρ1 s1 | .rt r s1 => .rt r s1 | .exc c d s1 => .exc c d s1 | .no => .no))
    (hN : ∀ σ H ρ1 s1, Pt K c gT gF σ H ρ1 s1 → Fin K c gT gF D (k ρ1 s1) → N σ H) : Fin K c gT gF { D with nx := N, ct := N, bk := D.nx } o := by
  cases o with
  | nx ρ s => exact fun σ H P => hN σ H ρ s P h
  | ct ρ s => exact fun σ H P => hN σ H ρ s P h
  | bk ρ s => exact h
  | rt r s => exact h
  | exc => exact h
  | no => exact h
end
section
variable {X : Cx} {mc : MC}
theorem seq_rd {a b : S} {D : Ends} {σ : L2.St} {H : Hp} (h : rdS X.K (exS (.seq a b)) D σ H) : tSeq (rdS X.K (exS a)) (rdS X.K (exS b)) D σ H := by
  obtain ⟨c, gT, gF, ρ, s, P, q⟩ := h
  refine ⟨c, gT, gF, ρ, s, P, ?_⟩
  rw [exS] at q
  cases e : exS a ρ s with
  | nx ρ1 s1 => rw [e] at q; exact fun σ H P => ⟨c, gT, gF, ρ1, s1, P, q⟩
  | bk ρ1 s1 => rw [e] at q; exact q
  | ct ρ1 s1 => rw [e] at q; exact q
  | rt r s1 => rw [e] at q; exact q
  | exc => rw [e] at q; exact q
  | no => rw [e] at q; exact q
theorem setE_same {ρ : Env} {i : Nat} {x : Slot} (h : ρ[i]? = some x) : ρ.set i x = ρ := by
  apply List.ext_getElem?
  intro j
  rw [List.getElem?_set]
  split
  · rename_i e; subst e
    split
    · exact h.symm
    · rename_i hl; rw [List.getElem?_eq_none (by omega)] at h; cases h
  · rfl
theorem share_rd {i : Nat} {b : S} {D : Ends} {σ : L2.St} {H : Hp} (h : rdS X.K (exS (.seq (.share i) b)) D σ H) : rdS X.K (exS b) D σ H := by
  obtain ⟨c, gT, gF, ρ, s, P, q⟩ := h
  rw [exS, exS] at q
  cases e : ρ.getD i .no with
  | no => rw [e] at q; exact q.elim
  | sh d =>
    rw [e] at q
    dsimp only at q
    rw [setE_same (getD_sh e)] at q
    exact ⟨c, gT, gF, ρ, s, P, q⟩
  | ow d =>
    rw [e] at q
    exact ⟨c, gT, gF, _, s, P.shareSlot (getD_ow e), q⟩
theorem ret_rd {e : E} {D : Ends} {σ : L2.St} {H : Hp} (h : rdS X.K (exS (.ret e)) D σ H) : rd X.K (ev e) σ H D.rt := by
  obtain ⟨c, gT, gF, ρ, s, P, q⟩ := h
  rw [exS] at q
  obtain ⟨r, s1, e1, q⟩ := withV_fin q
  refine ⟨c, gT, gF, ρ, s, r, s1, P, e1, fun v H' P' V => ?_⟩
  cases r with
  | sh d => exact q.2 v σ ρ H' P' trivial
  | fr d => exact q.2 v σ ρ H' P' V
  | bo i d =>
    obtain ⟨a, rfl, h1, h2⟩ := V
    exact q.2 _ σ _ H' (Pt.lend P' h2 h1) ⟨a, rfl⟩
theorem if_rd {e : E} {a b : S} {D : Ends} {σ : L2.St} {H : Hp} (h : rdS X.K (exS (.ife e a b)) D σ H) : tIfS (rdT X.K (ev e)) (rdS X.K (exS a)) (rdS X.K (exS b)) D σ H := by
  obtain ⟨c, gT, gF, ρ, s, P, q⟩ := h
  rw [exS] at q
  obtain ⟨r, s1, e1, q⟩ := withV_fin q
  split at q <;> first | (exact q.elim) | skip
  · exact ⟨c, gT, gF, ρ, s, true, s1, P, e1, fun H' P' => by dsimp only; rw [if_pos rfl]; exact ⟨c, gT, gF, ρ, s1, P', q⟩⟩
  · exact ⟨c, gT, gF, ρ, s, false, s1, P, e1, fun H' P' => by dsimp only; rw [if_neg (by simp)]; exact ⟨c, gT, gF, ρ, s1, P', q⟩⟩
theorem expr_rd {e : E} {D : Ends} {σ : L2.St} {H : Hp} (h : rdS X.K (exS (.expr e)) D σ H) : tDrop (rd X.K (ev e)) D σ H := by
  obtain ⟨c, gT, gF, ρ, s, P, q⟩ := h
  rw [exS] at q
  obtain ⟨r, s1, e1, q⟩ := withV_fin q
  exact ⟨c, gT, gF, ρ, s, r, s1, P, e1, fun v H' P' V => q _ _ (P'.less (r.subT v gT) (r.subF v gF))⟩
def stepF (tg : Tg) (b : S) (d : D) (ρ : Env) (s : OSt) : Out := match bindTg tg d ρ with
  | some ρ1 => exS b ρ1 s
  | none => .no
theorem for_rd {tg : Tg} {it : E} {b : S} {D : Ends} {σ : L2.St} {H : Hp} (h : rdS X.K (exS (.for tg it b)) D σ H) : tFor (rdI X.K (evI it)) (rdG X.K tg) (rdS X.K (exS b)) D σ H := by
  obtain ⟨c, gT, gF, ρ, s, P, q⟩ := h
  rw [exS] at q
  split at q <;> first | (exact q.elim) | skip
  rename_i items s1 e1
  have q : Fin X.K c gT gF D (forL (stepF tg b) items ρ s1) := q
  refine ⟨c, gT, gF, ρ, s, items, none, s1, P, e1, fun J H1 gT1 gF1 ρ1 hb _ hsub P1 wk => ?_⟩
  obtain ⟨rfl, rfl⟩ := hb rfl
  have q := q.up hsub
  refine ⟨fun i m σ H => m = items.length - i ∧ i ≤ items.length ∧ ∃ ρ s, Pt X.K c gT1 gF1 σ H ρ s ∧ Fin X.K c gT1 gF1 D (forL (stepF tg b) (items.drop i) ρ s), ⟨items.length, rfl, Nat.zero_le _, ρ1, s1, P1, q⟩, ?_⟩
  rintro i m σ H ⟨rfl, hi, ρ, s, P, q⟩
  by_cases hlt : i < items.length
  · refine .inr ⟨wk.goes i hlt _ _ _ _ _ _ (fun _ h => h) (fun _ h => h) P, fun σ' H' => i + 1 ≤ items.length ∧ ∃ ρ s, Pt X.K c gT1 gF1 σ' H' ρ s ∧ Fin X.K c gT1 gF1 D (forL (stepF tg b) (items.drop (i + 1)) ρ s), fun σ' H' w => ⟨items.length - (i + 1), by omega, rfl, w.1, w.2⟩, fun x H' y => ?_⟩
    have hd : items[i]? = some items[i] := List.getElem?_eq_getElem hlt
    have P2 := wk.yields i _ hd _ _ _ _ _ _ x H' (fun _ h => h) (fun _ h => h) P y
    rw [List.drop_eq_getElem_cons hlt, forL] at q
    unfold stepF at q
    cases hb : bindTg tg items[i] ρ with
    | none => rw [hb] at q; exact q.elim
    | some ρ1 =>
      rw [hb] at q
      refine ⟨c, _, gF1, ρ, s, _, ρ1, P2, List.mem_cons_self, hb, fun σ' P3 _ => ⟨c, gT1, gF1, ρ1, s, P3.less (fun p hp => List.mem_cons_of_mem _ hp) (List.Sublist.refl _), ?_⟩⟩
      exact Fin.turn q fun σ H ρ1 s1 P4 q4 => ⟨hlt, ρ1, s1, P4, q4⟩
  · have hi' : i = items.length := by omega
    subst hi'
    rw [List.drop_length, forL] at q
    exact .inl ⟨wk.stops _ _ _ _ _ _ (fun _ h => h) (fun _ h => h) P, q σ H P⟩
theorem whl_rd {n : Nat} {e : E} {b : S} {D : Ends} {σ : L2.St} {H : Hp} (h : rdS X.K (exS (.whl n e b)) D σ H) : tWhile (rdT X.K (ev e)) (rdS X.K (exS b)) D σ H := by
  obtain ⟨c, gT, gF, ρ, s, P, q⟩ := h
  rw [exS] at q
  refine ⟨fun m σ H => ∃ ρ s, Pt X.K c gT gF σ H ρ s ∧ Fin X.K c gT gF D (whlL (fun ρ s => ev e ρ s) (fun ρ s => exS b ρ s) m ρ s), ⟨n, ρ, s, P, q⟩, ?_⟩
  rintro m σ H ⟨ρ, s, P, q⟩
  cases m with
  | zero => rw [whlL] at q; exact q.elim
  | succ m =>
    rw [whlL] at q
    split at q <;> first | (exact q.elim) | skip
    · rename_i s1 e1
      refine ⟨c, gT, gF, ρ, s, true, s1, P, e1, fun H1 P1 => ?_⟩
      show (if true = true then _ else _)
      rw [if_pos rfl]
      exact ⟨fun σ' H' => ∃ ρ s, Pt X.K c gT gF σ' H' ρ s ∧ Fin X.K c gT gF D (whlL (fun ρ s => ev e ρ s) (fun ρ s => exS b ρ s) m ρ s), fun σ' H' w => ⟨m, Nat.lt_succ_self m, w⟩, c, gT, gF, ρ, s1, P1, Fin.turn q fun σ H ρ1 s1 P4 q4 => ⟨ρ1, s1, P4, q4⟩⟩
    · rename_i s1 e1
      exact ⟨c, gT, gF, ρ, s, false, s1, P, e1, fun H1 P1 => by dsimp only; rw [if_neg (by simp)]; exact q _ _ P1⟩
def SndS (b : S) : Prop := ∀ (X : Cx) (mc : MC), CtxOk X mc → okS (lvOf X) b → PassesOwn (model X.prog X.w) X.A X.env X.xe →
  (∀ st, mtS b mc st = true → PS X st (rdS X.K (exS b))) ∧ (∀ sts, mtSs b mc sts = true → PSs X sts (rdS X.K (exS b)))
theorem SndS.of {b : S} (h : ∀ (X : Cx) (mc : MC), CtxOk X mc → okS (lvOf X) b → PassesOwn (model X.prog X.w) X.A X.env X.xe → ∀ st, mtS b mc st = true → PS X st (rdS X.K (exS b))) (h1 : ∀ mc l, mtSs b mc l = false) : SndS b :=
  fun X mc ok hk hp => ⟨h X mc ok hk hp, fun sts z => absurd z (by rw [h1]; simp)⟩
theorem snd_stmt (b : S) : SndS b := by
  induction b with
  | skip =>
    refine fun X mc ok hk hp => ⟨fun st h => ?_, fun sts h => ?_⟩
    · have t : ∀ D σ H, rdS X.K (exS .skip) D σ H → tNext D σ H := fun D σ H ⟨c, gT, gF, ρ, s, P, q⟩ => q _ _ P
      cases st <;> first | (simp [mtS] at h; done) | skip
      · rename_i v p
        cases v <;> first | (simp [mtS] at h; done) | skip
        rename_i k n p2
        cases k <;> first | (simp [mtS] at h; done) | skip
        exact ps_doc.via t
      · exact ps_pass.via t
    · unfold mtSs at h
      cases sts with
      | nil => exact pss_nil.via fun D σ H ⟨c, gT, gF, ρ, s, P, q⟩ => q _ _ P
      | cons => cases h
  | seq a b iha ihb =>
    refine fun X mc ok hk hp => ⟨fun st h => by simp [mtS] at h, fun sts h => ?_⟩
    by_cases hs : ∃ i, a = .share i
    · obtain ⟨i, rfl⟩ := hs
      unfold mtSs at h
      exact ((ihb X mc ok hk.2 hp).2 sts h).via fun D σ H q => share_rd q
    · have h' : ∃ st r, sts = st :: r ∧ mtS a mc st = true ∧ mtSs b mc r = true := by
        unfold mtSs at h
        split at h
        · exact (hs ⟨_, rfl⟩).elim
        · split at h
          · rw [Bool.and_eq_true] at h
            exact ⟨_, _, rfl, h.1, h.2⟩
          · cases h
      obtain ⟨st, r, rfl, h1, h2⟩ := h'
      exact (pss_cons ((iha X mc ok hk.1 hp).1 _ h1) ((ihb X mc ok hk.2 hp).2 _ h2)).via fun D σ H q => seq_rd q
  | asg i e =>
    refine .of (fun X mc ok hk hp st h => ?_) (by intro mc l; simp [mtSs])
    unfold mtS at h
    split at h <;> first | (cases h; done) | skip
    all_goals first | (rename_i heq; cases heq; done) | skip
    rename_i heq
    cases heq
    simp only [Bool.and_eq_true] at h
    exact ps_asgE ok hk (of_decide_eq_true h.1.1.1) h.1.1.2 h.1.2 h.2
  | asgS i e =>
    refine .of (fun X mc ok hk hp st h => ?_) (by intro mc l; simp [mtSs])
    unfold mtS at h
    split at h <;> first | (cases h; done) | skip
    all_goals first | (rename_i heq; cases heq; done) | skip
    rename_i heq
    cases heq
    simp only [Bool.and_eq_true] at h
    exact ps_asgSE ok hk (of_decide_eq_true h.1.1.1) h.1.1.2 h.1.2 h.2
  | asgT tg e =>
    refine .of (fun X mc ok hk hp st h => ?_) (by intro mc l; simp [mtSs])
    unfold mtS at h
    split at h <;> first | (cases h; done) | skip
    all_goals first | (rename_i heq; cases heq; done) | skip
    rename_i heq
    cases heq
    simp only [Bool.and_eq_true] at h
    exact ps_asgTE ok hk h.1.1 h.1.2 h.2
  | par is es =>
    refine .of (fun X mc ok hk hp st h => ?_) (by intro mc l; simp [mtSs])
    unfold mtS at h
    split at h <;> first | (cases h; done) | skip
    all_goals first | (rename_i heq; cases heq; done) | skip
    · rename_i heq
      cases heq
      simp only [Bool.and_eq_true, Bool.not_eq_true'] at h
      obtain ⟨⟨⟨⟨⟨⟨⟨⟨⟨⟨h1, h2⟩, h3⟩, h4⟩, h5⟩, h6⟩, _⟩, h7⟩, h8⟩, h9⟩, h10⟩ := h
      exact ps_par2E ok hk (of_decide_eq_true h1) (of_decide_eq_true h2) (of_decide_eq_true h3) (of_decide_eq_true h4) h5 h6 h7 h8 h9 h10
    · rename_i heq
      cases heq
      simp only [Bool.and_eq_true, Bool.not_eq_true'] at h
      obtain ⟨⟨⟨⟨⟨⟨⟨⟨⟨⟨⟨⟨⟨⟨⟨⟨h1, h2⟩, h3⟩, h4⟩, h5⟩, h6⟩, h7⟩, h8⟩, h9⟩, h10⟩, h11⟩, h12⟩, h13⟩, h14⟩, h15⟩, h16⟩, h17⟩ := h
      exact ps_par3E ok hk (of_decide_eq_true h1) (of_decide_eq_true h2) (of_decide_eq_true h3) (of_decide_eq_true h4) (of_decide_eq_true h5) (of_decide_eq_true h6) (of_decide_eq_true h7) (of_decide_eq_true h8) (of_decide_eq_true h9) h10 h11 h12 h13 h14 h15 h16 h17
  | app i e =>
    refine .of (fun X mc ok hk hp st h => ?_) (by intro mc l; simp [mtSs])
    unfold mtS at h
    split at h <;> first | (cases h; done) | skip
    all_goals first | (rename_i heq; cases heq; done) | skip
    rename_i heq
    cases heq
    simp only [Bool.and_eq_true] at h
    obtain ⟨⟨⟨⟨h1, h2⟩, h3⟩, h4⟩, h5⟩ := h
    cases strIs_eq h2
    exact ps_appE ok hk h1 h3 h4 h5
  | ext i e =>
    refine .of (fun X mc ok hk hp st h => ?_) (by intro mc l; simp [mtSs])
    unfold mtS at h
    split at h <;> first | (cases h; done) | skip
    all_goals first | (rename_i heq; cases heq; done) | skip
    rename_i heq
    cases heq
    simp only [Bool.and_eq_true] at h
    obtain ⟨⟨⟨⟨h1, h2⟩, h3⟩, h4⟩, h5⟩ := h
    cases strIs_eq h2
    exact ps_extE ok hk h1 h3 h4 h5
  | seti i k e =>
    refine .of (fun X mc ok hk hp st h => ?_) (by intro mc l; simp [mtSs])
    unfold mtS at h
    split at h <;> first | (cases h; done) | skip
    all_goals first | (rename_i heq; cases heq; done) | skip
    rename_i heq
    cases heq
    simp only [Bool.and_eq_true] at h
    obtain ⟨⟨⟨h1, h2⟩, h3⟩, h4⟩ := h
    exact ps_setiE ok hk.1 hk.2 h1 h2 h3 h4
  | expr e =>
    refine .of (fun X mc ok hk hp st h => ?_) (by intro mc l; simp [mtSs])
    cases st <;> first | (simp [mtS] at h; done) | skip
    rename_i v pos
    rw [mtS, Bool.and_eq_true] at h
    have sw : swapsWith v none pos.line X.env = pure false := by
      obtain ⟨_, h⟩ := h
      cases v <;> first | rfl | (cases h; done)
    exact (ps_expr ((snd_all e).1 X mc ok hk |>.1 _ h.1).pe sw).via fun D σ H q => expr_rd q
  | ret e =>
    refine .of (fun X mc ok hk hp st h => ?_) (by intro mc l; simp [mtSs])
    cases st <;> first | (simp [mtS] at h; done) | skip
    rename_i v pos
    cases v with
    | some v =>
      rw [mtS] at h
      exact (ps_ret ((snd_all e).1 X mc ok hk |>.1 _ h).pe).via fun D σ H q => ret_rd q
    | none =>
      have he : e = .con .non := by
        unfold mtS at h
        split at h <;> first | (cases h; done) | skip
        all_goals first | (rename_i heq heq2; cases heq; done) | (rename_i heq; cases heq; done) | skip
        all_goals (injection ‹S.ret e = S.ret (E.con D.non)›)
      subst he
      refine ps_retN.via fun D σ H ⟨c, gT, gF, ρ, s, P, q⟩ => ?_
      rw [exS, ev] at q
      obtain ⟨T, F, o⟩ := P
      exact q.2 .non σ ρ H ⟨_, _, o.addT (by rw [Rep])⟩ trivial
  | ife c a b iha ihb =>
    refine .of (fun X mc ok hk hp st h => ?_) (by intro mc l; simp [mtSs])
    cases st <;> first | (simp [mtS] at h; done) | skip
    rw [mtS, Bool.and_eq_true, Bool.and_eq_true] at h
    exact (ps_if ((snd_all c).1 X mc ok hk.1 |>.1 _ h.1.1).pt ((iha X mc ok hk.2.1 hp).2 _ h.1.2) ((ihb X mc ok hk.2.2 hp).2 _ h.2)).via fun D σ H q => if_rd q
  | «for» tg it b ihb =>
    refine .of (fun X mc ok hk hp st h => ?_) (by intro mc l; simp [mtSs])
    cases st <;> first | (simp [mtS] at h; done) | skip
    rename_i t x l r pos
    cases r with
    | cons _ _ => simp [mtS] at h
    | nil =>
      rw [mtS, Bool.and_eq_true, Bool.and_eq_true] at h
      have L := ((snd_all it).1 X mc ok hk.1).2.2 _ _ h.1.2
      exact (ps_for hp ok.calm L.1 ((tg_ok ok tg).1 _ h.1.1) ((ihb X mc ok hk.2 hp).2 _ h.2) L.2).via fun D σ H q => for_rd q
  | whl n c b ihb =>
    refine .of (fun X mc ok hk hp st h => ?_) (by intro mc l; simp [mtSs])
    cases st <;> first | (simp [mtS] at h; done) | skip
    rename_i x l r pos
    cases r with
    | cons _ _ => simp [mtS] at h
    | nil =>
      rw [mtS, Bool.and_eq_true] at h
      exact (ps_while hp ((snd_all c).1 X mc ok hk.1 |>.1 _ h.1).pt ((ihb X mc ok hk.2 hp).2 _ h.2)).via fun D σ H q => whl_rd q
  | brk =>
    refine .of (fun X mc ok hk hp st h => ?_) (by intro mc l; simp [mtSs])
    cases st <;> first | (simp [mtS] at h; done) | skip
    exact ps_break.via fun D σ H ⟨c, gT, gF, ρ, s, P, q⟩ => q _ _ P
  | cont =>
    refine .of (fun X mc ok hk hp st h => ?_) (by intro mc l; simp [mtSs])
    cases st <;> first | (simp [mtS] at h; done) | skip
    exact ps_continue.via fun D σ H ⟨c, gT, gF, ρ, s, P, q⟩ => q _ _ P
  | share i =>
    refine .of (fun X mc ok hk hp st h => ?_) (by intro mc l; simp [mtSs])
    simp [mtS] at h
  | never =>
    refine fun X mc ok hk hp => ⟨fun st h => ps_never.via fun D σ H ⟨c, gT, gF, ρ, s, P, q⟩ => q, fun sts h => pss_never.via fun D σ H ⟨c, gT, gF, ρ, s, P, q⟩ => q⟩
  | raise c e =>
    refine .of (fun X mc ok hk hp st h => ?_) (by intro mc l; simp [mtSs])
    refine ps_never.via fun D σ H ⟨c, gT, gF, ρ, s, P, q⟩ => ?_
    rw [exS] at q
    obtain ⟨r, s1, e1, q⟩ := withV_fin q
    split at q <;> exact q
  | stPut i e =>
    refine .of (fun X mc ok hk hp st h => ?_) (by intro mc l; simp [mtSs])
    unfold mtS at h
    split at h <;> first | (cases h; done) | skip
    all_goals first | (rename_i heq; cases heq; done) | skip
    rename_i heq
    cases heq
    simp only [Bool.and_eq_true] at h
    obtain ⟨⟨h1, h2⟩, h3⟩ := h
    cases strIs_eq h2
    exact ps_stPut ok hk h1 h3
  | stPutLeft i k e =>
    refine .of (fun X mc ok hk hp st h => ?_) (by intro mc l; simp [mtSs])
    unfold mtS at h
    split at h <;> first | (cases h; done) | skip
    all_goals first | (rename_i heq; cases heq; done) | skip
    rename_i heq
    cases heq
    simp only [Bool.and_eq_true] at h
    obtain ⟨⟨⟨⟨h1, h2⟩, h3⟩, h4⟩, h5⟩ := h
    cases strIs_eq h2
    exact ps_stPutLeft ok hk.1 hk.2 h1 h3 h4 h5
end
end RS
end
section
set_option Elab.async false
set_option linter.all false
set_option maxRecDepth 100000
set_option autoImplicit false
set_option maxHeartbeats 4000000
/-! RSDef: a def whose body matches keeps the evaluator's promise. -/
namespace RS
open PySem PySem.Spec PyProof.Rows L2
def cellB (sc : Scope) (x : Str) : Bool := true
theorem startE_len {n : Nat} {ds : List D} (h : ds.length ≤ n) : (startE n ds).length = n := by
  unfold startE; simp; omega
theorem startE_get {n : Nat} {ds : List D} {i : Nat} {x : Slot} (h : (startE n ds)[i]? = some x) (hx : x ≠ .no) : ∃ d, ds[i]? = some d ∧ x = .sh d := by
  unfold startE at h
  by_cases hi : i < ds.length
  · rw [List.getElem?_append_left (by simpa using hi), List.getElem?_map] at h
    cases hd : ds[i]? with
    | none => rw [hd] at h; cases h
    | some d => rw [hd] at h; cases h; exact ⟨d, rfl, rfl⟩
  · rw [List.getElem?_append_right (by simpa using hi), List.getElem?_replicate] at h
    split at h
    · cases h; exact (hx rfl).elim
    · cases h
theorem start_get {N : List Str} {vs : List V} {i : Nat} {v : V} (h : vs[i]? = some v) : (L2.start N vs)[i]? = some (some v) := by
  unfold L2.start
  rw [List.getElem?_append_left (by simpa using lt_of_get h), List.getElem?_map, h]; rfl
theorem start_len {N : List Str} {vs : List V} (h : vs.length ≤ N.length) : (L2.start N vs).length = N.length := by
  unfold L2.start; simp; omega
theorem Reps.zip_mem {K : PySem.W.Frag} {aS : Addr} {O : Addr → Prop} {H : Hp} : ∀ {ds : List D} {vs : List V}, Reps K aS O H ds vs → ∀ p ∈ ds.zip vs, Rep K aS O H p.1 p.2
  | [], _, _, p, hp => by simp at hp
  | d :: ds, vs, h, p, hp => by
    rw [Reps] at h
    obtain ⟨v, xs, rfl, r, t⟩ := h
    rw [List.zip_cons_cons] at hp
    rcases List.mem_cons.mp hp with e | hp
    · rw [e]; exact r
    · exact Reps.zip_mem t p hp
theorem entry {K : PySem.W.Frag} {c : Cfg} {H : Hp} {st : OSt} {ds : List D} {vs : List V} {N : List Str} (hl : vs.length ≤ N.length) (r : Reps K c.aS c.O H ds vs) (pre : Pre K c H st) :
    Pt K { c with H0 := H } [] [] (L2.start N vs) H (startE N.length ds) st := by
  have hd := r.length
  refine ⟨ds.zip vs, [], ⟨fun p hp => ?_, fun p hp => absurd hp (by simp), by simp, ?_, pre.oS, pre.trk, Keeps.refl, pre.tq⟩, fun p hp => absurd hp (by simp), fun p hp => absurd hp (by simp), by simp, ?_⟩
  · exact Rep.go (Go.less fun a ha => by
      rcases ha with z | z
      · exact z
      · simp at z) _ _ (r.zip_mem p hp)
  · exact ⟨pre.st.dict, pre.st.cells, pre.st.lefts, pre.st.ne, pre.st.len, pre.st.pos, pre.st.most, pre.st.tab⟩
  · refine ⟨by rw [startE_len (by omega), start_len hl], fun i d h => ?_, fun i d h => ?_, fun i j d e a h => ?_⟩
    · obtain ⟨d', h1, h2⟩ := startE_get h (by intro z; cases z)
      cases h2
      have hi := lt_of_get h1
      have hv : vs[i]? = some (vs[i]'(by omega)) := List.getElem?_eq_getElem (by omega)
      refine ⟨_, start_get hv, List.mem_iff_getElem?.mpr ⟨i, ?_⟩⟩
      rw [List.getElem?_zip_eq_some]
      exact ⟨h1, hv⟩
    · obtain ⟨d', _, h2⟩ := startE_get h (by intro z; cases z)
      cases h2
    · obtain ⟨d', _, h2⟩ := startE_get h (by intro z; cases z)
      cases h2
theorem Keeps.re {c : Cfg} {H0 H H' : Hp} (k : Keeps { c with H0 := H0 } H H') : Keeps c H H' := ⟨k.obj, k.there⟩
theorem StOk.re {c : Cfg} {H0 H : Hp} {s : OSt} (st : StOk { c with H0 := H0 } H s) : StOk c H s := ⟨st.dict, st.cells, st.lefts, st.ne, st.len, st.pos, st.most, st.tab⟩
theorem ends {K : PySem.W.Frag} {c : Cfg} {H : Hp} {o : Out} {r : Rs} {s' : OSt} {Q : VK} (e : endR o = .ok r s') (q : SpEnd K c H s' Q r) (hb : ∀ ρ s, o ≠ .bk ρ s ∧ o ≠ .ct ρ s) :
    Fin K { c with H0 := H } [] [] { nx := fun _ H' => Q .non H', rt := Q } o := by
  cases o with
  | nx ρ s =>
    cases e
    intro σ H' ⟨T, F, o⟩
    exact q .non H' o.B.kp.re o.B.st.re (by rw [Rep])
  | rt r' s =>
    cases e
    cases r with
    | sh d =>
      refine ⟨rfl, fun v σ ρ H' ⟨T, F, o⟩ _ => ?_⟩
      exact q v H' o.B.kp.re o.B.st.re (Rep.go (Go.less fun a ha => .inl ha) _ _ (o.B.tT _ (o.hT _ List.mem_cons_self)))
    | fr d =>
      refine ⟨rfl, fun v σ ρ H' ⟨T, F, o⟩ hv => ?_⟩
      obtain ⟨a, rfl⟩ := hv
      obtain ⟨t, n, h0⟩ := o.B.tF _ (o.hF _ List.mem_cons_self)
      refine q a H' o.B.kp.re o.B.st.re h0 (t.go (Go.less fun b hb => ?_) fun _ e => e)
      rcases hb with z | z
      · exact .inl z
      · rw [z]; exact .inr (List.mem_map.mpr ⟨_, o.hF _ List.mem_cons_self, rfl⟩)
    | bo i d => exact q.elim
  | bk ρ s => exact ((hb ρ s).1 rfl).elim
  | ct ρ s => exact ((hb ρ s).2 rfl).elim
  | exc => cases e
  | no => cases e
theorem ends' {K : PySem.W.Frag} {c : Cfg} {H : Hp} {o : Out} {r : Rs} {s' : OSt} {Q : VK} (e : endR o = .ok r s') (q : SpEnd K c H s' Q r) :
    Fin K { c with H0 := H } [] [] { nx := fun _ H' => Q .non H', rt := Q } o := ends e q fun ρ s => And.intro (fun z => by rw [z] at e; cases e) (fun z => by rw [z] at e; cases e)
/-- the code object of the def at f -/
def cdOf (K : PySem.W.Frag) (f : Addr) : Value := match K.lookup f with
  | some ⟨_, _, .func fd, _⟩ => fd.code
  | _ => .none
/-- a def of the text entered: its body's rules, and their reading at the entry -/
theorem bodyG {P : Program} {w : World} {K : PySem.W.Frag} {mg : Str → Option Value} {base : Heap} {x qual : Str} {st : Stmt} {f : Addr} {fd : FuncData} {N ps : List Str} {k : Nat} {A : Around} {outer : List PySem.Env} {s : Shared} {H : Hp} {args : Args} {us : List Value} {vs : List V} {Q : VK} {t : TS}
    (Fu : L2.Fun K x qual st f fd) (Sc : FnScope N ps (defScope st)) (room : Room (k + 1) A) (at0 : Env0 P w K mg base A outer s H) (bound : BindsTo s fd args (ps.zip us)) (rel : Vals vs us) (hn : vs.length = ps.length)
    (rules : ∀ cdv, cdv = cdOf K f → PSs (cxOf CX0 P w K mg base N qual (defScope st) f cdv A outer s H E0).nox (defBody st) t) (told : t { nx := fun _ H' => Q .non H', rt := Q } (L2.start N vs) H) :
    codeAny (model P w) A (.call (.ref f) args) (CR CX0 outer P w H s Q E0) s := by
  obtain ⟨_, _, _, _, _, _, code, _, _, rfl, look, incode⟩ := Fu.ex
  have kept : K.In s.heap := fun c o e => (at0.bs c o (at0.mod.kin c o e)).1
  have free : s.heap.NoLimit := by
    obtain ⟨m, q1, q2⟩ := at0.mod.nolimit
    exact ⟨m, q1.keeps fun c o e => (at0.bs c o e).1, q2⟩
  refine codeAny_call_function room.depth (kept _ _ look) rfl Sc.co Sc.gen rfl (PySem.W.codeRec_of kept incode) (bound _ _ _ _ ?_)
  refine wpAny_newFunctionEnv_cells Sc.kind (fun p hp => ?_) fun env he s1 entered => ?_
  · rcases Sc.par p.1 (List.of_mem_zip hp).1 with q | q
    · exact Or.inl q
    · exact Or.inr ⟨q, PySem.W.cellsFrom_some _ _ _ (Or.inl q)⟩
  · subst he
    refine ⟨free.keeps entered.toInCall.keep, codeAny_func ?_⟩
    have inv := inv_start (CX := CX0) (E := E0) (cd := code) (w := w) (P := P) (mg := mg) (base := base) (outer := outer) Sc room.hd at0 hn rel entered
    have close : ∀ {σ' : L2.St} {Hx : Hp} {v : V} {u : Value} {sx : Shared}, Inv (cxOf CX0 P w K mg base N qual (defScope st) f code A outer s H E0) [] σ' Hx sx → RelV v u → Q v Hx → CE outer P w H s Q u sx := by
      intro σ' Hx v u sx J r q
      exact ⟨v, Hx, J.os, J.bare, J.base, J.hok, r, q⟩
    refine wpAny_mono ((rules code (by unfold cdOf; rw [look])).nox.run [] s1 (L2.start N vs) H _ inv told) (fun fl sx hs => ?_) fun _ _ hs => hs
    match fl, hs with
    | .ret u, ⟨v, _, _, J, r, q⟩ => exact close J r q
    | .next, ⟨_, _, J, q⟩ => exact close (v := .non) (u := .none) J rfl q
    | .brk, ⟨_, _, _, q⟩ => exact q.elim
    | .cont, ⟨_, _, _, q⟩ => exact q.elim
/-- what a def's surroundings give -/
theorem ctxG {P : Program} {w : World} {K : PySem.W.Frag} {mg : Str → Option Value} {base : Heap} {qual : Str} {st : Stmt} {f : Addr} {N ps : List Str} {k : Nat} {A : Around} {outer : List PySem.Env} {s : Shared} {H : Hp} (cdv : Value) (Sc : FnScope N ps (defScope st)) (blt : ∀ x ∈ bltNames, mg (Str.ofString x) = none)
    (room : Room (k + 1) A) {g : Bool} (hgd : g = true → A.guards = some []) : CtxOk (cxOf CX0 P w K mg base N qual (defScope st) f cdv A outer s H E0).nox ⟨N, defScope st, fun _ => true, g⟩ :=
  ⟨Sc.nd, rfl, blt, hgd, by have := (room.deeper (envOfC qual (defScope st) s.heap.objs.size f cdv)).un; show (A.deeper _).units + 100 < _; omega, rfl, rfl, fun _ _ => rfl, Sc.kind⟩
/-- a def by its body -/
theorem fnG {P : Program} {w : World} {K : PySem.W.Frag} {mg : Str → Option Value} {base : Heap} {x qual : Str} {st : Stmt} {f : Addr} {fd : FuncData} {N ps : List Str} {k : Nat} {b : S} {g : Bool}
    (F : L2.Fun K x qual st f fd) (Sc : FnScope N ps (defScope st)) (blt : ∀ x ∈ bltNames, mg (Str.ofString x) = none) (hm : mtSs b ⟨N, defScope st, fun _ => true, g⟩ (defBody st) = true) (hk : ∀ A, Room k A → (g = true → A.guards = some []) → okS ⟨P, w, K, mg, base, A, cdOf K f, qual ++ (".<locals>." : Str)⟩ b) :
    FnG P w K mg base (k + 1) f fd ps (evFn N.length ps.length b) g := by
  refine ⟨fun A outer s H args us vs Q hr hgd e0 hb r hsp => ?_⟩
  obtain ⟨c, ds, sst, rr, st', hl, reps, pre, hev, hend⟩ := hsp
  have hpl : ps.length ≤ N.length := by have := congrArg List.length Sc.pre; rw [List.length_take] at this; omega
  unfold evFn at hev
  split at hev <;> first | (cases hev; done) | skip
  refine bodyG F Sc hr e0 hb r hl (t := rdS K (exS b)) (fun cdv hcd => ?_) ⟨_, [], [], _, sst, entry (N := N) (by omega) reps pre, ends' hev hend⟩
  subst hcd
  exact ((snd_stmt b) _ _ (ctxG _ Sc blt hr hgd) (hk _ (hr.deeper _) hgd) (fun _ _ z => z.elim)).2 _ hm
theorem evFn_len {n p : Nat} {b : S} {ds : List D} {s s' : OSt} {r : Rs} (h : evFn n p b ds s = .ok r s') : ds.length = p := by
  unfold evFn at h
  split at h
  · assumption
  · cases h
end RS
end
section
set_option Elab.async false
set_option linter.all false
set_option maxRecDepth 100000
set_option autoImplicit false
set_option maxHeartbeats 4000000
/-! RSBegin: the def that makes the draws' state. -/
namespace RS
open PySem PySem.Spec PyProof.Rows L2
def bgComp : Scope := { kind := .function, names := [(".0", .local), ("cell", .local)], isGenerator := false, isCoroutine := false, more := [] }
def bgScope : Scope := { kind := .function, names := [("script", .local), ("cells_so", .local), ("list", .globalImplicit)], isGenerator := false, isCoroutine := false, more := [("fast", .str "script"), ("fast", .str "cells_so"), ("fast", .str "cell")] }
def bgBody (p : Nat → Pos) : List Stmt :=
  [.Assign [.Name "cells_so" (p 0)] (.IfExp (.Compare (.Name "script" (p 1)) [.NotEq] [.List [] (p 2)] (p 3)) (.Call (.Name "list" (p 4)) [.Name "script" (p 5)] [] (p 6)) (.List [.Constant (.int 0) 0 (p 7)] (p 8)) (p 9)) (p 10),
   .Return (some (.Dict [some (.Constant (.str "cells") 0 (p 11)), some (.Constant (.str "lefts") 0 (p 12)), some (.Constant (.str "at") 0 (p 13))]
     [.Name "cells_so" (p 14), .ListComp (.IfExp (.Compare (.Name "cell" (p 15)) [.GtE] [.BinOp (.Constant (.int 10) 0 (p 16)) .Pow (.Constant (.int 18) 0 (p 17)) (p 18)] (p 19)) (.Name "cell" (p 20)) (.Constant (.int 0) 0 (p 21)) (p 22))
        [⟨.Name "cell" (p 23), .Name "cells_so" (p 24), [], 0⟩] bgComp (p 25), .Constant (.int 0) 0 (p 26)] (p 27))) (p 28)]
def leftOf (x : Int) : Int := if x ≥ 10 ^ 18 then x else 0
def cellsOf (ns : List Int) : List Int := if ns = [] then [0] else ns
theorem beginSt_eq (ns : List Int) : beginSt ns = ⟨cellsOf ns, (cellsOf ns).map leftOf, 0⟩ := rfl
def spBegin (K : PySem.W.Frag) : Sp := fun vs H Q _ => ∃ (a : Addr) (ns : List Int), vs = [.ref a] ∧ SqL K H a (ns.map V.int) ∧ ns.length ≤ 63 ∧ LamX.Tabs (TB K) H ∧
  ∀ aS aC aL H', H' aS = some (.dK [(.inr "cells", .ref aC), (.inr "lefts", .ref aL), (.inr "at", .int 0)]) → H' aC = some (.lst ((cellsOf ns).map V.int)) → H' aL = some (.lst (((cellsOf ns).map leftOf).map V.int)) → aC ≠ aL → LamX.Tabs (TB K) H' → Q (.ref aS) H'
def rNeN (K : PySem.W.Frag) : R2 := fun x y H Q => ∃ (a b : Addr) (ns : List Int), x = .ref a ∧ y = .ref b ∧ SqL K H a (ns.map V.int) ∧ H b = some (.lst []) ∧ Q (.bl (!ns.isEmpty)) H
theorem ints_dp {K : PySem.W.Frag} {H : Hp} : ∀ ns : List Int, DpAll K H (ns.map V.int) (D.pys (ns.map D.int))
  | [] => .nil
  | n :: ns => .cons (.int n) (ints_dp ns)
theorem ints_deep (n : Nat) : ∀ ns : List Int, D.deeps n (ns.map D.int) = true
  | [] => rfl
  | m :: ns => by rw [List.map_cons, D.deeps, D.deep, ints_deep n ns]; cases n <;> rfl
theorem op_neN {X : Cx} (hu : X.A.units + 64 < cLine) : OpR X (compareOp .NotEq) (rNeN X.K) := by
  rintro pins s σ H x y v u Q I rx ry ⟨a, b, ns, rfl, rfl, ha, hb, q⟩
  have h1 : D.deep DEEP (.lst (ns.map D.int)) = true := by show D.deep (59 + 1) _ = true; rw [D.deep]; exact ints_deep _ _
  have h2 : D.deep DEEP (.lst []) = true := rfl
  have p1 : Dp X.K H (.ref a) (D.lst (ns.map D.int)).py := by rw [D.py]; exact .lst ha (ints_dp ns)
  have p2 : Dp X.K H (.ref b) (D.lst []).py := by rw [D.py]; exact .lst (SqL.of hb) .nil
  obtain ⟨as, r1⟩ := Dp.reads I _ _ v p1 rx
  obtain ⟨bs, r2⟩ := Dp.reads I _ _ u p2 ry
  have h3 := deep_depth _ _ h1
  have h4 : DEEP = 60 := rfl
  refine SeqAt.ne_plain r1 r2 (deep_plain _ _ h1) (deep_plain _ _ h2) (by omega) ⟨.bl (!ns.isEmpty), H, I, ?_, q⟩
  rw [eqv_py _ _ _ _ h1 h2]
  cases ns <;> rfl
section
variable {X : Cx} {p : Nat → Pos}
def tLefts (K : PySem.W.Frag) : TE := tLc (iList K (tVar 1)) (gName 2) tYes (tIf (tTest (tOp (rI0 fun i j => .bl (decide (j ≤ i))) (tVar 2) (tOp (rI CPow fun i j => .int (i ^ j.toNat)) (tC (.int 10)) (tC (.int 18))))) (tVar 2) (tC (.int 0))) [2]
def tBegin (K : PySem.W.Frag) : TS := tSeq
  (tAsg (tIf (tTest (tOp (rNeN K) (tVar 0) (tLst tNil))) (tCB (fun xs H Q => ∃ p ys, xs = [.ref p] ∧ (SqL K H p ys ∨ SqT K H p ys) ∧ ∀ l, H l = none → Q (.ref l) (upd H l (.lst ys))) (tCons (tVar 0) tNil)) (tLst (tCons (tC (.int 0)) tNil))) (gName 1))
  (tRet (tDisp [(tC (.str "cells"), tVar 1), (tC (.str "lefts"), tLefts K), (tC (.str "at"), tC (.int 0))]))
theorem begin_ps (hN : X.N = (["script", "cells_so", "cell"] : List Str)) (hs : X.env.scope = bgScope) (hc : X.calm = true) (hu : X.A.units + 100 < cLine) (hf : X.fn = fun _ => true) (hl : X.mg "list" = none) : PSs X (bgBody p) (tBegin X.K) := by
  have nd : X.N.Nodup := by rw [hN]; decide
  have n0 : X.N[0]? = some ("script" : Str) := by rw [hN]; rfl
  have n1 : X.N[1]? = some ("cells_so" : Str) := by rw [hN]; rfl
  have n2 : X.N[2]? = some ("cell" : Str) := by rw [hN]; rfl
  have l0 : X.env.scope.names.lookup ("script" : Str) = some .local := by rw [hs]; rfl
  have l1 : X.env.scope.names.lookup ("cells_so" : Str) = some .local := by rw [hs]; rfl
  have gl : Gl X "list" := by show X.env.scope.names.lookup ("list" : Str) = _; rw [hs]; rfl
  have bk : BlkOk X.N X.env.scope bgComp [("cell", 2)] := by rw [hN, hs]; exact blkOk_by (by decide)
  have v0 : ∀ q, PE X (.Name "script" q) (tVar 0) := fun q => pe_var n0 (.inl l0)
  have v1 : ∀ q, PE X (.Name "cells_so" q) (tVar 1) := fun q => pe_var n1 (.inl l1)
  have vC : ∀ (s : Shared) (H : Hp) (C : Addr) (cl : List (Str × Addr)) (fp : List Addr) (q : Pos), PE (X.blk s H bgComp (compEnvC bgComp cl C X.env) fp) (.Name "cell" q) (tVar 2) := fun s H C cl fp q => pe_var n2 (.inl (lookup_relS_keep (by decide) rfl))
  have gC : ∀ (s : Shared) (H : Hp) (C : Addr) (cl : List (Str × Addr)) (fp : List Addr) (q : Pos), PG (X.blk s H bgComp (compEnvC bgComp cl C X.env) fp) (.Name "cell" q) (gName 2) := fun s H C cl fp q =>
    pg_name nd n2 (.inl (lookup_relS_keep (by decide) rfl)) (.inr (lookup_relS_keep (by decide) rfl))
  refine pss_cons (ps_set nd n1 (.inl l1) (pe_ifExp (pt_cmpR (op_neN (by omega)) (v0 _) (pe_lst pa_nil) rfl) (pe_callTy call_list_of gl hl rfl (pa_cons (v0 _) pa_nil)) (pe_lst (pa_cons pe_int pa_nil))) rfl (.inr l1)) (pss_one (ps_ret (pe_disp (pps_cons pe_str (v1 _) (pps_cons pe_str ?_ (pps_cons pe_str pe_int pps_nil))) rfl rfl (by simp) (by simp))))
  exact pe_lc (own := [("cell", 2)]) hc nd (pi_list (v1 _)) bk (fun s H C cl fp => gC s H C cl fp _) (fun s H C cl fp => pts_nil)
    (fun s H C cl fp => pe_ifExp (pt_cmpR op_ge (vC s H C cl fp _) (pe_op op_pow pe_int pe_int) rfl) (vC s H C cl fp _) pe_int)
end
end RS
end
section
set_option Elab.async false
set_option linter.all false
set_option maxRecDepth 100000
set_option autoImplicit false
set_option maxHeartbeats 4000000
/-! RSBegin2: what that def computes. -/
namespace RS
open PySem PySem.Spec PyProof.Rows L2
theorem sqL_upd {K : PySem.W.Frag} {H : Hp} {a p : Addr} {xs : List V} {o : HO} (hp : H p = none) (h : SqL K H a xs) : SqL K (upd H p o) a xs := by
  rcases h with (h | ⟨ob, h⟩) | h
  · exact .inl (.inl (by rw [upd_ne (ne_of_none h hp)]; exact h))
  · exact .inl (.inr ⟨ob, by rw [upd_ne (ne_of_none h hp)]; exact h⟩)
  · exact .inr h
theorem begin_end {K : PySem.W.Frag} {D : Ends} {a p1 : Addr} {ns : List Int} {H : Hp} (hc : H p1 = some (.lst ((cellsOf ns).map V.int))) (hl : ns.length ≤ 63)
    (q : ∀ aS aC aL H', H' aS = some (.dK [(.inr "cells", .ref aC), (.inr "lefts", .ref aL), (.inr "at", .int 0)]) → H' aC = some (.lst ((cellsOf ns).map V.int)) → H' aL = some (.lst (((cellsOf ns).map leftOf).map V.int)) → aC ≠ aL → LamX.Tabs (TB K) H' → D.rt (.ref aS) H') (hT : LamX.Tabs (TB K) H) :
    tRet (tDisp [(tC (.str "cells"), tVar 1), (tC (.str "lefts"), tLefts K), (tC (.str "at"), tC (.int 0))]) D [some (.ref a), some (.ref p1), none] H := by
  have hlen : (cellsOf ns).length ≤ 63 := by
    unfold cellsOf
    split
    · exact Nat.le_of_ble_eq_true rfl
    · exact hl
  intro p2 hp2
  have n12 : p1 ≠ p2 := fun z => by rw [z, hp2] at hc; cases hc
  refine ⟨.ref p1, rfl, ?_⟩
  dsimp only [tPairs, tC]
  have hc2 : (upd H p2 (.dK [])) p1 = some (.lst ((cellsOf ns).map V.int)) := by rw [upd_ne n12]; exact hc
  refine ⟨.ref p1, rfl, p1, rfl, ⟨_, SqL.of hc2⟩, fun L hL => ?_⟩
  have n1 : p1 ≠ L := fun z => by rw [z, hL] at hc2; cases hc2
  have n2 : p2 ≠ L := fun z => by rw [← z, upd_same] at hL; cases hL
  refine lc_list (xs := (cellsOf ns).map V.int) (fun i H' => H' = upd (upd H p2 (.dK [])) L (.lst ((((cellsOf ns).take i).map leftOf).map V.int))) rfl (fun i H' _ e => ?_) (fun i x H' hx e => ?_) (fun H' e => ?_)
  · rw [e]
    exact SqL.of (by rw [upd_ne n1]; exact hc2)
  · rw [List.getElem?_map] at hx
    cases hg : (cellsOf ns)[i]? with
    | none => rw [hg] at hx; cases hx
    | some c =>
      rw [hg] at hx
      cases hx
      refine ⟨rfl, ?_⟩
      unfold tYes
      dsimp only
      rw [if_pos rfl]
      have e10 : (10 : Int) ^ (18 : Int).toNat = 10 ^ 18 := rfl
      have fin : ∃ acc, H' L = some (.lst acc) ∧ acc.length < sizeLine ∧ upd H' L (.lst (acc ++ [.int (leftOf c)])) = upd (upd H p2 (.dK [])) L (.lst ((((cellsOf ns).take (i + 1)).map leftOf).map V.int)) := by
        refine ⟨_, by rw [e, upd_same], ?_, ?_⟩
        · simp only [List.length_map, List.length_take]
          rw [sizeLine_eq]; omega
        · rw [e, upd_upd]
          have hi : i < (cellsOf ns).length := lt_of_get hg
          have : (cellsOf ns)[i] = c := by rw [List.getElem?_eq_getElem hi] at hg; exact Option.some.inj hg
          rw [List.take_succ_eq_append_getElem hi, this, List.map_append, List.map_append]
          rfl
      refine ⟨.int c, rfl, 10, 18, rfl, rfl, ⟨by decide, by decide, by decide⟩, c, _, rfl, rfl, _, rfl, ?_⟩
      dsimp only
      by_cases h : c ≥ 10 ^ 18
      · rw [if_pos (by rw [decide_eq_true_eq]; exact h)]
        refine ⟨.int c, rfl, ?_⟩
        have el : leftOf c = c := if_pos h
        rw [el] at fin
        exact fin
      · rw [if_neg (by rw [decide_eq_true_eq]; exact h)]
        have el : leftOf c = 0 := if_neg h
        rw [el] at fin
        exact fin
  · have e' : H' = upd (upd H p2 (.dK [])) L (.lst (((cellsOf ns).map leftOf).map V.int)) := by
      rw [e, List.length_map, List.take_length]
    rw [e']
    refine ⟨by rw [upd_ne n2, upd_same], [(.inr "cells", .ref p1), (.inr "lefts", .ref L), (.inr "at", .int 0)], rfl, by show 3 ≤ 15; omega, ?_⟩
    refine q p2 p1 L _ (by rw [upd_same]; rfl) (by rw [upd_ne n12, upd_ne n1]; exact hc2) (by rw [upd_ne (Ne.symm n2), upd_same]) n1 ?_
    exact tabs_upd (fun o e => by rw [upd_ne n2, upd_same] at e; cases e; trivial) (tabs_upd (loose_none hL) (tabs_upd (loose_none hp2) hT))
theorem begin_rd {K : PySem.W.Frag} {a : Addr} {ns : List Int} {D : Ends} {H : Hp} (hS : SqL K H a (ns.map V.int)) (hl : ns.length ≤ 63)
    (q : ∀ aS aC aL H', H' aS = some (.dK [(.inr "cells", .ref aC), (.inr "lefts", .ref aL), (.inr "at", .int 0)]) → H' aC = some (.lst ((cellsOf ns).map V.int)) → H' aL = some (.lst (((cellsOf ns).map leftOf).map V.int)) → aC ≠ aL → LamX.Tabs (TB K) H' → D.rt (.ref aS) H') (hT : LamX.Tabs (TB K) H) :
    tBegin K D [some (.ref a), none, none] H := by
  refine ⟨.ref a, rfl, Nat.zero_le _, fun p hp => ⟨a, p, ns, rfl, rfl, sqL_upd hp hS, upd_same, _, rfl, ?_⟩⟩
  dsimp only
  cases ns with
  | nil =>
    rw [if_neg (by simp)]
    refine ⟨by rw [sizeLine_eq]; show 1 ≤ _; omega, fun p1 hp1 => ?_⟩
    exact begin_end (ns := []) (by rw [upd_same]; rfl) hl q (tabs_upd (loose_none hp1) (tabs_upd (loose_none hp) hT))
  | cons n ns =>
    rw [if_pos (by simp)]
    refine ⟨.ref a, rfl, a, _, rfl, .inl (sqL_upd hp hS), fun p1 hp1 => ?_⟩
    exact begin_end (ns := n :: ns) (by rw [upd_same]; rfl) hl q (tabs_upd (loose_none hp1) (tabs_upd (loose_none hp) hT))
theorem begin_fn {P : Program} {w : World} {K : PySem.W.Frag} {mg : Str → Option Value} {base : Heap} {x qual : Str} {st : Stmt} {f : Addr} {fd : FuncData} {k : Nat} {p : Nat → Pos}
    (F : L2.Fun K x qual st f fd) (hb : defBody st = bgBody p) (hs : defScope st = bgScope) (hl : mg "list" = none) : FnOk P w K mg base CX0 (k + 1) f fd ["script"] (spBegin K) := by
  refine F.ok (N := ["script", "cells_so", "cell"]) ?_ (fun vs H Q E ⟨a, ns, e, _⟩ => by rw [e]; rfl) fun cdv A outer s H vs Q E hr ⟨a, ns, e, hS, hl', hT, q⟩ => ⟨tBegin K, ?_, ?_⟩
  · rw [hs]
    exact ⟨rfl, rfl, rfl, by decide, rfl, by decide, by decide⟩
  · rw [hb]
    exact begin_ps rfl hs rfl (by have := hr.un; show (A.deeper _).units + 100 < _; omega) rfl hl
  · subst e
    exact begin_rd hS hl' q hT
end RS
end
section
set_option Elab.async false
set_option linter.all false
set_option maxRecDepth 100000
set_option autoImplicit false
set_option maxHeartbeats 4000000
/-! RSLaw: the law's def, and what the head asks of it. -/
namespace RS
open PySem PySem.Spec PyProof.Rows L2
def lawE (n j : Nat) : RS.Env := (List.replicate n Slot.no).set j (.sh .st)
def spLaw (K : PySem.W.Frag) (n j : Nat) (b : S) : List V → Hp → VK → Prop := fun vs H Q => ∃ (a : Addr) (ns : List Int) (st' : OSt), vs = [.ref a] ∧ SqL K H a (ns.map V.int) ∧ ns.length ≤ 63 ∧ LamX.Tabs (TB K) H ∧
  endR (exS b (lawE n j) (beginSt ns)) = .ok (.sh (.bl true)) st' ∧ ∀ H', Q (.bl true) H'
theorem lawE_get {n j i : Nat} {x : Slot} (h : (lawE n j)[i]? = some x) (hx : x ≠ .no) : i = j ∧ x = .sh .st := by
  unfold lawE at h
  by_cases e : j = i
  · subst e
    rw [List.getElem?_set] at h
    simp only [if_true] at h
    split at h
    · cases h; exact ⟨rfl, rfl⟩
    · cases h
  · rw [List.getElem?_set_ne e, List.getElem?_replicate] at h
    split at h
    · cases h; exact (hx rfl).elim
    · cases h
theorem law_pt {K : PySem.W.Frag} {H : Hp} {aS aC aL : Addr} {ns : List Int} {N : List Str} {vs : List V} {j : Nat} (hj : j < N.length) (hv : vs.length ≤ N.length) (hl : ns.length ≤ 63) (h1 : H aS = some (.dK [(.inr "cells", .ref aC), (.inr "lefts", .ref aL), (.inr "at", .int 0)])) (h2 : H aC = some (.lst ((cellsOf ns).map V.int)))
    (h3 : H aL = some (.lst (((cellsOf ns).map leftOf).map V.int))) (h4 : aC ≠ aL) (h5 : LamX.Tabs (TB K) H) : Pt K ⟨fun a => a = aS ∨ a = aL ∨ a = aC, H, aS, aL, aC, TB K⟩ [] [] ((L2.start N vs).set j (some (.ref aS))) H (lawE N.length j) (beginSt ns) := by
  rw [beginSt_eq]
  have hc : 0 < (cellsOf ns).length ∧ (cellsOf ns).length ≤ 1000 := by
    unfold cellsOf
    split
    · exact ⟨Nat.le_refl 1, by show 1 ≤ 1000; omega⟩
    · rename_i h
      exact ⟨List.length_pos_iff.mpr h, by omega⟩
  have hl2 : (L2.start N vs).length = N.length := start_len hv
  refine ⟨[(.st, .ref aS)], [], ⟨fun p hp => ?_, fun p hp => absurd hp (by simp), by simp, ⟨h1, h2, h3, h4, by simp, hc.1, hc.2, h5⟩, ⟨.inl rfl, .inr (.inl rfl), .inr (.inr rfl)⟩, fun a ha => ?_, Keeps.refl, rfl⟩, fun p hp => absurd hp (by simp), fun p hp => absurd hp (by simp), by simp, ?_⟩
  · rw [List.mem_singleton.mp hp]
    show Rep K aS _ H .st (.ref aS)
    rw [Rep]
  · rcases ha with e | e | e <;> rw [e]
    · exact ⟨.dK _, h1, trivial⟩
    · exact ⟨.lst _, h3, trivial⟩
    · exact ⟨.lst _, h2, trivial⟩
  · refine ⟨by unfold lawE; simp [hl2], fun i d h => ?_, fun i d h => ?_, fun i k d e a h => ?_⟩
    · obtain ⟨rfl, e⟩ := lawE_get h (by intro z; cases z)
      cases e
      exact ⟨.ref aS, by rw [List.getElem?_set_self (by rw [hl2]; exact hj)], List.mem_singleton.mpr rfl⟩
    · obtain ⟨_, e⟩ := lawE_get h (by intro z; cases z)
      cases e
    · obtain ⟨_, e⟩ := lawE_get h (by intro z; cases z)
      cases e
def locC (sc : Scope) (y : Str) : Bool := decide (sc.names.lookup y = some .local) || decide (sc.names.lookup y = some .cell)
theorem locC_of {sc : Scope} {y : Str} (h : locC sc y = true) : L2.Loc sc y := by
  rcases (Bool.or_eq_true _ _).mp h with q | q
  · exact .inl (of_decide_eq_true q)
  · exact .inr (of_decide_eq_true q)
theorem lawG {P : Program} {w : World} {K : PySem.W.Frag} {mg : Str → Option Value} {base : Heap} {x qual y : Str} {st : Stmt} {f fb : Addr} {fd fdb : FuncData} {N : List Str} {k kb j : Nat} {b : S} {p1 p2 p3 p4 p5 : Pos} {rest : List Stmt}
    (F : L2.Fun K x qual st f fd) (Sc : FnScope N ["script"] (defScope st)) (blt : ∀ x ∈ bltNames, mg (Str.ofString x) = none)
    (hbody : defBody st = .Assign [.Name y p1] (.Call (.Name "_law_begin" p2) [.Name "script" p3] [] p4) p5 :: rest) (hj : N[j]? = some y) (hyl : locC (defScope st) y = true) (h0 : N[0]? = some ("script" : Str))
    (l0 : (defScope st).names.lookup ("script" : Str) = some .local) (gb : (defScope st).names.lookup ("_law_begin" : Str) = some .globalImplicit)
    (hm : mtSs b ⟨N, defScope st, fun _ => true, true⟩ rest = true) (hk : ∀ A, Room k A → A.guards = some [] → okS ⟨P, w, K, mg, base, A, cdOf K f, qual ++ (".<locals>." : Str)⟩ b)
    (FB : FnOk P w K mg base CX0 kb fb fdb ["script"] (spBegin K)) (hkb : kb ≤ k) (mb : mg "_law_begin" = some (.ref fb)) (kpb : PySem.W.keepIn K (.ref fb) = true) (bb : Binds K fdb ["script"] []) :
    ∀ (A : Around) (outer : List PySem.Env) (s : Shared) (H : Hp) (args : Args) (us : List Value) (vs : List V) (Q : VK), Room (k + 1) A → A.guards = some [] → Env0 P w K mg base A outer s H →
      BindsTo s fd args ((["script"] : List Str).zip us) → Vals vs us → spLaw K N.length j b vs H Q → codeAny (model P w) A (.call (.ref f) args) (CR CX0 outer P w H s Q E0) s := by
  intro A outer s H args us vs Q hr hgd e0 hb r hsp
  obtain ⟨a, ns, st', rfl, hS, hl, hT, hend, hq⟩ := hsp
  have hN1 : 1 ≤ N.length := lt_of_get h0
  refine bodyG F Sc hr e0 hb r rfl (t := tSeq (tAsg (tCall (spBegin K) [] E0 (tCons (tVar 0) tNil)) (gName j)) (rdS K (exS b))) (fun cdv hcd => ?_) ?_
  · subst hcd
    have ok := ctxG (P := P) (w := w) (K := K) (base := base) (qual := qual) (f := f) (outer := outer) (s := s) (H := H) (cdOf K f) Sc blt hr (g := true) (fun _ => hgd)
    have hr' := hr.deeper (envOfC qual (defScope st) s.heap.objs.size f (cdOf K f))
    have pb := ((snd_stmt b) _ _ ok (hk _ hr' hgd) (fun _ _ z => z.elim)).2 _ hm
    have pa : PS (cxOf CX0 P w K mg base N qual (defScope st) f (cdOf K f) A outer s H E0).nox (.Assign [.Name y p1] (.Call (.Name "_law_begin" p2) [.Name "script" p3] [] p4) p5) (tAsg (tCall (spBegin K) [] E0 (tCons (tVar 0) tNil)) (gName j)) :=
      ps_set Sc.nd hj (locC_of hyl) (pe_call FB (hr'.mono hkb) gb mb kpb bb .nil pass0 (pa_cons (pe_var h0 (.inl l0)) pa_nil)) rfl (.inl rfl)
    rw [hbody]
    exact pss_cons pa pb
  · refine ⟨.ref a, start_get rfl, a, ns, rfl, hS, hl, hT, fun aS aC aL H' h1 h2 h3 h4 h5 => ?_⟩
    have pt := law_pt (K := K) (N := N) (vs := [.ref a]) (lt_of_get hj) hN1 hl h1 h2 h3 h4 h5
    refine ⟨_, [], [], _, _, pt, ends' (c := ⟨fun a => a = aS ∨ a = aL ∨ a = aC, H', aS, aL, aC, TB K⟩) hend ?_⟩
    intro v H2 _ _ rep
    rw [Rep] at rep
    rw [rep]
    exact hq H2
end RS
end
section
set_option Elab.async false
set_option linter.all false
set_option maxRecDepth 100000
set_option autoImplicit false
set_option maxHeartbeats 4000000
/-! RSEnd: from the law's promise, where nothing is being shown, to the goal of the head. -/
namespace RS
open PySem PySem.Spec PyProof.Rows L2
/-- the law's def called where the head calls it -/
abbrev LawGo (P : Program) (w : World) (K : PySem.W.Frag) (mg : Str → Option Value) (base : Heap) (fa : Addr) (fd : FuncData) (x : Str) (n j : Nat) (b : S) : Prop :=
  ∀ (A : Around) (outer : List PySem.Env) (s : Shared) (H : Hp) (args : Args) (us : List Value) (vs : List V) (Q : VK), Room 30 A → A.guards = some [] → Env0 P w K mg base A outer s H →
    BindsTo s fd args (([x] : List Str).zip us) → Vals vs us → spLaw K n j b vs H Q → codeAny (model P w) A (.call (.ref fa) args) (CR CX0 outer P w H s Q E0) s
/-- what the caller of a law may see at its end -/
abbrev Told (s₁ : Shared) : Result → Shared → Prop := fun r s' => r = .ok (.ret (.bool true)) ∧ OldK s₁.heap s'.heap ∧ s'.os = s₁.os ∧ AllBare s'.gens
section
variable {P : Program} {w : World} {K : PySem.W.Frag} {mg mb : Str → Option Value} {fa a : Addr} {fd : FuncData} {x : Str} {s₁ : Shared} {vs : List Value} {ns : List Int} {n j : Nat} {b : S}
/-- an abstract heap that tells the script, or nothing -/
structure Tells (K : PySem.W.Frag) (P : Program) (w : World) (a : Addr) (ns : List Int) (s₁ : Shared) (H : Hp) : Prop where
  only : ∀ c u, H c = some u → c = a ∧ K.lookup a = none ∧ ∃ o xs, u = .frz o (.lst xs)
  sq : SqL K H a (ns.map V.int)
  ok : HOk P w H s₁.heap
theorem tells_go {H : Hp} (t : Tells K P w a ns s₁ H) (KX : K.In s₁.heap) (hns : s₁.heap.Ns mainGlobals mg) (hb : s₁.heap.Ns builtinsNs mb) (hbb : ∀ x : Str, x ≠ "__name__" → mb x = bootBuiltins x) (hlim : s₁.heap.NoLimit) (hg : s₁.gens = #[])
    (ha : s₁.heap.get? a = some { cls := .type "list", data := .seq vs.toArray }) (hl : ns.length ≤ 63) (F : ∀ base : Heap, K.In base → base.Ns mainGlobals mg → LawGo P w K mg base fa fd x n j b)
    (hbind : ∀ (s : Shared) (u : Value), BindsTo s fd ⟨[u], []⟩ [(x, u)]) {st' : OSt} (hT : LamX.Tabs (TB K) H) (hrun : endR (exS b (lawE n j) (beginSt ns)) = .ok (.sh (.bl true)) st') : codeAny (model P w) callerA (.call (.ref fa) ⟨[.ref a], []⟩) (Told s₁) s₁ := by
  -- a record that is no list stays in the base
  have stays : ∀ {c : Addr} {o : Obj}, s₁.heap.get? c = some o → (c = a → K.lookup a ≠ none ∨ ∃ es ep, o.data = .dict es ep) → (hidT s₁.heap H).get? c = some o := by
    intro c o e h
    refine hidT_get e ?_
    cases q : H c with
    | none => rfl
    | some u =>
      exfalso
      obtain ⟨rfl, hk, _⟩ := t.only c u q
      rcases h rfl with z | ⟨es, ep, z⟩
      · exact z hk
      · rw [ha] at e
        cases e
        cases (show Data.seq vs.toArray _ = Data.dict es ep from z)
  have ns_in : ∀ {c : Addr} {m : Str → Option Value}, s₁.heap.Ns c m → (hidT s₁.heap H).Ns c m := by
    rintro c m ⟨o, es, ep, e, d, r⟩
    exact ⟨o, es, ep, stays e fun _ => .inr ⟨es, ep, d⟩, d, r⟩
  have kin : K.In (hidT s₁.heap H) := fun c o e => stays (KX c o e) fun z => .inl (by rw [← z, e]; simp)
  have mod : Mod K mg (hidT s₁.heap H) := by
    obtain ⟨mc, h1, h2⟩ := hlim
    exact ⟨kin, ns_in hns, ⟨mb, ns_in hb, hbb⟩, mc, ns_in h1, h2⟩
  have env : Env0 P w K mg (hidT s₁.heap H) callerA [] s₁ H :=
    ⟨rfl, mod, fun _ _ e => of_hidT e, Nat.le_of_eq (hidT_size _ _), trivial, fun c hc => absurd (show c ∈ ([] : List Addr) from hc) (by simp), t.ok, .of_eq hg⟩
  have go := F _ kin (ns_in hns) callerA [] s₁ H ⟨[.ref a], []⟩ [.ref a] [.ref a] (fun v _ => v = .bl true) ⟨rfl, by decide, by decide⟩ rfl env (hbind s₁ (.ref a)) (.cons rfl .nil) ⟨a, ns, st', rfl, t.sq, hl, hT, hrun, fun _ => rfl⟩
  refine codeAny_mono go fun r s' h => ?_
  match r, h with
  | .ok (.ret u), ⟨v, H', os, bare, un, hok', rv, ev⟩ =>
    have ev : v = .bl true := ev
    subst ev
    cases (show u = Value.bool true from rv)
    refine ⟨rfl, OldK.of_keep fun c o e => ?_, os, bare⟩
    cases q : H c with
    | none => exact un.keep c o e q (fun z => absurd (show c ∈ ([] : List Addr) from z) (by simp)) (by simp)
    | some u =>
      obtain ⟨rfl, _, ob, xs, rfl⟩ := t.only c u q
      have k1 := (t.ok _ _ q).1
      have k2 := (hok' _ _ (un.frzs _ ob _ q)).1
      rw [e] at k1
      cases k1
      exact k2
theorem tells_some (KX : K.In s₁.heap) (ha : s₁.heap.get? a = some { cls := .type "list", data := .seq vs.toArray }) (hi : IntsAre vs ns) (hl : ns.length ≤ 63) : ∃ H, Tells K P w a ns s₁ H := by
  have rv := vals_ints hi
  have lv := hi.length
  have hz : ns.length ≤ sizeLine := by rw [sizeLine_eq]; omega
  cases hk : K.lookup a with
  | some o =>
    have e := KX a o hk
    rw [ha] at e
    cases e
    exact ⟨fun _ => none, fun c u q => (by cases q), .inr ⟨_, vs.toArray, _, hk, rfl, rfl, rfl, by rw [List.size_toArray, lv]; exact hz, by simpa using rv⟩, fun c u q => by cases (show (none : Option HO) = some u from q)⟩
  | none =>
    have at_ : ∀ c u, (if c = a then some (HO.frz { cls := .type "list", data := .seq vs.toArray } (.lst (ns.map V.int))) else none) = some u → c = a ∧ u = .frz { cls := .type "list", data := .seq vs.toArray } (.lst (ns.map V.int)) := fun c u q => by
      split at q
      · rename_i e; cases q; exact ⟨e, rfl⟩
      · cases q
    refine ⟨fun c => if c = a then some (.frz { cls := .type "list", data := .seq vs.toArray } (.lst (ns.map V.int))) else none, fun c u q => ?_, .inl (.inr ⟨{ cls := .type "list", data := .seq vs.toArray }, if_pos rfl⟩), fun c u q => ?_⟩
    · obtain ⟨e, rfl⟩ := at_ c u q
      exact ⟨e, hk, _, _, rfl⟩
    · obtain ⟨rfl, rfl⟩ := at_ c u q
      exact ⟨ha, by rw [List.length_map]; exact hz, vs, _, rv, ha⟩
end
/-- the goal behind the head -/
theorem walkG {law : PySem.W.OpenLaw} {prog : Program} {los : List Str} {Xp : (Str → Option Value) → Heap → Prop} {Yp : World → Heap → Prop} {rec : DefRec} {K : Params → PySem.W.Frag} {x : Str} {n j : Nat} {b : S}
    (hTB : ∀ w : World, TB (K w.params) = []) (most : law.most = some 63) (plain : rec.params.defaults = []) (told : ∀ (w : World) (h : Heap), Yp w h → (K w.params).In h)
    (promise : ∀ (w : World) (mg : Str → Option Value) (fa : Addr) (h : Heap), (K w.params).In h → h.Ns mainGlobals mg → mg rec.name = some (.ref fa) → ∃ fd : FuncData,
      (∀ (s : Shared) (u : Value), BindsTo s fd ⟨[u], []⟩ [(x, u)]) ∧ ∀ base : Heap, (K w.params).In base → base.Ns mainGlobals mg → LawGo law.prog w (K w.params) mg base fa fd x n j b)
    (hrun : ∀ ns : List Int, ns.length ≤ 63 → ∃ st', endR (exS b (lawE n j) (beginSt ns)) = .ok (.sh (.bl true)) st') :
    PySem.W.WalkO prog los Xp Yp law.row.toRowW rec [] fun f vs => PySem.call f vs := by
  refine Att.attach_call most plain fun w _ s₁ mg mb fa _ _ _ _ a vs ns top Y _ _ _ hmg hobj hints hlen hg => ?_
  have kin := told w _ Y
  obtain ⟨fd, binds, go⟩ := promise w mg fa _ kin top.T.g hmg
  obtain ⟨H, t⟩ := tells_some (K := K w.params) (P := law.prog) (w := w) kin hobj hints hlen
  obtain ⟨st', hr⟩ := hrun ns hlen
  exact tells_go t kin top.T.g top.T.b top.T.builtins top.T.nolimit hg hobj hlen go binds (by rw [hTB w]; exact fun p hp => absurd hp (by simp)) hr
end RS
end
section
set_option Elab.async false
set_option linter.all false
set_option maxRecDepth 100000
set_option autoImplicit false
set_option maxHeartbeats 4000000
/-! RSGlue: a law's defs one after another. -/
namespace RS
open PySem PySem.Spec PyProof.Rows L2
/-- the text's def x, as the top has left it -/
def DefAt (K : PySem.W.Frag) (mg : Str → Option Value) (x : String) (st : Stmt) : Prop := ∃ f fd, mg (Str.ofString x) = some (.ref f) ∧ L2.Fun K (Str.ofString x) (Str.ofString x) st f fd
def IsD (K : PySem.W.Frag) (d : D) (u : Value) : Prop := ∃ v, RelV v u ∧ ∀ aS O H, Rep K aS O H d v
/-- the code object of the def x -/
def cdAt (K : PySem.W.Frag) (mg : Str → Option Value) (x : String) : Value := match mg (Str.ofString x) with
  | some (.ref f) => cdOf K f
  | _ => .none
theorem cdAt_eq {K : PySem.W.Frag} {mg : Str → Option Value} {x : String} {f : Addr} (h : mg (Str.ofString x) = some (.ref f)) : cdAt K mg x = cdOf K f := by unfold cdAt; rw [h]
/-- a def that keeps its promise -/
def Has (P : Program) (w : World) (K : PySem.W.Frag) (mg : Str → Option Value) (base : Heap) (x : String) (st : Stmt) (ps : List Str) (lv : Nat) (fn : Fn) (g : Bool) : Prop :=
  ∃ f fd, mg (Str.ofString x) = some (.ref f) ∧ L2.Fun K (Str.ofString x) (Str.ofString x) st f fd ∧ L2.Binds K fd ps [] ∧ FnG P w K mg base lv f fd ps fn g ∧ ∀ ds s r s', fn ds s = .ok r s' → ds.length = ps.length
def scB (N ps : List Str) (sc : Scope) : Bool := decide (sc.kind = .function) && !sc.isCoroutine && !sc.isGenerator && decide N.Nodup && decide (N.take ps.length = ps) && ps.all (fun x => decide (sc.names.lookup x = some .local) || decide (sc.names.lookup x = some .cell)) && sc.names.all fun y => !decide (y.2 = .free)
theorem scB_of {N ps : List Str} {sc : Scope} (h : scB N ps sc = true) : FnScope N ps sc := by
  unfold scB at h
  rw [Bool.and_eq_true, Bool.and_eq_true, Bool.and_eq_true, Bool.and_eq_true, Bool.and_eq_true, Bool.and_eq_true] at h
  obtain ⟨⟨⟨⟨⟨⟨kd, co⟩, gn⟩, nd⟩, pre⟩, par⟩, fr⟩ := h
  refine ⟨of_decide_eq_true kd, by simpa using co, by simpa using gn, of_decide_eq_true nd, of_decide_eq_true pre, fun y hy => ?_, fun y hy z => ?_⟩
  · have := List.all_eq_true.mp par y hy
    simpa using this
  · have := List.all_eq_true.mp fr y hy
    simp [z] at this
section
variable {P : Program} {w : World} {K : PySem.W.Frag} {mg : Str → Option Value} {base : Heap} {x : String} {st : Stmt} {ps N : List Str} {k lv : Nat} {b : S} {g : Bool}
theorem has_of (D : DefAt K mg x st) (blt : ∀ x ∈ bltNames, mg (Str.ofString x) = none) (hs : scB N ps (defScope st) = true) (hm : mtSs b ⟨N, defScope st, fun _ => true, g⟩ (defBody st) = true)
    (hb : ∀ (kV doc pm : Value) (an : Option Addr) (cdv ct : Value) (us : List Value), us.length = ps.length → bindArgs (PySem.W.fnOf (Str.ofString x) (Str.ofString x) (defArgs st) (defBody st) (defScope st) .none kV doc pm an cdv ct) ⟨us, []⟩ = pure (ps.zip us))
    (hk : ∀ A, Room k A → (g = true → A.guards = some []) → okS ⟨P, w, K, mg, base, A, cdAt K mg x, Str.ofString x ++ (".<locals>." : Str)⟩ b) : Has P w K mg base x st ps (k + 1) (evFn N.length ps.length b) g := by
  obtain ⟨f, fd, h1, h2⟩ := D
  rw [cdAt_eq h1] at hk
  exact ⟨f, fd, h1, h2, h2.binds hb, fnG h2 (scB_of hs) blt hm hk, fun _ _ _ _ e => evFn_len e⟩
/-- what no promise is asked of -/
theorem has_never (D : DefAt K mg x st) (hb : ∀ (kV doc pm : Value) (an : Option Addr) (cdv ct : Value) (us : List Value), us.length = ps.length → bindArgs (PySem.W.fnOf (Str.ofString x) (Str.ofString x) (defArgs st) (defBody st) (defScope st) .none kV doc pm an cdv ct) ⟨us, []⟩ = pure (ps.zip us)) :
    Has P w K mg base x st ps 1 (fun _ _ => .no) false := by
  obtain ⟨f, fd, h1, h2⟩ := D
  refine ⟨f, fd, h1, h2, h2.binds hb, ⟨fun A outer s H args us vs Q _ _ _ _ _ h => ?_⟩, fun _ _ _ _ e => by cases e⟩
  obtain ⟨_, _, _, _, _, _, _, _, e, _⟩ := h
  cases e
theorem Has.call {A : Around} {cd : Value} {q : Str} {fn : Fn} (h : Has P w K mg base x st ps lv fn g) (hr : Room k A) (hg : g = true → A.guards = some []) (hl : lv ≤ k) : CallOk ⟨P, w, K, mg, base, A, cd, q⟩ x fn := by
  obtain ⟨f, fd, h1, h2, h3, h4, h5⟩ := h
  exact ⟨g, lv, f, fd, ps, h1, h2.kp, h3, h4, ⟨hr.mono hl, hg⟩, h5⟩
theorem Has.callK {A : Around} {cd : Value} {q : Str} {fn : Fn} {ks : List String} {perm : List Nat} (h : Has P w K mg base x st ps lv fn g) (hr : Room k A) (hg : g = true → A.guards = some []) (hl : lv ≤ k)
    (hb : ∀ (kV doc pm : Value) (an : Option Addr) (cdv ct : Value) (s : Shared) (ws : List Value), ws.length = ks.length → BindsTo s (PySem.W.fnOf (Str.ofString x) (Str.ofString x) (defArgs st) (defBody st) (defScope st) .none kV doc pm an cdv ct) ⟨[], (ks.map Str.ofString).zip ws⟩ (ps.zip (perm.map fun i => ws.getD i .none)))
    (hp : ∀ i ∈ perm, i < ks.length) : CallKOk ⟨P, w, K, mg, base, A, cd, q⟩ x fn ks perm := by
  obtain ⟨f, fd, h1, h2, h3, h4, h5⟩ := h
  obtain ⟨oc, od, kV, doc, pm, an, cdv, ct, osl, rfl, _, _⟩ := h2.ex
  exact ⟨g, lv, f, _, ps, h1, h2.kp, fun s ws _ hl => hb kV doc pm an cdv ct s ws hl, hp, h4, ⟨hr.mono hl, hg⟩, h5⟩
theorem globOk {A : Around} {cd : Value} {q : Str} {d : D} (h : ∃ u, mg (Str.ofString x) = some u ∧ IsD K d u) : GlobOk ⟨P, w, K, mg, base, A, cd, q⟩ x d := by
  obtain ⟨u, h1, v, h2, h3⟩ := h
  exact ⟨v, u, h1, h2, h3⟩
theorem law_of {y : Str} {bst : Stmt} {p : Nat → Pos} {p1 p2 p3 p4 p5 : Pos} {rest : List Stmt} {j : Nat} (D : DefAt K mg "law" st) (B : DefAt K mg "_law_begin" bst) (blt : ∀ x ∈ bltNames, mg (Str.ofString x) = none) (hs : scB N ["script"] (defScope st) = true)
    (hbb : defBody bst = bgBody p) (hbs : defScope bst = bgScope) (hbody : defBody st = .Assign [.Name y p1] (.Call (.Name "_law_begin" p2) [.Name "script" p3] [] p4) p5 :: rest) (hj : N[j]? = some y) (hyl : locC (defScope st) y = true)
    (h0 : N[0]? = some ("script" : Str)) (l0 : (defScope st).names.lookup ("script" : Str) = some .local) (gb : (defScope st).names.lookup ("_law_begin" : Str) = some .globalImplicit)
    (hm : mtSs b ⟨N, defScope st, fun _ => true, true⟩ ((defBody st).drop 1) = true)
    (hb : ∀ (kV doc pm : Value) (an : Option Addr) (cdv ct : Value) (u : Value), bindArgs (PySem.W.fnOf "law" "law" (defArgs st) (defBody st) (defScope st) .none kV doc pm an cdv ct) ⟨[u], []⟩ = pure [(("script" : Str), u)])
    (hb2 : ∀ (kV doc pm : Value) (an : Option Addr) (cdv ct : Value) (us : List Value), us.length = (["script"] : List Str).length → bindArgs (PySem.W.fnOf "_law_begin" "_law_begin" (defArgs bst) (defBody bst) (defScope bst) .none kV doc pm an cdv ct) ⟨us, []⟩ = pure ((["script"] : List Str).zip us))
    (hk : ∀ A, Room 29 A → A.guards = some [] → okS ⟨P, w, K, mg, base, A, cdAt K mg "law", ("law" : Str) ++ (".<locals>." : Str)⟩ b) :
    ∃ f fd, mg "law" = some (.ref f) ∧ L2.Fun K "law" "law" st f fd ∧ (∀ (s : Shared) (u : Value), BindsTo s fd ⟨[u], []⟩ [("script", u)]) ∧ LawGo P w K mg base f fd "script" N.length j b := by
  obtain ⟨f, fd, h1, h2⟩ := D
  rw [cdAt_eq (x := "law") h1] at hk
  obtain ⟨fb, fdb, b1, b2⟩ := B
  have FB : FnOk P w K mg base CX0 1 fb fdb ["script"] (spBegin K) := begin_fn (k := 0) b2 hbb hbs (blt "list" (by decide))
  have h2' := h2
  obtain ⟨oc, od, kV, doc, pm, an, cdv, ct, osl, rfl, _, _⟩ := h2.ex
  refine ⟨f, _, h1, h2', fun s u => .of_eq (hb kV doc pm an cdv ct u), ?_⟩
  have hm' : mtSs b ⟨N, defScope st, fun _ => true, true⟩ rest = true := by rw [hbody] at hm; exact hm
  exact lawG h2' (scB_of hs) blt hbody hj hyl h0 l0 gb hm' hk FB (by omega) b1 b2.kp (b2.binds hb2)
end
theorem law_uniform {P : Program} {w : World} {K : PySem.W.Frag} {mg : Str → Option Value} {fa : Addr} {st : Stmt} {n j : Nat} {b : S} (h0 : Heap) (hfa : mg "law" = some (.ref fa))
    (h : ∀ base : Heap, ∃ f fd, mg "law" = some (.ref f) ∧ L2.Fun K "law" "law" st f fd ∧ (∀ (s : Shared) (u : Value), BindsTo s fd ⟨[u], []⟩ [("script", u)]) ∧ LawGo P w K mg base f fd "script" n j b) :
    ∃ fd : FuncData, (∀ (s : Shared) (u : Value), BindsTo s fd ⟨[u], []⟩ [("script", u)]) ∧ ∀ base : Heap, K.In base → base.Ns mainGlobals mg → LawGo P w K mg base fa fd "script" n j b := by
  have at_ : ∀ base : Heap, ∃ fd, L2.Fun K "law" "law" st fa fd ∧ (∀ (s : Shared) (u : Value), BindsTo s fd ⟨[u], []⟩ [("script", u)]) ∧ LawGo P w K mg base fa fd "script" n j b := fun base => by
    obtain ⟨f, fd, h1, h2, h3, h4⟩ := h base
    rw [hfa] at h1
    cases h1
    exact ⟨fd, h2, h3, h4⟩
  obtain ⟨fd, F, hb, _⟩ := at_ h0
  refine ⟨fd, hb, fun base _ _ => ?_⟩
  obtain ⟨fd', F', _, go⟩ := at_ base
  obtain ⟨oc, od, kV, doc, pm, an, cdv, ct, osl, e1, l1, _⟩ := F.ex
  obtain ⟨oc', od', kV', doc', pm', an', cdv', ct', osl', e2, l2, _⟩ := F'.ex
  rw [l1] at l2
  have : fd = fd' := by
    have := congrArg (fun o : Option Obj => o.map (·.data)) l2
    simp only [Option.map_some, Option.some.injEq, Data.func.injEq] at this
    exact this
  rw [this]; exact go
theorem isD_int {K : PySem.W.Frag} {i : Int} {t : Tok} : IsD K (.int i) (.int i t) := ⟨.int i, ⟨t, rfl⟩, fun _ _ _ => Rep.int'⟩
inductive IsDs (K : PySem.W.Frag) : List D → List Value → Prop where
  | nil : IsDs K [] []
  | cons {d : D} {ds : List D} {u : Value} {us : List Value} (h : IsD K d u) (t : IsDs K ds us) : IsDs K (d :: ds) (u :: us)
theorem IsDs.vals {K : PySem.W.Frag} : ∀ {ds : List D} {us : List Value}, IsDs K ds us → ∃ vs, Vals vs us ∧ ∀ aS O H, Reps K aS O H ds vs
  | _, _, .nil => ⟨[], .nil, fun _ _ _ => Reps.nil⟩
  | _, _, .cons h t => by
    obtain ⟨v, r, q⟩ := h
    obtain ⟨vs, rr, qq⟩ := t.vals
    exact ⟨v :: vs, .cons r rr, fun aS O H => Reps.cons (q aS O H) (qq aS O H)⟩
/-- a tuple of the written part -/
theorem isD_tup {K : PySem.W.Frag} {a : Addr} {ds : List D} {od : Option Addr} {its : Array Value} {n : Nat} {sl : Array (Option Value)} (lk : K.lookup a = some ⟨.type "tuple", od, .seq its n, sl⟩) (h : IsDs K ds its.toList) (hz : its.size ≤ 1000) : IsD K (.tup ds) (.ref a) := by
  obtain ⟨vs, r, q⟩ := h.vals
  refine ⟨.ref a, rfl, fun aS O H => ?_⟩
  rw [Rep]
  exact ⟨a, vs, rfl, .inr ⟨_, its, n, lk, rfl, rfl, by rw [sizeLine_eq]; omega, r⟩, q aS O H⟩
end RS
end
section
set_option Elab.async false
set_option autoImplicit false
set_option maxHeartbeats 1000000
/-! RSX0: where no error comes from. Core Lean only. -/
namespace RS
/-- no error comes out -/
def NX {α : Type} : R α → Prop
  | .exc _ _ _ => False
  | _ => True
def NeverX (f : Fn) : Prop := ∀ ds s, NX (f ds s)
section
variable {α β : Type}
theorem NX.ok {a : α} {s : OSt} : NX (R.ok a s) := trivial
theorem NX.no : NX (R.no : R α) := trivial
theorem NX.bind {x : R α} {f : α → OSt → R β} (h : NX x) (g : ∀ a s, NX (f a s)) : NX (x.bind f) := by
  cases x with
  | ok a s => exact g a s
  | exc => exact h.elim
  | no => trivial
theorem NX.lift {o : Option α} {s : OSt} : NX (RS.lift o s) := by cases o <;> trivial
theorem NX.exc {c : String} {d : D} {s : OSt} {x : R α} (h : NX x) (e : x = .exc c d s) : False := by rw [e] at h; exact h
end
theorem NX.callR {f : Fn} {rs : List Rs} {s : OSt} (h : NeverX f) : NX (RS.callR f rs s) := by
  unfold RS.callR
  refine (h _ _).bind fun r s' => ?_
  split
  · trivial
  · split <;> trivial
theorem NX.heard {k : Nat} {pre : List D} {hs : List HC} {r : R Rs} : NX (heardR k pre hs r) := by
  unfold heardR
  split
  · split
    · trivial
    · split
      · trivial
      · exact NX.lift
  · exact NX.lift
  · trivial
theorem NX.compL {step : D → OSt → R (Option D)} : ∀ (l acc : List D) (s : OSt), NX (RS.compL step l acc s)
  | [], acc, s => trivial
  | d :: ds, acc, s => by
    rw [RS.compL]
    split
    · exact NX.compL ds _ _
    · split
      · exact NX.compL ds _ _
      · trivial
    · trivial
/-- every def called within raises no error -/
def quiet : E → Prop
  | .cons a b => quiet a ∧ quiet b
  | .tup es => quiet es
  | .lst es => quiet es
  | .bin _ a b => quiet a ∧ quiet b
  | .neg a => quiet a
  | .cmp _ a b => quiet a ∧ quiet b
  | .chain _ _ a b c => quiet a ∧ quiet b ∧ quiet c
  | .and a b => quiet a ∧ quiet b
  | .or a b => quiet a ∧ quiet b
  | .not a => quiet a
  | .ife c a b => quiet c ∧ quiet a ∧ quiet b
  | .idx a i => quiet a ∧ quiet i
  | .slc a l h => quiet a ∧ quiet l ∧ quiet h
  | .rev a => quiet a
  | .call _ f es => NeverX f ∧ quiet es
  | .callX _ f es => NeverX f ∧ quiet es
  | .callV _ alts es => (∀ p ∈ alts, NeverX p.2) ∧ quiet es
  | .callVK _ alts _ kes _ => (∀ p ∈ alts, NeverX p.2) ∧ quiet kes
  | .callK _ f _ _ kes _ => NeverX f ∧ quiet kes
  | .prim _ es => quiet es
  | .reprEq a b => quiet a ∧ quiet b
  | .comp _ _ it _ _ => quiet it
  | .itE a => quiet a
  | .itRange es => quiet es
  | .itZip a b => quiet a ∧ quiet b
  | .itEnum a => quiet a
  | .stCell _ k => quiet k
  | .stLeft _ k => quiet k
  | _ => True
theorem nlook_some {alts : List (Nat × Fn)} {sl : Slot} {f : Fn} (h : fnAt alts sl = some f) : ∃ a, (a, f) ∈ alts := by
  unfold fnAt at h
  split at h
  · rename_i a
    refine ⟨a, ?_⟩
    induction alts with
    | nil => cases h
    | cons p l ih =>
      obtain ⟨b, g⟩ := p
      rw [List.lookup] at h
      split at h
      · rename_i e
        cases h
        rw [show a = b from by simpa using e]
        exact List.mem_cons_self
      · exact List.mem_cons_of_mem _ (ih h)
  · cases h
theorem quiet_ok (e : E) : quiet e → (∀ ρ s, NX (ev e ρ s)) ∧ (∀ ρ s, NX (evs e ρ s)) ∧ (∀ ρ s, NX (evI e ρ s)) := by
  induction e with
  | var i => exact fun _ => ⟨fun ρ s => by rw [ev]; exact NX.lift, fun ρ s => by simp only [evs]; trivial, fun ρ s => by simp only [evI]; trivial⟩
  | con d => exact fun _ => ⟨fun ρ s => by rw [ev]; trivial, fun ρ s => by simp only [evs]; trivial, fun ρ s => by simp only [evI]; trivial⟩
  | glob x d => exact fun _ => ⟨fun ρ s => by rw [ev]; trivial, fun ρ s => by simp only [evs]; trivial, fun ρ s => by simp only [evI]; trivial⟩
  | nil => exact fun _ => ⟨fun ρ s => by rw [ev]; trivial, fun ρ s => by rw [evs]; trivial, fun ρ s => by simp only [evI]; trivial⟩
  | cons a b iha ihb =>
    exact fun h => ⟨fun ρ s => by rw [ev]; trivial, fun ρ s => by
      rw [evs]
      exact ((iha h.1).1 ρ s).bind fun x s1 => ((ihb h.2).2.1 ρ s1).bind fun xs s2 => trivial, fun ρ s => by simp only [evI]; trivial⟩
  | «omit» => exact fun _ => ⟨fun ρ s => by rw [ev]; trivial, fun ρ s => by simp only [evs]; trivial, fun ρ s => by simp only [evI]; trivial⟩
  | tup es ih =>
    exact fun h => ⟨fun ρ s => by
      rw [ev]
      refine ((ih h).2.1 ρ s).bind fun x s1 => ?_
      split <;> trivial, fun ρ s => by simp only [evs]; trivial, fun ρ s => by simp only [evI]; trivial⟩
  | lst es ih =>
    exact fun h => ⟨fun ρ s => by
      rw [ev]
      refine ((ih h).2.1 ρ s).bind fun x s1 => ?_
      split <;> trivial, fun ρ s => by simp only [evs]; trivial, fun ρ s => by simp only [evI]; trivial⟩
  | bin o a b iha ihb =>
    exact fun h => ⟨fun ρ s => by
      rw [ev]
      exact ((iha h.1).1 ρ s).bind fun x s1 => ((ihb h.2).1 ρ s1).bind fun y s2 => NX.lift, fun ρ s => by simp only [evs]; trivial, fun ρ s => by simp only [evI]; trivial⟩
  | neg a iha =>
    exact fun h => ⟨fun ρ s => by
      rw [ev]
      exact ((iha h).1 ρ s).bind fun x s1 => NX.lift, fun ρ s => by simp only [evs]; trivial, fun ρ s => by simp only [evI]; trivial⟩
  | cmp o a b iha ihb =>
    exact fun h => ⟨fun ρ s => by
      rw [ev]
      exact ((iha h.1).1 ρ s).bind fun x s1 => ((ihb h.2).1 ρ s1).bind fun y s2 => NX.lift, fun ρ s => by simp only [evs]; trivial, fun ρ s => by simp only [evI]; trivial⟩
  | chain o1 o2 a b c iha ihb ihc =>
    exact fun h => ⟨fun ρ s => by
      rw [ev]
      refine ((iha h.1).1 ρ s).bind fun x s1 => ((ihb h.2.1).1 ρ s1).bind fun y s2 => ?_
      split
      · exact ((ihc h.2.2).1 ρ s2).bind fun z s3 => NX.lift
      · trivial
      · trivial, fun ρ s => by simp only [evs]; trivial, fun ρ s => by simp only [evI]; trivial⟩
  | and a b iha ihb =>
    exact fun h => ⟨fun ρ s => by
      rw [ev]
      refine ((iha h.1).1 ρ s).bind fun x s1 => ?_
      split
      · exact (ihb h.2).1 ρ s1
      · trivial
      · trivial, fun ρ s => by simp only [evs]; trivial, fun ρ s => by simp only [evI]; trivial⟩
  | or a b iha ihb =>
    exact fun h => ⟨fun ρ s => by
      rw [ev]
      refine ((iha h.1).1 ρ s).bind fun x s1 => ?_
      split
      · exact (ihb h.2).1 ρ s1
      · trivial
      · trivial, fun ρ s => by simp only [evs]; trivial, fun ρ s => by simp only [evI]; trivial⟩
  | not a iha =>
    exact fun h => ⟨fun ρ s => by
      rw [ev]
      refine ((iha h).1 ρ s).bind fun x s1 => ?_
      split <;> trivial, fun ρ s => by simp only [evs]; trivial, fun ρ s => by simp only [evI]; trivial⟩
  | ife c a b ihc iha ihb =>
    exact fun h => ⟨fun ρ s => by
      rw [ev]
      refine ((ihc h.1).1 ρ s).bind fun x s1 => ?_
      split
      · exact (iha h.2.1).1 ρ s1
      · exact (ihb h.2.2).1 ρ s1
      · trivial, fun ρ s => by simp only [evs]; trivial, fun ρ s => by simp only [evI]; trivial⟩
  | idx a i iha ihi =>
    exact fun h => ⟨fun ρ s => by
      rw [ev]
      exact ((iha h.1).1 ρ s).bind fun x s1 => ((ihi h.2).1 ρ s1).bind fun y s2 => NX.lift, fun ρ s => by simp only [evs]; trivial, fun ρ s => by simp only [evI]; trivial⟩
  | slc a l u iha ihl ihu =>
    exact fun h => ⟨fun ρ s => by
      rw [ev]
      refine ((iha h.1).1 ρ s).bind fun x s1 => ((ihl h.2.1).1 ρ s1).bind fun y s2 => ((ihu h.2.2).1 ρ s2).bind fun z s3 => ?_
      split
      · exact NX.lift
      · trivial, fun ρ s => by simp only [evs]; trivial, fun ρ s => by simp only [evI]; trivial⟩
  | rev a iha =>
    exact fun h => ⟨fun ρ s => by
      rw [ev]
      exact ((iha h).1 ρ s).bind fun x s1 => NX.lift, fun ρ s => by simp only [evs]; trivial, fun ρ s => by simp only [evI]; trivial⟩
  | call x f es ih =>
    exact fun h => ⟨fun ρ s => by
      rw [ev]
      exact ((ih h.2).2.1 ρ s).bind fun x s1 => NX.callR h.1, fun ρ s => by simp only [evs]; trivial, fun ρ s => by simp only [evI]; trivial⟩
  | callX x f es ih =>
    exact fun h => ⟨fun ρ s => by
      rw [ev]
      refine ((ih h.2).2.1 ρ s).bind fun x s1 => ?_
      split
      · exact NX.callR h.1
      · trivial, fun ρ s => by simp only [evs]; trivial, fun ρ s => by simp only [evI]; trivial⟩
  | callV i alts es ih =>
    exact fun h => ⟨fun ρ s => by
      rw [ev]
      split
      · rename_i f hf
        obtain ⟨a, m⟩ := nlook_some hf
        refine ((ih h.2).2.1 ρ s).bind fun x s1 => ?_
        split
        · exact NX.callR (h.1 _ m)
        · trivial
      · trivial, fun ρ s => by simp only [evs]; trivial, fun ρ s => by simp only [evI]; trivial⟩
  | callVK i alts ks kes perm ih =>
    exact fun h => ⟨fun ρ s => by
      rw [ev]
      split
      · rename_i f hf
        obtain ⟨a, m⟩ := nlook_some hf
        refine NX.bind (((ih h.2).2.1 ρ s).bind fun x s1 => ?_) fun x s1 => NX.callR (h.1 _ m)
        split <;> trivial
      · trivial, fun ρ s => by simp only [evs]; trivial, fun ρ s => by simp only [evI]; trivial⟩
  | callK x f es ks kes perm ih1 ih2 =>
    exact fun h => ⟨fun ρ s => by
      rw [ev]
      refine NX.bind (((ih2 h.2).2.1 ρ s).bind fun x s1 => ?_) fun x s1 => NX.callR h.1
      split <;> trivial, fun ρ s => by simp only [evs]; trivial, fun ρ s => by simp only [evI]; trivial⟩
  | heard x k pre hs e ih => exact fun h => ⟨fun ρ s => by rw [ev]; exact NX.heard, fun ρ s => by simp only [evs]; trivial, fun ρ s => by simp only [evI]; trivial⟩
  | prim p es ih =>
    exact fun h => ⟨fun ρ s => by
      rw [ev]
      exact ((ih h).2.1 ρ s).bind fun x s1 => NX.lift, fun ρ s => by simp only [evs]; trivial, fun ρ s => by simp only [evI]; trivial⟩
  | reprEq a b iha ihb =>
    exact fun h => ⟨fun ρ s => by
      rw [ev]
      refine ((iha h.1).1 ρ s).bind fun x s1 => ((ihb h.2).1 ρ s1).bind fun y s2 => ?_
      split <;> trivial, fun ρ s => by simp only [evs]; trivial, fun ρ s => by simp only [evI]; trivial⟩
  | comp vs tg it cnd elt ihi ihc ihe =>
    exact fun h => ⟨fun ρ s => by
      rw [ev]
      refine ((ihi h).2.2 ρ s).bind fun x s1 => ?_
      obtain ⟨items, b⟩ := x
      dsimp only
      split
      · exact (NX.compL _ _ _).bind fun _ _ => trivial
      · trivial, fun ρ s => by simp only [evs]; trivial, fun ρ s => by simp only [evI]; trivial⟩
  | itE a iha =>
    exact fun h => ⟨fun ρ s => by rw [ev]; trivial, fun ρ s => by simp only [evs]; trivial, fun ρ s => by
      rw [evI]
      refine ((iha h).1 ρ s).bind fun x s1 => ?_
      split
      · trivial
      · trivial
      · exact NX.lift⟩
  | itRange es ih =>
    exact fun h => ⟨fun ρ s => by rw [ev]; trivial, fun ρ s => by simp only [evs]; trivial, fun ρ s => by
      rw [evI]
      exact ((ih h).2.1 ρ s).bind fun x s1 => NX.lift⟩
  | itZip a b iha ihb =>
    exact fun h => ⟨fun ρ s => by rw [ev]; trivial, fun ρ s => by simp only [evs]; trivial, fun ρ s => by
      rw [evI]
      refine ((iha h.1).1 ρ s).bind fun x s1 => ((ihb h.2).1 ρ s1).bind fun y s2 => ?_
      split
      · trivial
      · exact NX.lift⟩
  | itEnum a iha =>
    exact fun h => ⟨fun ρ s => by rw [ev]; trivial, fun ρ s => by simp only [evs]; trivial, fun ρ s => by
      rw [evI]
      refine ((iha h).1 ρ s).bind fun x s1 => ?_
      split
      · trivial
      · exact NX.lift⟩
  | stAt i => exact fun h => ⟨fun ρ s => by rw [ev]; split <;> trivial, fun ρ s => by simp only [evs]; trivial, fun ρ s => by simp only [evI]; trivial⟩
  | stLen i => exact fun h => ⟨fun ρ s => by rw [ev]; split <;> trivial, fun ρ s => by simp only [evs]; trivial, fun ρ s => by simp only [evI]; trivial⟩
  | stCell i k ihk =>
    exact fun h => ⟨fun ρ s => by
      rw [ev]
      split
      · exact ((ihk h).1 ρ s).bind fun x s1 => NX.lift
      · trivial, fun ρ s => by simp only [evs]; trivial, fun ρ s => by simp only [evI]; trivial⟩
  | stLeft i k ihk =>
    exact fun h => ⟨fun ρ s => by
      rw [ev]
      split
      · exact ((ihk h).1 ρ s).bind fun x s1 => NX.lift
      · trivial, fun ρ s => by simp only [evs]; trivial, fun ρ s => by simp only [evI]; trivial⟩
/-! ### statements -/
def NXo : Out → Prop
  | .exc _ _ _ => False
  | _ => True
def quietS : S → Prop
  | .seq a b => quietS a ∧ quietS b
  | .asg _ e => quiet e
  | .asgS _ e => quiet e
  | .asgT _ e => quiet e
  | .par _ es => quiet es
  | .app _ e => quiet e
  | .ext _ e => quiet e
  | .seti _ k e => quiet k ∧ quiet e
  | .expr e => quiet e
  | .ret e => quiet e
  | .ife c a b => quiet c ∧ quietS a ∧ quietS b
  | .for _ it b => quiet it ∧ quietS b
  | .whl _ c b => quiet c ∧ quietS b
  | .stPut _ e => quiet e
  | .stPutLeft _ k e => quiet k ∧ quiet e
  | .raise _ _ => False
  | _ => True
theorem NXo.withV {r : R Rs} {f : Rs → OSt → Out} (h : NX r) (g : ∀ a s, NXo (f a s)) : NXo (RS.withV r f) := by
  cases r with
  | ok a s => exact g a s
  | exc => exact h.elim
  | no => trivial
theorem NXo.outOf {o : Option Env} {s : OSt} : NXo (RS.outOf o s) := by cases o <;> trivial
theorem NXo.forL {step : D → Env → OSt → Out} (h : ∀ d ρ s, NXo (step d ρ s)) : ∀ (l : List D) (ρ : Env) (s : OSt), NXo (RS.forL step l ρ s)
  | [], _, _ => trivial
  | d :: ds, ρ, s => by
    rw [RS.forL]
    have := h d ρ s
    revert this
    cases step d ρ s with
    | nx ρ1 s1 => exact fun _ => NXo.forL h ds ρ1 s1
    | ct ρ1 s1 => exact fun _ => NXo.forL h ds ρ1 s1
    | bk => exact fun _ => trivial
    | rt => exact fun _ => trivial
    | exc => exact fun z => z
    | no => exact fun _ => trivial
theorem NXo.whlL {test : Env → OSt → R Rs} {body : Env → OSt → Out} (h : ∀ ρ s, NX (test ρ s)) (g : ∀ ρ s, NXo (body ρ s)) : ∀ (n : Nat) (ρ : Env) (s : OSt), NXo (RS.whlL test body n ρ s)
  | 0, _, _ => by rw [RS.whlL]; trivial
  | n + 1, ρ, s => by
    rw [RS.whlL]
    have t := h ρ s
    split
    · rename_i s1 _
      have := g ρ s1
      revert this
      cases body ρ s1 with
      | nx ρ1 s1 => exact fun _ => NXo.whlL h g n ρ1 s1
      | ct ρ1 s1 => exact fun _ => NXo.whlL h g n ρ1 s1
      | bk => exact fun _ => trivial
      | rt => exact fun _ => trivial
      | exc => exact fun z => z
      | no => exact fun _ => trivial
    · trivial
    · rename_i e
      rw [e] at t; exact t
    · trivial
theorem quietS_ok (b : S) : quietS b → ∀ ρ s, NXo (exS b ρ s) := by
  induction b with
  | skip => exact fun _ ρ s => by rw [exS]; trivial
  | seq a b iha ihb =>
    intro h ρ s
    rw [exS]
    have := iha h.1 ρ s
    revert this
    cases exS a ρ s with
    | nx ρ1 s1 => exact fun _ => ihb h.2 ρ1 s1
    | _ => exact fun z => z
  | asg i e => exact fun h ρ s => by rw [exS]; exact NXo.withV ((quiet_ok e h).1 ρ s) fun _ _ => NXo.outOf
  | asgS i e =>
    exact fun h ρ s => by
      rw [exS]
      refine NXo.withV ((quiet_ok e h).1 ρ s) fun _ _ => ?_
      split
      · trivial
      · exact NXo.outOf
  | asgT tg e =>
    exact fun h ρ s => by
      rw [exS]
      refine NXo.withV ((quiet_ok e h).1 ρ s) fun _ _ => ?_
      split
      · trivial
      · exact NXo.outOf
  | par is es =>
    intro h ρ s
    rw [exS]
    have := (quiet_ok es h).2.1 ρ s
    revert this
    cases evs es ρ s with
    | ok rs s1 => exact fun _ => NXo.outOf
    | exc => exact fun z => z
    | no => exact fun _ => trivial
  | app i e =>
    exact fun h ρ s => by
      rw [exS]
      refine NXo.withV ((quiet_ok e h).1 ρ s) fun _ _ => ?_
      split
      · split <;> trivial
      · trivial
  | ext i e =>
    exact fun h ρ s => by
      rw [exS]
      refine NXo.withV ((quiet_ok e h).1 ρ s) fun _ _ => ?_
      split
      · split
        · split <;> trivial
        · trivial
      · trivial
  | seti i k e =>
    exact fun h ρ s => by
      rw [exS]
      refine NXo.withV ((quiet_ok e h.2).1 ρ s) fun _ s1 => NXo.withV ((quiet_ok k h.1).1 ρ s1) fun _ _ => ?_
      split
      · split
        · split <;> trivial
        · trivial
      · trivial
  | expr e => exact fun h ρ s => by rw [exS]; exact NXo.withV ((quiet_ok e h).1 ρ s) fun _ _ => trivial
  | ret e =>
    exact fun h ρ s => by
      rw [exS]
      refine NXo.withV ((quiet_ok e h).1 ρ s) fun _ _ => ?_
      split <;> trivial
  | ife c a b iha ihb =>
    exact fun h ρ s => by
      rw [exS]
      refine NXo.withV ((quiet_ok c h.1).1 ρ s) fun _ s1 => ?_
      split
      · exact iha h.2.1 ρ s1
      · exact ihb h.2.2 ρ s1
      · trivial
  | «for» tg it b ihb =>
    intro h ρ s
    rw [exS]
    have := (quiet_ok it h.1).2.2 ρ s
    revert this
    cases evI it ρ s with
    | ok p s1 =>
      intro _
      obtain ⟨items, o⟩ := p
      cases o with
      | none =>
        refine NXo.forL (fun d ρ s => ?_) _ _ _
        split
        · exact ihb h.2 _ _
        · trivial
      | some _ => trivial
    | exc => exact fun z => z
    | no => exact fun _ => trivial
  | whl n c b ihb => exact fun h ρ s => by rw [exS]; exact NXo.whlL (fun ρ s => (quiet_ok c h.1).1 ρ s) (fun ρ s => ihb h.2 ρ s) _ _ _
  | brk => exact fun _ ρ s => by rw [exS]; trivial
  | cont => exact fun _ ρ s => by rw [exS]; trivial
  | share i =>
    exact fun _ ρ s => by
      rw [exS]
      split <;> trivial
  | never => exact fun _ ρ s => by rw [exS]; trivial
  | raise c e => exact fun h => h.elim
  | stPut i e =>
    exact fun h ρ s => by
      rw [exS]
      refine NXo.withV ((quiet_ok e h).1 ρ s) fun _ _ => ?_
      split
      · split <;> trivial
      · trivial
  | stPutLeft i k e =>
    exact fun h ρ s => by
      rw [exS]
      refine NXo.withV ((quiet_ok e h.2).1 ρ s) fun _ s1 => NXo.withV ((quiet_ok k h.1).1 ρ s1) fun _ _ => ?_
      split
      · split <;> trivial
      · trivial
theorem never_fn {n p : Nat} {b : S} (h : quietS b) : NeverX (evFn n p b) := fun ds s => by
  unfold evFn
  split
  · have := quietS_ok b h (startE n ds) s
    revert this
    cases exS b (startE n ds) s <;> first | exact fun _ => trivial | exact fun z => z
  · trivial
theorem never_no : NeverX (fun _ _ => .no) := fun _ _ => trivial
theorem never_draw : NeverX drawFn := fun ds s => by
  unfold drawFn
  split
  · split <;> trivial
  · trivial
end RS
end
section
set_option Elab.async false
set_option linter.all false
set_option maxRecDepth 100000
set_option autoImplicit false
set_option maxHeartbeats 4000000
/-! RSX1: what follows where an error has been raised; defs that let errors out; expressions that they pass through. -/
namespace RS
open PySem L2
/-- the attribute that an error's value is kept at -/
def fldOf (c : String) : Str := if c = "BadParameter" then "value" else if c = "TooGreat" then "most" else "place"
def XPost (K : PySem.W.Frag) (mg : Str → Option Value) (W : L2.WX) (c : Cfg) (gT : Shd) (gF : Own) (cl : String) (d : D) (s' : OSt) : Prop :=
  ∀ σ ρ H C dd v, mg (Str.ofString cl) = some (.ref C) → Pt K c ((d, v) :: gT) gF σ H ρ s' → H dd = some (.xd [(fldOf cl, v)]) → W (.ref C) (some dd) σ H
theorem XPost.up {K : PySem.W.Frag} {mg : Str → Option Value} {W : L2.WX} {c : Cfg} {gT gT' : Shd} {gF gF' : Own} {cl : String} {d : D} {s' : OSt} (h : XPost K mg W c gT gF cl d s') (h1 : ∀ p ∈ gT, p ∈ gT') (h2 : List.Sublist gF gF') : XPost K mg W c gT' gF' cl d s' :=
  fun σ ρ H C dd v e P q => h σ ρ H C dd v e (P.less (fun p hp => by
    rcases List.mem_cons.mp hp with e | hp
    · rw [e]; exact List.mem_cons_self
    · exact List.mem_cons_of_mem _ (h1 p hp)) h2) q
/-- the same, at the frame's slots as they stand -/
def XPostA (K : PySem.W.Frag) (mg : Str → Option Value) (W : L2.WX) (c : Cfg) (gT : Shd) (gF : Own) (σ : L2.St) (ρ : Env) (cl : String) (d : D) (s' : OSt) : Prop :=
  ∀ H C dd v, mg (Str.ofString cl) = some (.ref C) → Pt K c ((d, v) :: gT) gF σ H ρ s' → H dd = some (.xd [(fldOf cl, v)]) → W (.ref C) (some dd) σ H
theorem XPost.at {K : PySem.W.Frag} {mg : Str → Option Value} {W : L2.WX} {c : Cfg} {gT : Shd} {gF : Own} {σ : L2.St} {ρ : Env} {cl : String} {d : D} {s' : OSt} (h : XPost K mg W c gT gF cl d s') : XPostA K mg W c gT gF σ ρ cl d s' := fun H C dd v => h σ ρ H C dd v
theorem XPostA.up {K : PySem.W.Frag} {mg : Str → Option Value} {W : L2.WX} {c : Cfg} {gT gT' : Shd} {gF gF' : Own} {σ : L2.St} {ρ : Env} {cl : String} {d : D} {s' : OSt} (h : XPostA K mg W c gT gF σ ρ cl d s') (h1 : ∀ p ∈ gT, p ∈ gT') (h2 : List.Sublist gF gF') : XPostA K mg W c gT' gF' σ ρ cl d s' :=
  fun H C dd v e P q => h H C dd v e (P.less (fun p hp => by
    rcases List.mem_cons.mp hp with e | hp
    · rw [e]; exact List.mem_cons_self
    · exact List.mem_cons_of_mem _ (h1 p hp)) h2) q
/-- a reading that raises an error -/
def xd {α : Type} (X : Cx) (W : L2.WX) (f : Env → OSt → R α) (σ : L2.St) (H : Hp) : Prop := ∃ c gT gF ρ s cl d s', Pt X.K c gT gF σ H ρ s ∧ f ρ s = .exc cl d s' ∧ XPostA X.K X.mg W c gT gF σ ρ cl d s'
abbrev rdX {α : Type} (X : Cx) (W : L2.WX) (f : Env → OSt → R α) : TE := fun σ H _ => xd X W f σ H
abbrev rdXT {α : Type} (X : Cx) (W : L2.WX) (f : Env → OSt → R α) : TT := fun σ H _ => xd X W f σ H
abbrev rdXA {α : Type} (X : Cx) (W : L2.WX) (f : Env → OSt → R α) : TA := fun σ H _ => xd X W f σ H
structure SndX (X : Cx) (W : L2.WX) (e : Expr) (f : Env → OSt → R Rs) : Prop where
  pe : PE X e (rdX X W f)
  pt : PT X e (rdXT X W f)
  pw : ∀ op vs pos, e = .BoolOp op vs pos → PW X e (rdXT X W f)
theorem _root_.L2.PE.or {X : Cx} {e : Expr} {t u : TE} (h : PE X e t) (k : PE X e u) : PE X e (fun σ H Q => t σ H Q ∨ u σ H Q) := ⟨fun pins s σ H Q I q => q.elim (h.run pins s σ H Q I) (k.run pins s σ H Q I)⟩
theorem _root_.L2.PT.or {X : Cx} {e : Expr} {t u : TT} (h : PT X e t) (k : PT X e u) : PT X e (fun σ H Q => t σ H Q ∨ u σ H Q) := ⟨fun pins s σ H Q I q => q.elim (h.run pins s σ H Q I) (k.run pins s σ H Q I)⟩
theorem _root_.L2.PW.or {X : Cx} {e : Expr} {t u : TT} (h : PW X e t) (k : PW X e u) : PW X e (fun σ H Q => t σ H Q ∨ u σ H Q) := ⟨fun wh pins s σ H Q I q => q.elim (h.run wh pins s σ H Q I) (k.run wh pins s σ H Q I)⟩
theorem _root_.L2.PA.or {X : Cx} {es : List Expr} {t u : TA} (h : PA X es t) (k : PA X es u) : PA X es (fun σ H Q => t σ H Q ∨ u σ H Q) := ⟨fun pos pins s σ H Q I q => q.elim (h.run pos pins s σ H Q I) (k.run pos pins s σ H Q I)⟩
theorem bind_exc {α β : Type} {x : R α} {f : α → OSt → R β} {c : String} {d : D} {s : OSt} (h : x.bind f = .exc c d s) : x = .exc c d s ∨ ∃ a s1, x = .ok a s1 ∧ f a s1 = .exc c d s := by
  cases x with
  | ok a s1 => exact .inr ⟨a, s1, rfl, h⟩
  | exc c' d' s' => cases h; exact .inl rfl
  | no => cases h
theorem lift_exc {α : Type} {o : Option α} {c : String} {d : D} {s s' : OSt} (h : lift o s = .exc c d s') : False := by cases o <;> cases h
section
variable {X : Cx} {W : L2.WX} {mc : MC}
theorem SndX.of_pe {e : Expr} {f : Env → OSt → R Rs} (h : PE X e (rdX X W f)) (he : ∀ whole, isTrue e X.env whole = (do let v ← whole; standAt e.pos; holding [v] (truthy v))) (hb : ∀ op vs pos, e ≠ .BoolOp op vs pos) : SndX X W e f :=
  ⟨h, (pt_val h he).via fun σ H Q q => q, fun op vs pos z => (hb op vs pos z).elim⟩
theorem xd_never {α : Type} {f : Env → OSt → R α} (h : ∀ ρ s, NX (f ρ s)) {σ : L2.St} {H : Hp} (q : xd X W f σ H) : False := by
  obtain ⟨c, gT, gF, ρ, s, cl, d, s', P, e, _⟩ := q
  exact NX.exc (h ρ s) e
theorem SndX.never {e : Expr} {f : Env → OSt → R Rs} (h : ∀ ρ s, NX (f ρ s)) : SndX X W e f :=
  ⟨⟨fun pins s σ H Q I q => (xd_never h q).elim⟩, ⟨fun pins s σ H Q I q => (xd_never h q).elim⟩, fun _ _ _ _ => ⟨fun wh pins s σ H Q I q => (xd_never h q).elim⟩⟩
/-- the first of two raises it, or what comes behind -/
theorem xd_bind {α : Type} {fa : Env → OSt → R Rs} {k : Rs → Env → OSt → R α} {σ : L2.St} {H : Hp} {Q : VK} (h : xd X W (fun ρ s => (fa ρ s).bind fun x s1 => k x ρ s1) σ H) (hk : ∀ rx x H1, xd X W (k rx) σ H1 → Q x H1) : rd X.K fa σ H Q ∨ xd X W fa σ H := by
  obtain ⟨c, gT, gF, ρ, s, cl, d, s', P, e, q⟩ := h
  rcases bind_exc e with e | ⟨rx, s1, e1, e⟩
  · exact .inr ⟨c, gT, gF, ρ, s, cl, d, s', P, e, q⟩
  · exact .inl ⟨c, gT, gF, ρ, s, rx, s1, P, e1, fun x H1 P1 V1 => hk rx x H1 ⟨c, _, _, ρ, s1, cl, d, s', P1, e, q.up (rx.subT x gT) (rx.subF x gF)⟩⟩
theorem xd_lift {α : Type} {o : Env → Option α} {σ : L2.St} {H : Hp} (h : xd X W (fun ρ s => lift (o ρ) s) σ H) : False := by
  obtain ⟨c, gT, gF, ρ, s, cl, d, s', P, e, q⟩ := h
  exact lift_exc e
theorem xd_two {fa fb : Env → OSt → R Rs} {g : Rs → Rs → Option Rs} {σ : L2.St} {H : Hp} {V : V → V → Hp → Prop} (h : xd X W (fun ρ s => (fa ρ s).bind fun x s1 => (fb ρ s1).bind fun y s2 => lift (g x y) s2) σ H) :
    (rd X.K fa σ H fun x H1 => rd X.K fb σ H1 (fun y H2 => V x y H2) ∨ xd X W fb σ H1) ∨ xd X W fa σ H :=
  xd_bind (k := fun x ρ s1 => (fb ρ s1).bind fun y s2 => lift (g x y) s2) h fun rx x H1 h1 => xd_bind (k := fun y ρ s2 => lift (g rx y) s2) h1 fun ry y H2 h2 => (xd_lift h2).elim
/-- a list's item raises it -/
theorem xd_args {α : Type} {fa : Env → OSt → R (List Rs)} {k : List Rs → Env → OSt → R α} {σ : L2.St} {H : Hp} (h : xd X W (fun ρ s => (fa ρ s).bind fun x s1 => k x ρ s1) σ H) (hk : ∀ rs ρ s, NX (k rs ρ s)) : xd X W fa σ H := by
  obtain ⟨c, gT, gF, ρ, s, cl, d, s', P, e, q⟩ := h
  rcases bind_exc e with e | ⟨rs, s1, e1, e⟩
  · exact ⟨c, gT, gF, ρ, s, cl, d, s', P, e, q⟩
  · exact (NX.exc (hk rs ρ s1) e).elim
end
/-! ## defs that let errors out -/
def XEnd (K : PySem.W.Frag) (mg : Str → Option Value) (c : Cfg) (H : Hp) (s' : OSt) (cl : String) (d : D) (E : XK) : Prop :=
  ∀ H' C dd v, mg (Str.ofString cl) = some (.ref C) → Keeps c H H' → StOk c H' s' → Rep K c.aS c.O H' d v → H' dd = some (.xd [(fldOf cl, v)]) → E (.ref C) (some dd) H'
def spX (K : PySem.W.Frag) (mg : Str → Option Value) (fn : Fn) (n : Nat) : List V → Hp → XK → Prop := fun vs H E =>
  ∃ c ds st cl d st', vs.length = n ∧ Reps K c.aS c.O H ds vs ∧ Pre K c H st ∧ fn ds st = .exc cl d st' ∧ XEnd K mg c H st' cl d E
structure FnX (P : Program) (w : World) (K : PySem.W.Frag) (mg : Str → Option Value) (base : Heap) (k : Nat) (f : Addr) (fd : FuncData) (ps : List Str) (fn : Fn) (g : Bool) : Prop where
  go : ∀ (A : Around) (outer : List PySem.Env) (s : Shared) (H : Hp) (args : Args) (us : List Value) (vs : List V) (E : XK), Room k A → (g = true → A.guards = some []) → Env0 P w K mg base A outer s H →
    BindsTo s fd args (ps.zip us) → Vals vs us → spX K mg fn ps.length vs H E → codeAny (model P w) A (.call (.ref f) args) (CR (L2.CX P w) outer P w H s (fun _ _ => False) E) s
theorem FnX.up {P : Program} {w : World} {K : PySem.W.Frag} {mg : Str → Option Value} {base : Heap} {j k : Nat} {f : Addr} {fd : FuncData} {ps : List Str} {fn : Fn} {g : Bool} (F : FnX P w K mg base j f fd ps fn g) (h : j ≤ k) : FnX P w K mg base k f fd ps fn g :=
  ⟨fun A outer s H args us vs E hr => F.go A outer s H args us vs E (hr.mono h)⟩
def CallXOk (L : Lv) (nm : String) (fn : Fn) : Prop := ∃ g k ad fd ps, L.mg (Str.ofString nm) = some (.ref ad) ∧ PySem.W.keepIn L.K (.ref ad) = true ∧ Binds L.K fd ps [] ∧ FnX L.prog L.w L.K L.mg L.base k ad fd ps fn g ∧ (Room k L.A ∧ (g = true → L.A.guards = some [])) ∧ ∀ ds s c d s', fn ds s = .exc c d s' → ds.length = ps.length
def FnVXOk (L : Lv) (a : Addr) (fn : Fn) : Prop := ∃ g k fd ps, PySem.W.keepIn L.K (.ref a) = true ∧ Binds L.K fd ps [] ∧ FnX L.prog L.w L.K L.mg L.base k a fd ps fn g ∧ (Room k L.A ∧ (g = true → L.A.guards = some [])) ∧ ∀ ds s c d s', fn ds s = .exc c d s' → ds.length = ps.length
def FnVKXOk (L : Lv) (a : Addr) (fn : Fn) (ks : List String) (perm : List Nat) : Prop := ∃ g k fd ps, PySem.W.keepIn L.K (.ref a) = true ∧
  (∀ (s : Shared) (ws : List Value), L.K.In s.heap → ws.length = ks.length → BindsTo s fd ⟨[], (ks.map Str.ofString).zip ws⟩ (ps.zip (perm.map fun i => ws.getD i .none))) ∧ (∀ i ∈ perm, i < ks.length) ∧
  FnX L.prog L.w L.K L.mg L.base k a fd ps fn g ∧ (Room k L.A ∧ (g = true → L.A.guards = some [])) ∧ ∀ ds s c d s', fn ds s = .exc c d s' → ds.length = ps.length
/-- where errors may pass through -/
def okX (L : Lv) : E → Prop
  | .cons a b => okX L a ∧ okX L b
  | .tup es => okX L es
  | .lst es => okX L es
  | .bin _ a b => okX L a ∧ okX L b
  | .cmp _ a b => okX L a ∧ okX L b
  | .and a b => okX L a ∧ okX L b
  | .or a b => okX L a ∧ okX L b
  | .not a => okX L a
  | .ife c a b => okX L c ∧ okX L a ∧ okX L b
  | .idx a i => okX L a ∧ okX L i
  | .call _ f es => NeverX f ∧ okX L es
  | .callX x f es => (NeverX f ∨ CallXOk L x f) ∧ okX L es
  | .callV _ alts es => (∀ p ∈ alts, NeverX p.2 ∨ FnVXOk L p.1 p.2) ∧ okX L es
  | .callVK _ alts ks kes perm => (∀ p ∈ alts, NeverX p.2 ∨ FnVKXOk L p.1 p.2 ks perm) ∧ quiet kes
  | .prim p es => (primPlain p = true ∧ okX L es) ∨ quiet es
  | .nil => True
  | e => quiet e
theorem callR_exc {f : Fn} {rs : List Rs} {s s' : OSt} {c : String} {d : D} (h : callR f rs s = .exc c d s') : f (rs.map Rs.d) s = .exc c d s' := by
  unfold callR at h
  rcases bind_exc h with h | ⟨r, s1, _, h⟩
  · exact h
  · split at h
    · cases h
    · split at h <;> cases h
section
variable {X : Cx} {W : L2.WX} {mc : MC}
theorem run_gX {k : Nat} {f : Addr} {fd : FuncData} {ps : List Str} {fn : Fn} {pins : List (Addr × Obj)} {σ : L2.St} {H : Hp} {s : Shared} {Q : VK} {us : List Value} {vs : List V} {args : Args} {g : Bool}
    (F : FnX X.prog X.w X.K X.mg X.base k f fd ps fn g) (tk : Takes X W) (hr : Room k X.A) (hg : g = true → X.A.guards = some []) (hb : BindsTo s fd args (ps.zip us)) (I : Inv X pins σ H s) (r : Vals vs us) (h : spX X.K X.mg fn ps.length vs H fun cls d H' => W cls d σ H') :
    codeAny (model X.prog X.w) X.A (.call (.ref f) args) (fun res s' => match res with | .ok (.ret u) => EP X pins σ Q u s' | .error e => X.xe e s' | _ => False) s := by
  refine codeAny_mono (F.go X.A X.stack s H args us vs _ hr hg I.env0 hb r h) fun res s' hq => ?_
  cases res with
  | error e => exact tk e s' (XE.of_call I (fun _ _ _ h => h) hq)
  | ok fl =>
    cases fl with
    | ret u =>
      obtain ⟨_, _, _, _, _, _, _, q⟩ := hq
      exact q.elim
    | next => exact False.elim hq
    | brk => exact False.elim hq
    | cont => exact False.elim hq
end
end RS
end
section
set_option Elab.async false
set_option linter.all false
set_option maxRecDepth 100000
set_option autoImplicit false
set_option maxHeartbeats 4000000
/-! RSX2: calls that raise; every expression through which errors may pass. -/
namespace RS
open PySem L2
section
variable {X : Cx} {W : L2.WX} {mc : MC}
theorem spX_of {c : Cfg} {gT : Shd} {gF : Own} {σ : L2.St} {H1 : Hp} {ρ : Env} {s1 s' : OSt} {rs : List Rs} {vs : List V} {fn : Fn} {n : Nat} {cl : String} {d : D} (hn : ∀ ds s c d s', fn ds s = .exc c d s' → ds.length = n) (P1 : Pt X.K c (exTs rs vs gT) (exFs rs vs gF) σ H1 ρ s1) (V1 : Hds (exTs rs vs gT) (exFs rs vs gF) σ ρ rs vs)
    (hf : freeze rs = true) (e : callR fn rs s1 = .exc cl d s') (q : XPostA X.K X.mg W c gT gF σ ρ cl d s') : spX X.K X.mg fn n vs H1 fun cls d H' => W cls d σ H' := by
  have e2 := callR_exc e
  obtain ⟨gT', T, F, o, h1, reps⟩ := args_share P1 V1 hf
  refine ⟨⟨c.Ow F, H1, c.aS, c.aL, c.aC, c.tab⟩, rs.map Rs.d, s1, cl, d, s', ?_, reps, ⟨?_, ?_, ?_, o.B.tq⟩, e2, ?_⟩
  · rw [V1.length, ← List.length_map (f := Rs.d)]; exact hn _ _ _ _ _ e2
  · exact ⟨o.B.st.dict, o.B.st.cells, o.B.st.lefts, o.B.st.ne, o.B.st.len, o.B.st.pos, o.B.st.most, o.B.st.tab⟩
  · exact ⟨.inl o.B.oS.1, .inl o.B.oS.2.1, .inl o.B.oS.2.2⟩
  · intro a ha
    rcases ha with z | z
    · exact o.B.trk a z
    · obtain ⟨p, hp, e⟩ := List.mem_map.mp z
      obtain ⟨l, xs, _, e2, _⟩ := o.B.top_at (d := p.1) (a := p.2) hp
      exact ⟨.lst xs, by rw [← e]; exact e2, trivial⟩
  · intro H' C dd v hm k st rep hx
    have k' : Keeps c H1 H' := ⟨k.obj, k.there⟩
    have st' : StOk c H' s' := ⟨st.dict, st.cells, st.lefts, st.ne, st.len, st.pos, st.most, st.tab⟩
    refine q H' C dd v hm ⟨_, _, (Opn.addT ⟨o.B.call k' st', o.hT, o.hF, o.nd, o.sl⟩ rep).less (fun p hp => ?_) (List.Sublist.refl _)⟩ hx
    rcases List.mem_cons.mp hp with e | hp
    · rw [e]; exact List.mem_cons_self
    · exact List.mem_cons_of_mem _ (h1 p hp)
theorem callX_xd {fn : Fn} {n : Nat} {fa : Env → OSt → R (List Rs)} {σ : L2.St} {H : Hp} (hn : ∀ ds s c d s', fn ds s = .exc c d s' → ds.length = n) (h : xd X W (fun ρ s => (fa ρ s).bind fun rs s' => if freeze rs then callR fn rs s' else .no) σ H) :
    (rdA X.K fa σ H fun vs H1 => spX X.K X.mg fn n vs H1 fun cls d H' => W cls d σ H') ∨ xd X W fa σ H := by
  obtain ⟨c, gT, gF, ρ, s, cl, d, s', P, e, q⟩ := h
  rcases bind_exc e with e | ⟨rs, s1, e1, e⟩
  · exact .inr ⟨c, gT, gF, ρ, s, cl, d, s', P, e, q⟩
  · split at e <;> first | (cases e; done) | skip
    rename_i hf
    exact .inl ⟨c, gT, gF, ρ, s, rs, s1, P, e1, fun vs H1 P1 V1 => spX_of hn P1 V1 hf e q⟩
theorem binds_zip {fd : FuncData} {ps : List Str} {s : Shared} {us : List Value} {vs : List V} {H : Hp} {fn : Fn} {E : XK} (hb : Binds X.K fd ps []) (k : X.K.In s.heap) (r : Vals vs us) (h : spX X.K X.mg fn ps.length vs H E) : BindsTo s fd ⟨us, []⟩ (ps.zip us) := by
  have hl : us.length = ps.length := by
    obtain ⟨_, _, _, _, _, _, h1, _⟩ := h
    rw [← r.length]; exact h1
  have := hb s us k (by simpa using hl)
  simpa using this
theorem pe_gX {k : Nat} {f : Addr} {fd : FuncData} {ps : List Str} {fn : Fn} {x : Str} {p pos : Pos} {e : Expr} {es : List Expr} {t : TA} (tk : Takes X W)
    {g : Bool} (F : FnX X.prog X.w X.K X.mg X.base k f fd ps fn g) (hr : Room k X.A) (hgd : g = true → X.A.guards = some []) (hg : Gl X x) (hm : X.mg x = some (.ref f)) (hk : PySem.W.keepIn X.K (.ref f) = true) (hb : Binds X.K fd ps [])
    (ha : PA X (e :: es) t) (hdb : (x == ("__debug__" : Str)) = false) (he : starEach (e :: es) X.env = (false, eval e X.env) :: starEach es X.env) (hpl : (backTo pos (starEach es X.env)).any (·.1) = false) :
    PE X (.Call (.Name x p) (e :: es) [] pos) (fun σ H _ => t σ H fun vs H1 => spX X.K X.mg fn ps.length vs H1 fun cls d H' => W cls d σ H') := by
  refine ⟨fun pins s σ H Q I h => wpAny_Call_Name_kw (ld_glob I hg hm ?_ hdb)⟩
  refine PySem.W.callWith_K (h₀ := X.base) I.ok.mod.kin hk (thn (ha.run pos pins s σ H _ I h) fun us s1 ⟨vs, H1, I1, r, q⟩ => ⟨I1.kIn, ?_⟩) he hpl
  refine wpAny_call (codeAny_mono (run_gX (Q := Q) F tk hr hgd (binds_zip hb I1.kIn r q) I1 r q) fun res s' hq => ?_)
  cases res with
  | error e => exact hq
  | ok fl => cases fl <;> exact hq
/-- a def that a name holds -/
def tCallVX (X : Cx) (W : L2.WX) (i : Nat) (t : TA) : TE := fun σ H _ => ∃ a fn g k fd ps, σ[i]? = some (some (.ref a)) ∧ PySem.W.keepIn X.K (.ref a) = true ∧ Binds X.K fd ps [] ∧ FnX X.prog X.w X.K X.mg X.base k a fd ps fn g ∧ (Room k X.A ∧ (g = true → X.A.guards = some [])) ∧ t σ H fun vs H1 => spX X.K X.mg fn ps.length vs H1 fun cls d H' => W cls d σ H'
theorem pe_gVX {i : Nat} {x : Str} {p pos : Pos} {e : Expr} {es : List Expr} {t : TA} (tk : Takes X W) (hN : X.N[i]? = some x) (hv : Vis X.env.scope x) (ha : PA X (e :: es) t) (hd1 : (x == ("__debug__" : Str)) = false) (hd2 : (x == ("__classdict__" : Str)) = false)
    (he : starEach (e :: es) X.env = (false, eval e X.env) :: starEach es X.env) (hpl : (backTo pos (starEach es X.env)).any (·.1) = false) : PE X (.Call (.Name x p) (e :: es) [] pos) (tCallVX X W i t) := by
  refine ⟨fun pins s σ H Q I ⟨a, fn, g, k, fd, ps, hs, hk, hb, F, ⟨hr, hgd⟩, h⟩ => ?_⟩
  refine wpAny_Call_Name_kw (thn ((pe_var (pos := p) (i := i) hN hv hd1 hd2).run pins s σ H (fun v H1 => v = .ref a ∧ H1 = H) I ⟨.ref a, hs, rfl, rfl⟩) fun u s1 ⟨v, H1, I1, r1, q1⟩ => ?_)
  obtain ⟨ev, eH⟩ := q1
  subst ev eH
  obtain rfl : u = Value.ref a := r1
  refine PySem.W.callWith_K (h₀ := X.base) I.ok.mod.kin hk (thn (ha.run pos pins s1 σ H1 _ I1 h) fun us s1 ⟨vs, H1, I1, r, q⟩ => ⟨I1.kIn, ?_⟩) he hpl
  refine wpAny_call (codeAny_mono (run_gX (Q := Q) F tk hr hgd (binds_zip hb I1.kIn r q) I1 r q) fun res s' hq => ?_)
  cases res with
  | error e => exact hq
  | ok fl => cases fl <;> exact hq
/-- a def that a name holds, called without an error by its arguments' -/
theorem pe_gV0 {i : Nat} {x : Str} {p pos : Pos} {e : Expr} {es : List Expr} {t : TA} (hN : X.N[i]? = some x) (hv : Vis X.env.scope x) (ha : PA X (e :: es) t) (hd1 : (x == ("__debug__" : Str)) = false) (hd2 : (x == ("__classdict__" : Str)) = false)
    (he : starEach (e :: es) X.env = (false, eval e X.env) :: starEach es X.env) (hpl : (backTo pos (starEach es X.env)).any (·.1) = false) :
    PE X (.Call (.Name x p) (e :: es) [] pos) (fun σ H _ => ∃ a, σ[i]? = some (some (.ref a)) ∧ PySem.W.keepIn X.K (.ref a) = true ∧ t σ H fun _ _ => False) := by
  refine ⟨fun pins s σ H Q I ⟨a, hs, hk, h⟩ => ?_⟩
  refine wpAny_Call_Name_kw (thn ((pe_var (pos := p) (i := i) hN hv hd1 hd2).run pins s σ H (fun v H1 => v = .ref a ∧ H1 = H) I ⟨.ref a, hs, rfl, rfl⟩) fun u s1 ⟨v, H1, I1, r1, q1⟩ => ?_)
  obtain ⟨ev, eH⟩ := q1
  subst ev eH
  obtain rfl : u = Value.ref a := r1
  refine PySem.W.callWith_K (h₀ := X.base) I.ok.mod.kin hk (thn (ha.run pos pins s1 σ H1 _ I1 h) fun us s1 ⟨vs, H1, I1, r, q⟩ => q.elim) he hpl
/-- the same, with keywords alone -/
def tCallVKX (X : Cx) (W : L2.WX) (i : Nat) (ks : List String) (perm : List Nat) (t : TA) : TE := fun σ H _ => ∃ a fn g k fd ps, σ[i]? = some (some (.ref a)) ∧ PySem.W.keepIn X.K (.ref a) = true ∧
  (∀ (s : Shared) (ws : List Value), X.K.In s.heap → ws.length = ks.length → BindsTo s fd ⟨[], (ks.map Str.ofString).zip ws⟩ (ps.zip (perm.map fun i => ws.getD i .none))) ∧
  FnX X.prog X.w X.K X.mg X.base k a fd ps fn g ∧ (Room k X.A ∧ (g = true → X.A.guards = some [])) ∧ t σ H fun vs H1 => spX X.K X.mg fn ps.length vs H1 fun cls d H' => W cls d σ H'
theorem pe_gVKX {i : Nat} {x : Str} {p pos : Pos} {kws : List Keyword} {ks : List String} {perm : List Nat} {tk' : TA} (tk : Takes X W) (hN : X.N[i]? = some x) (hv : Vis X.env.scope x) (hd1 : (x == ("__debug__" : Str)) = false) (hd2 : (x == ("__classdict__" : Str)) = false) (hp : ∀ i ∈ perm, i < ks.length)
    (hkw : PK X kws tk') (hn : kws.map (·.arg) = (ks.map fun k => some (Str.ofString k))) (hl : ∀ σ H Q, tk' σ H Q → tk' σ H fun vs H1 => vs.length = ks.length ∧ Q vs H1) :
    PE X (.Call (.Name x p) [] kws pos) (tCallVKX X W i ks perm (fun σ H Q => tk' σ H fun ws H1 => Q (perm.map fun i => ws.getD i .non) H1)) := by
  obtain ⟨h1, h2, h3⟩ := kw_all (pos := pos) (env := X.env) hn
  refine ⟨fun pins s σ H Q I ⟨a, fn, g, k, fd, ps, hs, hk, hb, F, ⟨hr, hgd⟩, h⟩ => ?_⟩
  refine wpAny_Call_Name_kw (thn ((pe_var (pos := p) (i := i) hN hv hd1 hd2).run pins s σ H (fun v H1 => v = .ref a ∧ H1 = H) I ⟨.ref a, hs, rfl, rfl⟩) fun u s1 ⟨v, H1, I1, r1, q1⟩ => ?_)
  obtain ⟨ev, eH⟩ := q1
  subst ev eH
  obtain rfl : u = Value.ref a := r1
  have h : tk' σ H1 fun ws H1 => spX X.K X.mg fn ps.length (perm.map fun i => ws.getD i .non) H1 fun cls d H' => W cls d σ H' := h
  refine PySem.W.callWith_KW0 (h₀ := X.base) I.ok.mod.kin hk h1 (thn (hkw.run pos pins s1 σ H1 _ I1 (hl _ _ _ h)) fun us s1 ⟨vs, H1, I1, r, q1, q⟩ => ⟨I1.kIn, ?_⟩) (by rw [h3]; rfl)
  rw [h2]
  have hlu : us.length = ks.length := by rw [← r.length]; exact q1
  have rel : Vals (perm.map fun i => vs.getD i .non) (perm.map fun i => us.getD i .none) := vals_map fun i hi => vals_get r i (by rw [q1]; exact hp i hi)
  refine wpAny_call (codeAny_mono (run_gX (Q := Q) F tk hr hgd (hb s1 us I1.kIn hlu) I1 rel q) fun res s' hq => ?_)
  cases res with
  | error e => exact hq
  | ok fl => cases fl <;> exact hq
/-! ### the constructs -/
theorem sel_exc {x : R Rs} {f g : OSt → R Rs} {c : String} {d : D} {s : OSt} (h : (x.bind fun r s1 => match r with | .sh (.bl true) => f s1 | .sh (.bl false) => g s1 | _ => .no) = .exc c d s) : x = .exc c d s ∨ ∃ b s1, x = .ok (.sh (.bl b)) s1 ∧ (if b = true then f s1 else g s1) = .exc c d s := by
  rcases bind_exc h with h | ⟨r, s1, h1, h⟩
  · exact .inl h
  · split at h
    · exact .inr ⟨true, s1, h1, h⟩
    · exact .inr ⟨false, s1, h1, h⟩
    · cases h
theorem sel_exc' {x : R Rs} {f g : OSt → R Rs} {c : String} {d : D} {s : OSt} (h : (x.bind fun r s1 => match r with | .sh (.bl false) => f s1 | .sh (.bl true) => g s1 | _ => .no) = .exc c d s) : x = .exc c d s ∨ ∃ b s1, x = .ok (.sh (.bl b)) s1 ∧ (if b = true then g s1 else f s1) = .exc c d s := by
  rcases bind_exc h with h | ⟨r, s1, h1, h⟩
  · exact .inl h
  · split at h
    · exact .inr ⟨false, s1, h1, h⟩
    · exact .inr ⟨true, s1, h1, h⟩
    · cases h
theorem xd_and {a b : Expr} {r : List Expr} {ea eb : E} {pos : Pos} (ha : Snd X a (ev ea)) (xa : SndX X W a (ev ea)) (xb : PE X (.BoolOp .And (b :: r) pos) (rdX X W (ev eb))) (xw : PW X (.BoolOp .And (b :: r) pos) (rdXT X W (ev eb))) : SndX X W (.BoolOp .And (a :: b :: r) pos) (ev (.and ea eb)) := by
  have w : PW X (.BoolOp .And (a :: b :: r) pos) (rdXT X W (ev (.and ea eb))) := by
    refine (pw_and (ha.pt.or xa.pt) xw).via fun σ H Q h => ?_
    obtain ⟨c, gT, gF, ρ, s, cl, d, s', P, e, q⟩ := h
    rw [ev] at e
    rcases sel_exc e with e | ⟨k, s1, e1, e⟩
    · exact .inr ⟨c, gT, gF, ρ, s, cl, d, s', P, e, q⟩
    · refine .inl ⟨c, gT, gF, ρ, s, k, s1, P, e1, fun H' P' => ?_⟩
      cases k with
      | true => exact ⟨c, gT, gF, ρ, s1, cl, d, s', P', e, q⟩
      | false => cases e
  refine ⟨(pe_and (ha.pe.or xa.pe) xb).via fun σ H Q h => ?_, w.pt, fun _ _ _ _ => w⟩
  obtain ⟨c, gT, gF, ρ, s, cl, d, s', P, e, q⟩ := h
  rw [ev] at e
  rcases sel_exc e with e | ⟨k, s1, e1, e⟩
  · exact .inr ⟨c, gT, gF, ρ, s, cl, d, s', P, e, q⟩
  · refine .inl ⟨c, gT, gF, ρ, s, _, s1, P, e1, fun v H' P' _ => ?_⟩
    obtain ⟨rfl, P'⟩ := rep_bl P'
    refine ⟨k, rfl, ?_⟩
    cases k with
    | true => exact ⟨c, gT, gF, ρ, s1, cl, d, s', P', e, q⟩
    | false => cases e
theorem xd_or {a b : Expr} {r : List Expr} {ea eb : E} {pos : Pos} (ha : Snd X a (ev ea)) (xa : SndX X W a (ev ea)) (xb : PE X (.BoolOp .Or (b :: r) pos) (rdX X W (ev eb))) (xw : PW X (.BoolOp .Or (b :: r) pos) (rdXT X W (ev eb))) : SndX X W (.BoolOp .Or (a :: b :: r) pos) (ev (.or ea eb)) := by
  have w : PW X (.BoolOp .Or (a :: b :: r) pos) (rdXT X W (ev (.or ea eb))) := by
    refine (pw_or (ha.pt.or xa.pt) xw).via fun σ H Q h => ?_
    obtain ⟨c, gT, gF, ρ, s, cl, d, s', P, e, q⟩ := h
    rw [ev] at e
    rcases sel_exc' e with e | ⟨k, s1, e1, e⟩
    · exact .inr ⟨c, gT, gF, ρ, s, cl, d, s', P, e, q⟩
    · refine .inl ⟨c, gT, gF, ρ, s, k, s1, P, e1, fun H' P' => ?_⟩
      cases k with
      | false => exact ⟨c, gT, gF, ρ, s1, cl, d, s', P', e, q⟩
      | true => cases e
  refine ⟨(pe_or (ha.pe.or xa.pe) xb).via fun σ H Q h => ?_, w.pt, fun _ _ _ _ => w⟩
  obtain ⟨c, gT, gF, ρ, s, cl, d, s', P, e, q⟩ := h
  rw [ev] at e
  rcases sel_exc' e with e | ⟨k, s1, e1, e⟩
  · exact .inr ⟨c, gT, gF, ρ, s, cl, d, s', P, e, q⟩
  · refine .inl ⟨c, gT, gF, ρ, s, _, s1, P, e1, fun v H' P' _ => ?_⟩
    obtain ⟨rfl, P'⟩ := rep_bl P'
    refine ⟨k, rfl, ?_⟩
    cases k with
    | false => exact ⟨c, gT, gF, ρ, s1, cl, d, s', P', e, q⟩
    | true => cases e
theorem xd_not {a : Expr} {ea : E} {pos : Pos} (xa : SndX X W a (ev ea)) : SndX X W (.UnaryOp .Not a pos) (ev (.not ea)) := by
  have key : ∀ σ H, xd X W (ev (.not ea)) σ H → xd X W (ev ea) σ H := fun σ H ⟨c, gT, gF, ρ, s, cl, d, s', P, e, q⟩ => by
    rw [ev] at e
    rcases bind_exc e with e | ⟨r, s1, e1, e⟩
    · exact ⟨c, gT, gF, ρ, s, cl, d, s', P, e, q⟩
    · split at e <;> cases e
  exact ⟨(pe_not xa.pe).via fun σ H Q h => key σ H h, (pt_not xa.pt).via fun σ H Q h => key σ H h, fun _ _ _ z => by cases z⟩
theorem xd_ife {t a b : Expr} {et ea eb : E} {pos : Pos} (ht : Snd X t (ev et)) (xt : SndX X W t (ev et)) (xa : SndX X W a (ev ea)) (xb : SndX X W b (ev eb)) : SndX X W (.IfExp t a b pos) (ev (.ife et ea eb)) := by
  have key : ∀ σ H, xd X W (ev (.ife et ea eb)) σ H → (rdT X.K (ev et) σ H fun c H1 => if c = true then xd X W (ev ea) σ H1 else xd X W (ev eb) σ H1) ∨ xd X W (ev et) σ H := fun σ H ⟨c, gT, gF, ρ, s, cl, d, s', P, e, q⟩ => by
    rw [ev] at e
    rcases sel_exc e with e | ⟨k, s1, e1, e⟩
    · exact .inr ⟨c, gT, gF, ρ, s, cl, d, s', P, e, q⟩
    · refine .inl ⟨c, gT, gF, ρ, s, k, s1, P, e1, fun H' P' => ?_⟩
      cases k with
      | true => exact ⟨c, gT, gF, ρ, s1, cl, d, s', P', e, q⟩
      | false => exact ⟨c, gT, gF, ρ, s1, cl, d, s', P', e, q⟩
  exact ⟨(pe_ifExp (ht.pt.or xt.pt) xa.pe xb.pe).via fun σ H Q h => key σ H h, (pt_ife (ht.pt.or xt.pt) xa.pt xb.pt).via fun σ H Q h => key σ H h, fun _ _ _ z => by cases z⟩
theorem callR_none (id : Value) : CallR X id (fun _ _ _ => False) := fun pins s σ H xs us Q I r h => h.elim
/-- an argument of a built-in raises it -/
theorem xd_prim (ok : CtxOk X mc) {p : Prim} {t : TA} {y : Str} {l : List Expr} {k pos : Pos} (hp : primPlain p = true) (hy : callB mc (primNm p) y = true) (hl : plainEs l = true) (hne : l ≠ []) (ha : PA X l t)
    (hgcd : p = .gcd → X.mg "gcd" = some (.builtin "math.gcd")) : PE X (.Call (.Name y k) l [] pos) (fun σ H _ => t σ H fun _ _ => False) := by
  obtain ⟨rfl, hg, hd⟩ := callB_of ok hy
  cases l with
  | nil => exact (hne rfl).elim
  | cons e l =>
    rw [plainEs, Bool.and_eq_true] at hl
    have st := star_cons (env := X.env) (es := l) hl.1
    have sp := star_plain X.env pos l hl.2
    have b : ∀ x : String, x ∈ bltNames → X.mg (Str.ofString x) = none := ok.blt
    cases p <;> first | (cases hp; done) | skip
    · exact (pe_callB (callR_none (.builtin "len")) hg (b _ (by decide)) (by decide +kernel) ha (by decide +kernel) hd st sp).via fun σ H Q h => h
    · exact (pe_callTy (callR_none (.type "tuple")) hg (b _ (by decide)) (by decide +kernel) ha (by decide +kernel) hd st sp).via fun σ H Q h => h
    · exact (pe_callTy (callR_none (.type "list")) hg (b _ (by decide)) (by decide +kernel) ha (by decide +kernel) hd st sp).via fun σ H Q h => h
    · exact (pe_callB (callR_none (.builtin "sum")) hg (b _ (by decide)) (by decide +kernel) ha (by decide +kernel) hd st sp).via fun σ H Q h => h
    · exact (pe_callB (callR_none (.builtin "max")) hg (b _ (by decide)) (by decide +kernel) ha (by decide +kernel) hd st sp).via fun σ H Q h => h
    · exact (pe_callB (callR_none (.builtin "min")) hg (b _ (by decide)) (by decide +kernel) ha (by decide +kernel) hd st sp).via fun σ H Q h => h
    · exact (pe_callB (callR_none (.builtin "abs")) hg (b _ (by decide)) (by decide +kernel) ha (by decide +kernel) hd st sp).via fun σ H Q h => h
    · exact (pe_callTy (callR_none (.type "int")) hg (b _ (by decide)) (by decide +kernel) ha (by decide +kernel) hd st sp).via fun σ H Q h => h
    · exact (pe_callBfun (callR_none (.builtin "math.gcd")) hg (hgcd rfl) ha hd st sp).via fun σ H Q h => h
theorem args_consX {e : Expr} {es : List Expr} {ea eb : E} (hp : plainE e = true) (ha : PE X e (rd X.K (ev ea))) (xa : PE X e (rdX X W (ev ea))) (xb : PA X es (rdXA X W (evs eb))) : PA X (e :: es) (rdXA X W (evs (.cons ea eb))) := by
  refine (pa_cons (ha.or xa) xb (star_cons hp)).via fun σ H Q h => ?_
  obtain ⟨c, gT, gF, ρ, s, cl, d, s', P, e, q⟩ := h
  rw [evs] at e
  rcases bind_exc e with e | ⟨rx, s1, e1, e⟩
  · exact .inr ⟨c, gT, gF, ρ, s, cl, d, s', P, e, q⟩
  · rcases bind_exc e with e | ⟨ry, s2, e2, e⟩
    · exact .inl ⟨c, gT, gF, ρ, s, rx, s1, P, e1, fun x H1 P1 V1 => ⟨c, _, _, ρ, s1, cl, d, s', P1, e, q.up (rx.subT x gT) (rx.subF x gF)⟩⟩
    · cases e
end
end RS
end
section
set_option Elab.async false
set_option linter.all false
set_option maxRecDepth 100000
set_option autoImplicit false
set_option maxHeartbeats 4000000
/-! RSX3: every expression that matches lets the evaluator's errors pass. -/
namespace RS
open PySem L2
def SndAllX (e : E) : Prop := ∀ (X : Cx) (mc : MC) (W : L2.WX), CtxOk X mc → okE (lvOf X) e → okX (lvOf X) e → Takes X W →
  (∀ x, mtE e mc x = true → SndX X W x (ev e)) ∧ (∀ l, mtEs e mc l = true → PA X l (rdXA X W (evs e)))
theorem SndAllX.of {e : E} (h : ∀ (X : Cx) (mc : MC) (W : L2.WX), CtxOk X mc → okE (lvOf X) e → okX (lvOf X) e → Takes X W → ∀ x, mtE e mc x = true → SndX X W x (ev e)) (h1 : ∀ mc l, mtEs e mc l = false) : SndAllX e :=
  fun X mc W ok hk hx tk => ⟨h X mc W ok hk hx tk, fun l z => absurd z (by rw [h1]; simp)⟩
theorem SndAllX.quiet {e : E} (h : ∀ L, okX L e → RS.quiet e) (h1 : ∀ mc l, mtEs e mc l = false) : SndAllX e :=
  .of (fun X mc W ok hk hx tk x _ => .never (quiet_ok e (h _ hx)).1) h1
theorem freeze_map {α : Type} {f : α → D} (l : List α) : freeze (l.map fun i => Rs.sh (f i)) = true := by
  induction l with
  | nil => rfl
  | cons i r ih => rw [List.map_cons, freeze, ih]; rfl
theorem exc_all (e : E) : SndAllX e := by
  induction e with
  | var i => exact .quiet (fun _ h => h) (by intro mc l; simp [mtEs])
  | con d => exact .quiet (fun _ h => h) (by intro mc l; simp [mtEs])
  | glob y d => exact .quiet (fun _ h => h) (by intro mc l; simp [mtEs])
  | nil =>
    refine fun X mc W ok hk hx tk => ⟨fun x h => by simp [mtE] at h, fun l h => ?_⟩
    cases l <;> first | (simp [mtEs] at h; done) | skip
    exact ⟨fun pos pins s σ H Q I q => (xd_never (fun ρ s => by rw [evs]; trivial) q).elim⟩
  | cons a b iha ihb =>
    refine fun X mc W ok hk hx tk => ⟨fun x h => by simp [mtE] at h, fun l h => ?_⟩
    cases l <;> first | (simp [mtEs] at h; done) | skip
    rw [mtEs, Bool.and_eq_true, Bool.and_eq_true] at h
    exact args_consX h.1.1 ((snd_all a).1 X mc ok hk.1 |>.1 _ h.1.2).pe ((iha X mc W ok hk.1 hx.1 tk).1 _ h.1.2).pe ((ihb X mc W ok hk.2 hx.2 tk).2 _ h.2)
  | «omit» => exact .quiet (fun _ h => h) (by intro mc l; simp [mtEs])
  | tup es ih =>
    refine .of (fun X mc W ok hk hx tk x h => ?_) (by intro mc l; simp [mtEs])
    cases x <;> first | (simp [mtE] at h; done) | skip
    rw [mtE, Bool.and_eq_true] at h
    refine .of_pe ((pe_tup ((ih X mc W ok hk hx tk).2 _ h.2)).via fun σ H Q q => ?_) (fun _ => rfl) (fun _ _ _ z => by cases z)
    exact xd_args (k := fun rs ρ s' => if freeze rs then R.ok (Rs.sh (.tup (rs.map Rs.d))) s' else .no) (by simpa only [ev] using q) fun rs ρ s => by split <;> trivial
  | lst es ih =>
    refine .of (fun X mc W ok hk hx tk x h => ?_) (by intro mc l; simp [mtEs])
    cases x <;> first | (simp [mtE] at h; done) | skip
    rw [mtE, Bool.and_eq_true] at h
    refine .of_pe ((pe_lst ((ih X mc W ok hk hx tk).2 _ h.2)).via fun σ H Q q => ?_) (fun _ => rfl) (fun _ _ _ z => by cases z)
    exact xd_args (k := fun rs ρ s' => if freeze rs then R.ok (Rs.fr (.lst (rs.map Rs.d))) s' else .no) (by simpa only [ev] using q) fun rs ρ s => by split <;> trivial
  | bin o a b iha ihb =>
    refine .of (fun X mc W ok hk hx tk x h => ?_) (by intro mc l; simp [mtEs])
    cases x <;> first | (simp [mtE] at h; done) | skip
    rw [mtE, Bool.and_eq_true, Bool.and_eq_true] at h
    obtain ⟨⟨h1, h2⟩, h3⟩ := h
    rw [of_decide_eq_true h1]
    exact .of_pe ((pe_op (op_bin o) (((snd_all a).1 X mc ok hk.1 |>.1 _ h2).pe.or ((iha X mc W ok hk.1 hx.1 tk).1 _ h2).pe) (((snd_all b).1 X mc ok hk.2 |>.1 _ h3).pe.or ((ihb X mc W ok hk.2 hx.2 tk).1 _ h3).pe)).via fun σ H Q q => xd_two (g := fun x y => binF o x.d y.d) (by simpa only [ev] using q)) (fun _ => rfl) (fun _ _ _ z => by cases z)
  | neg a iha => exact .quiet (fun _ h => h) (by intro mc l; simp [mtEs])
  | cmp o a b iha ihb =>
    refine .of (fun X mc W ok hk hx tk x h => ?_) (by intro mc l; simp [mtEs])
    cases x <;> first | (simp [mtE] at h; done) | skip
    rename_i x ops cs pos
    cases ops with
    | nil => simp [mtE] at h
    | cons op r =>
      cases r with
      | cons _ _ => simp [mtE] at h
      | nil =>
        cases cs with
        | nil => simp [mtE] at h
        | cons y r =>
          cases r with
          | cons _ _ => simp [mtE] at h
          | nil =>
            rw [mtE, Bool.and_eq_true, Bool.and_eq_true, Bool.and_eq_true] at h
            obtain ⟨⟨⟨h1, h2⟩, h3⟩, h4⟩ := h
            rw [of_decide_eq_true h1]
            have hm : behindInMarks (copOf o) y = false := by cases y <;> first | rfl | cases h2
            have ua := ((snd_all a).1 X mc ok hk.1 |>.1 _ h3).pe.or ((iha X mc W ok hk.1 hx.1 tk).1 _ h3).pe
            have ub := ((snd_all b).1 X mc ok hk.2 |>.1 _ h4).pe.or ((ihb X mc W ok hk.2 hx.2 tk).1 _ h4).pe
            have hu : X.A.units + 64 < cLine := by have := ok.un; omega
            exact ⟨(pe_cmpR (op_cmp hu o) ua ub hm).via fun σ H Q q => xd_two (g := fun x y => (cmpF o x.d y.d).map fun b => .sh (.bl b)) (by simpa only [ev] using q), (pt_cmpR (op_cmp hu o) ua ub hm).via fun σ H Q q => xd_two (g := fun x y => (cmpF o x.d y.d).map fun b => .sh (.bl b)) (by simpa only [ev] using q), fun _ _ _ z => by cases z⟩
  | chain o1 o2 a b c iha ihb ihc => exact .quiet (fun _ h => h) (by intro mc l; simp [mtEs])
  | and a b iha ihb =>
    refine .of (fun X mc W ok hk hx tk x h => ?_) (by intro mc l; simp [mtEs])
    cases x <;> first | (simp [mtE] at h; done) | skip
    rename_i op vs pos
    match vs, h with
    | [], h => simp [mtE] at h
    | [_], h => simp [mtE] at h
    | [y, z], h =>
      simp only [mtE, Bool.and_eq_true] at h
      obtain ⟨⟨h1, h2⟩, h3⟩ := h
      rw [of_decide_eq_true h1]
      have pb := (ihb X mc W ok hk.2 hx.2 tk).1 _ h3
      exact xd_and ((snd_all a).1 X mc ok hk.1 |>.1 _ h2) ((iha X mc W ok hk.1 hx.1 tk).1 _ h2) (pe_one pb.pe) (pw_and1 pb.pt)
    | y :: z :: w :: r, h =>
      simp only [mtE, Bool.and_eq_true] at h
      obtain ⟨⟨h1, h2⟩, h3⟩ := h
      rw [of_decide_eq_true h1]
      have pb := (ihb X mc W ok hk.2 hx.2 tk).1 _ h3
      exact xd_and ((snd_all a).1 X mc ok hk.1 |>.1 _ h2) ((iha X mc W ok hk.1 hx.1 tk).1 _ h2) pb.pe (pb.pw _ _ _ rfl)
  | or a b iha ihb =>
    refine .of (fun X mc W ok hk hx tk x h => ?_) (by intro mc l; simp [mtEs])
    cases x <;> first | (simp [mtE] at h; done) | skip
    rename_i op vs pos
    match vs, h with
    | [], h => simp [mtE] at h
    | [_], h => simp [mtE] at h
    | [y, z], h =>
      simp only [mtE, Bool.and_eq_true] at h
      obtain ⟨⟨h1, h2⟩, h3⟩ := h
      rw [of_decide_eq_true h1]
      have pb := (ihb X mc W ok hk.2 hx.2 tk).1 _ h3
      exact xd_or ((snd_all a).1 X mc ok hk.1 |>.1 _ h2) ((iha X mc W ok hk.1 hx.1 tk).1 _ h2) (pe_one pb.pe) (pw_or1 pb.pt)
    | y :: z :: w :: r, h =>
      simp only [mtE, Bool.and_eq_true] at h
      obtain ⟨⟨h1, h2⟩, h3⟩ := h
      rw [of_decide_eq_true h1]
      have pb := (ihb X mc W ok hk.2 hx.2 tk).1 _ h3
      exact xd_or ((snd_all a).1 X mc ok hk.1 |>.1 _ h2) ((iha X mc W ok hk.1 hx.1 tk).1 _ h2) pb.pe (pb.pw _ _ _ rfl)
  | not a iha =>
    refine .of (fun X mc W ok hk hx tk x h => ?_) (by intro mc l; simp [mtEs])
    cases x <;> first | (simp [mtE] at h; done) | skip
    rw [mtE, Bool.and_eq_true] at h
    rw [of_decide_eq_true h.1]
    exact xd_not ((iha X mc W ok hk hx tk).1 _ h.2)
  | ife c a b ihc iha ihb =>
    refine .of (fun X mc W ok hk hx tk x h => ?_) (by intro mc l; simp [mtEs])
    cases x <;> first | (simp [mtE] at h; done) | skip
    rw [mtE, Bool.and_eq_true, Bool.and_eq_true] at h
    exact xd_ife ((snd_all c).1 X mc ok hk.1 |>.1 _ h.1.1) ((ihc X mc W ok hk.1 hx.1 tk).1 _ h.1.1) ((iha X mc W ok hk.2.1 hx.2.1 tk).1 _ h.1.2) ((ihb X mc W ok hk.2.2 hx.2.2 tk).1 _ h.2)
  | idx a i iha ihi =>
    refine .of (fun X mc W ok hk hx tk x h => ?_) (by intro mc l; simp [mtEs])
    cases x <;> first | (simp [mtE] at h; done) | skip
    rename_i x y pos
    rw [mtE, Bool.and_eq_true, Bool.and_eq_true] at h
    obtain ⟨⟨h1, h2⟩, h3⟩ := h
    have hs : PlainIx y := fun o i => by cases y <;> first | rfl | cases h1
    exact .of_pe ((pe_ix ix_idx (((snd_all a).1 X mc ok hk.1 |>.1 _ h2).pe.or ((iha X mc W ok hk.1 hx.1 tk).1 _ h2).pe) (((snd_all i).1 X mc ok hk.2 |>.1 _ h3).pe.or ((ihi X mc W ok hk.2 hx.2 tk).1 _ h3).pe) hs).via fun σ H Q q => xd_two (g := fun x y => (idxF x.d y.d).map .sh) (by simpa only [ev] using q)) (fun _ => rfl) (fun _ _ _ z => by cases z)
  | slc a lo hi iha ihl ihh => exact .quiet (fun _ h => h) (by intro mc l; simp [mtEs])
  | rev a iha => exact .quiet (fun _ h => h) (by intro mc l; simp [mtEs])
  | call y f es ih =>
    refine .of (fun X mc W ok hk hx tk x h => ?_) (by intro mc l; simp [mtEs])
    cases x <;> first | (simp [mtE] at h; done) | skip
    rename_i g l ks pos
    cases g <;> first | (simp [mtE] at h; done) | skip
    cases ks with
    | cons _ _ => simp [mtE] at h
    | nil =>
      rw [mtE, Bool.and_eq_true, Bool.and_eq_true] at h
      obtain ⟨⟨h1, h2⟩, h3⟩ := h
      obtain ⟨rfl, hg, hd⟩ := callB_of ok h1
      obtain ⟨⟨g, k, ad, fd, ps, c1, c2, c3, c4, c5, c6⟩, he⟩ := hk
      have pl := mtEs_plain mc _ _ h2
      cases l with
      | nil => simp at h3
      | cons z r =>
        have pl' := pl
        rw [plainEs, Bool.and_eq_true] at pl'
        refine .of_pe ((pe_g c4 c5.1 c5.2 hg c1 c2 c3 ((ih X mc W ok he hx.2 tk).2 _ h2) hd (star_cons pl'.1) (star_plain _ _ _ pl'.2)).via fun σ H Q q => ?_) (fun _ => rfl) (fun _ _ _ z => by cases z)
        exact xd_args (k := fun rs ρ s' => callR f rs s') (by simpa only [ev] using q) fun rs ρ s => NX.callR hx.1
  | callX y f es ih =>
    refine .of (fun X mc W ok hk hx tk x h => ?_) (by intro mc l; simp [mtEs])
    cases x <;> first | (simp [mtE] at h; done) | skip
    rename_i g l ks pos
    cases g <;> first | (simp [mtE] at h; done) | skip
    cases ks with
    | cons _ _ => simp [mtE] at h
    | nil =>
      rw [mtE, Bool.and_eq_true, Bool.and_eq_true] at h
      obtain ⟨⟨h1, h2⟩, h3⟩ := h
      obtain ⟨rfl, hg, hd⟩ := callB_of ok h1
      obtain ⟨⟨g, k, ad, fd, ps, c1, c2, c3, c4, c5, c6⟩, he⟩ := hk
      have pl := mtEs_plain mc _ _ h2
      cases l with
      | nil => simp at h3
      | cons z r =>
        have pl' := pl
        rw [plainEs, Bool.and_eq_true] at pl'
        have xa := (ih X mc W ok he hx.2 tk).2 _ h2
        have sa := ((snd_all es).1 X mc ok he).2.1 _ h2
        rcases hx.1 with nv | ⟨g', k', ad', fd', ps', b1, b2, b3, b4, b5, b6⟩
        · refine .of_pe ((pe_g c4 c5.1 c5.2 hg c1 c2 c3 xa hd (star_cons pl'.1) (star_plain _ _ _ pl'.2)).via fun σ H Q q => ?_) (fun _ => rfl) (fun _ _ _ z => by cases z)
          exact xd_args (k := fun rs ρ s' => if freeze rs then callR f rs s' else .no) (by simpa only [ev] using q) fun rs ρ s => by
            split
            · exact NX.callR nv
            · trivial
        · refine .of_pe ((pe_gX tk b4 b5.1 b5.2 hg b1 b2 b3 (sa.or xa) hd (star_cons pl'.1) (star_plain _ _ _ pl'.2)).via fun σ H Q q => ?_) (fun _ => rfl) (fun _ _ _ z => by cases z)
          exact callX_xd b6 (by simpa only [ev] using q)
  | callV i alts es ih =>
    refine .of (fun X mc W ok hk hx tk x h => ?_) (by intro mc l; simp [mtEs])
    cases x <;> first | (simp [mtE] at h; done) | skip
    rename_i g l ks pos
    cases g <;> first | (simp [mtE] at h; done) | skip
    cases ks with
    | cons _ _ => simp [mtE] at h
    | nil =>
      rw [mtE, Bool.and_eq_true, Bool.and_eq_true] at h
      obtain ⟨⟨h1, h2⟩, h3⟩ := h
      obtain ⟨n1, n2, n3, n4⟩ := nm_of ok h1
      have pl := mtEs_plain mc _ _ h2
      cases l with
      | nil => simp at h3
      | cons z r =>
        have pl' := pl
        rw [plainEs, Bool.and_eq_true] at pl'
        have xa := (ih X mc W ok hk.2 hx.2 tk).2 _ h2
        have sa := ((snd_all es).1 X mc ok hk.2).2.1 _ h2
        refine .of_pe (((pe_gV0 n1 n2 xa n3 n4 (star_cons pl'.1) (star_plain _ _ _ pl'.2)).or (pe_gVX tk n1 n2 (sa.or xa) n3 n4 (star_cons pl'.1) (star_plain _ _ _ pl'.2))).via fun σ H Q q => ?_) (fun _ => rfl) (fun _ _ _ z => by cases z)
        obtain ⟨c, gT, gF, ρ, s, cl, d, s', P, e, q⟩ := q
        rw [ev] at e
        split at e <;> first | (cases e; done) | skip
        rename_i f hf
        obtain ⟨a, e1, e2⟩ := fnAt_some hf
        obtain ⟨g, k, fd, ps, c2, c3, c4, c5, c6⟩ := hk.1 _ e2
        have hxd : xd X W (fun ρ s => (evs es ρ s).bind fun rs s' => if freeze rs then callR f rs s' else .no) σ H := ⟨c, gT, gF, ρ, s, cl, d, s', P, e, q⟩
        rcases hx.1 _ e2 with nv | ⟨g', k', fd', ps', b2, b3, b4, b5, b6⟩
        · exact .inl ⟨a, fn_slot P e1, c2, xd_args (k := fun rs ρ s' => if freeze rs then callR f rs s' else .no) hxd fun rs ρ s => by
            split
            · exact NX.callR nv
            · trivial⟩
        · exact .inr ⟨a, f, g', k', fd', ps', fn_slot P e1, b2, b3, b4, b5, callX_xd b6 hxd⟩
  | callVK i alts ks kes perm ih =>
    refine .of (fun X mc W ok hk hx tk x h => ?_) (by intro mc l; simp [mtEs])
    unfold mtE at h
    split at h <;> first | (rename_i z; cases z; done) | (cases h; done) | skip
    all_goals first | (exfalso; simp_all; done) | skip
    rename_i heq
    cases heq
    simp only [Bool.and_eq_true] at h
    obtain ⟨⟨h1, h2⟩, h3⟩ := h
    obtain ⟨n1, n2, n3, n4⟩ := nm_of ok h1
    have hn := of_decide_eq_true h2
    have el : elen kes = ks.length := by
      have := mtEs_len _ _ _ h3
      have e2 := congrArg List.length hn
      simp at this e2
      omega
    have nb : ∀ ρ s, NX ((evs kes ρ s).bind fun rs s1 => if freeze rs then R.ok (permR perm rs) s1 else .no) := fun ρ s => ((quiet_ok kes hx.2).2.1 ρ s).bind fun rs s1 => by split <;> trivial
    have dead : ∀ {σ H}, xd X W (ev (.callVK i alts ks kes perm)) σ H → ∃ c gT gF ρ s cl d s' a f rs s1, Pt X.K c gT gF σ H ρ s ∧ XPostA X.K X.mg W c gT gF σ ρ cl d s' ∧ ρ.getD i .no = .sh (.fn a) ∧ (a, f) ∈ alts ∧ ((evs kes ρ s).bind fun rs s1 => if freeze rs then R.ok (permR perm rs) s1 else .no) = .ok rs s1 ∧ callR f rs s1 = .exc cl d s' := by
      intro σ H q
      obtain ⟨c, gT, gF, ρ, s, cl, d, s', P, e, q⟩ := q
      rw [ev] at e
      split at e <;> first | (cases e; done) | skip
      rename_i f hf
      obtain ⟨a, e1, e2⟩ := fnAt_some hf
      rcases bind_exc e with e | ⟨rs, s1, e3, e⟩
      · exact (NX.exc (nb ρ s) e).elim
      · exact ⟨c, gT, gF, ρ, s, cl, d, s', a, f, rs, s1, P, q, e1, e2, e3, e⟩
    by_cases hpm : ∀ i ∈ perm, i < ks.length
    · refine .of_pe ((pe_gVKX tk n1 n2 n3 n4 hpm ((snd_all kes).2.2 _ _ ok hk.2 _ h3) hn (fun σ H Q q => ?_)).via fun σ H Q q => ?_) (fun _ => rfl) (fun _ _ _ z => by cases z)
      · obtain ⟨c, gT, gF, ρ, s, rs, s', P, e, q⟩ := q
        exact ⟨c, gT, gF, ρ, s, rs, s', P, e, fun vs H' P' V => ⟨by rw [V.length, evs_len _ e, el], q vs H' P' V⟩⟩
      · obtain ⟨c, gT, gF, ρ, s, cl, d, s', a, f, rs, s1, P, q, e1, e2, e3, e⟩ := dead q
        rcases hx.1 _ e2 with nv | ⟨g', k', fd', ps', b2, b3, b4, b5, b6, b7⟩
        · exact (NX.exc (NX.callR nv) e).elim
        · have hf : freeze rs = true := by
            obtain ⟨r0, s0, f1, f2⟩ := bind_ok e3
            split at f2 <;> first | (cases f2; done) | skip
            cases f2
            exact freeze_map _
          refine ⟨a, f, g', k', fd', ps', fn_slot P e1, b2, b3, b5, b6, perm_rd el b4 ⟨c, gT, gF, ρ, s, rs, s1, P, e3, fun vs H1 P1 V1 => spX_of b7 P1 V1 hf e q⟩⟩
    · refine .of_pe ⟨fun pins s σ H Q I q => ?_⟩ (fun _ => rfl) (fun _ _ _ z => by cases z)
      obtain ⟨c, gT, gF, ρ, s, cl, d, s', a, f, rs, s1, P, q, e1, e2, e3, e⟩ := dead q
      obtain ⟨g, k, fd, ps, c2, c3, c4, c5, c6, c7⟩ := hk.1 _ e2
      exact (hpm c4).elim
  | heard y k pre hs e ih => exact .quiet (fun _ h => h) (by intro mc l; simp [mtEs])
  | callK y f es ks kes perm ih1 ih2 => exact .quiet (fun _ h => h) (by intro mc l; simp [mtEs])
  | prim p es ih =>
    refine .of (fun X mc W ok hk hx tk x h => ?_) (by intro mc l; simp [mtEs])
    have hx : (primPlain p = true ∧ okX (lvOf X) es) ∨ quiet es := hx
    rcases hx with ⟨hp, hx⟩ | hx
    · cases x <;> first | (simp [mtE] at h; done) | skip
      rename_i g l ks pos
      cases g <;> first | (simp [mtE] at h; done) | skip
      cases ks with
      | cons _ _ => simp [mtE] at h
      | nil =>
        unfold mtE at h
        rw [if_pos hp] at h
        simp only [Bool.and_eq_true] at h
        obtain ⟨⟨h1, h2⟩, h3⟩ := h
        refine .of_pe ((xd_prim ok hp h1 (mtEs_plain mc _ _ h2) (by rintro rfl; simp at h3) ((ih X mc W ok hk.2 hx tk).2 _ h2) hk.1).via fun σ H Q q => ?_) (fun _ => rfl) (fun _ _ _ z => by cases z)
        exact xd_args (k := fun rs ρ s' => lift (primF p (rs.map Rs.d)) s') (by simpa only [ev] using q) fun rs ρ s => NX.lift
    · exact .never (quiet_ok (.prim p es) hx).1
  | reprEq a b iha ihb => exact .quiet (fun _ h => h) (by intro mc l; simp [mtEs])
  | comp vs tg it cnd elt ihi ihc ihe => exact .quiet (fun _ h => h) (by intro mc l; simp [mtEs])
  | itE a iha => exact .quiet (fun _ h => h) (by intro mc l; simp [mtEs])
  | itRange es ih => exact .quiet (fun _ h => h) (by intro mc l; simp [mtEs])
  | itZip a b iha ihb => exact .quiet (fun _ h => h) (by intro mc l; simp [mtEs])
  | itEnum a iha => exact .quiet (fun _ h => h) (by intro mc l; simp [mtEs])
  | stAt i => exact .quiet (fun _ h => h) (by intro mc l; simp [mtEs])
  | stLen i => exact .quiet (fun _ h => h) (by intro mc l; simp [mtEs])
  | stCell i k ihk => exact .quiet (fun _ h => h) (by intro mc l; simp [mtEs])
  | stLeft i k ihk => exact .quiet (fun _ h => h) (by intro mc l; simp [mtEs])
end RS
end
section
set_option Elab.async false
set_option linter.all false
set_option maxRecDepth 100000
set_option autoImplicit false
set_option maxHeartbeats 4000000
/-! RSXInit: an own exception's __init__ that says super().__init__(a), self.f = a. -/
namespace RS
open PySem PySem.Spec PyProof.Rows L2 NdefX
/-- what the written part says of it -/
structure SupC (P : Program) (K : PySem.W.Frag) (mg : Str → Option Value) (C : Addr) (fld : Str) (fI cda cc : Addr) (qual sf a : Str) (params : Arguments) (body : List Stmt) (scope : Scope) : Prop where
  lk : ∃ (name : Str) (dV kV doc pm ct oc : Value) (an od : Option Addr) (osl : Array (Option Value)), K.lookup fI = some ⟨oc, od, .func (PySem.W.ksFn name qual params body scope dV kV doc pm an (.ref cda) ct cc), osl⟩
  code : PySem.W.codeIn K (.ref cda) qual = true
  sc : NScope [sf, a, "__class__"] [sf, a] ["__class__"] scope
  body : ∃ p0 p1 p2 p3 p4 p5 p6 p7 p8 p9, (p2.endLine == p4.line) = true ∧ body = [.Expr (.Call (.Attribute (.Call (.Name "super" p0) [] [] p1) "__init__" p2) [.Name a p3] [] p4) p5, .Assign [.Attribute (.Name sf p6) fld p7] (.Name a p8) p9]
  par : ∃ ar : Arg, (params.posonlyargs ++ params.args).head? = some ar ∧ ar.arg = sf
  file : ∃ ccl cdd vs ccs f tf, K.lookup cda = some ⟨ccl, cdd, .fields vs, ccs⟩ ∧ vs[2]? = some (.str f tf) ∧ ((P.main.file : Str) == f) = true
  cell : ∃ cl cld csl, K.lookup cc = some ⟨cl, cld, .cell (some (.ref C)), csl⟩
  cls : OexC K C
  sub : PySem.W.mroIn K C (.ref C) = some true
  supN : mg "super" = none
  supS : scope.names.lookup ("super" : Str) = some .globalImplicit
  top : (P.main.scope.names.lookup ("super" : Str)).isSome = false
  ini : PySem.W.ks_superIn K C C "__init__" = some (some (.builtin "ValueError.__init__"))
  val : PySem.W.subIn K (.ref C) (.type "ValueError") = some true
  opq : PySem.W.nsIn K cStatics "thirdparty.any" = some none
  fld : PySem.W.findIn K (.ref C) fld = some none
  dS : (sf == ("__debug__" : Str)) = false ∧ (a == ("__debug__" : Str)) = false ∧ (sf == ("__classdict__" : Str)) = false ∧ (a == ("__classdict__" : Str)) = false
def spSup (C : Addr) (fld : Str) : Sp := fun vs H Q _ => ∃ (a : Addr) (v : V), vs = [.ref a, v] ∧ H a = some (exo a C none) ∧
  ∀ d, H d = none → d ≠ a → Q .non (upd (upd H d (exd d [(fld, v)])) a (exo a C (some d)))
section
variable {P : Program} {w : World} {K : PySem.W.Frag} {mg : Str → Option Value} {base : Heap} {CX : CXT} {k : Nat} {C : Addr} {fld : Str} {fI cda cc : Addr} {qual sf a : Str} {params : Arguments} {body : List Stmt} {scope : Scope}
/-- the built-in __init__, bound to the exception, called -/
theorem call_mw {X : Cx} {pins : List (Addr × Obj)} {σ : L2.St} {H : Hp} {s : Shared} {A : Around} {E : Value → Shared → Prop} {u x : Addr} {rest : List Value} {Q : Value → Shared → Prop} (T : OexC X.K C) (I : Inv X pins σ H s) (e : H x = some (exo x C none)) (hu : s.heap.get? u = some (PySem.W.kxs_mw "ValueError.__init__" x)) (hz : rest.length ≤ sizeLine)
    (h : ∀ s', Inv X pins σ H s' → Q .none s') : wpAny (model X.prog X.w) A (call (.ref u) rest) Q E s := by
  obtain ⟨nm, q, N, bs, bm, sn, sub, ab, col, dd, k0, k1, k2, k3, k5, hC, hbm⟩ := T.cls
  have hC' := I.kIn _ _ hC
  obtain ⟨t1, ho⟩ := exo_at I.hok e
  obtain ⟨hp, g, d, t, os⟩ := s
  refine wpAny_call (codeAny_of_tree ?_)
  show wpAny _ A.in1 (callAny (.ref u) ⟨rest, []⟩) _ _ _
  simp only [callAny]
  refine wpAny_bind (wpAny_load hu ?_)
  simp only [PySem.W.kxs_mw, show (Value.type "method-wrapper" == Value.type "method" || Value.type "method-wrapper" == Value.type "builtin_function_or_method" || Value.type "method-wrapper" == Value.type "method-wrapper") = true by decide, if_true]
  refine PySem.W.KFB.if_so (by decide) ?_
  refine wpAny_bind (PySem.W.check_bound_init F.excBase_ValueError.toExcCallFacts hC' ho rfl ?_)
  refine wpAny_bind (wpAny_pure (wpAny_pure ?_))
  refine ⟨plainId_quiet F.excBase_ValueError.init.plain _, codeAny_builtin F.excBase_ValueError.initEntry ?_⟩
  refine PySem.W.exc_init_tree (cls := .ref C) (t0 := t1) (dv := none) (c2 := .none) (c3 := .none) (b4 := .bool false) ho hz fun h' k hx ht => ?_
  have J := I.write (t' := t) (x := x) (e := x) (o := exo x C none) (by rw [e]; exact True.intro) (.inl rfl) k ⟨_, hx⟩ (exo_ok hx)
  have eu : upd H x (exo x C none) = H := by
    funext b
    by_cases hb : b = x
    · rw [hb, upd_same, e]
    · rw [upd_ne hb]
  rw [eu] at J
  exact h _ J
theorem sup_init (Z : SupC P K mg C fld fI cda cc qual sf a params body scope) : ∃ fd, (∃ (oc : Value) (od : Option Addr) (osl : Array (Option Value)), K.lookup fI = some ⟨oc, od, .func fd, osl⟩) ∧ FnOk P w K mg base CX (k + 1) fI fd [sf, a] (spSup C fld) := by
  obtain ⟨name, dV, kV, doc, pm, ct, oc, an, od, osl, lk⟩ := Z.lk
  refine ⟨_, ⟨oc, od, osl, lk⟩, fun vs H Q E ⟨_, _, e, _⟩ => by rw [e]; rfl, fun A outer s H args us vs Q E hr e0 hb r hsp => ?_⟩
  obtain ⟨x, v, rfl, ea, q⟩ := hsp
  obtain ⟨u1, u2, rfl, r1, r2⟩ := vals2 r
  obtain rfl : u1 = Value.ref x := r1
  have KX : K.In s.heap := e0.mod.kin.keeps fun b o e => (e0.bs b o e).1
  have lim : s.heap.NoLimit := e0.mod.nolimit.keeps fun b o e => (e0.bs b o e).1
  obtain ⟨cl, cld, csl, hcell⟩ := Z.cell
  obtain ⟨p0, p1, p2, p3, p4, p5, p6, p7, p8, p9, hln, rfl⟩ := Z.body
  refine ks_codeAny_call_defAt hr.depth (KX _ _ lk) rfl lim (PySem.W.codeRec_of KX Z.code) rfl hb Z.sc.nocell (fun y hy => Z.sc.par _ (List.of_mem_zip (show (y.1, y.2) ∈ [sf, a].zip [Value.ref x, u2] from hy)).1) (fun h₁ hns kp => ?_) Z.sc.co Z.sc.gen Z.sc.kind
  let Fn : NF := ⟨name, qual, params, [.Expr (.Call (.Attribute (.Call (.Name "super" p0) [] [] p1) "__init__" p2) [.Name a p3] [] p4) p5, .Assign [.Attribute (.Name sf p6) fld p7] (.Name a p8) p9], scope, [("__class__", cc)], cda⟩
  have kin0 : base.get? cc = some ⟨cl, cld, .cell (some (.ref C)), csl⟩ := e0.mod.kin _ _ hcell
  have CA : CellsAt Fn.cl ["__class__"] [some (.ref C)] s.heap H := by
    have one : ∀ y c, ([("__class__", cc)] : List (Str × Addr)).lookup y = some c → y = "__class__" ∧ c = cc := fun y c h => by
      have m := PySem.mem_of_lookup h
      rw [List.mem_singleton] at m
      cases m; exact ⟨rfl, rfl⟩
    have hcx : s.heap.IsCell cc (some (.ref C)) := ⟨_, (e0.bs _ _ kin0).1, rfl⟩
    refine ⟨rfl, fun y c h => ?_, fun y z c h1 h2 => (one y c h1).1.trans (one z c h2).1.symm, fun i y hy => ?_⟩
    · obtain ⟨_, rfl⟩ := one y c h
      exact ⟨(e0.bs _ _ kin0).2, _, hcx⟩
    · have : i = 0 ∧ y = "__class__" := by
        cases i with
        | zero => simp at hy; exact ⟨rfl, hy.symm⟩
        | succ i => simp at hy
      obtain ⟨rfl, rfl⟩ := this
      exact ⟨cc, rfl, fun v hv => by
        have : v = .ref C := by simpa using hv.symm
        subst this
        exact ⟨.ref C, rfl, hcx⟩⟩
  have I : Inv (ncx CX P w K mg base [sf, a, "__class__"] Fn fI A outer s H E) [] (startF [sf, a, "__class__"] [.ref x, v] [some (.ref C)]) H { s with heap := h₁, toks := s.toks + ([sf, a].zip [Value.ref x, u2]).length } :=
    inv_startN (F := Fn) Z.sc hr.hd e0 rfl r CA hns kp
  have n0 : (ncx CX P w K mg base [sf, a, "__class__"] Fn fI A outer s H E).N[0]? = some sf := rfl
  have n1 : (ncx CX P w K mg base [sf, a, "__class__"] Fn fI A outer s H E).N[1]? = some a := rfl
  have l0 : scope.names.lookup sf = some .local := Z.sc.par _ (by simp)
  have l1 : scope.names.lookup a = some .local := Z.sc.par _ (by simp)
  obtain ⟨d1, d2, d3, d4⟩ := Z.dS
  have ps2 : PS (ncx CX P w K mg base [sf, a, "__class__"] Fn fI A outer s H E) (.Assign [.Attribute (.Name sf p6) fld p7] (.Name a p8) p9) _ := ps_ost (pe_var (i := 0) n0 (.inl l0) d1 d3) (pe_var (i := 1) n1 (.inl l1) d2 d4)
  have pa : PA (ncx CX P w K mg base [sf, a, "__class__"] Fn fI A outer s H E) [.Name a p3] _ := pa_cons (pe_var (i := 1) n1 (.inl l1) d2 d4) pa_nil
  have fin : ∀ {σ' : L2.St} {H' : Hp} {v : V} {u : Value} {s' : Shared}, Inv (ncx CX P w K mg base [sf, a, "__class__"] Fn fI A outer s H E) [] σ' H' s' → L2.RelV v u → Q v H' → CE outer P w H s Q u s' :=
    fun {σ' H' v u s'} J rv q => ⟨v, H', J.os, J.bare, J.base, J.hok, rv, q⟩
  obtain ⟨ar, hp1, hp2⟩ := Z.par
  obtain ⟨ccl, cdd, vsC, ccs, file, tf, hcode, hvs, hfile⟩ := Z.file
  obtain ⟨nmC, qC, NC, bsC, bmC, snC, subC, abC, colC, ddC, k0, k1, k2, k3, k5, hC, hbm⟩ := Z.cls.cls
  show _root_.PySem.wpAt (model P w) (A.deeper (envF Fn fI s.heap.objs.size)) (.func Fn.body (envF Fn fI s.heap.objs.size)) (execs Fn.body (envF Fn fI s.heap.objs.size)) _ _ _
  have hi : interactive (envF Fn fI s.heap.objs.size) = false := by
    unfold interactive
    rw [show (envF Fn fI s.heap.objs.size).scope.kind = .function from Z.sc.kind]; rfl
  have he : eval (.Call (.Attribute (.Call (.Name "super" p0) [] [] p1) "__init__" p2) [.Name a p3] [] p4) (envF Fn fI s.heap.objs.size) = (do
      let ov ← attributeBase (.Call (.Name "super" p0) [] [] p1) "__init__" (envF Fn fI s.heap.objs.size) (eval (.Call (.Name "super" p0) [] [] p1) (envF Fn fI s.heap.objs.size))
      standAt p2.atName
      let (f, first) ← holding [ov] (getMethod ov "__init__" (do return (← importBound (.Call (.Name "super" p0) [] [] p1) (envF Fn fI s.heap.objs.size)).getD true))
      callWith p4 f first (backTo p4 (starEach [.Name a p3] (envF Fn fI s.heap.objs.size))) []) := by
    show (do
      let ov ← attributeBase (.Call (.Name "super" p0) [] [] p1) "__init__" (envF Fn fI s.heap.objs.size) (eval (.Call (.Name "super" p0) [] [] p1) (envF Fn fI s.heap.objs.size))
      standAt p2.atName
      methodCall (.Call (.Name "super" p0) [] [] p1) "__init__" p2 p4 (envF Fn fI s.heap.objs.size) ov 1 (backTo p4 (starEach [.Name a p3] (envF Fn fI s.heap.objs.size))) []) = _
    congr
    funext ov
    congr
    funext _
    unfold methodCall methodCallPos calleeOf
    rw [show methodCallForm 1 (backTo p4 (starEach [.Name a p3] (envF Fn fI s.heap.objs.size))) [] = true from rfl]
    simp [hln]
  refine ks_wpAt_execs_cons (ks_wpAt_Expr_any (ks_wpAt_MethodCall ?_ he) hi)
  have XK := I.kIn
  have g_fI := XK _ _ lk
  refine ks_wpAt_super_base (env := envF Fn fI s.heap.objs.size) Z.supS (Z.sc.frk _ (by simp)) (by decide) rfl g_fI rfl hp1 rfl (XK _ _ hcode) rfl hvs hfile Z.top ?_
  obtain ⟨mb, hb1, hb2⟩ := I.mod.blt
  refine PySem.W.ks_loadName_global Z.sc.kind Z.supS (Calls.loadGlobal_builtin (env := envF Fn fI s.heap.objs.size) (I.mod.glob.keeps I.bk) Z.supN (hb1.keeps I.bk) ((hb2 "super" (by decide)).trans PyProof.Rows.Boot.«super») ⟨rfl, ?_⟩)
  refine wpAny_loadName_free Z.sc.kind (Z.sc.frk _ (by simp)) rfl ⟨_, XK _ _ hcell, rfl⟩ ?_
  have ndP : ([sf, a] : List Str).Nodup := by
    have := Z.sc.nd.sublist (List.take_sublist 2 [sf, a, "__class__"])
    exact this
  refine wpAny_loadName_local Z.sc.kind (by rw [hp2]; exact l0) hns (by rw [hp2]; exact zip_look ndP (i := 0) rfl rfl) ?_
  refine ks_wpAny_isType_cls (XK _ _ hC) rfl ⟨rfl, ?_⟩
  obtain ⟨t1, hx⟩ := exo_at I.hok ea
  have hcl : PySem.W.clsIn K C = some { name := nmC, bases := bsC, mro := .ref C :: bmC, ns := NC, qualname := qC, hasDict := true, slotNames := snC, subclasses := subC, abstract := abC, collection := colC, hasDel := false } := by unfold PySem.W.clsIn; rw [hC] <;> rfl
  refine ks_wpAny_call_super (XK _ _ hC) rfl hx rfl (fun c z => by cases z) (PySem.W.looks_mroIn XK Z.sub) fun h2 hso k2 => ?_
  have I2 := I.kept (h' := h2) (t' := s.toks + ([sf, a].zip [Value.ref x, u2]).length) k2
  have J2 : PySem.W.InstAt h2 x _ C none := ⟨k2 _ _ hx, rfl, rfl, trivial⟩
  refine PySem.W.kxs_getMethod PySem.W.kxs_ValueError (l₀ := .ref C :: bmC) hso (PySem.W.looks_opaque I2.kIn Z.opq) (fun A Q E s k q => wpAny_bind ((PySem.W.looks_clsIn I2.kIn hcl) A _ E s k (wpAny_pure q))) rfl I2.kIn
    (by have := Z.ini; unfold PySem.W.ks_superIn at this; rw [hcl] at this; exact this) (J2.type.andThen (PySem.W.looks_subIn I2.kIn Z.val)) (PySem.W.ks_ne I2.kIn J2 hcl) (by decide) ?_
  have k3 : ∀ b o, h2.get? b = some o → (h2.push (PySem.W.kxs_mw "ValueError.__init__" x)).get? b = some o := fun b o e => Heap.get?_push_of_some _ e
  have hu : (h2.push (PySem.W.kxs_mw "ValueError.__init__" x)).get? h2.objs.size = some (PySem.W.kxs_mw "ValueError.__init__" x) := Heap.get?_push_at rfl rfl
  have I3 := ClX.pin_new (t' := s.toks + ([sf, a].zip [Value.ref x, u2]).length + 1) I2 k3 (Nat.le_refl _) hu (fun v z => by cases z)
  have stu : starEach [.Name a p3] (envF Fn fI s.heap.objs.size) = (false, eval (.Name a p3) (envF Fn fI s.heap.objs.size)) :: starEach [] (envF Fn fI s.heap.objs.size) := rfl
  refine PySem.W.kxs_callWith (i := "ValueError.__init__") (x := x) rfl ?_
  rw [stu]
  refine Calls.evalArgs_plain ?_
  show wpAny _ _ (spliced (backTo p4 (starEach [.Name a p3] (envF Fn fI s.heap.objs.size)))) _ _ _
  refine thn (pa.run p4 _ _ _ _ (fun vs H1 => vs = [v] ∧ H1 = H) I3 ⟨v, rfl, rfl, rfl⟩) fun us4 s4 ⟨vs4, H4, I4, r4, ev4, eH4⟩ => ?_
  subst ev4 eH4
  have hu4 := ClX.pin_at I4
  have I5 := ClX.unpin I4
  refine ⟨hu4, call_mw Z.cls I5 ea hu4 (by show us4.length ≤ sizeLine; rw [← r4.length, sizeLine_eq]; exact (by decide : (1 : Nat) ≤ 16777216))  fun s6 I6 => ?_⟩
  have told : tOst K fld (tVar 0) (tVar 1) { nx := fun _ H' => Q .non H', rt := Q } (startF [sf, a, "__class__"] [.ref x, v] [some (.ref C)]) H4 :=
    ⟨v, rfl, .ref x, rfl, x, C, rfl, Z.cls, Z.fld, .inl ⟨ea, fun dx h1 h2 => q dx h1 h2⟩⟩
  show _root_.PySem.wpAt _ _ _ (execs [.Assign [.Attribute (.Name sf p6) fld p7] (.Name a p8) p9] (envF Fn fI s.heap.objs.size)) _ _ s6
  refine ks_wpAt_execs_cons (wpAt_of_wpAny (wpAny_mono (ps2.run _ _ _ _ _ I6 told) (fun fl s7 hs => ?_) fun e s7 hs => hs))
  cases fl with
  | next =>
    obtain ⟨σ7, H7, J7, q7⟩ := hs
    exact wpAt_of_wpAny (wpAny_execs_nil (fin (v := V.non) (u := Value.none) J7 rfl q7))
  | ret u =>
    obtain ⟨v7, σ7, H7, J7, rv, q7⟩ := hs
    exact fin J7 rv q7
  | brk =>
    obtain ⟨_, _, _, q7⟩ := hs
    exact q7.elim
  | cont =>
    obtain ⟨_, _, _, q7⟩ := hs
    exact q7.elim
end
end RS
end
section
set_option Elab.async false
set_option linter.all false
set_option maxRecDepth 100000
set_option autoImplicit false
set_option maxHeartbeats 4000000
/-! RSX4: statements that raise errors or let them pass; defs. -/
namespace RS
open PySem L2
def FinX (K : PySem.W.Frag) (mg : Str → Option Value) (W : L2.WX) (c : Cfg) (gT : Shd) (gF : Own) (D : Ends) : Out → Prop
  | .exc cl d s => XPost K mg W c gT gF cl d s
  | o => Fin K c gT gF D o
def rdSX (X : Cx) (W : L2.WX) (f : Env → OSt → Out) : TS := fun D σ H => ∃ c gT gF ρ s, Pt X.K c gT gF σ H ρ s ∧ FinX X.K X.mg W c gT gF D (f ρ s)
theorem _root_.L2.PS.or {X : Cx} {st : Stmt} {t u : TS} (h : PS X st t) (k : PS X st u) : PS X st (fun D σ H => t D σ H ∨ u D σ H) := ⟨fun pins s σ H D I q => q.elim (h.run pins s σ H D I) (k.run pins s σ H D I)⟩
/-- what the raising of an error of a class asks -/
def RaiseOk (L : Lv) (c : String) : Prop := ∃ C fI k fd ps, L.mg (Str.ofString c) = some (.ref C) ∧ OexC L.K C ∧ PySem.W.findIn L.K (.ref C) "__init__" = some (some (.ref fI)) ∧ PySem.W.typeIn L.K (.ref fI) = some (.type "function") ∧
  FnOk L.prog L.w L.K L.mg L.base C8.CX0 k fI fd ps (spSup C (fldOf c)) ∧ Room (k + 1) L.A ∧ Binds L.K fd ps []
def okSX (L : Lv) : S → Prop
  | .seq a b => okSX L a ∧ okSX L b
  | .asg _ e => okX L e
  | .asgS _ e => okX L e
  | .asgT _ e => okX L e
  | .expr e => okX L e
  | .ret e => okX L e
  | .ife c a b => okX L c ∧ okSX L a ∧ okSX L b
  | .for _ it b => quiet it ∧ okSX L b
  | .whl _ c b => quiet c ∧ okSX L b
  | .raise c e => quiet e ∧ RaiseOk L c
  | s => quietS s
section
variable {K : PySem.W.Frag} {mg : Str → Option Value} {W : L2.WX} {c : Cfg} {gT gT' : Shd} {gF : Own} {DE : Ends} {o : Out} {s s' : OSt}
theorem FinX.cases (h : FinX K mg W c gT gF DE o) : Fin K c gT gF DE o ∨ ∃ cl d s, o = .exc cl d s ∧ XPost K mg W c gT gF cl d s := by
  cases o with
  | exc cl d s => exact .inr ⟨cl, d, s, rfl, h⟩
  | _ => exact .inl h
theorem FinX.up (h : FinX K mg W c gT gF DE o) (h1 : ∀ p ∈ gT, p ∈ gT') : FinX K mg W c gT' gF DE o := by
  cases o with
  | exc cl d s => exact XPost.up h h1 (List.Sublist.refl _)
  | nx ρ s => exact Fin.up (o := .nx ρ s) h h1
  | bk ρ s => exact Fin.up (o := .bk ρ s) h h1
  | ct ρ s => exact Fin.up (o := .ct ρ s) h h1
  | rt r s => exact Fin.up (o := .rt r s) h h1
  | no => exact h
theorem FinX.turn {N : L2.St → Hp → Prop} {k : Env → OSt → Out} (h : FinX K mg W c gT gF DE (match o with | .nx ρ1 s1 => k ρ1 s1 | .ct ρ1 s1 => k ρ1 s1 | .bk ρ1 s1 => .nx ρ1 s1 | .rt r s1 => .rt r s1 | .exc c d s1 => .exc c d s1 | .no => .no))
    (hN : ∀ σ H ρ1 s1, Pt K c gT gF σ H ρ1 s1 → FinX K mg W c gT gF DE (k ρ1 s1) → N σ H) : FinX K mg W c gT gF { DE with nx := N, ct := N, bk := DE.nx } o := by
  cases o with
  | nx ρ s => exact fun σ H P => hN σ H ρ s P h
  | ct ρ s => exact fun σ H P => hN σ H ρ s P h
  | bk ρ s => exact h
  | rt r s => exact h
  | exc => exact h
  | no => exact h
theorem withV_exc {r : R Rs} {f : Rs → OSt → Out} {cl : String} {d : D} (h : withV r f = .exc cl d s') : r = .exc cl d s' ∨ ∃ a s1, r = .ok a s1 ∧ f a s1 = .exc cl d s' := by
  cases r with
  | ok a s1 => exact .inr ⟨a, s1, rfl, h⟩
  | exc => cases h; exact .inl rfl
  | no => cases h
theorem outOf_exc {o : Option Env} {cl : String} {d : D} (h : outOf o s = .exc cl d s') : False := by cases o <;> cases h
end
section
variable {X : Cx} {W : L2.WX} {mc : MC}
/-- a statement that raises no error of its own but its expression's -/
theorem simpleX {st : Stmt} {b : S} {e : E} (h1 : PS X st (rdS X.K (exS b))) (h2 : PS X st (fun _ σ H => xd X W (ev e) σ H)) (hl : ∀ ρ s cl d s', exS b ρ s = .exc cl d s' → ev e ρ s = .exc cl d s') : PS X st (rdSX X W (exS b)) := by
  refine (h1.or h2).via fun D σ H h => ?_
  obtain ⟨c, gT, gF, ρ, s, P, q⟩ := h
  rcases q.cases with q | ⟨cl, d, s', e, q⟩
  · exact .inl ⟨c, gT, gF, ρ, s, P, q⟩
  · exact .inr ⟨c, gT, gF, ρ, s, cl, d, s', P, hl _ _ _ _ _ e, q.at⟩
theorem quietX {st : Stmt} {b : S} (h1 : PS X st (rdS X.K (exS b))) (hq : quietS b) : PS X st (rdSX X W (exS b)) := h1.via fun D σ H h => by
  obtain ⟨c, gT, gF, ρ, s, P, q⟩ := h
  rcases q.cases with q | ⟨cl, d, s', e, q⟩
  · exact ⟨c, gT, gF, ρ, s, P, q⟩
  · have := quietS_ok b hq ρ s
    rw [e] at this
    exact this.elim
theorem asg_link {i : Nat} {e : E} (ρ : Env) (s : OSt) (cl : String) (d : D) (s' : OSt) (h : exS (.asg i e) ρ s = .exc cl d s') : ev e ρ s = .exc cl d s' := by
  rw [exS] at h
  rcases withV_exc h with h | ⟨a, s1, _, h⟩
  · exact h
  · exact (outOf_exc h).elim
theorem asgS_link {i : Nat} {e : E} (ρ : Env) (s : OSt) (cl : String) (d : D) (s' : OSt) (h : exS (.asgS i e) ρ s = .exc cl d s') : ev e ρ s = .exc cl d s' := by
  rw [exS] at h
  rcases withV_exc h with h | ⟨a, s1, _, h⟩
  · exact h
  · split at h
    · cases h
    · exact (outOf_exc h).elim
theorem asgT_link {tg : Tg} {e : E} (ρ : Env) (s : OSt) (cl : String) (d : D) (s' : OSt) (h : exS (.asgT tg e) ρ s = .exc cl d s') : ev e ρ s = .exc cl d s' := by
  rw [exS] at h
  rcases withV_exc h with h | ⟨a, s1, _, h⟩
  · exact h
  · split at h
    · cases h
    · exact (outOf_exc h).elim
theorem expr_link {e : E} (ρ : Env) (s : OSt) (cl : String) (d : D) (s' : OSt) (h : exS (.expr e) ρ s = .exc cl d s') : ev e ρ s = .exc cl d s' := by
  rw [exS] at h
  rcases withV_exc h with h | ⟨a, s1, _, h⟩
  · exact h
  · cases h
theorem ret_link {e : E} (ρ : Env) (s : OSt) (cl : String) (d : D) (s' : OSt) (h : exS (.ret e) ρ s = .exc cl d s') : ev e ρ s = .exc cl d s' := by
  rw [exS] at h
  rcases withV_exc h with h | ⟨a, s1, _, h⟩
  · exact h
  · split at h <;> cases h
/-- name = e -/
theorem ps_nameX (ok : CtxOk X mc) {i : Nat} {x : Str} {p pos : Pos} {e : E} {v : Expr} (hk : okE (lvOf X) e) (hx : okX (lvOf X) e) (tk : Takes X W) (hi : mc.N[i]? = some x) (hl : locB mc x = true) (he : mtE e mc v = true) (hs : swE mc x p v = true) :
    PS X (.Assign [.Name x p] v pos) (fun _ σ H => xd X W (ev e) σ H) := by
  obtain ⟨h1, h2⟩ := ok.loc hl
  have hi' : X.N[i]? = some x := by rw [← ok.N]; exact hi
  by_cases hn : noSw v = true
  · exact (ps_set ok.nd hi' h1 ((exc_all e X mc W ok hk hx tk).1 v he).pe (sw_no hn) h2).via fun D σ H q => q
  · have hq : quiet e := by
      cases v <;> first | (exact (hn rfl).elim) | (cases hs; done) | skip
      cases e <;> first | (simp [mtE] at he; done) | exact hx
    exact ⟨fun pins s σ H D I q => (xd_never (quiet_ok e hq).1 q).elim⟩
theorem seq_rdX {a b : S} {D : Ends} {σ : L2.St} {H : Hp} (h : rdSX X W (exS (.seq a b)) D σ H) : tSeq (rdSX X W (exS a)) (rdSX X W (exS b)) D σ H := by
  obtain ⟨c, gT, gF, ρ, s, P, q⟩ := h
  refine ⟨c, gT, gF, ρ, s, P, ?_⟩
  rw [exS] at q
  cases e : exS a ρ s with
  | nx ρ1 s1 => rw [e] at q; exact fun σ H P => ⟨c, gT, gF, ρ1, s1, P, q⟩
  | bk ρ1 s1 => rw [e] at q; exact q
  | ct ρ1 s1 => rw [e] at q; exact q
  | rt r s1 => rw [e] at q; exact q
  | exc => rw [e] at q; exact q
  | no => rw [e] at q; exact q
theorem share_rdX {i : Nat} {b : S} {D : Ends} {σ : L2.St} {H : Hp} (h : rdSX X W (exS (.seq (.share i) b)) D σ H) : rdSX X W (exS b) D σ H := by
  obtain ⟨c, gT, gF, ρ, s, P, q⟩ := h
  rw [exS, exS] at q
  cases e : ρ.getD i .no with
  | no => rw [e] at q; exact False.elim q
  | sh d =>
    rw [e] at q
    dsimp only at q
    rw [setE_same (getD_sh e)] at q
    exact ⟨c, gT, gF, ρ, s, P, q⟩
  | ow d =>
    rw [e] at q
    exact ⟨c, gT, gF, _, s, P.shareSlot (getD_ow e), q⟩
theorem if_rdX {e : E} {a b : S} {D : Ends} {σ : L2.St} {H : Hp} (h : rdSX X W (exS (.ife e a b)) D σ H) : tIfS (fun σ H Q => rdT X.K (ev e) σ H Q ∨ xd X W (ev e) σ H) (rdSX X W (exS a)) (rdSX X W (exS b)) D σ H := by
  obtain ⟨c, gT, gF, ρ, s, P, q⟩ := h
  rw [exS] at q
  cases e1 : ev e ρ s with
  | no => rw [e1] at q; exact False.elim q
  | exc cl d s' => rw [e1] at q; exact .inr ⟨c, gT, gF, ρ, s, cl, d, s', P, e1, XPost.at q⟩
  | ok r s1 =>
    rw [e1] at q
    dsimp only [withV] at q
    split at q <;> first | (exact False.elim q) | skip
    · exact .inl ⟨c, gT, gF, ρ, s, true, s1, P, e1, fun H' P' => by dsimp only; rw [if_pos rfl]; exact ⟨c, gT, gF, ρ, s1, P', q⟩⟩
    · exact .inl ⟨c, gT, gF, ρ, s, false, s1, P, e1, fun H' P' => by dsimp only; rw [if_neg (by simp)]; exact ⟨c, gT, gF, ρ, s1, P', q⟩⟩
theorem for_rdX {tg : Tg} {it : E} {b : S} {D : Ends} {σ : L2.St} {H : Hp} (hq : quiet it) (h : rdSX X W (exS (.for tg it b)) D σ H) : tFor (rdI X.K (evI it)) (rdG X.K tg) (rdSX X W (exS b)) D σ H := by
  obtain ⟨c, gT, gF, ρ, s, P, q⟩ := h
  rw [exS] at q
  have nx := (quiet_ok it hq).2.2 ρ s
  cases e1 : evI it ρ s with
  | no => rw [e1] at q; exact False.elim q
  | exc cl d s' => rw [e1] at nx; exact False.elim nx
  | ok pr s1 =>
  obtain ⟨items, ob⟩ := pr
  rw [e1] at q
  cases ob with
  | some _ => exact False.elim q
  | none =>
  have q : FinX X.K X.mg W c gT gF D (forL (stepF tg b) items ρ s1) := q
  refine ⟨c, gT, gF, ρ, s, items, none, s1, P, e1, fun J H1 gT1 gF1 ρ1 hb _ hsub P1 wk => ?_⟩
  obtain ⟨rfl, rfl⟩ := hb rfl
  have q := q.up hsub
  refine ⟨fun i m σ H => m = items.length - i ∧ i ≤ items.length ∧ ∃ ρ s, Pt X.K c gT1 gF1 σ H ρ s ∧ FinX X.K X.mg W c gT1 gF1 D (forL (stepF tg b) (items.drop i) ρ s), ⟨items.length, rfl, Nat.zero_le _, ρ1, s1, P1, q⟩, ?_⟩
  rintro i m σ H ⟨rfl, hi, ρ, s, P, q⟩
  by_cases hlt : i < items.length
  · refine .inr ⟨wk.goes i hlt _ _ _ _ _ _ (fun _ h => h) (fun _ h => h) P, fun σ' H' => i + 1 ≤ items.length ∧ ∃ ρ s, Pt X.K c gT1 gF1 σ' H' ρ s ∧ FinX X.K X.mg W c gT1 gF1 D (forL (stepF tg b) (items.drop (i + 1)) ρ s), fun σ' H' w => ⟨items.length - (i + 1), by omega, rfl, w.1, w.2⟩, fun x H' y => ?_⟩
    have hd : items[i]? = some items[i] := List.getElem?_eq_getElem hlt
    have P2 := wk.yields i _ hd _ _ _ _ _ _ x H' (fun _ h => h) (fun _ h => h) P y
    rw [List.drop_eq_getElem_cons hlt, forL] at q
    unfold stepF at q
    cases hb : bindTg tg items[i] ρ with
    | none => rw [hb] at q; exact False.elim q
    | some ρ1 =>
      rw [hb] at q
      refine ⟨c, _, gF1, ρ, s, _, ρ1, P2, List.mem_cons_self, hb, fun σ' P3 _ => ⟨c, gT1, gF1, ρ1, s, P3.less (fun p hp => List.mem_cons_of_mem _ hp) (List.Sublist.refl _), ?_⟩⟩
      exact FinX.turn q fun σ H ρ1 s1 P4 q4 => ⟨hlt, ρ1, s1, P4, q4⟩
  · have hi' : i = items.length := by omega
    subst hi'
    rw [List.drop_length, forL] at q
    exact .inl ⟨wk.stops _ _ _ _ _ _ (fun _ h => h) (fun _ h => h) P, q σ H P⟩
theorem whl_rdX {n : Nat} {e : E} {b : S} {D : Ends} {σ : L2.St} {H : Hp} (hq : quiet e) (h : rdSX X W (exS (.whl n e b)) D σ H) : tWhile (rdT X.K (ev e)) (rdSX X W (exS b)) D σ H := by
  obtain ⟨c, gT, gF, ρ, s, P, q⟩ := h
  rw [exS] at q
  refine ⟨fun m σ H => ∃ ρ s, Pt X.K c gT gF σ H ρ s ∧ FinX X.K X.mg W c gT gF D (whlL (fun ρ s => ev e ρ s) (fun ρ s => exS b ρ s) m ρ s), ⟨n, ρ, s, P, q⟩, ?_⟩
  rintro m σ H ⟨ρ, s, P, q⟩
  cases m with
  | zero => rw [whlL] at q; exact False.elim q
  | succ m =>
    have nx := (quiet_ok e hq).1 ρ s
    rw [whlL] at q
    split at q
    · rename_i s1 e1
      refine ⟨c, gT, gF, ρ, s, true, s1, P, e1, fun H1 P1 => ?_⟩
      show (if true = true then _ else _)
      rw [if_pos rfl]
      exact ⟨fun σ' H' => ∃ ρ s, Pt X.K c gT gF σ' H' ρ s ∧ FinX X.K X.mg W c gT gF D (whlL (fun ρ s => ev e ρ s) (fun ρ s => exS b ρ s) m ρ s), fun σ' H' w => ⟨m, Nat.lt_succ_self m, w⟩, c, gT, gF, ρ, s1, P1, FinX.turn q fun σ H ρ1 s1 P4 q4 => ⟨ρ1, s1, P4, q4⟩⟩
    · rename_i s1 e1
      exact ⟨c, gT, gF, ρ, s, false, s1, P, e1, fun H1 P1 => by dsimp only; rw [if_neg (by simp)]; exact q _ _ P1⟩
    · rename_i e1
      exact (NX.exc nx e1).elim
    · exact False.elim q
theorem heap_end {H1 : Hp} {a dd : Addr} {o1 o2 o3 o4 : HO} (ha : H1 a = none) (hd : dd ≠ a) : upd (del (upd (upd (upd H1 a o1) dd o2) a o3) a) dd o4 = upd H1 dd o4 := by
  funext b
  by_cases hb : b = dd
  · rw [hb, upd_same, upd_same]
  · rw [upd_ne hb, upd_ne hb]
    by_cases hba : b = a
    · rw [hba, del_same, ha]
    · rw [del_ne hba, upd_ne hba, upd_ne hb, upd_ne hba]
theorem raise_rd {cl : String} {e : E} {C : Addr} {D : Ends} {σ : L2.St} {H : Hp} (hq : quiet e) (hm : X.mg (Str.ofString cl) = some (.ref C)) (h : rdSX X W (exS (.raise cl e)) D σ H) :
    tMkO C (spSup C (fldOf cl)) [] (rdA X.K (evs (.cons e .nil))) σ H fun cls d H' => W cls d σ H' := by
  obtain ⟨c, gT, gF, ρ, s, P, q⟩ := h
  rw [exS] at q
  have nx := (quiet_ok e hq).1 ρ s
  cases e1 : ev e ρ s with
  | no => rw [e1] at q; exact False.elim q
  | exc cl d s' => rw [e1] at nx; exact False.elim nx
  | ok r s1 =>
  rw [e1] at q
  dsimp only [withV] at q
  cases hb : r.isBo with
  | true => rw [hb, if_pos rfl] at q; exact False.elim q
  | false =>
  rw [hb, if_neg (by simp)] at q
  have q : XPost X.K X.mg W c gT gF cl r.d s1 := q
  refine ⟨c, gT, gF, ρ, s, [r], s1, P, by simp only [evs, e1, R.bind], fun vs H1 P1 V1 => ?_⟩
  have hf : freeze [r] = true := by rw [freeze, hb]; rfl
  have hl := V1.length
  obtain ⟨gT', T, F, o, h1, reps⟩ := args_share P1 V1 hf
  match vs, hl, reps with
  | [v], _, reps =>
  refine ⟨by simp, fun a ha => ⟨a, v, rfl, upd_same, fun dd hd1 hd2 => ⟨rfl, dd, [(fldOf cl, v)], upd_same, ?_, ?_, ?_⟩⟩⟩
  · rw [upd_ne hd2, upd_same]
  · rw [upd_ne hd2] at hd1; exact hd1
  · rw [heap_end ha hd2]
    rw [upd_ne hd2] at hd1
    have rep : Rep X.K c.aS (c.Ow F) H1 r.d v := by
      rw [List.map_cons, Reps] at reps
      obtain ⟨v', vs', e, rp, _⟩ := reps
      cases e
      exact rp
    have o2 := o.addT rep
    refine q σ ρ _ C dd v hm ⟨_, F, (o2.step (T' := _) (fun _ h => h) o2.hT (o2.B.alloc (o := .xd [(fldOf cl, v)]) hd1)).less (fun p hp => ?_) (List.Sublist.refl _)⟩ upd_same
    rcases List.mem_cons.mp hp with e | hp
    · rw [e]; exact List.mem_cons_self
    · exact List.mem_cons_of_mem _ (h1 p hp)
def SndSX (b : S) : Prop := ∀ (X : Cx) (mc : MC) (W : L2.WX), CtxOk X mc → okS (lvOf X) b → okSX (lvOf X) b → Takes X W → PassesOwn (model X.prog X.w) X.A X.env X.xe →
  (∀ st, mtS b mc st = true → PS X st (rdSX X W (exS b))) ∧ (∀ sts, mtSs b mc sts = true → PSs X sts (rdSX X W (exS b)))
theorem SndSX.of {b : S} (h : ∀ (X : Cx) (mc : MC) (W : L2.WX), CtxOk X mc → okS (lvOf X) b → okSX (lvOf X) b → Takes X W → PassesOwn (model X.prog X.w) X.A X.env X.xe → ∀ st, mtS b mc st = true → PS X st (rdSX X W (exS b))) (h1 : ∀ mc l, mtSs b mc l = false) : SndSX b :=
  fun X mc W ok hk hx tk hp => ⟨h X mc W ok hk hx tk hp, fun sts z => absurd z (by rw [h1]; simp)⟩
theorem SndSX.quiet {b : S} (h : ∀ L, okSX L b → quietS b) (h1 : ∀ mc l, mtSs b mc l = false) : SndSX b :=
  .of (fun X mc W ok hk hx tk hp st m => quietX ((snd_stmt b X mc ok hk hp).1 st m) (h _ hx)) h1
theorem stmt_exc (b : S) : SndSX b := by
  induction b with
  | skip =>
    refine fun X mc W ok hk hx tk hp => ⟨fun st h => quietX ((snd_stmt .skip X mc ok hk hp).1 st h) hx, fun sts h => ?_⟩
    unfold mtSs at h
    cases sts with
    | nil => exact pss_nil.via fun D σ H ⟨c, gT, gF, ρ, s, P, q⟩ => q _ _ P
    | cons => cases h
  | seq a b iha ihb =>
    refine fun X mc W ok hk hx tk hp => ⟨fun st h => by simp [mtS] at h, fun sts h => ?_⟩
    by_cases hs : ∃ i, a = .share i
    · obtain ⟨i, rfl⟩ := hs
      unfold mtSs at h
      exact ((ihb X mc W ok hk.2 hx.2 tk hp).2 sts h).via fun D σ H q => share_rdX q
    · have h' : ∃ st r, sts = st :: r ∧ mtS a mc st = true ∧ mtSs b mc r = true := by
        unfold mtSs at h
        split at h
        · exact (hs ⟨_, rfl⟩).elim
        · split at h
          · rw [Bool.and_eq_true] at h
            exact ⟨_, _, rfl, h.1, h.2⟩
          · cases h
      obtain ⟨st, r, rfl, h1, h2⟩ := h'
      exact (pss_cons ((iha X mc W ok hk.1 hx.1 tk hp).1 _ h1) ((ihb X mc W ok hk.2 hx.2 tk hp).2 _ h2)).via fun D σ H q => seq_rdX q
  | asg i e =>
    refine .of (fun X mc W ok hk hx tk hp st h => ?_) (by intro mc l; simp [mtSs])
    have h0 := (snd_stmt (.asg i e) X mc ok hk hp).1 st h
    unfold mtS at h
    split at h <;> first | (cases h; done) | skip
    all_goals first | (rename_i heq; cases heq; done) | skip
    rename_i heq
    cases heq
    simp only [Bool.and_eq_true] at h
    exact simpleX h0 (ps_nameX ok hk hx tk (of_decide_eq_true h.1.1.1) h.1.1.2 h.1.2 h.2) asg_link
  | asgS i e =>
    refine .of (fun X mc W ok hk hx tk hp st h => ?_) (by intro mc l; simp [mtSs])
    have h0 := (snd_stmt (.asgS i e) X mc ok hk hp).1 st h
    unfold mtS at h
    split at h <;> first | (cases h; done) | skip
    all_goals first | (rename_i heq; cases heq; done) | skip
    rename_i heq
    cases heq
    simp only [Bool.and_eq_true] at h
    exact simpleX h0 (ps_nameX ok hk hx tk (of_decide_eq_true h.1.1.1) h.1.1.2 h.1.2 h.2) asgS_link
  | asgT tg e =>
    refine .of (fun X mc W ok hk hx tk hp st h => ?_) (by intro mc l; simp [mtSs])
    have h0 := (snd_stmt (.asgT tg e) X mc ok hk hp).1 st h
    unfold mtS at h
    split at h <;> first | (cases h; done) | skip
    all_goals first | (rename_i heq; cases heq; done) | skip
    rename_i es k p v pos heq
    cases heq
    simp only [Bool.and_eq_true] at h
    have hs : swapsWithSole [.Tuple es k p] v pos.line X.env = pure false := by
      cases v <;> first | rfl | cases h.2
    exact simpleX h0 ((ps_asg ((exc_all e X _ W ok hk hx tk).1 v h.1.2).pe ((tg_ok ok tg).1 _ h.1.1) hs (unp_noneM ok h.2)).via fun D σ H q => q) asgT_link
  | par is es => exact .quiet (fun _ h => h) (by intro mc l; simp [mtSs])
  | app i e => exact .quiet (fun _ h => h) (by intro mc l; simp [mtSs])
  | ext i e => exact .quiet (fun _ h => h) (by intro mc l; simp [mtSs])
  | seti i k e => exact .quiet (fun _ h => h) (by intro mc l; simp [mtSs])
  | expr e =>
    refine .of (fun X mc W ok hk hx tk hp st h => ?_) (by intro mc l; simp [mtSs])
    have h0 := (snd_stmt (.expr e) X mc ok hk hp).1 st h
    cases st <;> first | (simp [mtS] at h; done) | skip
    rename_i v pos
    rw [mtS, Bool.and_eq_true] at h
    have sw : swapsWith v none pos.line X.env = pure false := by
      obtain ⟨_, h⟩ := h
      cases v <;> first | rfl | (cases h; done)
    exact simpleX h0 ((ps_expr ((exc_all e X mc W ok hk hx tk).1 _ h.1).pe sw).via fun D σ H q => q) expr_link
  | ret e =>
    refine .of (fun X mc W ok hk hx tk hp st h => ?_) (by intro mc l; simp [mtSs])
    have h0 := (snd_stmt (.ret e) X mc ok hk hp).1 st h
    cases st <;> first | (simp [mtS] at h; done) | skip
    rename_i v pos
    cases v with
    | some v =>
      rw [mtS] at h
      exact simpleX h0 ((ps_ret ((exc_all e X mc W ok hk hx tk).1 _ h).pe).via fun D σ H q => q) ret_link
    | none =>
      have he : e = .con .non := by
        unfold mtS at h
        split at h <;> first | (cases h; done) | skip
        all_goals first | (rename_i heq heq2; cases heq; done) | (rename_i heq; cases heq; done) | skip
        all_goals (injection ‹S.ret e = S.ret (E.con D.non)›)
      subst he
      exact quietX h0 (show quiet (.con .non) from trivial)
  | ife c a b iha ihb =>
    refine .of (fun X mc W ok hk hx tk hp st h => ?_) (by intro mc l; simp [mtSs])
    cases st <;> first | (simp [mtS] at h; done) | skip
    rw [mtS, Bool.and_eq_true, Bool.and_eq_true] at h
    exact (ps_if (((snd_all c).1 X mc ok hk.1 |>.1 _ h.1.1).pt.or ((exc_all c X mc W ok hk.1 hx.1 tk).1 _ h.1.1).pt) ((iha X mc W ok hk.2.1 hx.2.1 tk hp).2 _ h.1.2) ((ihb X mc W ok hk.2.2 hx.2.2 tk hp).2 _ h.2)).via fun D σ H q => if_rdX q
  | «for» tg it b ihb =>
    refine .of (fun X mc W ok hk hx tk hp st h => ?_) (by intro mc l; simp [mtSs])
    cases st <;> first | (simp [mtS] at h; done) | skip
    rename_i t x l r pos
    cases r with
    | cons _ _ => simp [mtS] at h
    | nil =>
      rw [mtS, Bool.and_eq_true, Bool.and_eq_true] at h
      have L := ((snd_all it).1 X mc ok hk.1).2.2 _ _ h.1.2
      exact (ps_for hp ok.calm L.1 ((tg_ok ok tg).1 _ h.1.1) ((ihb X mc W ok hk.2 hx.2 tk hp).2 _ h.2) L.2).via fun D σ H q => for_rdX hx.1 q
  | whl n c b ihb =>
    refine .of (fun X mc W ok hk hx tk hp st h => ?_) (by intro mc l; simp [mtSs])
    cases st <;> first | (simp [mtS] at h; done) | skip
    rename_i x l r pos
    cases r with
    | cons _ _ => simp [mtS] at h
    | nil =>
      rw [mtS, Bool.and_eq_true] at h
      exact (ps_while hp ((snd_all c).1 X mc ok hk.1 |>.1 _ h.1).pt ((ihb X mc W ok hk.2 hx.2 tk hp).2 _ h.2)).via fun D σ H q => whl_rdX hx.1 q
  | brk => exact .quiet (fun _ h => h) (by intro mc l; simp [mtSs])
  | cont => exact .quiet (fun _ h => h) (by intro mc l; simp [mtSs])
  | share i => exact .quiet (fun _ h => h) (by intro mc l; simp [mtSs])
  | never =>
    refine fun X mc W ok hk hx tk hp => ⟨fun st h => ps_never.via fun D σ H ⟨c, gT, gF, ρ, s, P, q⟩ => q, fun sts h => pss_never.via fun D σ H ⟨c, gT, gF, ρ, s, P, q⟩ => q⟩
  | raise cl e =>
    refine .of (fun X mc W ok hk hx tk hp st h => ?_) (by intro mc l; simp [mtSs])
    unfold mtS at h
    split at h <;> first | (cases h; done) | skip
    all_goals first | (rename_i heq; cases heq; done) | skip
    rename_i heq
    cases heq
    simp only [Bool.and_eq_true] at h
    obtain ⟨⟨h1, h2⟩, h3⟩ := h
    obtain ⟨rfl, hg, hd⟩ := callB_of ok h1
    obtain ⟨hq, C, fI, k, fd, ps, r1, r2, r3, r4, r5, r6, r7⟩ := hx
    have st1 := star_cons (env := X.env) (es := []) h2
    have pe := ((snd_all e).1 X _ ok hk |>.1 _ h3).pe
    exact (ps_raise ok.calm tk (pmk_oex (dvs := []) r2 r3 r4 r5 r6 r7 .nil pass0 hg r1 (args_cons h2 pe args_nil) hd st1 rfl)).via fun D σ H q => raise_rd hq r1 q
  | stPut i e => exact .quiet (fun _ h => h) (by intro mc l; simp [mtSs])
  | stPutLeft i k e => exact .quiet (fun _ h => h) (by intro mc l; simp [mtSs])
end
end RS
end
section
set_option Elab.async false
set_option linter.all false
set_option maxRecDepth 100000
set_option autoImplicit false
set_option maxHeartbeats 4000000
/-! RSX5: defs that let errors out. -/
namespace RS
open PySem PySem.Spec PyProof.Rows L2
theorem bodyGX {P : Program} {w : World} {K : PySem.W.Frag} {mg : Str → Option Value} {base : Heap} {x qual : Str} {st : Stmt} {f : Addr} {fd : FuncData} {N ps : List Str} {k : Nat} {A : Around} {outer : List PySem.Env} {s : Shared} {H : Hp} {args : Args} {us : List Value} {vs : List V} {Q : VK} {E : XK} {t : TS}
    (Fu : L2.Fun K x qual st f fd) (Sc : FnScope N ps (defScope st)) (room : Room (k + 1) A) (at0 : Env0 P w K mg base A outer s H) (bound : BindsTo s fd args (ps.zip us)) (rel : Vals vs us) (hn : vs.length = ps.length)
    (rules : ∀ cdv, cdv = cdOf K f → PSs (cxOf (L2.CX P w) P w K mg base N qual (defScope st) f cdv A outer s H E) (defBody st) t) (told : t { nx := fun _ H' => Q .non H', rt := Q } (L2.start N vs) H) :
    codeAny (model P w) A (.call (.ref f) args) (CR (L2.CX P w) outer P w H s Q E) s := by
  obtain ⟨_, _, _, _, _, _, code, _, _, rfl, look, incode⟩ := Fu.ex
  have kept : K.In s.heap := fun c o e => (at0.bs c o (at0.mod.kin c o e)).1
  have free : s.heap.NoLimit := by
    obtain ⟨m, q1, q2⟩ := at0.mod.nolimit
    exact ⟨m, q1.keeps fun c o e => (at0.bs c o e).1, q2⟩
  refine codeAny_call_function room.depth (kept _ _ look) rfl Sc.co Sc.gen rfl (PySem.W.codeRec_of kept incode) (bound _ _ _ _ ?_)
  refine wpAny_newFunctionEnv_cells Sc.kind (fun p hp => ?_) fun env he s1 entered => ?_
  · rcases Sc.par p.1 (List.of_mem_zip hp).1 with q | q
    · exact Or.inl q
    · exact Or.inr ⟨q, PySem.W.cellsFrom_some _ _ _ (Or.inl q)⟩
  · subst he
    refine ⟨free.keeps entered.toInCall.keep, codeAny_func ?_⟩
    have inv := inv_start (CX := L2.CX P w) (E := E) (cd := code) (w := w) (P := P) (mg := mg) (base := base) (outer := outer) Sc room.hd at0 hn rel entered
    have close : ∀ {σ' : L2.St} {Hx : Hp} {v : V} {u : Value} {sx : Shared}, Inv (cxOf (L2.CX P w) P w K mg base N qual (defScope st) f code A outer s H E) [] σ' Hx sx → RelV v u → Q v Hx → CE outer P w H s Q u sx := by
      intro σ' Hx v u sx J r q
      exact ⟨v, Hx, J.os, J.bare, J.base, J.hok, r, q⟩
    refine wpAny_mono ((rules code (by unfold cdOf; rw [look])).run [] s1 (L2.start N vs) H _ inv told) (fun fl sx hs => ?_) fun _ _ hs => hs
    match fl, hs with
    | .ret u, ⟨v, _, _, J, r, q⟩ => exact close J r q
    | .next, ⟨_, _, J, q⟩ => exact close (v := .non) (u := .none) J rfl q
    | .brk, ⟨_, _, _, q⟩ => exact q.elim
    | .cont, ⟨_, _, _, q⟩ => exact q.elim
theorem ctxGX {P : Program} {w : World} {K : PySem.W.Frag} {mg : Str → Option Value} {base : Heap} {qual : Str} {st : Stmt} {f : Addr} {N ps : List Str} {k : Nat} {A : Around} {outer : List PySem.Env} {s : Shared} {H : Hp} {E : XK} (cdv : Value) (Sc : FnScope N ps (defScope st)) (blt : ∀ x ∈ bltNames, mg (Str.ofString x) = none)
    (room : Room (k + 1) A) {g : Bool} (hgd : g = true → A.guards = some []) : CtxOk (cxOf (L2.CX P w) P w K mg base N qual (defScope st) f cdv A outer s H E) ⟨N, defScope st, fun _ => true, g⟩ :=
  ⟨Sc.nd, rfl, blt, hgd, by have := (room.deeper (envOfC qual (defScope st) s.heap.objs.size f cdv)).un; show (A.deeper _).units + 100 < _; omega, rfl, rfl, fun _ _ => rfl, Sc.kind⟩
theorem endR_exc {o : Out} {cl : String} {d : D} {s : OSt} (h : endR o = .exc cl d s) : o = .exc cl d s := by
  cases o <;> first | (cases h; rfl) | cases h
/-- a def by its body -/
theorem fnX {P : Program} {w : World} {K : PySem.W.Frag} {mg : Str → Option Value} {base : Heap} {x qual : Str} {st : Stmt} {f : Addr} {fd : FuncData} {N ps : List Str} {k : Nat} {b : S} {g : Bool}
    (F : L2.Fun K x qual st f fd) (Sc : FnScope N ps (defScope st)) (blt : ∀ x ∈ bltNames, mg (Str.ofString x) = none) (hm : mtSs b ⟨N, defScope st, fun _ => true, g⟩ (defBody st) = true) (hk : ∀ A, Room k A → (g = true → A.guards = some []) → okS ⟨P, w, K, mg, base, A, cdOf K f, qual ++ (".<locals>." : Str)⟩ b)
    (hx : ∀ A, Room k A → (g = true → A.guards = some []) → okSX ⟨P, w, K, mg, base, A, cdOf K f, qual ++ (".<locals>." : Str)⟩ b) : FnX P w K mg base (k + 1) f fd ps (evFn N.length ps.length b) g := by
  refine ⟨fun A outer s H args us vs E hr hgd e0 hb r hsp => ?_⟩
  obtain ⟨c, ds, sst, cl, d, st', hl, reps, pre, hev, hend⟩ := hsp
  have hpl : ps.length ≤ N.length := by have := congrArg List.length Sc.pre; rw [List.length_take] at this; omega
  unfold evFn at hev
  split at hev <;> first | (cases hev; done) | skip
  have hev := endR_exc hev
  have r' := hr.deeper
  refine bodyGX (E := E) F Sc hr e0 hb r hl (t := rdSX (cxOf (L2.CX P w) P w K mg base N qual (defScope st) f (.none) A outer s H E) (fun cls dd _ H' => E cls dd H') (exS b)) (fun cdv hcd => ?_) ⟨_, [], [], _, sst, entry (N := N) (by omega) reps pre, ?_⟩
  · subst hcd
    have tk : Takes (cxOf (L2.CX P w) P w K mg base N qual (defScope st) f (cdOf K f) A outer s H E) (fun cls dd _ H' => E cls dd H') := takes_of rfl rfl rfl rfl
    exact ((stmt_exc b) _ _ _ (ctxGX _ Sc blt hr hgd) (hk _ (hr.deeper _) hgd) (hx _ (hr.deeper _) hgd) tk (passes_of rfl)).2 _ hm
  · rw [hev]
    intro σ ρ H' C dd v hm ⟨T, F', o⟩ hxd
    exact hend H' C dd v hm o.B.kp.re o.B.st.re (Rep.go (Go.less fun a ha => .inl ha) _ _ (o.B.tT _ (o.hT _ List.mem_cons_self))) hxd
theorem evFn_lenX {n p : Nat} {b : S} {ds : List D} {s s' : OSt} {c : String} {d : D} (h : evFn n p b ds s = .exc c d s') : ds.length = p := by
  unfold evFn at h
  split at h
  · assumption
  · cases h
/-! ## one after another -/
def HasX (P : Program) (w : World) (K : PySem.W.Frag) (mg : Str → Option Value) (base : Heap) (x : String) (st : Stmt) (ps : List Str) (lv : Nat) (fn : Fn) (g : Bool) : Prop :=
  ∃ f fd, mg (Str.ofString x) = some (.ref f) ∧ L2.Fun K (Str.ofString x) (Str.ofString x) st f fd ∧ L2.Binds K fd ps [] ∧ FnX P w K mg base lv f fd ps fn g ∧ ∀ ds s c d s', fn ds s = .exc c d s' → ds.length = ps.length
section
variable {P : Program} {w : World} {K : PySem.W.Frag} {mg : Str → Option Value} {base : Heap} {x : String} {st : Stmt} {ps N : List Str} {k lv : Nat} {b : S} {g : Bool}
theorem hasX_of (D : DefAt K mg x st) (blt : ∀ x ∈ bltNames, mg (Str.ofString x) = none) (hs : scB N ps (defScope st) = true) (hm : mtSs b ⟨N, defScope st, fun _ => true, g⟩ (defBody st) = true)
    (hb : ∀ (kV doc pm : Value) (an : Option Addr) (cdv ct : Value) (us : List Value), us.length = ps.length → bindArgs (PySem.W.fnOf (Str.ofString x) (Str.ofString x) (defArgs st) (defBody st) (defScope st) .none kV doc pm an cdv ct) ⟨us, []⟩ = pure (ps.zip us))
    (hk : ∀ A, Room k A → (g = true → A.guards = some []) → okS ⟨P, w, K, mg, base, A, cdAt K mg x, Str.ofString x ++ (".<locals>." : Str)⟩ b) (hx : ∀ A, Room k A → (g = true → A.guards = some []) → okSX ⟨P, w, K, mg, base, A, cdAt K mg x, Str.ofString x ++ (".<locals>." : Str)⟩ b) : HasX P w K mg base x st ps (k + 1) (evFn N.length ps.length b) g := by
  obtain ⟨f, fd, h1, h2⟩ := D
  rw [cdAt_eq h1] at hk hx
  exact ⟨f, fd, h1, h2, h2.binds hb, fnX h2 (scB_of hs) blt hm hk hx, fun _ _ _ _ _ e => evFn_lenX e⟩
theorem HasX.call {A : Around} {cd : Value} {q : Str} {fn : Fn} (h : HasX P w K mg base x st ps lv fn g) (hr : Room k A) (hg : g = true → A.guards = some []) (hl : lv ≤ k) : CallXOk ⟨P, w, K, mg, base, A, cd, q⟩ x fn := by
  obtain ⟨f, fd, h1, h2, h3, h4, h5⟩ := h
  exact ⟨g, lv, f, fd, ps, h1, h2.kp, h3, h4, ⟨hr.mono hl, hg⟩, h5⟩
/-- errors of the class c may be raised, by an __init__ of level lv -/
def ClsAt (P : Program) (w : World) (K : PySem.W.Frag) (mg : Str → Option Value) (base : Heap) (c : String) (lv : Nat) : Prop :=
  ∃ C fI fd ps, mg (Str.ofString c) = some (.ref C) ∧ OexC K C ∧ PySem.W.findIn K (.ref C) "__init__" = some (some (.ref fI)) ∧ PySem.W.typeIn K (.ref fI) = some (.type "function") ∧
    FnOk P w K mg base C8.CX0 lv fI fd ps (spSup C (fldOf c)) ∧ Binds K fd ps []
theorem ClsAt.raise {A : Around} {cd : Value} {q : Str} {c : String} (h : ClsAt P w K mg base c lv) (hr : Room k A) (hl : lv + 1 ≤ k) : RaiseOk ⟨P, w, K, mg, base, A, cd, q⟩ c := by
  obtain ⟨C, fI, fd, ps, h1, h2, h3, h4, h5, h6⟩ := h
  exact ⟨C, fI, lv, fd, ps, h1, h2, h3, h4, h5, hr.mono hl, h6⟩
end
end RS
end
section
set_option Elab.async false
set_option linter.all false
set_option maxRecDepth 100000
set_option autoImplicit false
set_option maxHeartbeats 4000000
/-! RSXTry: a try with several clauses, each with a name of its own for the error or without one. -/
namespace RS
open PySem PySem.Spec PyProof.Rows L2
/-- one clause: its class, the slot of its name, what its suite does -/
abbrev Cl := Value × Option Nat × (Addr → Value → Option Addr → TS)
def gone (D : Ends) (i : Nat) : Ends := ⟨fun σ H => D.nx (σ.set i none) H, D.rt, fun σ H => D.bk (σ.set i none) H, fun σ H => D.ct (σ.set i none) H⟩
def wMix (K : PySem.W.Frag) (Wo : L2.WX) (D : Ends) : List Cl → L2.WX
  | [] => Wo
  | (c, oi, ts) :: r => fun cls d σ H => ∃ b, PySem.W.exmOne K cls c = some b ∧
      (b = true → ∀ a, H a = none → match oi with
        | some i => ts a cls d (gone D i) (σ.set i (some (.ref a))) H
        | none => ts a cls d D σ H) ∧ (b = false → wMix K Wo D r cls d σ H)
inductive MixOk (X : Cx) : List ExceptHandler → List Cl → Prop
  | nil : MixOk X [] []
  | as_ {x n : Str} {i : Nat} {c : Value} {ts : Addr → Value → Option Addr → TS} {s0 : Stmt} {ss : List Stmt} {p1 p2 : Pos} {hs : List ExceptHandler} {l : List Cl} (hc : Names X x c) (hi : X.N[i]? = some n) (hl : X.env.kindOf n = some .local)
      (run : ∀ (a : Addr) (oe : Obj) (cls : Value) (d : Option Addr) (pn : List (Addr × Obj)), Zc cls d oe → (∃ vs, oe.data = .fields vs) → PSs (X.suite a ((a, oe) :: pn)) (s0 :: ss) (ts a cls d)) (r : MixOk X hs l) :
      MixOk X (.ExceptHandler (some (.Name x p1)) (some n) (s0 :: ss) p2 :: hs) ((c, some i, ts) :: l)
  | no_ {x : Str} {c : Value} {ts : Addr → Value → Option Addr → TS} {s0 : Stmt} {ss : List Stmt} {p1 p2 : Pos} {hs : List ExceptHandler} {l : List Cl} (hc : Names X x c)
      (run : ∀ (a : Addr) (oe : Obj) (cls : Value) (d : Option Addr) (pn : List (Addr × Obj)), Zc cls d oe → (∃ vs, oe.data = .fields vs) → PSs (X.suite a ((a, oe) :: pn)) (s0 :: ss) (ts a cls d)) (r : MixOk X hs l) :
      MixOk X (.ExceptHandler (some (.Name x p1)) none (s0 :: ss) p2 :: hs) ((c, none, ts) :: l)
/-- an error that has been caught, before the clauses are asked -/
structure Caught (X : Cx) (pins : List (Addr × Obj)) (σ : L2.St) (H : Hp) (cls : Value) (d : Option Addr) (a : Addr) (B : Heap) (sI s : Shared) : Prop where
  inv : Inv X pins σ H sI
  keeps : ∀ b o, sI.heap.get? b = some o → b ∉ frs X.stack → B.get? b = some o
  slots : sI.heap.UpToSlots s.heap
  flies : HandSPX.FlyingZ B (X.env :: X.outer) a (Zc cls d) s.heap
  new : H a = none
  out : s.os = sI.os
  bare : AllBare s.gens
section
variable {X : Cx} {pins : List (Addr × Obj)} {σ : L2.St} {H : Hp} {cls : Value} {d : Option Addr} {a : Addr} {B : Heap} {sI s : Shared} {D : Ends} {Wo : L2.WX}
theorem Caught.here (C : Caught X pins σ H cls d a B sI s) : Inv X pins σ H { s with heap := s.heap } := C.inv.landed C.keeps C.flies.1 C.slots C.out C.bare
theorem Caught.off (C : Caught X pins σ H cls d a B sI s) (fr : X.env.frame = some X.env.locals) : a ≠ X.env.locals ∧ a ∉ X.fs := by
  obtain ⟨o, vs, h1, _, h2⟩ := C.flies.there
  have out : a ∉ frs (X.env :: X.outer) := fun m => by
    obtain ⟨_, o2, g1, g2⟩ := C.flies.2.2.1.mem m
    rw [h1] at g1
    cases g1
    exact g2 _ h2
  refine ⟨fun e => out ?_, fun m => ?_⟩
  · exact List.mem_filterMap.mpr ⟨X.env, List.mem_cons_self, by rw [fr, e]⟩
  · obtain ⟨e, m1, m2⟩ := List.mem_filterMap.mp m
    exact out (List.mem_filterMap.mpr ⟨e, List.mem_cons_of_mem _ m1, m2⟩)
theorem handled (stk : X.stack = X.env :: X.outer) (fr : X.env.frame = some X.env.locals) (nd : X.N.Nodup) (tk : Takes X Wo) (ok : X.Ok) {hs : List ExceptHandler} {l : List Cl} (M : MixOk X hs l) (C : Caught X pins σ H cls d a B sI s) (w : wMix X.K Wo D l cls d σ H) :
    wpAny (model X.prog X.w) X.A (handleBy (.ref a) X.env hs) (SP X pins D) X.xe s := by
  obtain ⟨n1, n2⟩ := C.off fr
  have I0 := C.here
  obtain ⟨oe, vs, at0, z0, f0⟩ := C.flies.there
  have S0 := I0.suite at0 f0 C.new n1 n2
  have ty : PySem.W.Looks (model X.prog X.w) s.heap (typeOf (.ref a)) cls := fun A Q E t k q => wpAny_typeOf_ref (k _ _ at0) (by rw [z0.1]; exact q)
  have asks : ∀ {x : Str} {c : Value} {p1 : Pos} {Q E : Value → Shared → Prop}, Names X x c → Q c s → wpAny (model X.prog X.w) (X.A.mark (some (.ref a))) (eval (.Name x p1) X.env) Q E s := by
    intro x c p1 Q E hc q
    obtain ⟨g1, g2, g3⟩ := hc
    rcases g3 with g3 | ⟨g3, g4, g5⟩
    · exact ld_glob (X := X.suite a ((a, oe) :: (X.pn ++ pins))) S0 g1 g3 q g2
    · exact ld_blt (X := X.suite a ((a, oe) :: (X.pn ++ pins))) S0 g1 g3 g4 q g5 g2
  induction M with
  | nil =>
    refine wpAny_handleBy_nil ?_
    obtain ⟨_, _, _, o1, vs1, T, oT, ts1, e1, _, e2, e3, _⟩ := id C.flies
    unfold PySem.passOn
    refine wpAny_bind (wpAny_field e1 e2 e3 ?_)
    rw [if_neg (show ¬ ((Value.ref T == Value.none) = true) by simp)]
    have last : wpAny (model X.prog X.w) X.A (setFlight (.ref a) X.env.frame) (fun _ s4 => wpAny (model X.prog X.w) X.A (throw (.ref a) : Sem Flow) (SP X pins D) X.xe s4) X.xe s := by
      rw [fr]
      refine HandSPX.setFlight_upZ C.flies fun h4 held up4 => wpAny_throw (tk _ _ ?_)
      exact ⟨a, B, sI, pins, σ, H, cls, d, rfl, C.inv, C.keeps, C.slots.trans up4, .inr (.inr (by rw [stk]; exact held)), C.new, C.out, C.bare, w⟩
    first
      | exact wpAny_bind last
      | exact wpAny_bind (wpAny_pure (wpAny_bind last))
  | @as_ x n i c ts s0 ss p1 p2 hs2 l2 hc hi hl run r ih =>
    obtain ⟨b, w1, w2, w3⟩ := w
    refine wpAny_handleBy_cons (codeAny_handlers_test ?_) (by intro z; cases z)
    refine asks hc ((PySem.W.exm_one (M := model X.prog X.w) I0.kIn ty w1).here ?_)
    cases b with
    | false =>
      show wpAny _ X.A (handleBy (.ref a) X.env hs2) _ _ _
      exact ih (w3 rfl)
    | true =>
      refine codeAny_handlers_suite_as ?_
      refine HandSPX.lands_againZ C.flies fun h4 fl4 up4 => ?_
      have C4 : Caught X pins σ H cls d a B sI { s with heap := h4 } := ⟨C.inv, C.keeps, C.slots.trans up4, fl4, C.new, C.out, C.bare⟩
      obtain ⟨o4, vs4, at4, z4, f4⟩ := C4.flies.there
      have S4 := C4.here.suite at4 f4 C.new n1 n2
      refine store_ok (X := X.suite a ((a, o4) :: (X.pn ++ pins))) (v := .ref a) S4 nd hi (.inl hl) rfl (fun s5 S5 => ?_) (.inr hl)
      refine wpAny_mono ((run a o4 cls d (X.pn ++ pins) z4 ⟨_, f4⟩).run [] s5 _ H (gone D i) S5 (w2 rfl a C.new)) (fun f s6 sp => ?_) (fun _ _ z => False.elim z)
      have close : ∀ {σ6 : L2.St} {H6 : Hp} {Q : Shared → Prop}, Inv (X.suite a ((a, o4) :: (X.pn ++ pins))) [] σ6 H6 s6 → (∀ s7, Inv X pins (σ6.set i none) H6 s7 → Q s7) →
          wpAny (model X.prog X.w) X.A (do bindName X.env n .none; unbindBehindTheSuite X.env n p2) (fun _ s7 => Q s7) X.xe s6 := fun {σ6 H6 Q} S6 hq => gone_ok (S6.unsuite ok) nd hi hl hq
      match f, sp with
      | .next, ⟨σ6, H6, S6, q6⟩ => exact close S6 fun s7 J7 => ⟨_, _, J7, q6⟩
      | .brk, ⟨σ6, H6, S6, q6⟩ => exact close S6 fun s7 J7 => ⟨_, _, J7, q6⟩
      | .cont, ⟨σ6, H6, S6, q6⟩ => exact close S6 fun s7 J7 => ⟨_, _, J7, q6⟩
      | .ret u, ⟨v6, σ6, H6, S6, r6, q6⟩ => exact close S6 fun s7 J7 => ⟨_, _, _, J7, r6, q6⟩
  | @no_ x c ts s0 ss p1 p2 hs2 l2 hc run r ih =>
    obtain ⟨b, w1, w2, w3⟩ := w
    refine wpAny_handleBy_cons (codeAny_handlers_test ?_) (by intro z; cases z)
    refine asks hc ((PySem.W.exm_one (M := model X.prog X.w) I0.kIn ty w1).here ?_)
    cases b with
    | false =>
      show wpAny _ X.A (handleBy (.ref a) X.env hs2) _ _ _
      exact ih (w3 rfl)
    | true =>
      refine codeAny_handlers_suite ?_
      refine HandSPX.lands_againZ C.flies fun h4 fl4 up4 => ?_
      have C4 : Caught X pins σ H cls d a B sI { s with heap := h4 } := ⟨C.inv, C.keeps, C.slots.trans up4, fl4, C.new, C.out, C.bare⟩
      obtain ⟨o4, vs4, at4, z4, f4⟩ := C4.flies.there
      have S4 := C4.here.suite at4 f4 C.new n1 n2
      refine wpAny_mono ((run a o4 cls d (X.pn ++ pins) z4 ⟨_, f4⟩).run [] _ _ H D S4 (w2 rfl a C.new)) (fun f s6 sp => ?_) (fun _ _ z => False.elim z)
      match f, sp with
      | .next, ⟨σ6, H6, S6, q6⟩ => exact ⟨_, _, S6.unsuite ok, q6⟩
      | .brk, ⟨σ6, H6, S6, q6⟩ => exact ⟨_, _, S6.unsuite ok, q6⟩
      | .cont, ⟨σ6, H6, S6, q6⟩ => exact ⟨_, _, S6.unsuite ok, q6⟩
      | .ret u, ⟨v6, σ6, H6, S6, r6, q6⟩ => exact ⟨_, _, _, S6.unsuite ok, r6, q6⟩
end
theorem ps_try_mix {X : Cx} {body : List Stmt} {h0 : ExceptHandler} {hs : List ExceptHandler} {l : List Cl} {pos : Pos} {tb : L2.WX → TS} {Wo : L2.WX} (stk : X.stack = X.env :: X.outer) (fr : X.env.frame = some X.env.locals) (nd : X.N.Nodup) (tk : Takes X Wo)
    (hb : ∀ (W : L2.WX) (pn : List (Addr × Obj)) (xe : Value → Shared → Prop), Takes (X.tr pn xe) W → PassesOwn (model X.prog X.w) X.A X.env xe → PSs (X.tr pn xe) body (tb W)) (M : MixOk X (h0 :: hs) l) :
    PS X (.Try body (h0 :: hs) [] [] pos) (fun D σ H => tb (wMix X.K Wo D l) D σ H) := by
  refine ⟨fun pins s σ H D I told => ?_⟩
  have ok := I.ok
  have fs : X.A.frames = some (X.env :: X.outer) := by rw [ok.frames, stk]
  let catchE : Value → Shared → Prop := fun e s₁ => wpAny (model X.prog X.w) X.A (noteFrame e X.env) (fun _ s₂ => wpAny (model X.prog X.w) X.A (setFlight e none) (fun _ s₃ => wpAny (model X.prog X.w) X.A (handleBy e X.env (h0 :: hs)) (SP X pins D) X.xe s₃) X.xe s₂) X.xe s₁
  have tk' : Takes (X.tr (X.pn ++ pins) catchE) (wMix X.K Wo D l) := fun u s' air => by
    obtain ⟨a, B, sI, pins', σ', H', cls, d, rfl, J', nb, up, sky, na, os, ag, w⟩ := air
    have sky' : Sky B (X.env :: X.outer) a (Zc cls d) X.env.locals s'.heap := by rw [← stk]; exact sky
    show wpAny (model X.prog X.w) X.A (noteFrame (.ref a) X.env) _ _ _
    exact Sky.land Zc.steady fs fr sky' fun h3 fl3 up3 => handled (s := { s' with heap := h3 }) stk fr nd tk ok M ⟨J'.ofTry ok, nb, up.trans up3, fl3, na, os, ag⟩ w
  refine wpAny_Try_except (wpAny_mono ((hb _ _ catchE tk' PassesOwn.looking).run [] s σ H D (I.toTry _) told) (fun f s1 sp => ?_) (fun e s1 he => he))
  match f, sp with
  | .next, ⟨σ', H', J', q⟩ => exact wpAny_execs_nil ⟨σ', H', J'.ofTry ok, q⟩
  | .brk, ⟨σ', H', J', q⟩ => exact ⟨σ', H', J'.ofTry ok, q⟩
  | .cont, ⟨σ', H', J', q⟩ => exact ⟨σ', H', J'.ofTry ok, q⟩
  | .ret u, ⟨v, σ', H', J', r, q⟩ => exact ⟨v, σ', H', J'.ofTry ok, r, q⟩
end RS
end
section
set_option Elab.async false
set_option linter.all false
set_option maxRecDepth 100000
set_option autoImplicit false
set_option maxHeartbeats 4000000
/-! RSX6: the def that hears a call. -/
namespace RS
open PySem PySem.Spec PyProof.Rows L2
/-- what a class of errors must say -/
structure ErrC (K : PySem.W.Frag) (mg : Str → Option Value) (cl : String) (C : Addr) : Prop where
  xf : XfC K C
  ic : (PySem.W.clsIn K C).isSome = true
  ha : PySem.W.findIn K (.ref C) "__class__" = some (some (.builtin "object.__class__"))
  hn : PySem.W.specialIn K (.builtin "object.__class__") "__get__" = some (some (.builtin "getset_descriptor.__get__"))
  ht : PySem.W.takesIn K (.builtin "object.__class__") = some true
  hm : PySem.W.mroIn K C (.type "object") = some true
  no : PySem.W.findIn K (.ref C) (fldOf cl) = some none
  up : ∀ c' C', c' ∈ "RisingError" :: errs → mg (Str.ofString c') = some (.ref C') → PySem.W.exmOne K (.ref C) (.ref C') = some (catchB cl c') ∧ PySem.W.kitOne K (.ref C) (.ref C') = some (catchB cl c')
def ErrsOk (K : PySem.W.Frag) (mg : Str → Option Value) : Prop := ∀ cl C, cl ∈ errs → mg (Str.ofString cl) = some (.ref C) → ErrC K mg cl C
/-- a clause's class stands in the text -/
def ClsIn (mg : Str → Option Value) (c : String) : Prop := c ∈ "RisingError" :: errs ∧ ∃ C, mg (Str.ofString c) = some (.ref C)
def rIsX (K : PySem.W.Frag) (a C dd : Addr) : List V → Hp → VK → Prop := fun xs H Q => ∃ (c : V) (cv : Value) (b : Bool) (fs : List (Str × V)), xs = [.ref a, c] ∧ H dd = some (.xd fs) ∧ (∀ u, RelV c u → u = cv) ∧ PySem.W.kitOne K (.ref C) cv = some b ∧ Q (.bl b) H
theorem call_isX {X : Cx} {mg : Str → Option Value} {cl : String} {a C dd : Addr} {oe : Obj} {pn : List (Addr × Obj)} (F : ErrC X.K mg cl C) (hz : Zc (.ref C) (some dd) oe) (hf : ∃ vs, oe.data = .fields vs) : CallR (X.suite a ((a, oe) :: pn)) (.builtin "isinstance") (rIsX X.K a C dd) := by
  intro pins s σ H xs us Q I r h
  obtain ⟨c, cv, b, fs, rfl, hx, hcv, e, q⟩ := h
  obtain ⟨u1, u2, rfl, r1, r2⟩ := vals2 r
  obtain rfl : u1 = Value.ref a := r1
  have ec := hcv _ r2
  subst ec
  obtain ⟨at0, _⟩ := I.pin (a, oe) (List.mem_append.mpr (.inl List.mem_cons_self))
  obtain ⟨vs, hv⟩ := hf
  obtain ⟨mA, hns, _⟩ := (I.hok dd _ hx : ObjOk X.prog X.w H s.heap dd (.xd fs))
  obtain ⟨od, ho, _⟩ := lookIn_ns hns
  have J : PySem.W.InstAt s.heap a oe C (some od) := ⟨at0, hz.1, by unfold PySem.W.notCls; rw [hv], by rw [hz.2]; exact ho⟩
  exact PySem.W.kia_one (PySem.W.kitx_exc F.ic F.xf.ga F.xf.gg F.xf.exC F.ha F.hn F.ht F.hm) I.kIn J e (fun z => nomatch z) fun tk => ⟨.bl b, H, I.kept (t' := tk) fun _ _ z => z, rfl, q⟩
/-! ### what a clause tells -/
def isPart (K : PySem.W.Frag) (cl : String) (v0 : V) : HP → V → Prop
  | .con d, v => ∀ aS O H, Rep K aS O H d v
  | .fld, v => v = v0
  | .isR c, v => v = .bl (catchB cl c)
def areParts (K : PySem.W.Frag) (cl : String) (v0 : V) : List HP → List V → Prop
  | [], vs => vs = []
  | p :: ps, vs => ∃ v ws, vs = v :: ws ∧ isPart K cl v0 p v ∧ areParts K cl v0 ps ws
/-- one value, a tuple, a list made -/
def Mk (k : Nat) (vs : List V) (H : Hp) (Q : VK) : Prop := match k, vs with
  | 0, [v] => Q v H
  | 1, vs => ∀ p, H p = none → Q (.ref p) (upd H p (.tup vs))
  | 2, vs => ∀ p, H p = none → Q (.ref p) (upd H p (.lst vs))
  | _, _ => False
def mtPart (mc : MC) (c : String) (oj : Option Nat) : HP → Expr → Bool
  | .con d, .Constant k _ _ => conB d k
  | .fld, .Attribute (.Name e p) f _ => (match oj with | some j => nmB mc j (.Name e p) | none => false) && decide (f = fldOf c) && errs.contains c
  | .isR r, .Call (.Name i _) [.Name e p, .Name y _] [] _ => callB mc "isinstance" i && (match oj with | some j => nmB mc j (.Name e p) | none => false) && callB mc r y
  | _, _ => false
def mtParts (mc : MC) (c : String) (oj : Option Nat) : List HP → List Expr → Bool
  | [], [] => true
  | p :: ps, e :: es => plainE e && mtPart mc c oj p e && mtParts mc c oj ps es
  | _, _ => false
def mtVal (mc : MC) (c : String) (oj : Option Nat) (k : Nat) (ps : List HP) (v : Expr) : Bool := match k, v with
  | 1, .Tuple es _ _ => decide (ps.length ≤ 1000) && mtParts mc c oj ps es
  | 2, .List es _ => decide (ps.length ≤ 1000) && mtParts mc c oj ps es
  | 0, v => noSw v && (match ps with
    | [p] => mtPart mc c oj p v
    | _ => false)
  | _, _ => false
def mtHds (mc : MC) (jt je : Nat) : List HC → List ExceptHandler → Bool
  | [], [] => true
  | (c, k, ps) :: r, .ExceptHandler (some (.Name x _)) oe [.Assign [.Name t _] v _] _ :: hs => callB mc c x && decide (mc.N[jt]? = some t) && locOnly mc t &&
      (match oe with | some n => decide (mc.N[je]? = some n) && locOnly mc n | none => true) && mtVal mc c (oe.map fun _ => je) k ps v && mtHds mc jt je r hs
  | _, _ => false
section
variable {X : Cx} {mc : MC} {cl c : String} {a C dd : Addr} {oe : Obj} {pn : List (Addr × Obj)} {v0 : V}
/-- what is known where a clause's suite begins -/
def atErr (cl : String) (a dd : Addr) (v0 : V) (oj : Option Nat) (σ : L2.St) (H : Hp) : Prop := H dd = some (.xd [(fldOf cl, v0)]) ∧ ∀ j, oj = some j → σ[j]? = some (some (.ref a))
theorem catch_eq (h : catchB cl c = true) (hc : errs.contains c = true) : cl = c := by
  unfold catchB at h
  rw [Bool.and_eq_true, Bool.or_eq_true, Bool.or_eq_true] at h
  rcases h.2 with (e | e) | e
  · simpa using e
  · rw [show c = "RisingError" by simpa using e] at hc
    exact absurd hc (by decide)
  · rw [show c = "ValueError" by simpa using e] at hc
    exact absurd hc (by decide)
theorem pe_part (ok : CtxOk X mc) (F : ErrC X.K X.mg cl C) (hcl : ∀ r, HP.isR r = HP.isR r → True) (hz : Zc (.ref C) (some dd) oe) (hf : ∃ vs, oe.data = .fields vs) (hct : catchB cl c = true) {oj : Option Nat} : ∀ (p : HP) (e : Expr), mtPart mc c oj p e = true → (∀ r, p = .isR r → ClsIn X.mg r) →
    PE (X.suite a ((a, oe) :: pn)) e (fun σ H Q => atErr cl a dd v0 oj σ H ∧ ∀ v, isPart X.K cl v0 p v → Q v H)
  | .con d, e, h, hr' => by
    clear hr'
    cases e <;> first | (simp [mtPart] at h; done) | skip
    rename_i k n pos
    rw [mtPart] at h
    cases d <;> cases k <;> first | cases h | skip
    · exact pe_non.via fun σ H Q q => q.2 _ fun _ _ _ => Rep.non'
    · have := beq_iff_eq.mp h; subst this
      exact pe_bl.via fun σ H Q q => q.2 _ fun _ _ _ => Rep.bl'
    · have := beq_iff_eq.mp h; subst this
      exact pe_int.via fun σ H Q q => q.2 _ fun _ _ _ => Rep.int'
    · rename_i l x
      have hl : l = x.cps.toList := by simpa [conB] using h
      exact pe_str.via fun σ H Q q => q.2 _ fun _ _ _ => by rw [Rep, hl]
  | .fld, e, h, hr' => by
    clear hr'
    cases e <;> first | (simp [mtPart] at h; done) | skip
    rename_i b f pos
    cases b <;> first | (simp [mtPart] at h; done) | skip
    rename_i x p
    unfold mtPart at h
    dsimp only at h
    rw [Bool.and_eq_true, Bool.and_eq_true] at h
    obtain ⟨⟨h1, h2⟩, h3⟩ := h
    cases oj with
    | none => cases h1
    | some j =>
      obtain ⟨n1, n2, n3, n4⟩ := nm_of ok h1
      have ec := catch_eq hct h3
      subst ec
      rw [of_decide_eq_true h2]
      exact (pe_xf (cls := .ref C) (d := some dd) F.xf F.no hz hf (pe_var (X := X.suite a ((a, oe) :: pn)) (i := j) n1 n2 n3 n4)).via fun σ H Q q => ⟨.ref a, q.1.2 j rfl, rfl, rfl, dd, _, v0, rfl, q.1.1, by simp [List.lookup], q.2 _ rfl⟩
  | .isR r, e, h, hr => by
    unfold mtPart at h
    split at h <;> first | (rename_i z; cases z; done) | (cases h; done) | skip
    all_goals first | (exfalso; simp_all; done) | skip
    rename_i r' i p1 x p y p2 pos heq
    cases heq
    rw [Bool.and_eq_true, Bool.and_eq_true] at h
    obtain ⟨⟨h1, h2⟩, h3⟩ := h
    cases oj with
    | none => cases h2
    | some j =>
      obtain ⟨n1, n2, n3, n4⟩ := nm_of ok h2
      obtain ⟨rfl, hg, hd⟩ := callB_of ok h1
      obtain ⟨rfl, hg2, hd2⟩ := callB_of ok h3
      obtain ⟨m1, C', m2⟩ := hr r rfl
      have pT : PE (X.suite a ((a, oe) :: pn)) (.Name (Str.ofString r) p2) (tC (.ref C')) := pe_glob hg2 m2 rfl hd2
      exact (pe_callB (call_isX (pn := pn) (a := a) F hz hf) hg (ok.blt "isinstance" (by decide)) (by decide +kernel) (pa_cons (pe_var (X := X.suite a ((a, oe) :: pn)) (i := j) n1 n2 n3 n4) (pa_cons pT pa_nil)) (by decide +kernel) hd rfl rfl).via fun σ H Q q =>
        ⟨.ref a, q.1.2 j rfl, .ref C', .ref C', catchB cl r, _, rfl, q.1.1, fun u z => z, (F.up r C' m1 m2).2, q.2 _ rfl⟩
theorem pa_parts (ok : CtxOk X mc) (F : ErrC X.K X.mg cl C) (hz : Zc (.ref C) (some dd) oe) (hf : ∃ vs, oe.data = .fields vs) (hct : catchB cl c = true) {oj : Option Nat} : ∀ (ps : List HP) (es : List Expr), mtParts mc c oj ps es = true → (∀ r, HP.isR r ∈ ps → ClsIn X.mg r) →
    PA (X.suite a ((a, oe) :: pn)) es (fun σ H Q => atErr cl a dd v0 oj σ H ∧ ∀ vs, areParts X.K cl v0 ps vs → Q vs H)
  | [], es, h, _ => by
    cases es <;> first | (simp [mtParts] at h; done) | skip
    exact pa_nil.via fun σ H Q q => q.2 [] rfl
  | p :: ps, es, h, hr => by
    cases es <;> first | (simp [mtParts] at h; done) | skip
    rename_i e es
    rw [mtParts, Bool.and_eq_true, Bool.and_eq_true] at h
    exact (pa_cons (pe_part (pn := pn) (a := a) (v0 := v0) ok F (fun _ _ => trivial) hz hf hct p e h.1.2 fun r z => hr r (by rw [z]; exact List.mem_cons_self)) (pa_parts ok F hz hf hct ps es h.2 fun r z => hr r (List.mem_cons_of_mem _ z)) (star_cons h.1.1)).via fun σ H Q q =>
      ⟨q.1, fun v hv => ⟨q.1, fun vs hvs => q.2 _ ⟨v, vs, rfl, hv, hvs⟩⟩⟩
theorem areParts_len {K : PySem.W.Frag} : ∀ {ps : List HP} {vs : List V}, areParts K cl v0 ps vs → vs.length = ps.length
  | [], _, h => by rw [show _ = [] from h]; rfl
  | _ :: _, _, h => by
    obtain ⟨v, ws, rfl, _, h⟩ := h
    simp [areParts_len h]
theorem pe_val (ok : CtxOk X mc) (F : ErrC X.K X.mg cl C) (hz : Zc (.ref C) (some dd) oe) (hf : ∃ vs, oe.data = .fields vs) (hct : catchB cl c = true) {oj : Option Nat} {k : Nat} {ps : List HP} {v : Expr} (h : mtVal mc c oj k ps v = true) (hr : ∀ r, HP.isR r ∈ ps → ClsIn X.mg r) :
    PE (X.suite a ((a, oe) :: pn)) v (fun σ H Q => atErr cl a dd v0 oj σ H ∧ ∀ vs, areParts X.K cl v0 ps vs → Mk k vs H Q) := by
  unfold mtVal at h
  split at h
  · rw [Bool.and_eq_true] at h
    have hl := of_decide_eq_true h.1
    exact (pe_tup (pa_parts (pn := pn) (a := a) (v0 := v0) ok F hz hf hct ps _ h.2 hr)).via fun σ H Q q => ⟨q.1, fun vs hv => ⟨by rw [areParts_len hv, sizeLine_eq]; omega, q.2 vs hv⟩⟩
  · rw [Bool.and_eq_true] at h
    have hl := of_decide_eq_true h.1
    exact (pe_lst (pa_parts (pn := pn) (a := a) (v0 := v0) ok F hz hf hct ps _ h.2 hr)).via fun σ H Q q => ⟨q.1, fun vs hv => ⟨by rw [areParts_len hv, sizeLine_eq]; omega, q.2 vs hv⟩⟩
  · rw [Bool.and_eq_true] at h
    obtain ⟨_, h⟩ := h
    split at h <;> first | (cases h; done) | skip
    rename_i p
    exact (pe_part (pn := pn) (a := a) (v0 := v0) ok F (fun _ _ => trivial) hz hf hct p _ h fun r z => hr r (by rw [z]; exact List.mem_cons_self)).via fun σ H Q q => ⟨q.1, fun w hw => q.2 [w] ⟨w, [], rfl, hw, rfl⟩⟩
  · cases h
end
end RS
end
section
set_option Elab.async false
set_option linter.all false
set_option maxRecDepth 100000
set_option autoImplicit false
set_option maxHeartbeats 4000000
/-! RSX7: a try that hears a call: the def as a whole. -/
namespace RS
open PySem PySem.Spec PyProof.Rows L2
theorem Mk.mono {k : Nat} {vs : List V} {H : Hp} {Q Q' : VK} (h : Mk k vs H Q) (i : ∀ v H1, Q v H1 → Q' v H1) : Mk k vs H Q' := by
  unfold Mk at h ⊢
  split at h
  · exact i _ _ h
  · exact fun p hp => i _ _ (h p hp)
  · exact fun p hp => i _ _ (h p hp)
  · exact h.elim
/-- what a clause's suite does -/
def tSuite (K : PySem.W.Frag) (mg : Str → Option Value) (c : String) (k : Nat) (ps : List HP) (jt : Nat) (oj : Option Nat) (a : Addr) (cls : Value) (d : Option Addr) : TS := fun D σ H => ∃ cl C dd v0, cls = .ref C ∧ d = some dd ∧ cl ∈ errs ∧ mg (Str.ofString cl) = some (.ref C) ∧ catchB cl c = true ∧
  atErr cl a dd v0 oj σ H ∧ ∀ vs, areParts K cl v0 ps vs → Mk k vs H fun v H1 => D.nx (σ.set jt (some v)) H1
/-- the clauses' classes stand in the text -/
def HcOk (mg : Str → Option Value) (hs : List HC) : Prop := ∀ h ∈ hs, ClsIn mg h.1 ∧ ∀ r, HP.isR r ∈ h.2.2 → ClsIn mg r
theorem val_noSw {mc : MC} {c : String} {oj : Option Nat} {k : Nat} {ps : List HP} {v : Expr} (h : mtVal mc c oj k ps v = true) : noSw v = true := by
  unfold mtVal at h
  split at h
  · rfl
  · rfl
  · exact (Bool.and_eq_true_iff.mp h).1
  · cases h
section
variable {X : Cx} {mc : MC}
theorem suite_ok (ok : CtxOk X mc) (E : ErrsOk X.K X.mg) {c : String} {k : Nat} {ps : List HP} {jt : Nat} {oj : Option Nat} {t : Str} {v : Expr} {p1 p2 : Pos} (ht : mc.N[jt]? = some t) (hl : locOnly mc t = true) (h : mtVal mc c oj k ps v = true) (hr : ∀ r, HP.isR r ∈ ps → ClsIn X.mg r)
    (a : Addr) (oe : Obj) (cls : Value) (d : Option Addr) (pn : List (Addr × Obj)) (hz : Zc cls d oe) (hf : ∃ vs, oe.data = .fields vs) : PSs (X.suite a ((a, oe) :: pn)) [.Assign [.Name t p1] v p2] (tSuite X.K X.mg c k ps jt oj a cls d) := by
  refine ⟨fun pins s σ H D I ⟨cl, C, dd, v0, e1, e2, e3, e4, e5, e6, e7⟩ => ?_⟩
  subst e1 e2
  have lo : X.env.scope.names.lookup t = some .local := loc_only ok hl
  have nt : X.N[jt]? = some t := by rw [← ok.N]; exact ht
  exact (pss_one (ps_set (X := X.suite a ((a, oe) :: pn)) ok.nd nt (.inl lo) (pe_val (pn := pn) (a := a) (v0 := v0) ok (E cl C e3 e4) hz hf e5 h hr) (sw_no (val_noSw h)) (.inr lo))).run pins s σ H D I ⟨e6, e7⟩
def mixL (K : PySem.W.Frag) (mg : Str → Option Value) (jt je : Nat) : List HC → List ExceptHandler → List Cl
  | (c, k, ps) :: r, .ExceptHandler _ oe _ _ :: hs => ((mg (Str.ofString c)).getD .none, oe.map (fun _ => je), fun a cls d => tSuite K mg c k ps jt (oe.map fun _ => je) a cls d) :: mixL K mg jt je r hs
  | _, _ => []
theorem mix_ok (ok : CtxOk X mc) (E : ErrsOk X.K X.mg) {jt je : Nat} : ∀ (hs : List HC) (hd : List ExceptHandler), mtHds mc jt je hs hd = true → HcOk X.mg hs → MixOk X hd (mixL X.K X.mg jt je hs hd)
  | [], hd, h, _ => by
    cases hd <;> first | (simp [mtHds] at h; done) | skip
    exact .nil
  | (c, k, ps) :: r, hd, h, hc => by
    unfold mtHds at h
    split at h <;> first | (rename_i z; cases z; done) | (cases h; done) | skip
    all_goals first | (exfalso; simp_all; done) | skip
    rename_i x p1 oe t p2 v p3 p4 hs' heq
    cases heq
    simp only [Bool.and_eq_true] at h
    obtain ⟨⟨⟨⟨⟨h1, h2⟩, h3⟩, h4⟩, h5⟩, h6⟩ := h
    obtain ⟨rfl, hg, hdb⟩ := callB_of ok h1
    obtain ⟨⟨m1, C, m2⟩, m3⟩ := hc _ List.mem_cons_self
    have nm : Names X (Str.ofString c) ((X.mg (Str.ofString c)).getD .none) := ⟨hg, hdb, .inl (by rw [show X.mg (Str.ofString c) = some (.ref C) from m2]; rfl)⟩
    have rest := mix_ok ok E r hs' h6 fun q hq => hc q (List.mem_cons_of_mem _ hq)
    rw [mixL]
    cases oe with
    | none => exact .no_ nm (suite_ok ok E (of_decide_eq_true h2) h3 h5 m3) rest
    | some n =>
      rw [Bool.and_eq_true] at h4
      exact .as_ nm (by rw [← ok.N]; exact of_decide_eq_true h4.1) (loc_only ok h4.2) (suite_ok ok E (of_decide_eq_true h2) h3 h5 m3) rest
end
/-- which clause tells what -/
def ClauseMk (K : PySem.W.Frag) (cl : String) (v0 : V) : List HC → Hp → VK → Prop
  | [], _, _ => False
  | (c, k, ps) :: r, H, Q => if catchB cl c = true then ∀ vs, areParts K cl v0 ps vs → Mk k vs H Q else ClauseMk K cl v0 r H Q
def EH (K : PySem.W.Frag) (mg : Str → Option Value) (hs : List HC) (Q : VK) : XK := fun cls d H => ∃ cl C dd v0, cls = .ref C ∧ d = some dd ∧ cl ∈ errs ∧ mg (Str.ofString cl) = some (.ref C) ∧ H dd = some (.xd [(fldOf cl, v0)]) ∧ ClauseMk K cl v0 hs H Q
theorem set_back {σ : L2.St} {jt je : Nat} {x : Option V} {v : V} (hn : jt ≠ je) (hl : jt < σ.length) : (((σ.set je x).set jt (some v)).set je none)[jt]? = some (some v) := by
  rw [List.getElem?_set_ne (Ne.symm hn), List.getElem?_set_self (by simpa using hl)]
theorem wmix_of {K : PySem.W.Frag} {mg : Str → Option Value} {mc : MC} {Wo : L2.WX} {D : Ends} {Q : VK} {cls : Value} {d : Option Addr} {σ : L2.St} {H : Hp} {jt je : Nat} (E : ErrsOk K mg) (hn : jt ≠ je) (hj : jt < σ.length) (hje : je < σ.length) (hD : ∀ (σ' : L2.St) (v : V) H', σ'[jt]? = some (some v) → Q v H' → D.nx σ' H') {cl : String} {C dd : Addr} {v0 : V}
    (e1 : cls = .ref C) (e2 : d = some dd) (e3 : cl ∈ errs) (e4 : mg (Str.ofString cl) = some (.ref C)) (e5 : H dd = some (.xd [(fldOf cl, v0)])) : ∀ (hs : List HC) (hd : List ExceptHandler), mtHds mc jt je hs hd = true → HcOk mg hs → ClauseMk K cl v0 hs H Q → wMix K Wo D (mixL K mg jt je hs hd) cls d σ H
  | [], hd, _, _, q => q.elim
  | (c, k, ps) :: r, hd, h, hc, q => by
    unfold mtHds at h
    split at h <;> first | (rename_i z; cases z; done) | (cases h; done) | skip
    all_goals first | (exfalso; simp_all; done) | skip
    rename_i x p1 oe t p2 v p3 p4 hs' heq
    cases heq
    simp only [Bool.and_eq_true] at h
    obtain ⟨_, h6⟩ := h
    obtain ⟨⟨m1, C', m2⟩, m3⟩ := hc _ List.mem_cons_self
    rw [mixL, wMix]
    rw [ClauseMk] at q
    refine ⟨catchB cl c, by rw [e1, show mg (Str.ofString c) = some (.ref C') from m2]; exact ((E cl C e3 e4).up c C' m1 m2).1, fun hb a ha => ?_, fun hb => ?_⟩
    · rw [if_pos hb] at q
      cases oe with
      | none => exact ⟨cl, C, dd, v0, e1, e2, e3, e4, hb, ⟨e5, fun j z => by cases z⟩, fun vs hv => (q vs hv).mono fun w H1 hq => hD _ w H1 (List.getElem?_set_self hj) hq⟩
      | some n =>
        exact ⟨cl, C, dd, v0, e1, e2, e3, e4, hb, ⟨e5, fun j z => by cases z; exact List.getElem?_set_self hje⟩, fun vs hv => (q vs hv).mono fun w H1 hq => hD _ w H1 (set_back hn hj) hq⟩
    · rw [if_neg (by rw [hb]; simp)] at q
      exact wmix_of E hn hj hje hD e1 e2 e3 e4 e5 r hs' h6 (fun q hq => hc q (List.mem_cons_of_mem _ hq)) q
/-! ### what is told of an answer -/
def MkT (k : Nat) (vs : List V) (H : Hp) (Q : VK) : Prop := match k, vs with
  | 0, [v] => Q v H
  | 1, vs => vs.length ≤ sizeLine ∧ ∀ p, H p = none → Q (.ref p) (upd H p (.tup vs))
  | 2, vs => vs.length ≤ sizeLine ∧ ∀ p, H p = none → Q (.ref p) (upd H p (.lst vs))
  | _, _ => False
theorem MkT.mono {k : Nat} {vs : List V} {H : Hp} {Q Q' : VK} (h : MkT k vs H Q) (i : ∀ v H1, Q v H1 → Q' v H1) : MkT k vs H Q' := by
  unfold MkT at h ⊢
  split at h
  · exact i _ _ h
  · exact ⟨h.1, fun p hp => i _ _ (h.2 p hp)⟩
  · exact ⟨h.1, fun p hp => i _ _ (h.2 p hp)⟩
  · exact h.elim
def areCons (K : PySem.W.Frag) : List D → List V → Prop
  | [], vs => vs = []
  | d :: ds, vs => ∃ v ws, vs = v :: ws ∧ (∀ aS O H, Rep K aS O H d v) ∧ areCons K ds ws
def mtPre (mc : MC) : List D → List Expr → Bool
  | [], [.Call (.Name y p) [] [] _] => nmB mc 0 (.Name y p)
  | d :: ds, .Constant k _ _ :: es => conB d k && mtPre mc ds es
  | _, _ => false
def mtWrap (mc : MC) (k : Nat) (pre : List D) (v : Expr) : Bool := match k, v with
  | 1, .Tuple es _ _ => decide (pre.length ≤ 900) && mtPre mc pre es
  | 2, .List es _ => decide (pre.length ≤ 900) && mtPre mc pre es
  | 0, v => pre.isEmpty && mtPre mc [] [v]
  | _, _ => false
theorem areCons_len {K : PySem.W.Frag} : ∀ {ds : List D} {vs : List V}, areCons K ds vs → vs.length = ds.length
  | [], _, h => by rw [show _ = [] from h]; rfl
  | _ :: _, _, h => by
    obtain ⟨v, ws, rfl, _, h⟩ := h
    simp [areCons_len h]
section
variable {X : Cx}
theorem pe_conC {d : D} {k : Const} {n : Nat} {pos : Pos} (h : conB d k = true) : PE X (.Constant k n pos) (fun σ H Q => ∃ v, (∀ aS O H, Rep X.K aS O H d v) ∧ Q v H) := by
  cases d <;> cases k <;> first | cases h | skip
  · exact pe_non.via fun σ H Q ⟨v, r, q⟩ => by
      have := r 0 (fun _ => False) H
      rw [Rep] at this
      rw [this] at q; exact q
  · have := beq_iff_eq.mp h; subst this
    exact pe_bl.via fun σ H Q ⟨v, r, q⟩ => by
      have := r 0 (fun _ => False) H
      rw [Rep] at this
      rw [this] at q; exact q
  · have := beq_iff_eq.mp h; subst this
    exact pe_int.via fun σ H Q ⟨v, r, q⟩ => by
      have := r 0 (fun _ => False) H
      rw [Rep] at this
      rw [this] at q; exact q
  · rename_i l x
    have hl : l = x.cps.toList := by simpa [conB] using h
    exact pe_str.via fun σ H Q ⟨v, r, q⟩ => by
      have := r 0 (fun _ => False) H
      rw [Rep, hl] at this
      rw [this] at q; exact q
theorem pa_pre {mc : MC} {tc : TE} (call : ∀ (y : Str) (p1 p2 : Pos), nmB mc 0 (.Name y p1) = true → PE X (.Call (.Name y p1) [] [] p2) tc) : ∀ (ds : List D) (es : List Expr), mtPre mc ds es = true → PA X es (fun σ H Q => ∃ pvs, areCons X.K ds pvs ∧ tc σ H fun v H1 => Q (pvs ++ [v]) H1)
  | [], es, h => by
    unfold mtPre at h
    split at h <;> first | (rename_i z; cases z; done) | (cases h; done) | skip
    all_goals first | (exfalso; simp_all; done) | skip
    exact (pa_cons (call _ _ _ h) pa_nil).via fun σ H Q ⟨pvs, e, q⟩ => by
      rw [show pvs = [] from e] at q
      exact q
  | d :: ds, es, h => by
    unfold mtPre at h
    split at h <;> first | (rename_i z; cases z; done) | (cases h; done) | skip
    all_goals first | (exfalso; simp_all; done) | skip
    rename_i heq
    cases heq
    rw [Bool.and_eq_true] at h
    exact (pa_cons (pe_conC h.1) (pa_pre call _ _ h.2)).via fun σ H Q ⟨pvs, ⟨v, ws, e, r, hw⟩, q⟩ => by
      subst e
      exact ⟨v, r, ws, hw, q⟩
theorem pe_wrap {mc : MC} {tc : TE} (call : ∀ (y : Str) (p1 p2 : Pos), nmB mc 0 (.Name y p1) = true → PE X (.Call (.Name y p1) [] [] p2) tc) {k : Nat} {pre : List D} {v : Expr} (h : mtWrap mc k pre v = true) :
    PE X v (fun σ H Q => ∃ pvs, areCons X.K pre pvs ∧ tc σ H fun v H1 => MkT k (pvs ++ [v]) H1 Q) := by
  unfold mtWrap at h
  split at h
  · rw [Bool.and_eq_true] at h
    exact (pe_tup (pa_pre call _ _ h.2)).via fun σ H Q ⟨pvs, e, q⟩ => ⟨pvs, e, by cases pvs <;> exact q⟩
  · rw [Bool.and_eq_true] at h
    exact (pe_lst (pa_pre call _ _ h.2)).via fun σ H Q ⟨pvs, e, q⟩ => ⟨pvs, e, by cases pvs <;> exact q⟩
  · rw [Bool.and_eq_true] at h
    obtain ⟨h0, h⟩ := h
    have e0 : pre = [] := by simpa using h0
    subst e0
    unfold mtPre at h
    split at h <;> first | (rename_i z; cases z; done) | (cases h; done) | skip
    all_goals first | (exfalso; simp_all; done) | skip
    rename_i heq
    cases heq
    exact (call _ _ _ h).via fun σ H Q ⟨pvs, e, q⟩ => by
      rw [show pvs = [] from e] at q
      exact q
  · cases h
end
end RS
end
section
set_option Elab.async false
set_option linter.all false
set_option maxRecDepth 100000
set_option autoImplicit false
set_option maxHeartbeats 4000000
/-! RSX8: a call heard. -/
namespace RS
open PySem PySem.Spec PyProof.Rows L2
def mtHeard1 (mc : MC) (k : Nat) (pre : List D) (hs : List HC) (jt je : Nat) : List Stmt → Bool
  | [.Try [.Assign [.Name t _] v _] (h0 :: hd) [] [] _, .Return (some (.Name t2 p)) _] => decide (mc.N[jt]? = some t) && locOnly mc t && mtWrap mc k pre v && noSw v && mtHds mc jt je hs (h0 :: hd) && nmB mc jt (.Name t2 p)
  | _ => false
def mtHeard (mc : MC) (k : Nat) (pre : List D) (hs : List HC) (jt je : Nat) : List Stmt → Bool
  | .Assign [.Name t _] (.Constant .none _ _) _ :: r => decide (mc.N[jt]? = some t) && locOnly mc t && mtHeard1 mc k pre hs jt je r
  | r => mtHeard1 mc k pre hs jt je r
def TTh (K : PySem.W.Frag) (mg : Str → Option Value) (k : Nat) (pre : List D) (hs : List HC) : (XK → Hp → VK → Prop) → Hp → VK → Prop := fun tl H Q =>
  ∀ Qn : VK, (∀ v H1, Q v H1 → Qn v H1) → ∃ pvs, areCons K pre pvs ∧ tl (EH K mg hs Q) H fun v H1 => MkT k (pvs ++ [v]) H1 Qn
section
variable {X : Cx} {Ng : List Str} {x a q : Str} {sg : Scope} {g : Addr} {cdg : Value} {k jt je : Nat} {pre : List D} {hs : List HC}
theorem takes_len {Y : Cx} {W : L2.WX} {n : Nat} (hn : Y.N.length = n) (tk : Takes Y W) : Takes Y (fun cls d σ H => σ.length = n → W cls d σ H) := fun u s' ⟨a, B, sI, pins, σ, H, cls, d, e, I, nb, up, sky, na, os, ag, w⟩ =>
  tk u s' ⟨a, B, sI, pins, σ, H, cls, d, e, I, nb, up, sky, na, os, ag, w (I.len.trans hn)⟩
theorem gives1 {f c' : Addr} {s : Shared} {H0 : Hp} {Q : VK} {tl : XK → Hp → VK → Prop} (ok : CtxOk (cxOf C8.CX0 X.prog X.w X.K X.mg X.base Ng x sg g cdg X.A X.stack s H0 C8.E0).nox ⟨Ng, sg, fun _ => true, false⟩) (E : ErrsOk X.K X.mg) (hc : HcOk X.mg hs) (hn : jt ≠ je) (hje : je < Ng.length) (h0 : Ng[0]? = some a)
    (act : ∀ (W : L2.WX) (pn : List (Addr × Obj)) (xe : Value → Shared → Prop) (E : XK) (p1 p2 : Pos), Takes ((cxOf C8.CX0 X.prog X.w X.K X.mg X.base Ng x sg g cdg X.A X.stack s H0 C8.E0).tr pn xe) W → (∀ cls d σ' H', E cls d H' → W cls d σ' H') →
      PE ((cxOf C8.CX0 X.prog X.w X.K X.mg X.base Ng x sg g cdg X.A X.stack s H0 C8.E0).tr pn xe) (.Call (.Name a p1) [] [] p2) (fun σZ HZ Q => σZ[0]? = some (some (.ref f)) ∧ HZ c' = some (LamX.CodeO c' q) ∧ tl E HZ Q))
    {bg : List Stmt} (h : mtHeard1 ⟨Ng, sg, fun _ => true, false⟩ k pre hs jt je bg = true) :
    ∃ t, PSs (cxOf C8.CX0 X.prog X.w X.K X.mg X.base Ng x sg g cdg X.A X.stack s H0 C8.E0).nox bg t ∧ ∀ (σ : L2.St) (H : Hp), σ.length = Ng.length → σ[0]? = some (some (.ref f)) → H c' = some (LamX.CodeO c' q) → TTh X.K X.mg k pre hs tl H Q → t { nx := fun _ H' => Q .non H', rt := Q } σ H := by
  unfold mtHeard1 at h
  split at h <;> first | (cases h; done) | skip
  rename_i t p1 v p2 h0' hd p3 t2 p p4
  simp only [Bool.and_eq_true] at h
  obtain ⟨⟨⟨⟨⟨k1, k2⟩, k3⟩, k4⟩, k5⟩, k6⟩ := h
  obtain ⟨n1, n2, n3, n4⟩ := nm_of ok k6
  have k1 : Ng[jt]? = some t := of_decide_eq_true k1
  have lo : sg.names.lookup t = some .local := loc_only ok k2
  have hjt : jt < Ng.length := lt_of_get k1
  refine ⟨_, pss_cons (ps_try_mix (X := (cxOf C8.CX0 X.prog X.w X.K X.mg X.base Ng x sg g cdg X.A X.stack s H0 C8.E0).nox) (l := mixL X.K X.mg jt je hs (h0' :: hd)) (Wo := fun _ _ _ _ => False)
      (tb := fun W D σ H => ∃ Ech : XK, (∀ cls d σ' H', Ech cls d H' → σ'.length = Ng.length → W cls d σ' H') ∧ σ[0]? = some (some (.ref f)) ∧ H c' = some (LamX.CodeO c' q) ∧ ∃ pvs, areCons X.K pre pvs ∧ tl Ech H fun v H1 => MkT k (pvs ++ [v]) H1 fun v2 H2 => D.nx (σ.set jt (some v2)) H2)
      rfl rfl ok.nd LamX.takes0 (fun W pn xe tk _ => ?_) (mix_ok ok E hs (h0' :: hd) k5 hc)) (pss_one (ps_ret (pe_var (i := jt) n1 n2 n3 n4))), ?_⟩
  · refine ⟨fun pins s' σ H' D I ⟨Ech, w1, w2, w3, pvs, w4, w5⟩ => ?_⟩
    have tk2 := takes_len (n := Ng.length) rfl tk
    have pc : ∀ (y : Str) (p1 p2 : Pos), nmB ⟨Ng, sg, fun _ => true, false⟩ 0 (.Name y p1) = true → PE ((cxOf C8.CX0 X.prog X.w X.K X.mg X.base Ng x sg g cdg X.A X.stack s H0 C8.E0).nox.tr pn xe) (.Call (.Name y p1) [] [] p2) (fun σZ HZ Q => σZ[0]? = some (some (.ref f)) ∧ HZ c' = some (LamX.CodeO c' q) ∧ tl Ech HZ Q) := fun y p1 p2 hy => by
      obtain ⟨m1, _⟩ := nm_of ok hy
      have m1 : Ng[0]? = some y := m1
      rw [h0] at m1
      cases m1
      exact act _ pn xe Ech p1 p2 tk2 w1
    exact (pss_one (ps_set (X := (cxOf C8.CX0 X.prog X.w X.K X.mg X.base Ng x sg g cdg X.A X.stack s H0 C8.E0).nox.tr pn xe) (i := jt) ok.nd k1 (.inl lo) (pe_wrap pc k3) (sw_no k4) (.inr lo))).run pins s' σ H' D I ⟨pvs, w4, w2, w3, w5⟩
  · intro σ H hl hf hco told
    obtain ⟨pvs, w4, w5⟩ := told (fun v2 H2 => ∃ v, (σ.set jt (some v2))[jt]? = some (some v) ∧ Q v H2) fun v H1 hq => ⟨v, List.getElem?_set_self (by rw [hl]; exact hjt), hq⟩
    exact ⟨EH X.K X.mg hs Q, fun cls d σ' H' ⟨cl, C, dd, v0, e1, e2, e3, e4, e5, e6⟩ hl' => wmix_of (D := { nx := fun σ H => ∃ w, σ[jt]? = some (some w) ∧ Q w H, rt := Q }) E hn (by rw [hl']; exact hjt) (by rw [hl']; exact hje) (fun σ'' v H'' e q => ⟨v, e, q⟩) e1 e2 e3 e4 e5 hs (h0' :: hd) k5 hc e6, hf, hco, pvs, w4, w5⟩
theorem gives (nd : Ng.Nodup) (kd : sg.kind = .function) (blt : ∀ x ∈ bltNames, X.mg (Str.ofString x) = none) (un : ∀ s : Shared, (X.A.deeper (envOfC x sg s.heap.objs.size g cdg)).units + 100 < cLine) (E : ErrsOk X.K X.mg) (hc : HcOk X.mg hs) (hn : jt ≠ je) (hj0 : jt ≠ 0) (hje : je < Ng.length) (h0 : Ng[0]? = some a)
    {bg : List Stmt} (h : mtHeard ⟨Ng, sg, fun _ => true, false⟩ k pre hs jt je bg = true) : LamX.GivesTo X Ng x sg g cdg bg a q (TTh X.K X.mg k pre hs) := by
  intro f c' s H Q tl act hco told
  have ok : CtxOk (cxOf C8.CX0 X.prog X.w X.K X.mg X.base Ng x sg g cdg X.A X.stack s H C8.E0).nox ⟨Ng, sg, fun _ => true, false⟩ := ⟨nd, rfl, blt, (fun z => by cases z), un s, rfl, rfl, fun _ _ => rfl, kd⟩
  have hl : (L2.start Ng [.ref f]).length = Ng.length := start_len (by have := lt_of_get h0; simp; omega)
  have hf : (L2.start Ng [V.ref f])[0]? = some (some (.ref f)) := start_get rfl
  unfold mtHeard at h
  split at h
  · rename_i t p1 n p2 p3 r
    simp only [Bool.and_eq_true] at h
    obtain ⟨⟨k1, k2⟩, k3⟩ := h
    have k1 : Ng[jt]? = some t := of_decide_eq_true k1
    have lo : sg.names.lookup t = some .local := loc_only ok k2
    obtain ⟨t', r1, r2⟩ := gives1 (Q := Q) ok E hc hn hje h0 act k3
    refine ⟨_, pss_cons (ps_set (X := (cxOf C8.CX0 X.prog X.w X.K X.mg X.base Ng x sg g cdg X.A X.stack s H C8.E0).nox) (i := jt) nd k1 (.inl lo) pe_non rfl (.inr lo)) r1, ?_⟩
    exact r2 _ _ (by rw [List.length_set]; exact hl) (by rw [List.getElem?_set_ne hj0]; exact hf) hco told
  · obtain ⟨t', r1, r2⟩ := gives1 (Q := Q) ok E hc hn hje h0 act h
    exact ⟨t', r1, r2 _ _ hl hf hco told⟩
end
end RS
end
section
set_option Elab.async false
set_option linter.all false
set_option maxRecDepth 100000
set_option autoImplicit false
set_option maxHeartbeats 4000000
/-! RSX9: hears(lambda: e) does what the evaluator says. -/
namespace RS
open PySem PySem.Spec PyProof.Rows L2
/-- the def within which the lambda is made, by its code object and table -/
def LamAt (L : Lv) : Prop := ∃ c P, L.cd = .ref c ∧ LamX.TabB L.base L.mg c P ∧ (P, L.q ++ ("<lambda>" : Str)) ∈ TB L.K ∧ ∀ p ∈ TB L.K, p.1 = P → p.2 = L.q ++ ("<lambda>" : Str)
theorem noPar_eq {ps : Arguments} (h : noPar ps = true) : ps = ⟨[], [], none, [], [], none, []⟩ := by
  obtain ⟨a, b, c, d, e, f, g⟩ := ps
  unfold noPar at h
  simp only [Bool.and_eq_true, List.isEmpty_iff, Option.isNone_iff_eq_none] at h
  obtain ⟨⟨⟨⟨⟨⟨h1, h2⟩, h3⟩, h4⟩, h5⟩, h6⟩, h7⟩ := h
  subst h1 h2 h3 h4 h5 h6 h7
  rfl
section
variable {K : PySem.W.Frag} {c : Cfg} {gT : Shd} {gF : Own} {σ : L2.St} {H H1 : Hp} {ρ : Env} {s : OSt}
/-- tables grown, code objects made -/
theorem Pt.grow (P : Pt K c gT gF σ H ρ s) (e : LamX.ExtN H H1) (t : LamX.Tabs (TB K) H1) : Pt K c gT gF σ H1 ρ s := by
  obtain ⟨T, F, o⟩ := P
  have k : Keeps c H H1 := ⟨fun a u h n _ _ => e a u h fun ps z => by rw [z] at n; exact n, fun a h u hu => by
    cases u with
    | tbl ps => exact ⟨ps, rfl⟩
    | _ => exact h _ (e a _ hu fun ps z => by cases z)⟩
  have st : StOk c H1 s := ⟨e _ _ o.B.st.dict (fun ps z => by cases z), e _ _ o.B.st.cells (fun ps z => by cases z), e _ _ o.B.st.lefts (fun ps z => by cases z), o.B.st.ne, o.B.st.len, o.B.st.pos, o.B.st.most, by rw [o.B.tq]; exact t⟩
  exact ⟨T, F, o.step (fun _ h => h) o.hT (o.B.call k st)⟩
theorem cons_reps {aS : Addr} {O : Addr → Prop} : ∀ {ds : List D} {vs : List V}, areCons K ds vs → Reps K aS O H ds vs
  | [], _, h => by rw [show _ = [] from h]; exact Reps.nil
  | _ :: _, _, h => by
    obtain ⟨v, ws, rfl, r, h⟩ := h
    exact Reps.cons (r _ _ _) (cons_reps h)
theorem parts_reps {aS : Addr} {O : Addr → Prop} {cl : String} {d : D} {v0 : V} (h0 : Rep K aS O H d v0) : ∀ {ps : List HP} {vs : List V}, areParts K cl v0 ps vs → Reps K aS O H (ps.map (HP.val cl d)) vs
  | [], _, h => by rw [show _ = [] from h]; exact Reps.nil
  | p :: _, _, h => by
    obtain ⟨v, ws, rfl, r, h⟩ := h
    refine Reps.cons ?_ (parts_reps h0 h)
    cases p with
    | con x => exact r _ _ _
    | fld => rw [show v = v0 from r]; exact h0
    | isR c => rw [show v = .bl (catchB cl c) from r]; exact Rep.bl'
/-- one value, a tuple, a list: what is wanted behind it -/
theorem mk_post {k : Nat} {ds : List D} {vs : List V} {r : Rs} {Q : VK} {T : Shd} {F : Own} {gT0 : Shd} {gF0 : Own} (o : Opn K c gT gF σ H ρ s T F) (h1 : ∀ p ∈ gT0, p ∈ gT) (h2 : List.Sublist gF0 gF) (q : Post K c gT0 gF0 σ ρ s r Q) (e : wrapR k ds = some r) (t : Reps K c.aS (c.Ow F) H ds vs) : Mk k vs H Q := by
  unfold wrapR at e
  split at e <;> first | (cases e; done) | skip
  · cases e
    rw [Reps] at t
    obtain ⟨v, ws, rfl, r1, t⟩ := t
    rw [Reps] at t
    subst t
    exact (Give.of o h1 h2 q rfl).1 v r1
  · cases e
    exact fun p hp => (Give.of o h1 h2 q rfl).2 _ p vs rfl hp t
  · cases e
    exact fun p hp => Give.of o h1 h2 q rfl _ p vs rfl hp t
end
theorem mkT_of {k : Nat} {vs : List V} {H : Hp} {Q : VK} (h : Mk k vs H Q) (hl : vs.length ≤ sizeLine) : MkT k vs H Q := by
  unfold Mk at h
  unfold MkT
  split at h
  · exact h
  · exact ⟨hl, h⟩
  · exact ⟨hl, h⟩
  · exact h.elim
theorem clause_mem {cl : String} {d : D} : ∀ {hs : List HC} {r : Rs}, clauseR cl d hs = some r → cl ∈ errs
  | [], _, h => by cases h
  | (c, k, ps) :: hs, r, h => by
    rw [clauseR] at h
    split at h
    · rename_i hc
      unfold catchB at hc
      rw [Bool.and_eq_true] at hc
      simpa using hc.1
    · exact clause_mem h
theorem areCons_some {K : PySem.W.Frag} : ∀ (ds : List D), (∀ d ∈ ds, ∃ v, ∀ aS O H, Rep K aS O H d v) → ∃ vs, areCons K ds vs
  | [], _ => ⟨[], rfl⟩
  | d :: ds, h => by
    obtain ⟨v, r⟩ := h d List.mem_cons_self
    obtain ⟨vs, t⟩ := areCons_some ds fun x hx => h x (List.mem_cons_of_mem _ hx)
    exact ⟨v :: vs, v, vs, rfl, r, t⟩
/-- texts, numbers, None, truth values -/
def flatD : D → Bool
  | .non => true
  | .bl _ => true
  | .int _ => true
  | .str _ => true
  | _ => false
theorem flat_rep {K : PySem.W.Frag} {d : D} (h : flatD d = true) : ∃ v, ∀ aS O H, Rep K aS O H d v := by
  cases d <;> first | (cases h; done) | skip
  · exact ⟨.non, fun _ _ _ => Rep.non'⟩
  · rename_i b; exact ⟨.bl b, fun _ _ _ => Rep.bl'⟩
  · rename_i i; exact ⟨.int i, fun _ _ _ => Rep.int'⟩
  · rename_i l; exact ⟨.str ⟨l.toArray⟩, fun _ _ _ => by rw [Rep]⟩
theorem heard_rd {X : Cx} {x : String} {k : Nat} {pre : List D} {hs : List HC} {e : E} {σ : L2.St} {H : Hp} {Q : VK} (hp0 : k = 0 → pre = []) (hpre : pre.all flatD = true) (hlen : pre.length ≤ 900) (h : rd X.K (ev (.heard x k pre hs e)) σ H Q) :
    LamX.tLam (TB X.K) (TTh X.K X.mg k pre hs) (fun E σ H Q => rd X.K (ev e) σ H Q ∨ xd X (fun cls dd _ H' => E cls dd H') (ev e) σ H) σ H Q := by
  obtain ⟨c, gT, gF, ρ, s, r, s', P, ee, q⟩ := h
  rw [ev] at ee
  refine ⟨?_, fun H1 eN tb Qn hQ => ?_⟩
  · obtain ⟨T, F, o⟩ := P
    rw [← o.B.tq]
    exact o.B.st.tab
  have P1 := P.grow eN tb
  have qQ := q
  have q : Post X.K c gT gF σ ρ s' r Qn := fun v H' p w => hQ _ _ (q v H' p w)
  obtain ⟨pvs, hpv⟩ := areCons_some (K := X.K) pre fun d hd => flat_rep (List.all_eq_true.mp hpre d hd)
  refine ⟨pvs, hpv, ?_⟩
  cases e0 : ev e ρ s with
  | no => rw [e0] at ee; cases ee
  | ok r0 s1 =>
    rw [e0] at ee
    unfold heardR at ee
    dsimp only at ee
    split at ee <;> first | (cases ee; done) | skip
    rename_i hb
    have hb : r0.isBo = false := by simpa using hb
    refine .inl ⟨c, gT, gF, ρ, s, r0, s1, P1, e0, fun v H2 P2 V2 => ?_⟩
    have hl : (pvs ++ [v]).length ≤ sizeLine := by rw [List.length_append, areCons_len hpv, sizeLine_eq]; simp; omega
    split at ee
    · rename_i hk
      cases ee
      subst hk
      have e1 := hp0 rfl
      subst e1
      rw [show pvs = [] from hpv]
      exact q v H2 P2 V2
    · obtain ⟨e1, e2⟩ := lift_ok ee
      subst e2
      have P3 := Pt.share1 P2 V2 hb
      obtain ⟨T, F, o⟩ := P3
      have rv := o.B.tT _ (o.hT _ List.mem_cons_self)
      exact mkT_of (mk_post o (fun p hp => List.mem_cons_of_mem _ hp) (List.Sublist.refl _) q e1 ((cons_reps hpv).append (Reps.cons rv Reps.nil))) hl
  | exc cl d s1 =>
    rw [e0] at ee
    unfold heardR at ee
    dsimp only at ee
    obtain ⟨e1, e2⟩ := lift_ok ee
    subst e2
    refine .inr ⟨c, gT, gF, ρ, s, cl, d, s', P1, e0, fun H2 C dd v0 hm P2 hx => ⟨cl, C, dd, v0, rfl, rfl, clause_mem e1, hm, hx, ?_⟩⟩
    obtain ⟨T, F, o⟩ := P2
    have rv := o.B.tT _ (o.hT _ List.mem_cons_self)
    clear ee hpv hx hm
    induction hs with
    | nil => cases e1
    | cons hc hs ih =>
      obtain ⟨c', k', ps⟩ := hc
      rw [clauseR] at e1
      rw [ClauseMk]
      split at e1
      · rename_i hct
        rw [if_pos hct]
        exact fun vs hv => mk_post o (fun p hp => List.mem_cons_of_mem _ hp) (List.Sublist.refl _) qQ e1 (parts_reps rv hv)
      · rename_i hct
        rw [if_neg hct]
        exact ih e1
/-- the def that hears, where it stands -/
structure HearAt (K : PySem.W.Frag) (mg : Str → Option Value) (x : String) (st : Stmt) (Ng : List Str) (a : Str) (k : Nat) (pre : List D) (hs : List HC) (jt je : Nat) : Prop where
  df : DefAt K mg x st
  sc : scB Ng [a] (defScope st) = true
  mt : mtHeard ⟨Ng, defScope st, fun _ => true, false⟩ k pre hs jt je (defBody st) = true
  bind : ∀ (kV doc pm : Value) (an : Option Addr) (cdv ct : Value) (us : List Value), us.length = 1 → bindArgs (PySem.W.fnOf (Str.ofString x) (Str.ofString x) (defArgs st) (defBody st) (defScope st) .none kV doc pm an cdv ct) ⟨us, []⟩ = pure ([a].zip us)
  ne : jt ≠ je
  j0 : jt ≠ 0
  je : je < Ng.length
  pre0 : k = 0 → pre = []
  flat : pre.all flatD = true
  len : pre.length ≤ 900
  dbg : dbgB a = true
  vis : visB (defScope st) a = true
theorem heard_sem {L : Lv} {x : String} {st : Stmt} {Ng : List Str} {a : Str} {k : Nat} {pre : List D} {hs : List HC} {jt je lv : Nat} {e : E} (HA : HearAt L.K L.mg x st Ng a k pre hs jt je) (HC : HcOk L.mg hs) (EO : ErrsOk L.K L.mg) (Lam : LamAt L) (hr : Room (lv + 2) L.A)
    (hk : ∀ A cd q, Room lv A → okE ⟨L.prog, L.w, L.K, L.mg, L.base, A, cd, q⟩ e) (hx : ∀ A cd q, Room lv A → okX ⟨L.prog, L.w, L.K, L.mg, L.base, A, cd, q⟩ e) : HeardSem L (.heard x k pre hs e) := by
  intro X mc ex ok hL hm
  subst hL
  unfold mtE at hm
  split at hm <;> first | (rename_i z; cases z; done) | (cases hm; done) | skip
  all_goals first | (exfalso; simp_all; done) | skip
  rename_i y p ps body scope lp pos heq
  cases heq
  simp only [Bool.and_eq_true] at hm
  obtain ⟨⟨⟨h1, h2⟩, h3⟩, h4⟩ := hm
  obtain ⟨rfl, hg, hd⟩ := callB_of ok h1
  have eps := noPar_eq h2
  subst eps
  obtain ⟨gA, fd, m1, F⟩ := HA.df
  obtain ⟨oc, od, kV, doc, pm, an, cdv, ct, osl, rfl, look, incode⟩ := F.ex
  obtain ⟨c, P, l1, l2, l3, l4⟩ := Lam
  have hr : Room (lv + 2) X.A := hr
  have Sg := scB_of HA.sc
  have N0 : Ng[0]? = some a := by
    have := Sg.pre
    cases Ng with
    | nil => cases this
    | cons b r => rw [show [a].length = 1 from rfl, List.take_succ_cons] at this; cases this; rfl
  have LS : LamX.LamS X.env.scope scope := LamX.lamS_by (by rw [← ok.sc]; exact h3)
  have va : Vis (defScope st) a := by
    have := HA.vis
    unfold visB at this
    unfold Vis
    split at this <;> first | cases this | skip
    · rename_i z; exact .inl z
    · rename_i z; exact .inr (.inl z)
    · rename_i z; exact .inr (.inr z)
  have hbs : L2.Binds X.K (PySem.W.fnOf (Str.ofString x) (Str.ofString x) (defArgs st) (defBody st) (defScope st) .none kV doc pm an cdv ct) [a] [] := F.binds HA.bind
  refine (LamX.pe_lamcall (X := X) (T := TB X.K) (TT := TTh X.K X.mg k pre hs) (k := lv) (t := fun E σ H Q => rd X.K (ev e) σ H Q ∨ xd X (fun cls dd _ H' => E cls dd H') (ev e) σ H) (Ng := Ng) (a := a)
    hg m1 F.kp look incode hbs Sg N0 va ?_ l2 l1 l3 l4 hr LS rfl (fun _ _ _ _ _ => rfl) ?_ hd (dbg1 HA.dbg) (dbg2 HA.dbg)).via fun σ H Q q => heard_rd HA.pre0 HA.flat HA.len q
  · exact gives Sg.nd Sg.kind ok.blt (fun s => by have := (hr.deeper (envOfC (Str.ofString x) (defScope st) s.heap.objs.size gA cdv)).un; show (X.A.deeper _).units + 100 < _; omega) EO HC HA.ne HA.j0 HA.je N0 HA.mt
  · intro A outer s H E f c' hra
    have main : ∀ M : MC, CtxOk (LamX.lamCx X A outer s H E scope f c') M → mtE e M body = true → PE (LamX.lamCx X A outer s H E scope f c') body (fun σ H Q => rd X.K (ev e) σ H Q ∨ xd X (fun cls dd _ H' => E cls dd H') (ev e) σ H) := fun M okl h4 => by
      have pe1 := ((snd_all e).1 (LamX.lamCx X A outer s H E scope f c') _ okl (hk _ _ _ hra) |>.1 body h4).pe
      have tk : Takes (LamX.lamCx X A outer s H E scope f c') (fun cls dd _ H' => E cls dd H') := takes_of rfl rfl rfl rfl
      have pe2 := ((exc_all e) (LamX.lamCx X A outer s H E scope f c') _ _ okl (hk _ _ _ hra) (hx _ _ _ hra) tk |>.1 body h4).pe
      exact (pe1.or pe2).via fun σ H Q q => q
    refine main _ ?_ h4
    exact ⟨ok.nd, rfl, ok.blt, (fun z => by cases z), by have := hra.un; show (A.deeper _).units + 100 < _; omega, ok.N, rfl, (fun _ z => by cases z), LS.kind⟩
end RS
end
section
set_option Elab.async false
set_option linter.all false
set_option maxRecDepth 100000
set_option autoImplicit false
set_option maxHeartbeats 4000000
/-! RSEndT: the law's start where some defs make code objects of their own. -/
namespace RS
open PySem PySem.Spec PyProof.Rows L2
/-- an abstract heap that tells the script and the empty tables -/
structure TellsT (K : PySem.W.Frag) (P : Program) (w : World) (a : Addr) (ns : List Int) (cs : List (Addr × Addr)) (s₁ : Shared) (H : Hp) : Prop where
  only : ∀ c u, H c = some u → (c = a ∧ K.lookup a = none ∧ ∃ o xs, u = .frz o (.lst xs)) ∨ (c ∈ cs.map (·.2) ∧ u = .tbl #[])
  sq : SqL K H a (ns.map V.int)
  ok : HOk P w H s₁.heap
  tab : ∀ p ∈ cs, H p.2 = some (.tbl #[])
section
variable {P : Program} {w : World} {K : PySem.W.Frag} {mg mb : Str → Option Value} {fa a : Addr} {fd : FuncData} {x : Str} {s₁ : Shared} {vs : List Value} {ns : List Int} {n j : Nat} {b : S} {cs : List (Addr × Addr)}
theorem tells_goT {H : Hp} (t : TellsT K P w a ns cs s₁ H) (KX : K.In s₁.heap) (hns : s₁.heap.Ns mainGlobals mg) (hb : s₁.heap.Ns builtinsNs mb) (hbb : ∀ x : Str, x ≠ "__name__" → mb x = bootBuiltins x) (hlim : s₁.heap.NoLimit) (hg : s₁.gens = #[])
    (hT : ∀ p ∈ cs, s₁.heap.get? p.2 = some { cls := .none, data := .fields #[] }) (nT : ∀ p ∈ cs, K.lookup p.2 = none) (C : ∀ p ∈ cs, PySem.W.CodeHd s₁.heap p.1 p.2)
    (hbm : ∃ (bm : Addr) (ob : Obj), mg "__builtins__" = some (.ref bm) ∧ bm ≠ builtinsNs ∧ s₁.heap.get? bm = some ob ∧ ob.cls = .type "module" ∧ ob.dict = some builtinsNs ∧ ob.data = .plain)
    (hcs : ∀ p ∈ TB K, ∃ q ∈ cs, q.2 = p.1)
    (ha : s₁.heap.get? a = some { cls := .type "list", data := .seq vs.toArray }) (hl : ns.length ≤ 63) (F : ∀ base : Heap, K.In base → base.Ns mainGlobals mg → (∀ p ∈ cs, LamX.TabB base mg p.1 p.2) → LawGo P w K mg base fa fd x n j b)
    (hbind : ∀ (s : Shared) (u : Value), BindsTo s fd ⟨[u], []⟩ [(x, u)]) {st' : OSt} (hrun : endR (exS b (lawE n j) (beginSt ns)) = .ok (.sh (.bl true)) st') : codeAny (model P w) callerA (.call (.ref fa) ⟨[.ref a], []⟩) (Told s₁) s₁ := by
  -- what is neither a list nor an empty row of fields stays in the base
  have stays : ∀ {c : Addr} {o : Obj}, s₁.heap.get? c = some o → (c = a → K.lookup a ≠ none ∨ ∀ ys m, o.data ≠ .seq ys m) → (c ∈ cs.map (·.2) → K.lookup c ≠ none ∨ o.data ≠ .fields #[]) → (hidT s₁.heap H).get? c = some o := by
    intro c o e h1 h2
    refine hidT_get e ?_
    cases q : H c with
    | none => rfl
    | some u =>
      exfalso
      rcases t.only c u q with ⟨rfl, hk, _⟩ | ⟨hm, _⟩
      · rcases h1 rfl with z | z
        · exact z hk
        · rw [ha] at e
          cases e
          exact z _ _ rfl
      · obtain ⟨p, hp, rfl⟩ := List.mem_map.mp hm
        rcases h2 hm with z | z
        · exact z (nT p hp)
        · rw [hT p hp] at e
          cases e
          exact z rfl
  have ns_in : ∀ {c : Addr} {m : Str → Option Value}, s₁.heap.Ns c m → (hidT s₁.heap H).Ns c m := by
    rintro c m ⟨o, es, ep, e, d, r⟩
    exact ⟨o, es, ep, stays e (fun _ => .inr fun ys m z => by rw [d] at z; cases z) (fun _ => .inr fun z => by rw [d] at z; cases z), d, r⟩
  have kin : K.In (hidT s₁.heap H) := fun c o e => stays (KX c o e) (fun z => .inl (by rw [← z, e]; simp)) (fun _ => .inl (by rw [e]; simp))
  have mod : Mod K mg (hidT s₁.heap H) := by
    obtain ⟨mc, h1, h2⟩ := hlim
    exact ⟨kin, ns_in hns, ⟨mb, ns_in hb, hbb⟩, mc, ns_in h1, h2⟩
  have env : Env0 P w K mg (hidT s₁.heap H) callerA [] s₁ H :=
    ⟨rfl, mod, fun _ _ e => of_hidT e, Nat.le_of_eq (hidT_size _ _), trivial, fun c hc => absurd (show c ∈ ([] : List Addr) from hc) (by simp), t.ok, .of_eq hg⟩
  have tabB : ∀ p ∈ cs, LamX.TabB (hidT s₁.heap H) mg p.1 p.2 := fun p hp => by
    have tp := hT p hp
    refine ⟨?_, ?_, fun z => ?_⟩
    · obtain ⟨o, us, file, tf, flags, tg, inF, text, tt, e1, r1, r2, r3, r4, r5, r6, r7, r8, ne⟩ := C p hp
      refine ⟨o, us, file, tf, flags, tg, inF, text, tt, stays e1 (fun _ => .inr fun ys m z => ?_) (fun _ => .inr fun z => ?_), r1, r2, r3, r4, r5, r6, r7, r8, ne⟩
      · rw [r2] at z; cases z
      · rw [r2] at z; cases z; simp at r3
    · obtain ⟨bm, ob, b1, b2, b3, b4, b5, b6⟩ := hbm
      refine ⟨bm, ob, b1, b2, fun q => ?_, fun q => ?_, stays b3 (fun _ => .inr fun ys m z => ?_) (fun _ => .inr fun z => ?_), b4, b5, b6⟩
      · obtain ⟨o, es, ep, e, d, _⟩ := hns
        rw [q, e] at b3
        cases b3
        rw [d] at b6; cases b6
      · rw [q, tp] at b3
        cases b3
        cases b6
      · rw [b6] at z; cases z
      · rw [b6] at z; cases z
    · obtain ⟨o, es, ep, e, d, _⟩ := hns
      rw [z, tp] at e
      cases e
      cases d
  have tabs : LamX.Tabs (TB K) H := fun p hp => by
    obtain ⟨q, hq, e⟩ := hcs p hp
    exact LamX.TabS.nil (by rw [← e]; exact t.tab q hq)
  have go := F _ kin (ns_in hns) tabB callerA [] s₁ H ⟨[.ref a], []⟩ [.ref a] [.ref a] (fun v _ => v = .bl true) ⟨rfl, by decide, by decide⟩ rfl env (hbind s₁ (.ref a)) (.cons rfl .nil) ⟨a, ns, st', rfl, t.sq, hl, tabs, hrun, fun _ => rfl⟩
  refine codeAny_mono go fun r s' h => ?_
  match r, h with
  | .ok (.ret u), ⟨v, H', os, bare, un, hok', rv, ev⟩ =>
    have ev : v = .bl true := ev
    subst ev
    cases (show u = Value.bool true from rv)
    have kept : ∀ c o, c ∉ cs.map (·.2) → s₁.heap.get? c = some o → s'.heap.get? c = some o := fun c o nc e => by
      cases q : H c with
      | none => exact un.keep c o e q (fun z => absurd (show c ∈ ([] : List Addr) from z) (by simp)) (by simp)
      | some u =>
        rcases t.only c u q with ⟨rfl, _, ob, xs, rfl⟩ | ⟨hm, _⟩
        · have k1 := (t.ok _ _ q).1
          have k2 := (hok' _ _ (un.frzs _ ob _ q)).1
          rw [e] at k1
          cases k1
          exact k2
        · exact (nc hm).elim
    have grown : ∀ p ∈ cs, ∃ more : Array Value, s'.heap.get? p.2 = some { cls := .none, data := .fields more } := fun p hp => by
      obtain ⟨more, z⟩ := un.tbls p.2 #[] (t.tab p hp)
      exact ⟨_, hok' p.2 _ z⟩
    refine ⟨rfl, ⟨fun c o e => ?_, fun c o e => ?_⟩, os, bare⟩
    · by_cases hm : c ∈ cs.map (·.2)
      · obtain ⟨p, hp, rfl⟩ := List.mem_map.mp hm
        obtain ⟨more, z⟩ := grown p hp
        rw [hT p hp] at e
        cases e
        exact .inr (.inl ⟨((C p hp).tab (hT p hp)).isCodeTable, rfl, #[], more, rfl, by rw [Array.empty_append]; exact z⟩)
      · exact .inl (kept c o hm e)
    · by_cases hm : c ∈ cs.map (·.2)
      · obtain ⟨p, hp, rfl⟩ := List.mem_map.mp hm
        obtain ⟨more, z⟩ := grown p hp
        exact ⟨_, z⟩
      · exact ⟨o, kept c o hm e⟩
theorem tells_someT (KX : K.In s₁.heap) (hT : ∀ p ∈ cs, s₁.heap.get? p.2 = some { cls := .none, data := .fields #[] }) (ha : s₁.heap.get? a = some { cls := .type "list", data := .seq vs.toArray }) (hi : IntsAre vs ns) (hl : ns.length ≤ 63) : ∃ H, TellsT K P w a ns cs s₁ H := by
  have rv := vals_ints hi
  have lv := hi.length
  have hz : ns.length ≤ sizeLine := by rw [sizeLine_eq]; omega
  have isT : ∀ c, c ∈ cs.map (·.2) → s₁.heap.get? c = some { cls := .none, data := .fields #[] } := fun c hc => by
    obtain ⟨p, hp, rfl⟩ := List.mem_map.mp hc
    exact hT p hp
  have nA : a ∉ cs.map (·.2) := fun z => by
    have q := isT a z
    rw [ha] at q
    cases (show Data.seq vs.toArray _ = Data.fields #[] from congrArg Obj.data (Option.some.inj q))
  have memT : ∀ p ∈ cs, p.2 ∈ cs.map (·.2) := fun p hp => List.mem_map.mpr ⟨p, hp, rfl⟩
  cases hk : K.lookup a with
  | some o =>
    have e := KX a o hk
    rw [ha] at e
    cases e
    have at_ : ∀ c u, (if c ∈ cs.map (·.2) then some (HO.tbl #[]) else none) = some u → c ∈ cs.map (·.2) ∧ u = .tbl #[] := fun c u q => by
      split at q
      · rename_i e; cases q; exact ⟨e, rfl⟩
      · cases q
    refine ⟨fun c => if c ∈ cs.map (·.2) then some (.tbl #[]) else none, fun c u q => .inr (at_ c u q), .inr ⟨_, vs.toArray, _, hk, rfl, rfl, rfl, by rw [List.size_toArray, lv]; exact hz, by simpa using rv⟩, fun c u q => ?_, fun p hp => if_pos (memT p hp)⟩
    obtain ⟨e, rfl⟩ := at_ c u q
    exact isT c e
  | none =>
    have at_ : ∀ c u, (if c ∈ cs.map (·.2) then some (HO.tbl #[]) else if c = a then some (HO.frz { cls := .type "list", data := .seq vs.toArray } (.lst (ns.map V.int))) else none) = some u → (c ∈ cs.map (·.2) ∧ u = .tbl #[]) ∨ (c = a ∧ u = .frz { cls := .type "list", data := .seq vs.toArray } (.lst (ns.map V.int))) := fun c u q => by
      split at q
      · rename_i e; cases q; exact .inl ⟨e, rfl⟩
      · split at q
        · rename_i e; cases q; exact .inr ⟨e, rfl⟩
        · cases q
    refine ⟨fun c => if c ∈ cs.map (·.2) then some (.tbl #[]) else if c = a then some (.frz { cls := .type "list", data := .seq vs.toArray } (.lst (ns.map V.int))) else none, fun c u q => ?_, .inl (.inr ⟨{ cls := .type "list", data := .seq vs.toArray }, (if_neg nA).trans (if_pos rfl)⟩), fun c u q => ?_, fun p hp => if_pos (memT p hp)⟩
    · rcases at_ c u q with z | ⟨e, rfl⟩
      · exact .inr z
      · exact .inl ⟨e, hk, _, _, rfl⟩
    · rcases at_ c u q with ⟨e, rfl⟩ | ⟨rfl, rfl⟩
      · exact isT c e
      · exact ⟨ha, by rw [List.length_map]; exact hz, vs, _, rv, ha⟩
end
/-- the goal behind the head -/
theorem walkGT {law : PySem.W.OpenLaw} {prog : Program} {los : List Str} {Xp : (Str → Option Value) → Heap → Prop} {Yp : World → Heap → Prop} {rec : DefRec} {K : Params → PySem.W.Frag} {x : Str} {n j : Nat} {b : S} (cs : List (Addr × Addr))
    (most : law.most = some 63) (plain : rec.params.defaults = []) (told : ∀ (w : World) (h : Heap), Yp w h → (K w.params).In h ∧ ∀ p ∈ cs, h.get? p.2 = some { cls := .none, data := .fields #[] })
    (nT : ∀ w : World, ∀ p ∈ cs, (K w.params).lookup p.2 = none) (C : ∀ w : World, ∀ p ∈ cs, PySem.W.codeHdIn (K w.params) p.1 p.2 = true) (hcs : ∀ w : World, ∀ p ∈ TB (K w.params), ∃ q ∈ cs, q.2 = p.1)
    (promise : ∀ (w : World) (mg : Str → Option Value) (fa : Addr) (h : Heap), (K w.params).In h → h.Ns mainGlobals mg → mg rec.name = some (.ref fa) → ∃ fd : FuncData,
      (∀ (s : Shared) (u : Value), BindsTo s fd ⟨[u], []⟩ [(x, u)]) ∧ ∀ base : Heap, (K w.params).In base → base.Ns mainGlobals mg → (∀ p ∈ cs, LamX.TabB base mg p.1 p.2) → LawGo law.prog w (K w.params) mg base fa fd x n j b)
    (hrun : ∀ ns : List Int, ns.length ≤ 63 → ∃ st', endR (exS b (lawE n j) (beginSt ns)) = .ok (.sh (.bl true)) st') :
    PySem.W.WalkO prog los Xp Yp law.row.toRowW rec [] fun f vs => PySem.call f vs := by
  refine Att.attach_call most plain fun w _ s₁ mg mb fa _ _ _ _ a vs ns top Y _ _ _ hmg hobj hints hlen hg => ?_
  obtain ⟨kin, tb⟩ := told w _ Y
  obtain ⟨fd, binds, go⟩ := promise w mg fa _ kin top.T.g hmg
  obtain ⟨H, t⟩ := tells_someT (K := K w.params) (P := law.prog) (w := w) kin tb hobj hints hlen
  obtain ⟨st', hr⟩ := hrun ns hlen
  exact tells_goT t kin top.T.g top.T.b top.T.builtins top.T.nolimit hg tb (nT w) (fun p hp => PySem.W.codeHd_of_K kin (C w p hp)) top.T.bmain (hcs w) hobj hlen go binds hr
end RS
end
section
set_option Elab.async false
set_option linter.all false
set_option maxRecDepth 100000
set_option autoImplicit false
set_option maxHeartbeats 4000000
/-! RSXG: a law's defs one after another, where errors are raised and heard. -/
namespace RS
open PySem PySem.Spec PyProof.Rows L2
theorem isD_fn {K : PySem.W.Frag} {a : Addr} : IsD K (.fn a) (.ref a) := ⟨.ref a, rfl, fun _ _ _ => by rw [Rep]⟩
/-- an own class of errors, its __init__ included -/
def ClsF (P : Program) (K : PySem.W.Frag) (mg : Str → Option Value) (c : String) : Prop :=
  ∃ (C fI cda cc : Addr) (qual sf a : Str) (params : Arguments) (body : List Stmt) (scope : Scope), mg (Str.ofString c) = some (.ref C) ∧ OexC K C ∧ PySem.W.findIn K (.ref C) "__init__" = some (some (.ref fI)) ∧ PySem.W.typeIn K (.ref fI) = some (.type "function") ∧
    SupC P K mg C (fldOf c) fI cda cc qual sf a params body scope ∧
    ∀ (fd : FuncData) (oc : Value) (od : Option Addr) (osl : Array (Option Value)), K.lookup fI = some ⟨oc, od, .func fd, osl⟩ → ∀ u v : Value, bindArgs fd ⟨[u, v], []⟩ = pure [(sf, u), (a, v)]
section
variable {P : Program} {w : World} {K : PySem.W.Frag} {mg : Str → Option Value} {base : Heap} {x : String} {st : Stmt} {ps N : List Str} {k lv : Nat} {b : S} {g : Bool}
theorem ClsF.at {c : String} (h : ClsF P K mg c) : ClsAt P w K mg base c 1 := by
  obtain ⟨C, fI, cda, cc, qual, sf, a, params, body, scope, h1, h2, h3, h4, Z, hb⟩ := h
  obtain ⟨fd, ⟨oc, od, osl, l1⟩, F⟩ := sup_init (P := P) (w := w) (base := base) (CX := C8.CX0) (k := 0) Z
  refine ⟨C, fI, fd, [sf, a], h1, h2, h3, h4, F, fun s us _ hl => ?_⟩
  match us, hl with
  | [u, v], _ => exact .of_eq (hb fd oc od osl l1 u v)
/-- a def that a name holds -/
theorem Has.v {A : Around} {cd : Value} {q : Str} {fn : Fn} {a : Addr} (h : Has P w K mg base x st ps lv fn g) (m : mg (Str.ofString x) = some (.ref a)) (hr : Room k A) (hg : g = true → A.guards = some []) (hl : lv ≤ k) : FnVOk ⟨P, w, K, mg, base, A, cd, q⟩ a fn := by
  obtain ⟨f, fd, h1, h2, h3, h4, h5⟩ := h
  rw [m] at h1; cases h1
  exact ⟨g, lv, fd, ps, h2.kp, h3, h4, ⟨hr.mono hl, hg⟩, h5⟩
theorem HasX.v {A : Around} {cd : Value} {q : Str} {fn : Fn} {a : Addr} (h : HasX P w K mg base x st ps lv fn g) (m : mg (Str.ofString x) = some (.ref a)) (hr : Room k A) (hg : g = true → A.guards = some []) (hl : lv ≤ k) : FnVXOk ⟨P, w, K, mg, base, A, cd, q⟩ a fn := by
  obtain ⟨f, fd, h1, h2, h3, h4, h5⟩ := h
  rw [m] at h1; cases h1
  exact ⟨g, lv, fd, ps, h2.kp, h3, h4, ⟨hr.mono hl, hg⟩, h5⟩
theorem Has.vk {A : Around} {cd : Value} {q : Str} {fn : Fn} {a : Addr} {ks : List String} {perm : List Nat} (h : Has P w K mg base x st ps lv fn g) (m : mg (Str.ofString x) = some (.ref a)) (hr : Room k A) (hg : g = true → A.guards = some []) (hl : lv ≤ k)
    (hb : ∀ (kV doc pm : Value) (an : Option Addr) (cdv ct : Value) (s : Shared) (ws : List Value), ws.length = ks.length → BindsTo s (PySem.W.fnOf (Str.ofString x) (Str.ofString x) (defArgs st) (defBody st) (defScope st) .none kV doc pm an cdv ct) ⟨[], (ks.map Str.ofString).zip ws⟩ (ps.zip (perm.map fun i => ws.getD i .none)))
    (hp : ∀ i ∈ perm, i < ks.length) : FnVKOk ⟨P, w, K, mg, base, A, cd, q⟩ a fn ks perm := by
  obtain ⟨f, fd, h1, h2, h3, h4, h5⟩ := h
  rw [m] at h1; cases h1
  obtain ⟨oc, od, kV, doc, pm, an, cdv, ct, osl, rfl, _, _⟩ := h2.ex
  exact ⟨g, lv, _, ps, h2.kp, fun s ws _ hl => hb kV doc pm an cdv ct s ws hl, hp, h4, ⟨hr.mono hl, hg⟩, h5⟩
theorem HasX.vk {A : Around} {cd : Value} {q : Str} {fn : Fn} {a : Addr} {ks : List String} {perm : List Nat} (h : HasX P w K mg base x st ps lv fn g) (m : mg (Str.ofString x) = some (.ref a)) (hr : Room k A) (hg : g = true → A.guards = some []) (hl : lv ≤ k)
    (hb : ∀ (kV doc pm : Value) (an : Option Addr) (cdv ct : Value) (s : Shared) (ws : List Value), ws.length = ks.length → BindsTo s (PySem.W.fnOf (Str.ofString x) (Str.ofString x) (defArgs st) (defBody st) (defScope st) .none kV doc pm an cdv ct) ⟨[], (ks.map Str.ofString).zip ws⟩ (ps.zip (perm.map fun i => ws.getD i .none)))
    (hp : ∀ i ∈ perm, i < ks.length) : FnVKXOk ⟨P, w, K, mg, base, A, cd, q⟩ a fn ks perm := by
  obtain ⟨f, fd, h1, h2, h3, h4, h5⟩ := h
  rw [m] at h1; cases h1
  obtain ⟨oc, od, kV, doc, pm, an, cdv, ct, osl, rfl, _, _⟩ := h2.ex
  exact ⟨g, lv, _, ps, h2.kp, fun s ws _ hl => hb kV doc pm an cdv ct s ws hl, hp, h4, ⟨hr.mono hl, hg⟩, h5⟩
/-- the def x makes lambdas: its code object, its table -/
def LamF (K : PySem.W.Frag) (mg : Str → Option Value) (cs : List (Addr × Addr)) (x : String) : Prop := ∃ c P, cdAt K mg x = .ref c ∧ (c, P) ∈ cs ∧ (P, (Str.ofString x ++ (".<locals>." : Str)) ++ ("<lambda>" : Str)) ∈ TB K ∧ ∀ p ∈ TB K, p.1 = P → p.2 = (Str.ofString x ++ (".<locals>." : Str)) ++ ("<lambda>" : Str)
theorem LamF.at {A : Around} {cs : List (Addr × Addr)} (h : LamF K mg cs x) (HB : ∀ p ∈ cs, LamX.TabB base mg p.1 p.2) : LamAt ⟨P, w, K, mg, base, A, cdAt K mg x, Str.ofString x ++ (".<locals>." : Str)⟩ := by
  obtain ⟨c, T, h1, h2, h3, h4⟩ := h
  exact ⟨c, T, h1, HB _ h2, h3, h4⟩
end
theorem law_uniformT {P : Program} {w : World} {K : PySem.W.Frag} {mg : Str → Option Value} {fa : Addr} {st : Stmt} {n j : Nat} {b : S} {cs : List (Addr × Addr)} (hfa : mg "law" = some (.ref fa)) (D : DefAt K mg "law" st)
    (hb : ∀ (kV doc pm : Value) (an : Option Addr) (cdv ct : Value) (u : Value), bindArgs (PySem.W.fnOf "law" "law" (defArgs st) (defBody st) (defScope st) .none kV doc pm an cdv ct) ⟨[u], []⟩ = pure [(("script" : Str), u)])
    (h : ∀ base : Heap, (∀ p ∈ cs, LamX.TabB base mg p.1 p.2) → ∃ f fd, mg "law" = some (.ref f) ∧ L2.Fun K "law" "law" st f fd ∧ (∀ (s : Shared) (u : Value), BindsTo s fd ⟨[u], []⟩ [("script", u)]) ∧ LawGo P w K mg base f fd "script" n j b) :
    ∃ fd : FuncData, (∀ (s : Shared) (u : Value), BindsTo s fd ⟨[u], []⟩ [("script", u)]) ∧ ∀ base : Heap, K.In base → base.Ns mainGlobals mg → (∀ p ∈ cs, LamX.TabB base mg p.1 p.2) → LawGo P w K mg base fa fd "script" n j b := by
  obtain ⟨f, fd, h1, F⟩ := D
  have h1 : mg "law" = some (.ref f) := h1
  rw [hfa] at h1
  cases h1
  obtain ⟨oc, od, kV, doc, pm, an, cdv, ct, osl, e1, l1, _⟩ := F.ex
  subst e1
  refine ⟨_, fun s u => .of_eq (hb kV doc pm an cdv ct u), fun base _ _ HB => ?_⟩
  obtain ⟨f', fd', h1', F', _, go⟩ := h base HB
  rw [hfa] at h1'
  cases h1'
  obtain ⟨oc', od', kV', doc', pm', an', cdv', ct', osl', e2, l2, _⟩ := F'.ex
  rw [l1] at l2
  have : PySem.W.fnOf (Str.ofString "law") (Str.ofString "law") (defArgs st) (defBody st) (defScope st) .none kV doc pm an cdv ct = fd' := by
    have := congrArg (fun o : Option Obj => o.map (·.data)) l2
    simp only [Option.map_some, Option.some.injEq, Data.func.injEq] at this
    exact this
  rw [this]; exact go
end RS
end
section
set_option Elab.async false
set_option linter.all false
set_option maxRecDepth 100000
set_option autoImplicit false
set_option maxHeartbeats 4000000
/-! RSXF: the classes of errors, from what is written. -/
namespace RS
open PySem PySem.Spec PyProof.Rows L2
theorem clsF_mk {P : Program} {K : PySem.W.Frag} {h : Heap} {mg : Str → Option Value} {c : String} (X : K.In h) (G : h.Ns mainGlobals mg) {C fI cda cc Nn : Addr} {nm q qual name sf a file : Str} {bs bm sub : List Value} {sn : List Str} {ab : Bool} {col : Option Bool} {dd od an cdd cld : Option Addr}
    {k0 k1 k2 k3 k5 : Option Value} {params : Arguments} {body : List Stmt} {scope : Scope} {dV kV doc pm ct oc ccl cl : Value} {osl ccs csl : Array (Option Value)} {vs : Array Value} {tf : Tok}
    (e1 : PySem.W.nsIn K mainGlobals (Str.ofString c) = some (some (.ref C)))
    (e2 : K.lookup C = some (excClassObj nm q C Nn bs bm true sn sub ab col dd k0 k1 k2 k3 k5 "ValueError.__new__"))
    (e3 : PySem.HandSPX.refsVE bm = true) (e4 : PySem.W.findIn K (.ref C) "__setattr__" = some (some (.builtin "object.__setattr__"))) (e5 : PySem.W.subIn K (.ref C) (.type "BaseException") = some true) (e6 : PySem.W.typeIn K (.ref C) = some (.type "type")) (e7 : PySem.W.keepIn K (.ref C) = true)
    (f1 : PySem.W.findIn K (.ref C) "__init__" = some (some (.ref fI))) (f2 : PySem.W.typeIn K (.ref fI) = some (.type "function"))
    (f3 : K.lookup fI = some ⟨oc, od, .func (PySem.W.ksFn name qual params body scope dV kV doc pm an (.ref cda) ct cc), osl⟩) (f4 : PySem.W.codeIn K (.ref cda) qual = true)
    (f5 : ∃ p0 p1 p2 p3 p4 p5 p6 p7 p8 p9, (p2.endLine == p4.line) = true ∧ body = [.Expr (.Call (.Attribute (.Call (.Name "super" p0) [] [] p1) "__init__" p2) [.Name a p3] [] p4) p5, .Assign [.Attribute (.Name sf p6) (fldOf c) p7] (.Name a p8) p9])
    (f6 : NdefX.nscB [sf, a, "__class__"] [sf, a] ["__class__"] scope = true) (f7 : ∃ ar : Arg, (params.posonlyargs ++ params.args).head? = some ar ∧ ar.arg = sf)
    (f8 : K.lookup cda = some ⟨ccl, cdd, .fields vs, ccs⟩) (f9 : (vs[2]? : Option Value) = some (.str file tf)) (f10 : ((P.main.file : Str) == file) = true)
    (f11 : K.lookup cc = some ⟨cl, cld, .cell (some (.ref C)), csl⟩) (g1 : PySem.W.mroIn K C (.ref C) = some true) (g2 : PySem.W.nsIn K mainGlobals "super" = some none)
    (g3 : scope.names.lookup ("super" : Str) = some .globalImplicit) (g4 : (P.main.scope.names.lookup ("super" : Str)).isSome = false) (g5 : PySem.W.ks_superIn K C C "__init__" = some (some (.builtin "ValueError.__init__")))
    (g6 : PySem.W.subIn K (.ref C) (.type "ValueError") = some true) (g7 : PySem.W.nsIn K cStatics "thirdparty.any" = some none) (g8 : PySem.W.findIn K (.ref C) (fldOf c) = some none)
    (g9 : (sf == ("__debug__" : Str)) = false ∧ (a == ("__debug__" : Str)) = false ∧ (sf == ("__classdict__" : Str)) = false ∧ (a == ("__classdict__" : Str)) = false)
    (hb : ∀ u v : Value, bindArgs (PySem.W.ksFn name qual params body scope dV kV doc pm an (.ref cda) ct cc) ⟨[u, v], []⟩ = pure [(sf, u), (a, v)]) : ClsF P K mg c := by
  have ox : OexC K C := ⟨⟨nm, q, Nn, bs, bm, sn, sub, ab, col, dd, k0, k1, k2, k3, k5, e2, e3⟩, e4, e5, e6, e7⟩
  refine ⟨C, fI, cda, cc, qual, sf, a, params, body, scope, PySem.W.mg_of X G e1, ox, f1, f2,
    ⟨⟨name, dV, kV, doc, pm, ct, oc, an, od, osl, f3⟩, f4, NdefX.nscope_by f6, f5, f7, ⟨ccl, cdd, vs, ccs, file, tf, f8, f9, f10⟩, ⟨cl, cld, csl, f11⟩, ox, g1, PySem.W.mg_none_of X G g2, g3, g4, g5, g6, g7, g8, g9⟩, fun fd oc' od' osl' l u v => ?_⟩
  rw [f3] at l
  have := congrArg (fun o : Option Obj => o.map (·.data)) l
  simp only [Option.map_some, Option.some.injEq, Data.func.injEq] at this
  rw [← this]
  exact hb u v
end RS
end
section
set_option Elab.async false
set_option linter.all false
set_option maxRecDepth 100000
set_option autoImplicit false
set_option maxHeartbeats 4000000
/-! RSXK: what a law's start tells of its classes, lambdas, clauses. -/
namespace RS
open PySem PySem.Spec PyProof.Rows L2
section
variable {P : Program} {K : PySem.W.Frag} {h : Heap} {mg : Str → Option Value}
theorem clsIn_mk {c : String} {C : Addr} (X : K.In h) (G : h.Ns mainGlobals mg) (hc : c ∈ "RisingError" :: errs) (e : PySem.W.nsIn K mainGlobals (Str.ofString c) = some (some (.ref C))) : ClsIn mg c := ⟨hc, C, PySem.W.mg_of X G e⟩
/-- the classes that a law's clauses name -/
def hpName : HP → Option String
  | .isR c => some c
  | _ => none
def hcNames (hs : List HC) : List String := hs.flatMap fun h => h.1 :: h.2.2.filterMap hpName
theorem hcOk_mk {hs : List HC} (e : ∀ c ∈ hcNames hs, ClsIn mg c) : HcOk mg hs := fun q hq => ⟨e _ (List.mem_flatMap.mpr ⟨q, hq, List.mem_cons_self⟩), fun r hr => e _ (List.mem_flatMap.mpr ⟨q, hq, List.mem_cons_of_mem _ (List.mem_filterMap.mpr ⟨_, hr, rfl⟩)⟩)⟩
theorem fa_nil {α : Type} {p : α → Prop} : ∀ x ∈ ([] : List α), p x := fun _ h => absurd h (by simp)
theorem fa_cons {α : Type} {p : α → Prop} {a : α} {l : List α} (h : p a) (t : ∀ x ∈ l, p x) : ∀ x ∈ a :: l, p x := List.forall_mem_cons.mpr ⟨h, t⟩
/-- what a class of errors must say, but for the classes above -/
structure ErrC0 (K : PySem.W.Frag) (cl : String) (C : Addr) : Prop where
  x1 : PySem.W.findIn K (.ref C) "__getattribute__" = some (some (.builtin "BaseException.__getattribute__"))
  x2 : PySem.W.findIn K (.ref C) "__getattr__" = some none
  x3 : PySem.W.subIn K (.ref C) (.type "BaseException") = some true
  x4 : PySem.W.hasDictIn K C = true
  ic : (PySem.W.clsIn K C).isSome = true
  ha : PySem.W.findIn K (.ref C) "__class__" = some (some (.builtin "object.__class__"))
  hn : PySem.W.specialIn K (.builtin "object.__class__") "__get__" = some (some (.builtin "getset_descriptor.__get__"))
  ht : PySem.W.takesIn K (.builtin "object.__class__") = some true
  hm : PySem.W.mroIn K C (.type "object") = some true
  no : PySem.W.findIn K (.ref C) (fldOf cl) = some none
/-- tab: every class of errors, and where it stands -/
theorem errsOk_mk (X : K.In h) (G : h.Ns mainGlobals mg) (tab : List (String × Option Addr)) (cov : ("RisingError" :: errs).all (fun c => (tab.map (·.1)).contains c) = true) (hs : ∀ p ∈ tab, PySem.W.nsIn K mainGlobals (Str.ofString p.1) = some (p.2.map Value.ref))
    (e : ∀ p ∈ tab, ∀ C, p.2 = some C → p.1 ∈ errs → ErrC0 K p.1 C) (u : ∀ p ∈ tab, ∀ C, p.2 = some C → p.1 ∈ errs → ∀ q ∈ tab, ∀ C', q.2 = some C' → PySem.W.exmOne K (.ref C) (.ref C') = some (catchB p.1 q.1) ∧ PySem.W.kitOne K (.ref C) (.ref C') = some (catchB p.1 q.1)) : ErrsOk K mg := by
  have at_ : ∀ {c : String} {C : Addr}, c ∈ "RisingError" :: errs → mg (Str.ofString c) = some (.ref C) → (c, some C) ∈ tab := by
    intro c C hc hm
    have q := List.all_eq_true.mp cov c hc
    rw [List.contains_iff_mem, List.mem_map] at q
    obtain ⟨p, hp, rfl⟩ := q
    have z := hs p hp
    obtain ⟨x, o⟩ := p
    cases o with
    | none =>
      have := PySem.W.mg_none_of X G z
      rw [hm] at this; cases this
    | some C' =>
      have := PySem.W.mg_of X G z
      rw [hm] at this; cases this
      exact hp
  intro cl C hcl hm
  have m := at_ (List.mem_cons_of_mem _ hcl) hm
  have E := e _ m C rfl hcl
  exact ⟨⟨E.x1, E.x2, E.x3, E.x4⟩, E.ic, E.ha, E.hn, E.ht, E.hm, E.no, fun c' C' hc' hm' => u _ m C rfl hcl _ (at_ hc' hm') C' rfl⟩
theorem cdAt_mk {x : String} {r c : Addr} {oc : Value} {od : Option Addr} {fd : FuncData} {sl : Array (Option Value)} (X : K.In h) (G : h.Ns mainGlobals mg) (a : PySem.W.nsIn K mainGlobals (Str.ofString x) = some (some (.ref r))) (l : K.lookup r = some ⟨oc, od, .func fd, sl⟩) (e : fd.code = .ref c) : cdAt K mg x = .ref c := by
  rw [cdAt_eq (PySem.W.mg_of X G a), cdOf, l]; exact e
def lamStr (x : String) : Str := (Str.ofString x ++ (".<locals>." : Str)) ++ ("<lambda>" : Str)
theorem lamF_mk {cs : List (Addr × Addr)} {x : String} {c T : Addr} {tb : List (Addr × String)} (hc : cdAt K mg x = .ref c) (hm : (c, T) ∈ cs) (ht : TB K = tb.map fun p => (p.1, lamStr p.2)) (h1 : (T, x) ∈ tb) (h2 : (tb.filter fun p => p.1 == T).all (fun p => p.2 == x) = true) : LamF K mg cs x := by
  refine ⟨c, T, hc, hm, ?_, fun p hp e => ?_⟩
  · rw [ht]
    exact List.mem_map.mpr ⟨_, h1, rfl⟩
  · rw [ht] at hp
    obtain ⟨q, hq, rfl⟩ := List.mem_map.mp hp
    have z := List.all_eq_true.mp h2 q (List.mem_filter.mpr ⟨hq, by simpa using e⟩)
    rw [beq_iff_eq] at z
    show lamStr q.2 = lamStr x
    rw [z]
end
end RS
namespace RS
open PySem PySem.Spec PyProof.Rows L2
theorem hcs_mk {K : PySem.W.Frag} {cs : List (Addr × Addr)} (tb : List (Addr × String)) (ht : TB K = tb.map fun p => (p.1, lamStr p.2)) (h : (tb.all fun p => cs.any fun q => q.2 == p.1) = true) : ∀ p ∈ TB K, ∃ q ∈ cs, q.2 = p.1 := fun p hp => by
  rw [ht] at hp
  obtain ⟨r, hr, rfl⟩ := List.mem_map.mp hp
  obtain ⟨q, hq, e⟩ := List.any_eq_true.mp (List.all_eq_true.mp h r hr)
  exact ⟨q, hq, beq_iff_eq.mp e⟩
end RS
end
section
set_option Elab.async false
set_option linter.all false
set_option autoImplicit false
set_option maxHeartbeats 1000000
/-! RSUni: what does not touch the law's draws answers alike at every state of them. Core Lean only. -/
namespace RS
inductive Uni {α : Type} (f : OSt → R α) : Prop
  | ok (a : α) (h : ∀ s, f s = .ok a s)
  | exc (c : String) (d : D) (h : ∀ s, f s = .exc c d s)
  | no (h : ∀ s, f s = .no)
def UniF (f : Fn) : Prop := ∀ ds, Uni (f ds)
section
variable {α β : Type}
theorem Uni.mk {a : α} : Uni (fun s => R.ok a s) := .ok a fun _ => rfl
theorem Uni.nil : Uni (fun _ => (R.no : R α)) := .no fun _ => rfl
theorem Uni.congr {f g : OSt → R α} (e : ∀ s, f s = g s) (h : Uni g) : Uni f := by
  rw [show f = g from funext e]; exact h
theorem Uni.bind {x : OSt → R α} {f : α → OSt → R β} (h : Uni x) (g : ∀ a, Uni (f a)) : Uni (fun s => (x s).bind (f)) := by
  cases h with
  | ok a e => exact .congr (fun s => by rw [e s]; exact rfl) (g a)
  | exc c d e => exact .exc c d fun s => by rw [e s]; rfl
  | no e => exact .no fun s => by rw [e s]; rfl
theorem Uni.lift {o : Option α} : Uni (RS.lift o) := by
  cases o with
  | some a => exact .ok a fun _ => rfl
  | none => exact .no fun _ => rfl
end
theorem Uni.callR {f : Fn} {rs : List Rs} (h : UniF f) : Uni (RS.callR f rs) := by
  refine .congr (fun s => by rw [RS.callR]) ((h _).bind fun r => ?_)
  cases r.isBo
  · cases h : (freeze rs || r.clean)
    · exact .congr (fun s => by rfl) Uni.nil
    · exact .congr (fun s => by rfl) Uni.mk
  · exact Uni.nil
theorem Uni.heard {k : Nat} {pre : List D} {hs : List HC} {r : OSt → R Rs} (h : Uni r) : Uni (fun s => heardR k pre hs (r s)) := by
  cases h with
  | ok a e =>
    refine .congr (fun s => by rw [e s, heardR]) ?_
    cases a.isBo
    · by_cases hk : k = 0
      · exact .congr (fun s => by rw [if_neg (by decide), if_pos hk]) Uni.mk
      · exact .congr (fun s => by rw [if_neg (by decide), if_neg hk]) Uni.lift
    · exact Uni.nil
  | exc c d e => exact .congr (fun s => by rw [e s, heardR]) Uni.lift
  | no e => exact .no fun s => by rw [e s]; rfl
theorem Uni.compL {step : D → OSt → R (Option D)} (h : ∀ d, Uni (step d)) : ∀ (l acc : List D), Uni (RS.compL step l acc)
  | [], acc => .ok acc fun _ => rfl
  | d :: ds, acc => by
    cases h d with
    | ok a e =>
      cases a with
      | none => exact .congr (fun s => by rw [RS.compL, e s]) (Uni.compL h ds acc)
      | some y =>
        by_cases hl : acc.length < LIM
        · exact .congr (fun s => by rw [RS.compL, e s]; simp only []; rw [if_pos hl]) (Uni.compL h ds (acc ++ [y]))
        · exact .no fun s => by rw [RS.compL, e s]; simp only []; rw [if_neg hl]
    | exc c x e => exact .no fun s => by rw [RS.compL, e s]
    | no e => exact .no fun s => by rw [RS.compL, e s]
/-- the draws are not touched within -/
def uniE : E → Prop
  | .cons a b => uniE a ∧ uniE b
  | .tup es => uniE es
  | .lst es => uniE es
  | .bin _ a b => uniE a ∧ uniE b
  | .neg a => uniE a
  | .cmp _ a b => uniE a ∧ uniE b
  | .chain _ _ a b c => uniE a ∧ uniE b ∧ uniE c
  | .and a b => uniE a ∧ uniE b
  | .or a b => uniE a ∧ uniE b
  | .not a => uniE a
  | .ife c a b => uniE c ∧ uniE a ∧ uniE b
  | .idx a i => uniE a ∧ uniE i
  | .slc a l h => uniE a ∧ uniE l ∧ uniE h
  | .rev a => uniE a
  | .call _ f es => UniF f ∧ uniE es
  | .callX _ f es => UniF f ∧ uniE es
  | .callV _ alts es => (∀ p ∈ alts, UniF p.2) ∧ uniE es
  | .callVK _ alts _ kes _ => (∀ p ∈ alts, UniF p.2) ∧ uniE kes
  | .callK _ f _ _ kes _ => UniF f ∧ uniE kes
  | .heard _ _ _ _ e => uniE e
  | .prim _ es => uniE es
  | .reprEq a b => uniE a ∧ uniE b
  | .comp _ _ it c e => uniE it ∧ uniE c ∧ uniE e
  | .itE a => uniE a
  | .itRange es => uniE es
  | .itZip a b => uniE a ∧ uniE b
  | .itEnum a => uniE a
  | .stAt _ => False
  | .stLen _ => False
  | .stCell _ _ => False
  | .stLeft _ _ => False
  | _ => True
theorem ulook_some {alts : List (Nat × Fn)} {sl : Slot} {f : Fn} (h : fnAt alts sl = some f) : ∃ a, (a, f) ∈ alts := by
  unfold fnAt at h
  split at h
  · rename_i a
    refine ⟨a, ?_⟩
    induction alts with
    | nil => cases h
    | cons p l ih =>
      obtain ⟨b, g⟩ := p
      rw [List.lookup] at h
      split at h
      · rename_i e
        cases h
        rw [show a = b from by simpa using e]
        exact List.mem_cons_self
      · exact List.mem_cons_of_mem _ (ih h)
  · cases h
theorem uni_ite {α : Type} {p : Prop} [Decidable p] {f g : OSt → R α} (hf : Uni f) (hg : Uni g) : Uni (fun s => if p then f s else g s) := by
  by_cases h : p
  · exact .congr (fun s => by rw [if_pos h]) hf
  · exact .congr (fun s => by rw [if_neg h]) hg
theorem uniE_ok (e : E) : uniE e → (∀ ρ, Uni (ev e ρ)) ∧ (∀ ρ, Uni (evs e ρ)) ∧ (∀ ρ, Uni (evI e ρ)) := by
  have nev : ∀ {e : E} {ρ : Env}, (∀ s, ev e ρ s = .no) → Uni (ev e ρ) := fun h => .no h
  have nvs : ∀ {e : E} {ρ : Env}, (∀ s, evs e ρ s = .no) → Uni (evs e ρ) := fun h => .no h
  have nvI : ∀ {e : E} {ρ : Env}, (∀ s, evI e ρ s = .no) → Uni (evI e ρ) := fun h => .no h
  induction e with
  | var i => exact fun _ => ⟨fun ρ => .congr (fun s => by rw [ev]) Uni.lift, fun ρ => nvs fun s => by simp only [evs], fun ρ => nvI fun s => by simp only [evI]⟩
  | con d => exact fun _ => ⟨fun ρ => .ok (.sh d) fun s => by rw [ev], fun ρ => nvs fun s => by simp only [evs], fun ρ => nvI fun s => by simp only [evI]⟩
  | glob x d => exact fun _ => ⟨fun ρ => .ok (.sh d) fun s => by rw [ev], fun ρ => nvs fun s => by simp only [evs], fun ρ => nvI fun s => by simp only [evI]⟩
  | nil => exact fun _ => ⟨fun ρ => nev fun s => by rw [ev], fun ρ => .ok [] fun s => by rw [evs], fun ρ => nvI fun s => by simp only [evI]⟩
  | cons a b iha ihb =>
    exact fun h => ⟨fun ρ => nev fun s => by rw [ev], fun ρ => .congr (fun s => by rw [evs]) (((iha h.1).1 ρ).bind fun x => ((ihb h.2).2.1 ρ).bind fun xs => Uni.mk), fun ρ => nvI fun s => by simp only [evI]⟩
  | «omit» => exact fun _ => ⟨fun ρ => .ok (.sh (.bl true)) fun s => by rw [ev], fun ρ => nvs fun s => by simp only [evs], fun ρ => nvI fun s => by simp only [evI]⟩
  | tup es ih => exact fun h => ⟨fun ρ => .congr (fun s => by rw [ev]) (((ih h).2.1 ρ).bind fun x => uni_ite Uni.mk Uni.nil), fun ρ => nvs fun s => by simp only [evs], fun ρ => nvI fun s => by simp only [evI]⟩
  | lst es ih => exact fun h => ⟨fun ρ => .congr (fun s => by rw [ev]) (((ih h).2.1 ρ).bind fun x => uni_ite Uni.mk Uni.nil), fun ρ => nvs fun s => by simp only [evs], fun ρ => nvI fun s => by simp only [evI]⟩
  | bin o a b iha ihb => exact fun h => ⟨fun ρ => .congr (fun s => by rw [ev]) (((iha h.1).1 ρ).bind fun x => ((ihb h.2).1 ρ).bind fun y => Uni.lift), fun ρ => nvs fun s => by simp only [evs], fun ρ => nvI fun s => by simp only [evI]⟩
  | neg a iha => exact fun h => ⟨fun ρ => .congr (fun s => by rw [ev]) (((iha h).1 ρ).bind fun x => Uni.lift), fun ρ => nvs fun s => by simp only [evs], fun ρ => nvI fun s => by simp only [evI]⟩
  | cmp o a b iha ihb => exact fun h => ⟨fun ρ => .congr (fun s => by rw [ev]) (((iha h.1).1 ρ).bind fun x => ((ihb h.2).1 ρ).bind fun y => Uni.lift), fun ρ => nvs fun s => by simp only [evs], fun ρ => nvI fun s => by simp only [evI]⟩
  | chain o1 o2 a b c iha ihb ihc =>
    exact fun h => ⟨fun ρ => .congr (fun s => by rw [ev]) (((iha h.1).1 ρ).bind fun x => ((ihb h.2.1).1 ρ).bind fun y => by
      cases cmpF o1 x.d y.d with
      | none => exact Uni.nil
      | some b =>
        cases b
        · exact Uni.mk
        · exact ((ihc h.2.2).1 ρ).bind fun z => Uni.lift), fun ρ => nvs fun s => by simp only [evs], fun ρ => nvI fun s => by simp only [evI]⟩
  | and a b iha ihb =>
    exact fun h => ⟨fun ρ => .congr (fun s => by rw [ev]) (((iha h.1).1 ρ).bind fun x => by
      split
      · exact (ihb h.2).1 ρ
      · exact Uni.mk
      · exact Uni.nil), fun ρ => nvs fun s => by simp only [evs], fun ρ => nvI fun s => by simp only [evI]⟩
  | or a b iha ihb =>
    exact fun h => ⟨fun ρ => .congr (fun s => by rw [ev]) (((iha h.1).1 ρ).bind fun x => by
      split
      · exact (ihb h.2).1 ρ
      · exact Uni.mk
      · exact Uni.nil), fun ρ => nvs fun s => by simp only [evs], fun ρ => nvI fun s => by simp only [evI]⟩
  | not a iha =>
    exact fun h => ⟨fun ρ => .congr (fun s => by rw [ev]) (((iha h).1 ρ).bind fun x => by
      split
      · exact Uni.mk
      · exact Uni.nil), fun ρ => nvs fun s => by simp only [evs], fun ρ => nvI fun s => by simp only [evI]⟩
  | ife c a b ihc iha ihb =>
    exact fun h => ⟨fun ρ => .congr (fun s => by rw [ev]) (((ihc h.1).1 ρ).bind fun x => by
      split
      · exact (iha h.2.1).1 ρ
      · exact (ihb h.2.2).1 ρ
      · exact Uni.nil), fun ρ => nvs fun s => by simp only [evs], fun ρ => nvI fun s => by simp only [evI]⟩
  | idx a i iha ihi => exact fun h => ⟨fun ρ => .congr (fun s => by rw [ev]) (((iha h.1).1 ρ).bind fun x => ((ihi h.2).1 ρ).bind fun y => Uni.lift), fun ρ => nvs fun s => by simp only [evs], fun ρ => nvI fun s => by simp only [evI]⟩
  | slc a l u iha ihl ihu =>
    exact fun h => ⟨fun ρ => .congr (fun s => by rw [ev]) (((iha h.1).1 ρ).bind fun x => ((ihl h.2.1).1 ρ).bind fun y => ((ihu h.2.2).1 ρ).bind fun z => by
      cases partOf l y <;> cases partOf u z <;> first | exact Uni.nil | exact Uni.lift), fun ρ => nvs fun s => by simp only [evs], fun ρ => nvI fun s => by simp only [evI]⟩
  | rev a iha => exact fun h => ⟨fun ρ => .congr (fun s => by rw [ev]) (((iha h).1 ρ).bind fun x => Uni.lift), fun ρ => nvs fun s => by simp only [evs], fun ρ => nvI fun s => by simp only [evI]⟩
  | call x f es ih => exact fun h => ⟨fun ρ => .congr (fun s => by rw [ev]) (((ih h.2).2.1 ρ).bind fun x => Uni.callR h.1), fun ρ => nvs fun s => by simp only [evs], fun ρ => nvI fun s => by simp only [evI]⟩
  | callX x f es ih => exact fun h => ⟨fun ρ => .congr (fun s => by rw [ev]) (((ih h.2).2.1 ρ).bind fun x => uni_ite (Uni.callR h.1) Uni.nil), fun ρ => nvs fun s => by simp only [evs], fun ρ => nvI fun s => by simp only [evI]⟩
  | callV i alts es ih =>
    exact fun h => ⟨fun ρ => by
      cases hf : fnAt alts (ρ.getD i .no) with
      | none => exact .no fun s => by rw [ev, hf]
      | some f =>
        obtain ⟨a, m⟩ := ulook_some hf
        exact .congr (fun s => by rw [ev, hf]) (((ih h.2).2.1 ρ).bind fun x => uni_ite (Uni.callR (h.1 _ m)) Uni.nil), fun ρ => nvs fun s => by simp only [evs], fun ρ => nvI fun s => by simp only [evI]⟩
  | callVK i alts ks kes perm ih =>
    exact fun h => ⟨fun ρ => by
      cases hf : fnAt alts (ρ.getD i .no) with
      | none => exact .no fun s => by rw [ev, hf]
      | some f =>
        obtain ⟨a, m⟩ := ulook_some hf
        exact .congr (fun s => by rw [ev, hf]) (Uni.bind (((ih h.2).2.1 ρ).bind fun x => uni_ite Uni.mk Uni.nil) fun x => Uni.callR (h.1 _ m)), fun ρ => nvs fun s => by simp only [evs], fun ρ => nvI fun s => by simp only [evI]⟩
  | callK x f es ks kes perm ih1 ih2 =>
    exact fun h => ⟨fun ρ => .congr (fun s => by rw [ev]) (Uni.bind (((ih2 h.2).2.1 ρ).bind fun x => uni_ite Uni.mk Uni.nil) fun x => Uni.callR h.1), fun ρ => nvs fun s => by simp only [evs], fun ρ => nvI fun s => by simp only [evI]⟩
  | heard x k pre hs e ih => exact fun h => ⟨fun ρ => .congr (fun s => by rw [ev]) ((ih h).1 ρ).heard, fun ρ => nvs fun s => by simp only [evs], fun ρ => nvI fun s => by simp only [evI]⟩
  | prim p es ih => exact fun h => ⟨fun ρ => .congr (fun s => by rw [ev]) (((ih h).2.1 ρ).bind fun x => Uni.lift), fun ρ => nvs fun s => by simp only [evs], fun ρ => nvI fun s => by simp only [evI]⟩
  | reprEq a b iha ihb => exact fun h => ⟨fun ρ => .congr (fun s => by rw [ev]) (((iha h.1).1 ρ).bind fun x => ((ihb h.2).1 ρ).bind fun y => uni_ite Uni.mk Uni.nil), fun ρ => nvs fun s => by simp only [evs], fun ρ => nvI fun s => by simp only [evI]⟩
  | comp vs tg it cnd elt ihi ihc ihe =>
    exact fun h => ⟨fun ρ => .congr (fun s => by rw [ev]) (((ihi h.1).2.2 ρ).bind fun x => by
      obtain ⟨items, b⟩ := x
      dsimp only
      refine uni_ite ((Uni.compL (fun d => ?_) items []).bind fun _ => Uni.mk) Uni.nil
      split
      · refine Uni.bind ((ihc h.2.1).1 _) fun c => ?_
        split
        · refine Uni.bind ((ihe h.2.2).1 _) fun y => uni_ite Uni.nil Uni.mk
        · exact Uni.mk
        · exact Uni.nil
      · exact Uni.nil), fun ρ => nvs fun s => by simp only [evs], fun ρ => nvI fun s => by simp only [evI]⟩
  | itE a iha =>
    exact fun h => ⟨fun ρ => nev fun s => by rw [ev], fun ρ => nvs fun s => by simp only [evs], fun ρ => .congr (fun s => by rw [evI]) (((iha h).1 ρ).bind fun x => by
      split
      · exact Uni.mk
      · exact Uni.nil
      · exact Uni.lift)⟩
  | itRange es ih => exact fun h => ⟨fun ρ => nev fun s => by rw [ev], fun ρ => nvs fun s => by simp only [evs], fun ρ => .congr (fun s => by rw [evI]) (((ih h).2.1 ρ).bind fun x => Uni.lift)⟩
  | itZip a b iha ihb => exact fun h => ⟨fun ρ => nev fun s => by rw [ev], fun ρ => nvs fun s => by simp only [evs], fun ρ => .congr (fun s => by rw [evI]) (((iha h.1).1 ρ).bind fun x => ((ihb h.2).1 ρ).bind fun y => uni_ite Uni.nil Uni.lift)⟩
  | itEnum a iha => exact fun h => ⟨fun ρ => nev fun s => by rw [ev], fun ρ => nvs fun s => by simp only [evs], fun ρ => .congr (fun s => by rw [evI]) (((iha h).1 ρ).bind fun x => uni_ite Uni.nil Uni.lift)⟩
  | stAt i => exact fun h => h.elim
  | stLen i => exact fun h => h.elim
  | stCell i k ihk => exact fun h => h.elim
  | stLeft i k ihk => exact fun h => h.elim
/-! ### statements -/
inductive UniO (f : OSt → Out) : Prop
  | nx (ρ : Env) (h : ∀ s, f s = .nx ρ s)
  | rt (r : Rs) (h : ∀ s, f s = .rt r s)
  | bk (ρ : Env) (h : ∀ s, f s = .bk ρ s)
  | ct (ρ : Env) (h : ∀ s, f s = .ct ρ s)
  | exc (c : String) (d : D) (h : ∀ s, f s = .exc c d s)
  | no (h : ∀ s, f s = .no)
theorem UniO.congr {f g : OSt → Out} (e : ∀ s, f s = g s) (h : UniO g) : UniO f := by
  rw [show f = g from funext e]; exact h
def uniS : S → Prop
  | .seq a b => uniS a ∧ uniS b
  | .asg _ e => uniE e
  | .asgS _ e => uniE e
  | .asgT _ e => uniE e
  | .par _ es => uniE es
  | .app _ e => uniE e
  | .ext _ e => uniE e
  | .seti _ k e => uniE k ∧ uniE e
  | .expr e => uniE e
  | .ret e => uniE e
  | .ife c a b => uniE c ∧ uniS a ∧ uniS b
  | .for _ it b => uniE it ∧ uniS b
  | .whl _ c b => uniE c ∧ uniS b
  | .stPut _ _ => False
  | .stPutLeft _ _ _ => False
  | .raise _ e => uniE e
  | _ => True
theorem UniO.withV {r : OSt → R Rs} {f : Rs → OSt → Out} (h : Uni r) (g : ∀ a, UniO (f a)) : UniO (fun s => RS.withV (r s) f) := by
  cases h with
  | ok a e => exact .congr (fun s => by rw [e s]; exact rfl) (g a)
  | exc c d e => exact .exc c d fun s => by rw [e s]; rfl
  | no e => exact .no fun s => by rw [e s]; rfl
theorem UniO.outOf {o : Option Env} : UniO (RS.outOf o) := by
  cases o with
  | some ρ => exact .nx ρ fun _ => rfl
  | none => exact .no fun _ => rfl
theorem UniO.nil : UniO (fun _ => Out.no) := .no fun _ => rfl
theorem uno_ite {p : Prop} [Decidable p] {f g : OSt → Out} (hf : UniO f) (hg : UniO g) : UniO (fun s => if p then f s else g s) := by
  by_cases h : p
  · exact .congr (fun s => by rw [if_pos h]) hf
  · exact .congr (fun s => by rw [if_neg h]) hg
theorem UniO.forL {step : D → Env → OSt → Out} (h : ∀ d ρ, UniO (step d ρ)) : ∀ (l : List D) (ρ : Env), UniO (RS.forL step l ρ)
  | [], ρ => .nx ρ fun _ => rfl
  | d :: ds, ρ => by
    cases h d ρ with
    | nx ρ1 e => exact .congr (fun s => by rw [RS.forL, e s]) (UniO.forL h ds ρ1)
    | ct ρ1 e => exact .congr (fun s => by rw [RS.forL, e s]) (UniO.forL h ds ρ1)
    | bk ρ1 e => exact .nx ρ1 fun s => by rw [RS.forL, e s]
    | rt r e => exact .rt r fun s => by rw [RS.forL, e s]
    | exc c x e => exact .exc c x fun s => by rw [RS.forL, e s]
    | no e => exact .no fun s => by rw [RS.forL, e s]
theorem UniO.whlL {test : Env → OSt → R Rs} {body : Env → OSt → Out} (h : ∀ ρ, Uni (test ρ)) (g : ∀ ρ, UniO (body ρ)) : ∀ (n : Nat) (ρ : Env), UniO (RS.whlL test body n ρ)
  | 0, _ => .no fun _ => rfl
  | n + 1, ρ => by
    cases h ρ with
    | ok a e =>
      by_cases ht : a = .sh (.bl true)
      · subst ht
        cases g ρ with
        | nx ρ1 e2 => exact .congr (fun s => by rw [RS.whlL, e s]; simp only []; rw [e2 s]) (UniO.whlL h g n ρ1)
        | ct ρ1 e2 => exact .congr (fun s => by rw [RS.whlL, e s]; simp only []; rw [e2 s]) (UniO.whlL h g n ρ1)
        | bk ρ1 e2 => exact .nx ρ1 fun s => by rw [RS.whlL, e s]; simp only []; rw [e2 s]
        | rt r e2 => exact .rt r fun s => by rw [RS.whlL, e s]; simp only []; rw [e2 s]
        | exc c x e2 => exact .exc c x fun s => by rw [RS.whlL, e s]; simp only []; rw [e2 s]
        | no e2 => exact .no fun s => by rw [RS.whlL, e s]; simp only []; rw [e2 s]
      · by_cases hf : a = .sh (.bl false)
        · subst hf
          exact .nx ρ fun s => by rw [RS.whlL, e s]
        · refine .no fun s => ?_
          rw [RS.whlL, e s]
          split <;> simp_all
    | exc c d e => exact .exc c d fun s => by rw [RS.whlL, e s]
    | no e => exact .no fun s => by rw [RS.whlL, e s]
theorem uniS_ok (b : S) : uniS b → ∀ ρ, UniO (exS b ρ) := by
  induction b with
  | skip => exact fun _ ρ => .nx ρ fun s => by rw [exS]
  | seq a b iha ihb =>
    intro h ρ
    cases iha h.1 ρ with
    | nx ρ1 e => exact .congr (fun s => by rw [exS, e s]) (ihb h.2 ρ1)
    | ct ρ1 e => exact .ct ρ1 fun s => by rw [exS, e s]
    | bk ρ1 e => exact .bk ρ1 fun s => by rw [exS, e s]
    | rt r e => exact .rt r fun s => by rw [exS, e s]
    | exc c x e => exact .exc c x fun s => by rw [exS, e s]
    | no e => exact .no fun s => by rw [exS, e s]
  | asg i e => exact fun h ρ => .congr (fun s => by rw [exS]) (UniO.withV ((uniE_ok e h).1 ρ) fun _ => UniO.outOf)
  | asgS i e => exact fun h ρ => .congr (fun s => by rw [exS]) (UniO.withV ((uniE_ok e h).1 ρ) fun _ => uno_ite UniO.nil UniO.outOf)
  | asgT tg e => exact fun h ρ => .congr (fun s => by rw [exS]) (UniO.withV ((uniE_ok e h).1 ρ) fun _ => uno_ite UniO.nil UniO.outOf)
  | par is es =>
    intro h ρ
    cases (uniE_ok es h).2.1 ρ with
    | ok rs e => exact .congr (fun s => by rw [exS, e s]) UniO.outOf
    | exc c d e => exact .exc c d fun s => by rw [exS, e s]
    | no e => exact .no fun s => by rw [exS, e s]
  | app i e =>
    exact fun h ρ => .congr (fun s => by rw [exS]) (UniO.withV ((uniE_ok e h).1 ρ) fun r => by
      split
      · exact uno_ite (.nx _ fun _ => rfl) UniO.nil
      · exact UniO.nil)
  | ext i e =>
    exact fun h ρ => .congr (fun s => by rw [exS]) (UniO.withV ((uniE_ok e h).1 ρ) fun r => by
      split
      · split
        · exact uno_ite (.nx _ fun _ => rfl) UniO.nil
        · exact UniO.nil
      · exact UniO.nil)
  | seti i k e =>
    exact fun h ρ => .congr (fun s => by rw [exS]) (UniO.withV ((uniE_ok e h.2).1 ρ) fun r => UniO.withV ((uniE_ok k h.1).1 ρ) fun q => by
      split
      · split
        · exact uno_ite (.nx _ fun _ => rfl) UniO.nil
        · exact UniO.nil
      · exact UniO.nil)
  | expr e => exact fun h ρ => .congr (fun s => by rw [exS]) (UniO.withV ((uniE_ok e h).1 ρ) fun _ => .nx ρ fun _ => rfl)
  | ret e =>
    exact fun h ρ => .congr (fun s => by rw [exS]) (UniO.withV ((uniE_ok e h).1 ρ) fun r => by
      cases r with
      | bo i d => exact .rt (.fr d) fun _ => rfl
      | sh d => exact .rt (.sh d) fun _ => rfl
      | fr d => exact .rt (.fr d) fun _ => rfl)
  | ife c a b iha ihb =>
    exact fun h ρ => .congr (fun s => by rw [exS]) (UniO.withV ((uniE_ok c h.1).1 ρ) fun r => by
      split
      · exact iha h.2.1 ρ
      · exact ihb h.2.2 ρ
      · exact UniO.nil)
  | «for» tg it b ihb =>
    intro h ρ
    cases (uniE_ok it h.1).2.2 ρ with
    | ok p e =>
      obtain ⟨items, o⟩ := p
      cases o with
      | none =>
        refine .congr (fun s => by rw [exS, e s]) (UniO.forL (fun d ρ => ?_) items ρ)
        cases bindTg tg d ρ with
        | none => exact UniO.nil
        | some ρ1 => exact ihb h.2 ρ1
      | some _ => exact .no fun s => by rw [exS, e s]
    | exc c d e => exact .exc c d fun s => by rw [exS, e s]
    | no e => exact .no fun s => by rw [exS, e s]
  | whl n c b ihb => exact fun h ρ => .congr (fun s => by rw [exS]) (UniO.whlL (fun ρ => (uniE_ok c h.1).1 ρ) (fun ρ => ihb h.2 ρ) n ρ)
  | brk => exact fun _ ρ => .bk ρ fun s => by rw [exS]
  | cont => exact fun _ ρ => .ct ρ fun s => by rw [exS]
  | share i =>
    intro _ ρ
    refine .congr (fun s => by rw [exS]) ?_
    split
    · exact .nx _ fun _ => rfl
    · exact .nx _ fun _ => rfl
    · exact UniO.nil
  | never => exact fun _ ρ => .no fun s => by rw [exS]
  | raise c e => exact fun h ρ => .congr (fun s => by rw [exS]) (UniO.withV ((uniE_ok e h).1 ρ) fun r => uno_ite UniO.nil (.exc c r.d fun _ => rfl))
  | stPut i e => exact fun h => h.elim
  | stPutLeft i k e => exact fun h => h.elim
theorem UniO.endR {f : OSt → Out} (h : UniO f) : Uni (fun s => RS.endR (f s)) := by
  cases h with
  | nx ρ e => exact .ok (.sh .non) fun s => by rw [e s]; rfl
  | rt r e => exact .ok r fun s => by rw [e s]; rfl
  | bk ρ e => exact .no fun s => by rw [e s]; rfl
  | ct ρ e => exact .no fun s => by rw [e s]; rfl
  | exc c d e => exact .exc c d fun s => by rw [e s]; rfl
  | no e => exact .no fun s => by rw [e s]; rfl
theorem uni_fn {n p : Nat} {b : S} (h : uniS b) : UniF (evFn n p b) := fun ds => uni_ite (uniS_ok b h _).endR Uni.nil
theorem uni_no : UniF (fun _ _ => .no) := fun _ => Uni.nil
/-- the answer True, at whatever state -/
def isTrue : R Rs → Bool
  | .ok (.sh (.bl true)) _ => true
  | _ => false
def s0 : OSt := ⟨[], [], 0⟩
theorem Uni.yes {f : OSt → R Rs} (h : Uni f) (e : isTrue (f s0) = true) (s : OSt) : f s = .ok (.sh (.bl true)) s := by
  cases h with
  | ok a e1 =>
    rw [e1 s0] at e
    rw [e1 s]
    unfold isTrue at e
    split at e
    · rename_i h; cases h; rfl
    · cases e
  | exc c d e1 => rw [e1 s0] at e; cases e
  | no e1 => rw [e1 s0] at e; cases e
/-- what stands behind the first statements -/
def dropS : Nat → S → S
  | 0, b => b
  | n + 1, .seq _ b => dropS n b
  | _, b => b
end RS
namespace RS
/-! ### closed runs -/
def isNx : Out → Bool
  | .nx _ _ => true
  | _ => false
def envOf : Out → Env
  | .nx ρ _ => ρ
  | _ => []
def isOkR : R Rs → Bool
  | .ok _ _ => true
  | _ => false
def valOf : R Rs → Rs
  | .ok r _ => r
  | _ => .sh .non
theorem UniO.run {f : OSt → Out} (h : UniO f) (e : isNx (f s0) = true) (s : OSt) : f s = .nx (envOf (f s0)) s := by
  cases h with
  | nx ρ e1 => rw [e1 s, e1 s0]; rfl
  | rt r e1 => rw [e1 s0] at e; cases e
  | bk r e1 => rw [e1 s0] at e; cases e
  | ct r e1 => rw [e1 s0] at e; cases e
  | exc c d e1 => rw [e1 s0] at e; cases e
  | no e1 => rw [e1 s0] at e; cases e
theorem Uni.run {f : OSt → R Rs} (h : Uni f) (e : isOkR (f s0) = true) (s : OSt) : f s = .ok (valOf (f s0)) s := by
  cases h with
  | ok a e1 => rw [e1 s, e1 s0]; rfl
  | exc c d e1 => rw [e1 s0] at e; cases e
  | no e1 => rw [e1 s0] at e; cases e
theorem seq_run {a b : S} {ρ ρ1 : Env} {s s1 : OSt} (h : exS a ρ s = .nx ρ1 s1) : exS (.seq a b) ρ s = exS b ρ1 s1 := by rw [exS, h]
theorem isTrue_all {p : D → Bool} {l : List D} {d : D} (h : l.all p = true) (m : d ∈ l) : p d = true := List.all_eq_true.mp h d m
def listOf : Rs → List D
  | .fr (.lst l) => l
  | .sh (.lst l) => l
  | _ => []
end RS
end
section
set_option autoImplicit false
set_option maxRecDepth 100000
namespace RS
/-- where the def equal_from stands -/
abbrev M.AD_equal_from : Nat := 278
/-- where the def formula_minus stands -/
abbrev M.AD_formula_minus : Nat := 271
/-- where the def formula_plus stands -/
abbrev M.AD_formula_plus : Nat := 264
abbrev M.Llaw_heardPre : List D := [(.str [105, 115])]
abbrev M.Llaw_heardHs : List HC := [("BadParameter", 1, [(.con (.str [118, 97, 108, 117, 101])), .fld, (.isR "RisingError")]), ("RisingError", 1, [(.con (.str [97, 110, 111, 116, 104, 101, 114]))])]
def M.Llaw_mixedS : S := (.seq (.asgS 0 (.bin .mod (.prim .int (.cons (.var 0) .nil)) (.con (.int 2147483647))))
 (.seq (.ret (.bin .mod (.bin .mul (.bin .mod (.bin .add (.bin .add (.bin .mul (.var 0) (.bin .add (.con (.int 48271)) (.bin .mul (.bin .mul (.con (.int 2)) (.var 1)) (.var 1)))) (.bin .mul (.con (.int 69621)) (.var 1))) (.con (.int 11))) (.con (.int 2147483647))) (.con (.int 69621))) (.con (.int 2147483629))))
 .skip))
def M.Llaw_mixed : Fn := evFn 2 2 M.Llaw_mixedS
def M.Llaw_drawS : S := (.seq (.asgS 2 (.stAt 0))
 (.seq (.stPut 0 (.bin .add (.var 2) (.con (.int 1))))
 (.seq (.asgS 3 (.bin .mod (.prim .int (.cons (.var 2) .nil)) (.stLen 0)))
 (.seq (.asgS 4 (.stLeft 0 (.var 3)))
 (.seq (.ife (.cmp .gt (.var 4) (.con (.int 0)))
 (.seq (.stPutLeft 0 (.var 3) (.bin .fdiv (.var 4) (.var 1)))
 (.seq (.ret (.bin .mod (.prim .int (.cons (.var 4) .nil)) (.var 1)))
 .skip))
 .skip)
 (.seq (.asgS 5 (.call "_law_mixed" M.Llaw_mixed (.cons (.call "_law_mixed" M.Llaw_mixed (.cons (.stCell 0 (.var 3)) (.cons (.var 2) .nil))) (.cons (.bin .add (.con (.int 40)) (.var 2)) .nil))))
 (.seq (.ret (.bin .mod (.bin .fdiv (.prim .int (.cons (.bin .add (.bin .mul (.var 5) (.con (.int 2147483647))) (.call "_law_mixed" M.Llaw_mixed (.cons (.var 5) (.cons (.bin .add (.con (.int 7)) (.var 2)) .nil)))) .nil)) (.con (.int 64))) (.var 1)))
 .skip)))))))
def M.Llaw_draw : Fn := evFn 6 2 M.Llaw_drawS
def M.Llaw_ofS : S := (.seq (.ret (.idx (.var 1) (.call "_law_draw" M.Llaw_draw (.cons (.var 0) (.cons (.prim .len (.cons (.var 1) .nil)) .nil)))))
 .skip)
def M.Llaw_of : Fn := evFn 2 2 M.Llaw_ofS
def M.Llaw_likeS : S := (.seq (.ret (.reprEq (.var 0) (.var 1)))
 .skip)
def M.Llaw_like : Fn := evFn 2 2 M.Llaw_likeS
def M.sets_overS : S := (.seq (.asgS 2 (.con (.int 1)))
 (.seq (.for (.nm 3) (.itRange (.cons (.var 1) .nil))
 (.seq (.asgS 2 (.bin .fdiv (.bin .mul (.var 2) (.bin .sub (.var 0) (.var 3))) (.bin .add (.var 3) (.con (.int 1)))))
 .skip))
 (.seq (.ret (.var 2))
 .skip)))
def M.sets_over : Fn := evFn 4 2 M.sets_overS
def M.sum_atS : S := (.seq (.ret (.prim .sum (.cons (.comp [2, 3] (.tup (.cons (.nm 2) (.cons (.nm 3) .nil))) (.itEnum (.var 0)) .omit (.bin .mul (.var 3) (.call "sets_over" M.sets_over (.cons (.var 1) (.cons (.var 2) .nil))))) .nil)))
 .skip)
def M.sum_at : Fn := evFn 4 2 M.sum_atS
def M.lessenedS : S := (.seq (.asgS 2 (.prim .len (.cons (.var 0) .nil)))
 (.seq (.whl 1000000 (.and (.cmp .gt (.var 2) (.con (.int 0))) (.cmp .eq (.idx (.var 0) (.bin .sub (.var 2) (.con (.int 1)))) (.call "sum_at" M.sum_at (.cons (.var 1) (.cons (.bin .sub (.var 2) (.con (.int 1))) .nil)))))
 (.seq (.asgS 2 (.bin .sub (.var 2) (.con (.int 1))))
 .skip))
 (.seq (.ret (.tup (.cons (.prim .tuple (.cons (.slc (.var 0) .omit (.var 2)) .nil)) (.cons (.prim .tuple (.cons (.var 1) .nil)) .nil))))
 .skip)))
def M.lessened : Fn := evFn 3 2 M.lessenedS
def M.is_formulaS : S := (.seq (.ife (.or (.not (.prim .isTup (.cons (.var 0) .nil))) (.cmp .ne (.prim .len (.cons (.var 0) .nil)) (.con (.int 2))))
 (.seq (.ret (.con (.bl false)))
 .skip)
 .skip)
 (.seq (.asgT (.tup (.cons (.nm 1) (.cons (.nm 2) .nil))) (.var 0))
 (.seq (.ife (.or (.not (.prim .isTup (.cons (.var 1) .nil))) (.or (.not (.prim .isTup (.cons (.var 2) .nil))) (.or (.cmp .gt (.prim .len (.cons (.var 1) .nil)) (.glob "MOST_VALUES" (.int 400))) (.cmp .ne (.prim .len (.cons (.var 2) .nil)) (.con (.int 4))))))
 (.seq (.ret (.con (.bl false)))
 .skip)
 .skip)
 (.seq (.ife (.cmp .gt (.prim .len (.cons (.comp [3] (.nm 3) (.itE (.bin .add (.var 1) (.var 2))) (.or (.not (.prim .isInt (.cons (.var 3) .nil))) (.prim .isBool (.cons (.var 3) .nil))) (.con (.int 1))) .nil)) (.con (.int 0)))
 (.seq (.ret (.con (.bl false)))
 .skip)
 .skip)
 (.seq (.ret (.cmp .eq (.call "lessened" M.lessened (.cons (.var 1) (.cons (.var 2) .nil))) (.var 0)))
 .skip)))))
def M.is_formula : Fn := evFn 4 1 M.is_formulaS
def M.check_formulaS : S := (.seq (.ife (.not (.call "is_formula" M.is_formula (.cons (.var 0) .nil)))
 (.seq (.raise "BadParameter" (.var 0))
 .skip)
 .skip)
 (.seq (.ret (.var 0))
 .skip))
def M.check_formula : Fn := evFn 1 1 M.check_formulaS
def M.is_fromS : S := (.seq (.ret (.and (.prim .isInt (.cons (.var 0) .nil)) (.and (.not (.prim .isBool (.cons (.var 0) .nil))) (.chain .le .le (.var 1) (.var 0) (.var 2)))))
 .skip)
def M.is_from : Fn := evFn 3 3 M.is_fromS
def M.told_soS : S := (.seq (.ret (.ife (.cmp .lt (.var 1) (.prim .len (.cons (.idx (.var 0) (.con (.int 0))) .nil))) (.idx (.idx (.var 0) (.con (.int 0))) (.var 1)) (.call "sum_at" M.sum_at (.cons (.idx (.var 0) (.con (.int 1))) (.cons (.var 1) .nil)))))
 .skip)
def M.told_so : Fn := evFn 2 2 M.told_soS
def M.value_atS : S := (.seq (.expr (.callX "check_formula" M.check_formula (.cons (.var 0) .nil)))
 (.seq (.ife (.not (.call "is_from" M.is_from (.cons (.var 1) (.cons (.con (.int 0)) (.cons (.glob "MOST_MANY" (.int 1000000000000000000000000000000)) .nil)))))
 (.seq (.raise "BadParameter" (.var 1))
 .skip)
 .skip)
 (.seq (.ret (.call "told_so" M.told_so (.cons (.var 0) (.cons (.var 1) .nil))))
 .skip)))
def M.value_at : Fn := evFn 2 2 M.value_atS
def M.joined_byS : S := (.seq (.asgS 3 (.prim .max (.cons (.prim .len (.cons (.idx (.var 0) (.con (.int 0))) .nil)) (.cons (.prim .len (.cons (.idx (.var 1) (.con (.int 0))) .nil)) .nil))))
 (.seq (.asgS 4 (.comp [5] (.nm 5) (.itRange (.cons (.var 3) .nil)) .omit (.bin .add (.call "told_so" M.told_so (.cons (.var 0) (.cons (.var 5) .nil))) (.bin .mul (.var 2) (.call "told_so" M.told_so (.cons (.var 1) (.cons (.var 5) .nil)))))))
 (.seq (.ret (.call "lessened" M.lessened (.cons (.var 4) (.cons (.comp [6, 7] (.tup (.cons (.nm 6) (.cons (.nm 7) .nil))) (.itZip (.idx (.var 0) (.con (.int 1))) (.idx (.var 1) (.con (.int 1)))) .omit (.bin .add (.var 6) (.bin .mul (.var 2) (.var 7)))) .nil))))
 .skip)))
def M.joined_by : Fn := evFn 8 3 M.joined_byS
def M.plus_formulaS : S := (.seq (.ret (.call "joined_by" M.joined_by (.cons (.var 0) (.cons (.var 1) (.cons (.con (.int 1)) .nil)))))
 .skip)
def M.plus_formula : Fn := evFn 2 2 M.plus_formulaS
def M.formula_plusS : S := (.seq (.expr (.callX "check_formula" M.check_formula (.cons (.var 0) .nil)))
 (.seq (.ret (.call "plus_formula" M.plus_formula (.cons (.var 0) (.cons (.callX "check_formula" M.check_formula (.cons (.var 1) .nil)) .nil))))
 .skip))
def M.formula_plus : Fn := evFn 2 2 M.formula_plusS
def M.minus_formulaS : S := (.seq (.ret (.call "joined_by" M.joined_by (.cons (.var 0) (.cons (.var 1) (.cons (.neg (.con (.int 1))) .nil)))))
 .skip)
def M.minus_formula : Fn := evFn 2 2 M.minus_formulaS
def M.formula_minusS : S := (.seq (.expr (.callX "check_formula" M.check_formula (.cons (.var 0) .nil)))
 (.seq (.ret (.call "minus_formula" M.minus_formula (.cons (.var 0) (.cons (.callX "check_formula" M.check_formula (.cons (.var 1) .nil)) .nil))))
 .skip))
def M.formula_minus : Fn := evFn 2 2 M.formula_minusS
def M.equal_fromS : S := (.seq (.expr (.callX "check_formula" M.check_formula (.cons (.var 0) .nil)))
 (.seq (.ife (.cmp .ne (.idx (.callX "check_formula" M.check_formula (.cons (.var 1) .nil)) (.con (.int 1))) (.idx (.var 0) (.con (.int 1))))
 (.seq (.ret (.con .non))
 .skip)
 .skip)
 (.seq (.ret (.prim .len (.cons (.idx (.call "minus_formula" M.minus_formula (.cons (.var 0) (.cons (.var 1) .nil))) (.con (.int 0))) .nil)))
 .skip)))
def M.equal_from : Fn := evFn 2 2 M.equal_fromS
def M.Llaw_formulas_rightS : S := (.seq (.asgT (.tup (.cons (.nm 1) (.cons (.nm 2) .nil))) (.tup (.cons (.tup (.cons (.tup (.cons (.con (.int 0)) .nil)) (.cons (.tup (.cons (.con (.int 1)) (.cons (.neg (.con (.int 1))) (.cons (.con (.int 1)) (.cons (.con (.int 0)) .nil))))) .nil))) (.cons (.tup (.cons (.con (.int 0)) (.cons (.con (.int 0)) (.cons (.con (.int 0)) (.cons (.con (.int 0)) .nil))))) .nil))))
 (.seq (.asgS 3 (.lst (.cons (.con .non) (.cons (.tup .nil) (.cons (.tup (.cons (.tup (.cons (.con (.int 0)) .nil)) (.cons (.var 2) .nil))) (.cons (.tup (.cons (.tup .nil) (.cons (.tup (.cons (.con (.int 0)) (.cons (.con (.int 0)) (.cons (.con (.int 0)) .nil)))) .nil))) (.cons (.tup (.cons (.lst (.cons (.con (.int 1)) .nil)) (.cons (.var 2) .nil))) (.cons (.tup (.cons (.tup (.cons (.con (.int 1)) .nil)) (.cons (.prim .list (.cons (.var 2) .nil)) .nil))) (.cons (.tup (.cons (.tup (.cons (.con (.bl true)) .nil)) (.cons (.var 2) .nil))) .nil)))))))))
 (.seq (.asgS 3 (.bin .add (.var 3) (.lst (.cons (.tup (.cons (.tup (.cons (.con (.int 1)) .nil)) (.cons (.tup (.cons (.con (.int 0)) (.cons (.con (.int 0)) (.cons (.con (.int 0)) (.cons (.con (.bl true)) .nil))))) .nil))) (.cons (.tup (.cons (.bin .mul (.tup (.cons (.con (.int 1)) .nil)) (.con (.int 401))) (.cons (.var 2) .nil))) (.cons (.tup (.cons (.tup (.cons (.con (.int 1)) .nil)) (.cons (.var 2) (.cons (.tup .nil) .nil)))) (.cons (.tup (.cons (.con (.int 1)) (.cons (.var 2) .nil))) (.cons (.tup (.cons (.tup (.cons (.con (.str [49])) .nil)) (.cons (.var 2) .nil))) .nil))))))))
 (.seq (.asgS 3 (.bin .add (.var 3) (.lst (.cons (.tup (.cons (.tup (.cons (.con (.int 3)) (.cons (.con (.int 1)) .nil))) (.cons (.tup (.cons (.con (.int 1)) (.cons (.con (.int 0)) (.cons (.con (.int 0)) (.cons (.con (.int 0)) .nil))))) .nil))) (.cons (.con (.int 7)) .nil)))))
 (.seq (.asgT (.tup (.cons (.nm 4) (.cons (.nm 5) .nil))) (.tup (.cons (.call "_law_of" M.Llaw_of (.cons (.var 0) (.cons (.var 3) .nil))) (.cons (.call "_law_of" M.Llaw_of (.cons (.var 0) (.cons (.lst (.cons (.con .non) (.cons (.neg (.con (.int 1))) (.cons (.bin .add (.bin .pow (.con (.int 10)) (.con (.int 30))) (.con (.int 1))) (.cons (.con (.bl true)) (.cons (.con (.str [53])) (.cons (.tup (.cons (.con (.int 1)) .nil)) .nil))))))) .nil))) .nil))))
 (.seq (.asg 6 (.lst (.cons (.heard "_law_heard" 1 M.Llaw_heardPre M.Llaw_heardHs (.callX "value_at" M.value_at (.cons (.var 4) (.cons (.var 5) .nil)))) .nil)))
 (.seq (.app 6 (.heard "_law_heard" 1 M.Llaw_heardPre M.Llaw_heardHs (.callX "value_at" M.value_at (.cons (.var 1) (.cons (.var 5) .nil)))))
 (.seq (.for (.nm 7) (.itE (.tup (.cons (.glob "formula_plus" (.fn M.AD_formula_plus)) (.cons (.glob "formula_minus" (.fn M.AD_formula_minus)) (.cons (.glob "equal_from" (.fn M.AD_equal_from)) .nil)))))
 (.seq (.app 6 (.heard "_law_heard" 1 M.Llaw_heardPre M.Llaw_heardHs (.callV 7 [(M.AD_formula_plus, M.formula_plus), (M.AD_formula_minus, M.formula_minus), (M.AD_equal_from, M.equal_from)] (.cons (.var 4) (.cons (.con .non) .nil)))))
 (.seq (.app 6 (.heard "_law_heard" 1 M.Llaw_heardPre M.Llaw_heardHs (.callV 7 [(M.AD_formula_plus, M.formula_plus), (M.AD_formula_minus, M.formula_minus), (M.AD_equal_from, M.equal_from)] (.cons (.var 1) (.cons (.var 4) .nil)))))
 (.seq (.app 6 (.heard "_law_heard" 1 M.Llaw_heardPre M.Llaw_heardHs (.callVK 7 [(M.AD_formula_plus, M.formula_plus), (M.AD_formula_minus, M.formula_minus), (M.AD_equal_from, M.equal_from)] ["other", "one"] (.cons (.var 4) (.cons (.var 5) .nil)) [1, 0])))
 .skip))))
 (.seq (.asgS 8 (.lst (.cons (.tup (.cons (.con (.str [118, 97, 108, 117, 101])) (.cons (.var 4) (.cons (.con (.bl true)) .nil)))) (.cons (.tup (.cons (.con (.str [118, 97, 108, 117, 101])) (.cons (.var 5) (.cons (.con (.bl true)) .nil)))) .nil))))
 (.seq (.asgS 8 (.bin .add (.var 8) (.bin .mul (.lst (.cons (.tup (.cons (.con (.str [118, 97, 108, 117, 101])) (.cons (.var 4) (.cons (.con (.bl true)) .nil)))) (.cons (.tup (.cons (.con (.str [118, 97, 108, 117, 101])) (.cons (.var 4) (.cons (.con (.bl true)) .nil)))) (.cons (.tup (.cons (.con (.str [118, 97, 108, 117, 101])) (.cons (.var 5) (.cons (.con (.bl true)) .nil)))) .nil)))) (.con (.int 3)))))
 (.seq (.ife (.not (.call "_law_like" M.Llaw_like (.cons (.var 6) (.cons (.var 8) .nil))))
 (.seq (.ret (.con (.bl false)))
 .skip)
 .skip)
 (.seq (.asg 6 (.lst (.cons (.heard "_law_heard" 1 M.Llaw_heardPre M.Llaw_heardHs (.callX "value_at" M.value_at (.cons (.tup (.cons (.bin .mul (.tup (.cons (.con (.int 1)) .nil)) (.con (.int 400))) (.cons (.var 2) .nil))) (.cons (.con (.int 399)) .nil)))) .nil)))
 (.seq (.app 6 (.heard "_law_heard" 1 M.Llaw_heardPre M.Llaw_heardHs (.callX "value_at" M.value_at (.cons (.tup (.cons (.bin .mul (.tup (.cons (.con (.int 1)) .nil)) (.con (.int 400))) (.cons (.var 2) .nil))) (.cons (.bin .pow (.con (.int 10)) (.con (.int 30))) .nil)))))
 (.seq (.ret (.call "_law_like" M.Llaw_like (.cons (.var 6) (.cons (.lst (.cons (.tup (.cons (.con (.str [105, 115])) (.cons (.con (.int 1)) .nil))) (.cons (.tup (.cons (.con (.str [105, 115])) (.cons (.con (.int 0)) .nil))) .nil))) .nil))))
 .skip))))))))))))))
def M.Llaw_formulas_right : Fn := evFn 9 1 M.Llaw_formulas_rightS
def M.reaches_soS : S := (.seq (.ret (.cmp .eq (.prim .len (.cons (.comp [2, 3] (.tup (.cons (.nm 2) (.cons (.nm 3) .nil))) (.itZip (.var 0) (.var 1)) (.cmp .gt (.var 2) (.var 3)) (.con (.int 1))) .nil)) (.con (.int 0))))
 .skip)
def M.reaches_so : Fn := evFn 4 2 M.reaches_soS
def M.least_soS : S := (.seq (.asg 1 (.lst .nil))
 (.seq (.for (.nm 2) (.itE (.prim .sortedSet (.cons (.var 0) .nil)))
 (.seq (.ife (.cmp .eq (.prim .len (.cons (.comp [3] (.nm 3) (.itE (.var 1)) (.call "reaches_so" M.reaches_so (.cons (.var 3) (.cons (.var 2) .nil))) (.con (.int 1))) .nil)) (.con (.int 0)))
 (.seq (.app 1 (.var 2))
 .skip)
 .skip)
 .skip))
 (.seq (.ret (.prim .tuple (.cons (.var 1) .nil)))
 .skip)))
def M.least_so : Fn := evFn 4 1 M.least_soS
def M.is_gapsS : S := (.seq (.ife (.or (.not (.prim .isTup (.cons (.var 0) .nil))) (.not (.chain .le .le (.con (.int 1)) (.prim .len (.cons (.var 0) .nil)) (.con (.int 4)))))
 (.seq (.ret (.con (.bl false)))
 .skip)
 .skip)
 (.seq (.ret (.cmp .eq (.prim .len (.cons (.comp [1] (.nm 1) (.itE (.var 0)) (.not (.call "is_from" M.is_from (.cons (.var 1) (.cons (.con (.int 0)) (.cons (.glob "MOST_PLACES_gaps" (.int 40)) .nil))))) (.con (.int 1))) .nil)) (.con (.int 0))))
 .skip))
def M.is_gaps : Fn := evFn 2 1 M.is_gapsS
def M.check_rowsS : S := (.seq (.ife (.or (.not (.prim .isTup (.cons (.var 0) .nil))) (.or (.cmp .gt (.prim .len (.cons (.var 0) .nil)) (.glob "MOST_ROWS" (.int 60))) (.cmp .gt (.prim .len (.cons (.comp [1] (.nm 1) (.itE (.var 0)) (.not (.call "is_gaps" M.is_gaps (.cons (.var 1) .nil))) (.con (.int 1))) .nil)) (.con (.int 0)))))
 (.seq (.raise "BadParameter" (.var 0))
 .skip)
 .skip)
 (.seq (.ife (.cmp .gt (.prim .len (.cons (.comp [1] (.nm 1) (.itE (.var 0)) (.or (.cmp .ne (.prim .len (.cons (.var 1) .nil)) (.prim .len (.cons (.idx (.var 0) (.con (.int 0))) .nil))) (.cmp .gt (.prim .max (.cons (.var 1) .nil)) (.glob "MOST_GAP" (.int 12)))) (.con (.int 1))) .nil)) (.con (.int 0)))
 (.seq (.raise "BadParameter" (.var 0))
 .skip)
 .skip)
 (.seq (.ret (.var 0))
 .skip)))
def M.check_rows : Fn := evFn 2 1 M.check_rowsS
def M.least_rowsS : S := (.seq (.ret (.call "least_so" M.least_so (.cons (.callX "check_rows" M.check_rows (.cons (.var 0) .nil)) .nil)))
 .skip)
def M.least_rows : Fn := evFn 1 1 M.least_rowsS
def M.joined_soS : S := (.seq (.asgS 1 (.idx (.var 0) (.con (.int 0))))
 (.seq (.for (.nm 2) (.itE (.var 0))
 (.seq (.asgS 1 (.prim .tuple (.cons (.comp [3, 4] (.tup (.cons (.nm 3) (.cons (.nm 4) .nil))) (.itZip (.var 1) (.var 2)) .omit (.prim .max (.cons (.var 3) (.cons (.var 4) .nil)))) .nil)))
 .skip))
 (.seq (.ret (.var 1))
 .skip)))
def M.joined_so : Fn := evFn 5 1 M.joined_soS
def M.joinedS : S := (.seq (.ife (.cmp .eq (.prim .len (.cons (.callX "check_rows" M.check_rows (.cons (.var 0) .nil)) .nil)) (.con (.int 0)))
 (.seq (.raise "BadParameter" (.var 0))
 .skip)
 .skip)
 (.seq (.ret (.call "joined_so" M.joined_so (.cons (.var 0) .nil)))
 .skip))
def M.joined : Fn := evFn 1 1 M.joinedS
def M.check_arityS : S := (.seq (.ife (.or (.not (.call "is_from" M.is_from (.cons (.var 1) (.cons (.con (.int 0)) (.cons (.con (.int 3)) .nil))))) (.cmp .gt (.prim .len (.cons (.comp [2] (.nm 2) (.itE (.var 0)) (.cmp .ne (.prim .len (.cons (.var 2) .nil)) (.bin .add (.var 1) (.con (.int 1)))) (.con (.int 1))) .nil)) (.con (.int 0))))
 (.seq (.raise "BadParameter" (.var 1))
 .skip)
 .skip)
 (.seq (.ret (.var 1))
 .skip))
def M.check_arity : Fn := evFn 3 2 M.check_arityS
def M.sets_soS : S := (.seq (.asgS 2 (.lst (.cons (.tup .nil) .nil)))
 (.seq (.for (.nm 3) (.itRange (.cons (.var 1) .nil))
 (.seq (.asg 4 (.lst .nil))
 (.seq (.for (.nm 5) (.itE (.var 2))
 (.seq (.asgS 6 (.ife (.cmp .gt (.prim .len (.cons (.var 5) .nil)) (.con (.int 0))) (.bin .add (.idx (.var 5) (.neg (.con (.int 1)))) (.con (.int 1))) (.con (.int 0))))
 (.seq (.ext 4 (.comp [7] (.nm 7) (.itRange (.cons (.var 6) (.cons (.var 0) .nil))) .omit (.bin .add (.var 5) (.tup (.cons (.var 7) .nil)))))
 .skip)))
 (.seq (.share 4)
 (.seq (.asgS 2 (.var 4))
 .skip)))))
 (.seq (.ret (.var 2))
 .skip)))
def M.sets_so : Fn := evFn 8 2 M.sets_soS
def M.gaps_soS : S := (.seq (.asgS 2 (.bin .add (.bin .add (.tup (.cons (.neg (.con (.int 1))) .nil)) (.prim .tuple (.cons (.var 1) .nil))) (.tup (.cons (.var 0) .nil))))
 (.seq (.ret (.prim .tuple (.cons (.comp [3, 4] (.tup (.cons (.nm 3) (.cons (.nm 4) .nil))) (.itZip (.var 2) (.slc (.var 2) (.con (.int 1)) .omit)) .omit (.bin .sub (.bin .sub (.var 4) (.var 3)) (.con (.int 1)))) .nil)))
 .skip))
def M.gaps_so : Fn := evFn 5 2 M.gaps_soS
def M.counted_soS : S := (.seq (.asgS 3 (.con (.int 0)))
 (.seq (.for (.nm 4) (.itE (.call "sets_so" M.sets_so (.cons (.var 2) (.cons (.var 1) .nil))))
 (.seq (.asgS 5 (.call "gaps_so" M.gaps_so (.cons (.var 2) (.cons (.var 4) .nil))))
 (.seq (.ife (.cmp .gt (.prim .len (.cons (.comp [6] (.nm 6) (.itE (.var 0)) (.call "reaches_so" M.reaches_so (.cons (.var 6) (.cons (.var 5) .nil))) (.con (.int 1))) .nil)) (.con (.int 0)))
 (.seq (.asgS 3 (.bin .add (.var 3) (.con (.int 1))))
 .skip)
 .skip)
 .skip)))
 (.seq (.ret (.var 3))
 .skip)))
def M.counted_so : Fn := evFn 7 3 M.counted_soS
def M.countedS : S := (.seq (.expr (.callX "check_arity" M.check_arity (.cons (.callX "check_rows" M.check_rows (.cons (.var 0) .nil)) (.cons (.var 1) .nil))))
 (.seq (.ife (.not (.call "is_from" M.is_from (.cons (.var 2) (.cons (.con (.int 0)) (.cons (.glob "MOST_COUNTED" (.int 20)) .nil)))))
 (.seq (.raise "BadParameter" (.var 2))
 .skip)
 .skip)
 (.seq (.ret (.call "counted_so" M.counted_so (.cons (.var 0) (.cons (.var 1) (.cons (.var 2) .nil)))))
 .skip)))
def M.counted : Fn := evFn 3 3 M.countedS
def M.differencesS : S := (.seq (.par [1, 2] (.cons (.lst .nil) (.cons (.prim .list (.cons (.var 0) .nil)) .nil)))
 (.seq (.share 2)
 (.seq (.whl 1000000 (.cmp .gt (.prim .len (.cons (.var 2) .nil)) (.con (.int 0)))
 (.seq (.app 1 (.idx (.var 2) (.con (.int 0))))
 (.seq (.asgS 2 (.comp [3, 4] (.tup (.cons (.nm 3) (.cons (.nm 4) .nil))) (.itZip (.var 2) (.slc (.var 2) (.con (.int 1)) .omit)) .omit (.bin .sub (.var 4) (.var 3))))
 .skip)))
 (.seq (.ret (.var 1))
 .skip))))
def M.differences : Fn := evFn 5 1 M.differencesS
def M.shiftedS : S := (.seq (.asgT (.tup (.cons (.nm 2) (.cons (.nm 3) .nil))) (.var 0))
 (.seq (.asgS 4 (.call "differences" M.differences (.cons (.comp [5] (.nm 5) (.itRange (.cons (.con (.int 4)) .nil)) .omit (.call "sum_at" M.sum_at (.cons (.var 3) (.cons (.bin .sub (.var 5) (.var 1)) .nil)))) .nil)))
 (.seq (.ret (.call "lessened" M.lessened (.cons (.bin .add (.bin .mul (.lst (.cons (.con (.int 0)) .nil)) (.var 1)) (.prim .list (.cons (.var 2) .nil))) (.cons (.var 4) .nil))))
 .skip)))
def M.shifted : Fn := evFn 6 2 M.shiftedS
def M.summedS : S := (.seq (.asgT (.tup (.cons (.nm 1) (.cons (.nm 2) .nil))) (.var 0))
 (.seq (.asg 3 (.lst (.cons (.con (.int 0)) .nil)))
 (.seq (.for (.nm 4) (.itE (.var 1))
 (.seq (.app 3 (.bin .add (.idx (.var 3) (.neg (.con (.int 1)))) (.var 4)))
 .skip))
 (.seq (.asg 5 (.bin .add (.lst (.cons (.con (.int 0)) .nil)) (.prim .list (.cons (.slc (.var 2) .omit (.con (.int 3))) .nil))))
 (.seq (.seti 5 (.con (.int 0)) (.bin .sub (.idx (.var 3) (.neg (.con (.int 1)))) (.call "sum_at" M.sum_at (.cons (.var 5) (.cons (.prim .len (.cons (.var 1) .nil)) .nil)))))
 (.seq (.ret (.call "lessened" M.lessened (.cons (.slc (.var 3) .omit (.neg (.con (.int 1)))) (.cons (.var 5) .nil))))
 .skip))))))
def M.summed : Fn := evFn 6 1 M.summedS
def M.formula_soS (me : Fn) : S := (.seq (.ife (.cmp .eq (.prim .len (.cons (.var 0) .nil)) (.con (.int 0)))
 (.seq (.ret (.glob "NOTHING" (.tup [(.tup []), (.tup [(.int 0), (.int 0), (.int 0), (.int 0)])])))
 .skip)
 .skip)
 (.seq (.ife (.cmp .eq (.var 1) (.con (.int 0)))
 (.seq (.asgS 2 (.prim .min (.cons (.comp [3] (.nm 3) (.itE (.var 0)) .omit (.idx (.var 3) (.con (.int 0)))) .nil)))
 (.seq (.ret (.call "lessened" M.lessened (.cons (.bin .mul (.lst (.cons (.con (.int 0)) .nil)) (.var 2)) (.cons (.lst (.cons (.con (.int 1)) (.cons (.con (.int 0)) (.cons (.con (.int 0)) (.cons (.con (.int 0)) .nil))))) .nil))))
 .skip))
 .skip)
 (.seq (.asgS 4 (.prim .max (.cons (.comp [3] (.nm 3) (.itE (.var 0)) .omit (.idx (.var 3) (.neg (.con (.int 1))))) .nil)))
 (.seq (.asgS 5 (.call "shifted" M.shifted (.cons (.call "summed" M.summed (.cons (.call "formula_so" me (.cons (.call "least_so" M.least_so (.cons (.comp [3] (.nm 3) (.itE (.var 0)) .omit (.slc (.var 3) .omit (.neg (.con (.int 1))))) .nil)) (.cons (.bin .sub (.var 1) (.con (.int 1))) .nil))) .nil)) (.cons (.var 4) .nil))))
 (.seq (.for (.nm 6) (.itRange (.cons (.var 4) .nil))
 (.seq (.asgS 7 (.call "least_so" M.least_so (.cons (.comp [3] (.nm 3) (.itE (.var 0)) (.cmp .le (.idx (.var 3) (.neg (.con (.int 1)))) (.var 6)) (.slc (.var 3) .omit (.neg (.con (.int 1))))) .nil)))
 (.seq (.asgS 5 (.call "plus_formula" M.plus_formula (.cons (.var 5) (.cons (.call "shifted" M.shifted (.cons (.call "formula_so" me (.cons (.var 7) (.cons (.bin .sub (.var 1) (.con (.int 1))) .nil))) (.cons (.bin .add (.var 6) (.con (.int 1))) .nil))) .nil))))
 .skip)))
 (.seq (.ret (.var 5))
 .skip))))))
def M.formula_so_ : Nat → Fn
  | 0 => fun _ _ => .no
  | n + 1 => evFn 8 2 (M.formula_soS (M.formula_so_ n))
def M.formula_so : Fn := M.formula_so_ 5
def M.formula_ofS : S := (.seq (.ret (.call "formula_so" M.formula_so (.cons (.callX "check_rows" M.check_rows (.cons (.var 0) .nil)) (.cons (.callX "check_arity" M.check_arity (.cons (.var 0) (.cons (.var 1) .nil))) .nil))))
 .skip)
def M.formula_of : Fn := evFn 2 2 M.formula_ofS
def M.Llaw_rows_rightS : S := (.seq (.asgT (.tup (.cons (.nm 1) (.cons (.nm 2) .nil))) (.tup (.cons (.tup (.cons (.tup (.cons (.con (.int 1)) (.cons (.con (.int 0)) .nil))) (.cons (.tup (.cons (.con (.int 0)) (.cons (.con (.int 2)) .nil))) .nil))) (.cons (.bin .mul (.tup (.cons (.tup (.cons (.con (.int 0)) (.cons (.con (.int 12)) .nil))) .nil)) (.con (.int 60))) .nil))))
 (.seq (.asgS 3 (.call "_law_of" M.Llaw_of (.cons (.var 0) (.cons (.lst (.cons (.con .non) (.cons (.tup (.cons (.tup (.cons (.con (.int 1)) (.cons (.con (.int 0)) .nil))) (.cons (.tup (.cons (.con (.int 0)) .nil)) .nil))) (.cons (.tup (.cons (.tup (.cons (.con (.int 1)) (.cons (.con (.int 0)) .nil))) (.cons (.con .non) .nil))) (.cons (.lst (.cons (.tup (.cons (.con (.int 1)) (.cons (.con (.int 0)) .nil))) .nil)) (.cons (.tup (.cons (.tup (.cons (.con (.int 13)) (.cons (.con (.int 0)) .nil))) .nil)) (.cons (.tup (.cons (.tup (.cons (.con (.int 0)) (.cons (.neg (.con (.int 1))) .nil))) .nil)) (.cons (.bin .add (.var 2) (.slc (.var 2) .omit (.con (.int 1)))) (.cons (.con (.int 5)) .nil))))))))) .nil))))
 (.seq (.asgS 4 (.call "_law_of" M.Llaw_of (.cons (.var 0) (.cons (.lst (.cons (.con .non) (.cons (.neg (.con (.int 1))) (.cons (.con (.int 4)) (.cons (.con (.bl true)) (.cons (.con (.int 0)) (.cons (.con (.int 2)) (.cons (.con (.int 3)) (.cons (.con (.str [49])) .nil))))))))) .nil))))
 (.seq (.asgS 5 (.call "_law_of" M.Llaw_of (.cons (.var 0) (.cons (.lst (.cons (.con .non) (.cons (.neg (.con (.int 1))) (.cons (.con (.int 21)) (.cons (.con (.bl true)) (.cons (.con (.str [50])) (.cons (.bin .pow (.con (.int 10)) (.con (.int 30))) .nil))))))) .nil))))
 (.seq (.asg 6 (.lst (.cons (.heard "_law_heard" 1 M.Llaw_heardPre M.Llaw_heardHs (.callX "least_rows" M.least_rows (.cons (.var 3) .nil))) .nil)))
 (.seq (.app 6 (.heard "_law_heard" 1 M.Llaw_heardPre M.Llaw_heardHs (.callX "joined" M.joined (.cons (.var 3) .nil))))
 (.seq (.app 6 (.heard "_law_heard" 1 M.Llaw_heardPre M.Llaw_heardHs (.callX "joined" M.joined (.cons (.tup .nil) .nil))))
 (.seq (.app 6 (.heard "_law_heard" 1 M.Llaw_heardPre M.Llaw_heardHs (.callX "counted" M.counted (.cons (.var 3) (.cons (.var 4) (.cons (.var 5) .nil))))))
 (.seq (.app 6 (.heard "_law_heard" 1 M.Llaw_heardPre M.Llaw_heardHs (.callX "counted" M.counted (.cons (.var 1) (.cons (.var 4) (.cons (.var 5) .nil))))))
 (.seq (.app 6 (.heard "_law_heard" 1 M.Llaw_heardPre M.Llaw_heardHs (.callX "counted" M.counted (.cons (.var 1) (.cons (.con (.int 1)) (.cons (.var 5) .nil))))))
 (.seq (.app 6 (.heard "_law_heard" 1 M.Llaw_heardPre M.Llaw_heardHs (.callX "formula_of" M.formula_of (.cons (.var 3) (.cons (.var 4) .nil)))))
 (.seq (.app 6 (.heard "_law_heard" 1 M.Llaw_heardPre M.Llaw_heardHs (.callX "formula_of" M.formula_of (.cons (.var 1) (.cons (.var 4) .nil)))))
 (.seq (.asgS 7 (.comp [8] (.nm 8) (.itE (.tup (.cons (.var 3) (.cons (.var 3) (.cons (.tup .nil) (.cons (.var 3) (.cons (.var 4) (.cons (.var 5) (.cons (.var 3) (.cons (.var 4) .nil)))))))))) .omit (.tup (.cons (.con (.str [118, 97, 108, 117, 101])) (.cons (.var 8) (.cons (.con (.bl true)) .nil))))))
 (.seq (.ife (.not (.call "_law_like" M.Llaw_like (.cons (.var 6) (.cons (.var 7) .nil))))
 (.seq (.ret (.con (.bl false)))
 .skip)
 .skip)
 (.seq (.asg 6 (.lst (.cons (.heard "_law_heard" 1 M.Llaw_heardPre M.Llaw_heardHs (.callX "least_rows" M.least_rows (.cons (.var 2) .nil))) (.cons (.tup (.cons (.con (.str [105, 115])) (.cons (.con (.int 0)) .nil))) .nil))))
 (.seq (.seti 6 (.con (.int 1)) (.heard "_law_heard" 1 M.Llaw_heardPre M.Llaw_heardHs (.callX "counted" M.counted (.cons (.var 2) (.cons (.con (.int 1)) (.cons (.con (.int 20)) .nil))))))
 (.seq (.ret (.call "_law_like" M.Llaw_like (.cons (.var 6) (.cons (.lst (.cons (.tup (.cons (.con (.str [105, 115])) (.cons (.tup (.cons (.tup (.cons (.con (.int 0)) (.cons (.con (.int 12)) .nil))) .nil)) .nil))) (.cons (.tup (.cons (.con (.str [105, 115])) (.cons (.con (.int 8)) .nil))) .nil))) .nil))))
 .skip)))))))))))))))))
def M.Llaw_rows_right : Fn := evFn 9 1 M.Llaw_rows_rightS
def M.is_placesS : S := (.seq (.ife (.or (.not (.prim .isTup (.cons (.var 0) .nil))) (.cmp .gt (.prim .len (.cons (.var 0) .nil)) (.con (.int 3))))
 (.seq (.ret (.con (.bl false)))
 .skip)
 .skip)
 (.seq (.ife (.cmp .gt (.prim .len (.cons (.comp [2] (.nm 2) (.itE (.var 0)) (.not (.call "is_from" M.is_from (.cons (.var 2) (.cons (.con (.int 0)) (.cons (.bin .sub (.var 1) (.con (.int 1))) .nil))))) (.con (.int 1))) .nil)) (.con (.int 0)))
 (.seq (.ret (.con (.bl false)))
 .skip)
 .skip)
 (.seq (.ret (.cmp .eq (.prim .len (.cons (.comp [3, 4] (.tup (.cons (.nm 3) (.cons (.nm 4) .nil))) (.itZip (.var 0) (.slc (.var 0) (.con (.int 1)) .omit)) (.cmp .ge (.var 3) (.var 4)) (.con (.int 1))) .nil)) (.con (.int 0))))
 .skip)))
def M.is_places : Fn := evFn 5 2 M.is_placesS
def M.check_manyS : S := (.seq (.ife (.not (.call "is_from" M.is_from (.cons (.var 0) (.cons (.con (.int 0)) (.cons (.glob "MOST_PLACES_sayings" (.int 40)) .nil)))))
 (.seq (.raise "BadParameter" (.var 0))
 .skip)
 .skip)
 (.seq (.ret (.var 0))
 .skip))
def M.check_many : Fn := evFn 1 1 M.check_manyS
def M.gaps_ofS : S := (.seq (.ife (.not (.call "is_places" M.is_places (.cons (.var 1) (.cons (.callX "check_many" M.check_many (.cons (.var 0) .nil)) .nil))))
 (.seq (.raise "BadParameter" (.var 1))
 .skip)
 .skip)
 (.seq (.ret (.call "gaps_so" M.gaps_so (.cons (.var 0) (.cons (.var 1) .nil))))
 .skip))
def M.gaps_of : Fn := evFn 2 2 M.gaps_ofS
def M.check_gapsS : S := (.seq (.ife (.not (.call "is_gaps" M.is_gaps (.cons (.var 0) .nil)))
 (.seq (.raise "BadParameter" (.var 0))
 .skip)
 .skip)
 (.seq (.ret (.var 0))
 .skip))
def M.check_gaps : Fn := evFn 1 1 M.check_gapsS
def M.places_ofS : S := (.seq (.asgS 1 (.bin .sub (.bin .add (.prim .sum (.cons (.callX "check_gaps" M.check_gaps (.cons (.var 0) .nil)) .nil)) (.prim .len (.cons (.var 0) .nil))) (.con (.int 1))))
 (.seq (.ife (.cmp .gt (.var 1) (.glob "MOST_PLACES_gaps" (.int 40)))
 (.seq (.raise "BadParameter" (.var 0))
 .skip)
 .skip)
 (.seq (.asg 2 (.lst .nil))
 (.seq (.for (.nm 3) (.itE (.slc (.var 0) .omit (.neg (.con (.int 1)))))
 (.seq (.app 2 (.bin .add (.ife (.cmp .gt (.prim .len (.cons (.var 2) .nil)) (.con (.int 0))) (.bin .add (.idx (.var 2) (.neg (.con (.int 1)))) (.con (.int 1))) (.con (.int 0))) (.var 3)))
 .skip))
 (.seq (.ret (.tup (.cons (.var 1) (.cons (.prim .tuple (.cons (.var 2) .nil)) .nil))))
 .skip)))))
def M.places_of : Fn := evFn 4 1 M.places_ofS
def M.reachesS : S := (.seq (.expr (.callX "check_gaps" M.check_gaps (.cons (.var 0) .nil)))
 (.seq (.ife (.cmp .ne (.prim .len (.cons (.callX "check_gaps" M.check_gaps (.cons (.var 1) .nil)) .nil)) (.prim .len (.cons (.var 0) .nil)))
 (.seq (.raise "BadParameter" (.var 1))
 .skip)
 .skip)
 (.seq (.ret (.call "reaches_so" M.reaches_so (.cons (.var 0) (.cons (.var 1) .nil))))
 .skip)))
def M.reaches : Fn := evFn 2 2 M.reachesS
def M.Llaw_gaps_rightS : S := (.seq (.asgS 1 (.call "_law_of" M.Llaw_of (.cons (.var 0) (.cons (.lst (.cons (.con .non) (.cons (.neg (.con (.int 1))) (.cons (.con (.int 41)) (.cons (.con (.bl true)) (.cons (.con (.str [51])) (.cons (.tup (.cons (.con (.int 3)) .nil)) (.cons (.lst (.cons (.con (.int 3)) .nil)) .nil)))))))) .nil))))
 (.seq (.asgS 2 (.call "_law_of" M.Llaw_of (.cons (.var 0) (.cons (.lst (.cons (.con .non) (.cons (.lst (.cons (.con (.int 0)) .nil)) (.cons (.tup (.cons (.con (.int 0)) (.cons (.con (.int 0)) .nil))) (.cons (.tup (.cons (.con (.int 1)) (.cons (.con (.int 0)) .nil))) (.cons (.tup (.cons (.con (.int 3)) .nil)) (.cons (.tup (.cons (.neg (.con (.int 1))) .nil)) (.cons (.tup (.cons (.con (.bl true)) .nil)) (.cons (.tup (.cons (.con (.str [48])) .nil)) (.cons (.tup (.cons (.con (.int 0)) (.cons (.con (.int 1)) (.cons (.con (.int 2)) (.cons (.con (.int 3)) .nil))))) (.cons (.con (.int 0)) .nil))))))))))) .nil))))
 (.seq (.asgS 3 (.call "_law_of" M.Llaw_of (.cons (.var 0) (.cons (.lst (.cons (.con .non) (.cons (.tup .nil) (.cons (.bin .mul (.tup (.cons (.con (.int 0)) .nil)) (.con (.int 5))) (.cons (.tup (.cons (.neg (.con (.int 1))) .nil)) (.cons (.tup (.cons (.con (.int 41)) .nil)) (.cons (.tup (.cons (.con (.bl true)) (.cons (.con (.int 0)) .nil))) (.cons (.lst (.cons (.con (.int 0)) (.cons (.con (.int 1)) .nil))) (.cons (.tup (.cons (.con (.str [48])) .nil)) (.cons (.con (.int 3)) (.cons (.tup (.cons (.tup (.cons (.con (.int 0)) .nil)) .nil)) .nil))))))))))) .nil))))
 (.seq (.asg 4 (.lst (.cons (.heard "_law_heard" 1 M.Llaw_heardPre M.Llaw_heardHs (.callX "gaps_of" M.gaps_of (.cons (.var 1) (.cons (.var 2) .nil)))) .nil)))
 (.seq (.app 4 (.heard "_law_heard" 1 M.Llaw_heardPre M.Llaw_heardHs (.callX "gaps_of" M.gaps_of (.cons (.con (.int 3)) (.cons (.var 2) .nil)))))
 (.seq (.app 4 (.heard "_law_heard" 1 M.Llaw_heardPre M.Llaw_heardHs (.callX "places_of" M.places_of (.cons (.var 3) .nil))))
 (.seq (.app 4 (.heard "_law_heard" 1 M.Llaw_heardPre M.Llaw_heardHs (.callX "reaches" M.reaches (.cons (.var 3) (.cons (.var 1) .nil)))))
 (.seq (.app 4 (.heard "_law_heard" 1 M.Llaw_heardPre M.Llaw_heardHs (.callX "reaches" M.reaches (.cons (.tup (.cons (.con (.int 0)) (.cons (.con (.int 1)) .nil))) (.cons (.var 3) .nil)))))
 (.seq (.app 4 (.heard "_law_heard" 1 M.Llaw_heardPre M.Llaw_heardHs (.callX "reaches" M.reaches (.cons (.tup (.cons (.con (.int 0)) (.cons (.con (.int 1)) .nil))) (.cons (.tup (.cons (.con (.int 0)) (.cons (.con (.int 1)) (.cons (.con (.int 2)) .nil)))) .nil)))))
 (.seq (.asgS 5 (.lst (.cons (.tup (.cons (.con (.str [118, 97, 108, 117, 101])) (.cons (.var 1) (.cons (.con (.bl true)) .nil)))) (.cons (.tup (.cons (.con (.str [118, 97, 108, 117, 101])) (.cons (.var 2) (.cons (.con (.bl true)) .nil)))) (.cons (.tup (.cons (.con (.str [118, 97, 108, 117, 101])) (.cons (.var 3) (.cons (.con (.bl true)) .nil)))) (.cons (.tup (.cons (.con (.str [118, 97, 108, 117, 101])) (.cons (.var 3) (.cons (.con (.bl true)) .nil)))) .nil))))))
 (.seq (.asgS 5 (.bin .add (.var 5) (.lst (.cons (.tup (.cons (.con (.str [118, 97, 108, 117, 101])) (.cons (.var 3) (.cons (.con (.bl true)) .nil)))) (.cons (.tup (.cons (.con (.str [118, 97, 108, 117, 101])) (.cons (.tup (.cons (.con (.int 0)) (.cons (.con (.int 1)) (.cons (.con (.int 2)) .nil)))) (.cons (.con (.bl true)) .nil)))) .nil)))))
 (.seq (.ife (.not (.call "_law_like" M.Llaw_like (.cons (.var 4) (.cons (.var 5) .nil))))
 (.seq (.ret (.con (.bl false)))
 .skip)
 .skip)
 (.seq (.asg 4 (.lst (.cons (.heard "_law_heard" 1 M.Llaw_heardPre M.Llaw_heardHs (.callX "places_of" M.places_of (.cons (.tup (.cons (.con (.int 20)) (.cons (.con (.int 20)) .nil))) .nil))) .nil)))
 (.seq (.app 4 (.heard "_law_heard" 1 M.Llaw_heardPre M.Llaw_heardHs (.callX "places_of" M.places_of (.cons (.tup (.cons (.con (.int 20)) (.cons (.con (.int 19)) .nil))) .nil))))
 (.seq (.app 4 (.heard "_law_heard" 1 M.Llaw_heardPre M.Llaw_heardHs (.callX "places_of" M.places_of (.cons (.tup (.cons (.con (.int 40)) .nil)) .nil))))
 (.seq (.app 4 (.heard "_law_heard" 1 M.Llaw_heardPre M.Llaw_heardHs (.callX "gaps_of" M.gaps_of (.cons (.con (.int 40)) (.cons (.tup (.cons (.con (.int 0)) (.cons (.con (.int 38)) (.cons (.con (.int 39)) .nil)))) .nil)))))
 (.seq (.asgS 5 (.lst (.cons (.tup (.cons (.con (.str [118, 97, 108, 117, 101])) (.cons (.tup (.cons (.con (.int 20)) (.cons (.con (.int 20)) .nil))) (.cons (.con (.bl true)) .nil)))) (.cons (.tup (.cons (.con (.str [105, 115])) (.cons (.tup (.cons (.con (.int 40)) (.cons (.tup (.cons (.con (.int 20)) .nil)) .nil))) .nil))) (.cons (.tup (.cons (.con (.str [105, 115])) (.cons (.tup (.cons (.con (.int 40)) (.cons (.tup .nil) .nil))) .nil))) (.cons (.tup (.cons (.con (.str [105, 115])) (.cons (.tup (.cons (.con (.int 0)) (.cons (.con (.int 37)) (.cons (.con (.int 0)) (.cons (.con (.int 0)) .nil))))) .nil))) .nil))))))
 (.seq (.ret (.call "_law_like" M.Llaw_like (.cons (.var 4) (.cons (.var 5) .nil))))
 .skip))))))))))))))))))
def M.Llaw_gaps_right : Fn := evFn 6 1 M.Llaw_gaps_rightS
def M.lawS : S := (.seq (.for (.nm 2) (.itRange (.cons (.con (.int 4)) .nil))
 (.seq (.ife (.or (.not (.call "_law_gaps_right" M.Llaw_gaps_right (.cons (.var 1) .nil))) (.or (.not (.call "_law_rows_right" M.Llaw_rows_right (.cons (.var 1) .nil))) (.not (.call "_law_formulas_right" M.Llaw_formulas_right (.cons (.var 1) .nil)))))
 (.seq (.ret (.con (.bl false)))
 .skip)
 .skip)
 .skip))
 (.seq (.ret (.con (.bl true)))
 .skip))
end RS
end
section
set_option Elab.async false
set_option linter.all false
set_option maxRecDepth 100000
set_option autoImplicit false
set_option maxHeartbeats 4000000
namespace RS
open PySem PySem.Spec PyProof.Rows L2
def topAt (i : Nat) : PySem.Stmt := PySem.Challenge.pw_risingsays_k18_gaps_and_formulas_refused.main.body.getD i (.Pass ⟨0, 0, 0, 0⟩)
def bgPos : List PySem.Pos := [⟨199, 4, 199, 12⟩, ⟨199, 31, 199, 37⟩, ⟨199, 41, 199, 43⟩, ⟨199, 31, 199, 43⟩, ⟨199, 15, 199, 19⟩, ⟨199, 20, 199, 26⟩, ⟨199, 15, 199, 27⟩, ⟨199, 50, 199, 51⟩, ⟨199, 49, 199, 52⟩, ⟨199, 15, 199, 52⟩, ⟨199, 4, 199, 52⟩, ⟨200, 12, 200, 19⟩, ⟨200, 31, 200, 38⟩, ⟨200, 96, 200, 100⟩, ⟨200, 21, 200, 29⟩, ⟨200, 49, 200, 53⟩, ⟨200, 57, 200, 59⟩, ⟨200, 63, 200, 65⟩, ⟨200, 57, 200, 65⟩, ⟨200, 49, 200, 65⟩, ⟨200, 41, 200, 45⟩, ⟨200, 71, 200, 72⟩, ⟨200, 41, 200, 72⟩, ⟨200, 77, 200, 81⟩, ⟨200, 85, 200, 93⟩, ⟨200, 40, 200, 94⟩, ⟨200, 102, 200, 103⟩, ⟨200, 11, 200, 104⟩, ⟨200, 4, 200, 104⟩]
structure Tops (P : PySem.Program) (K : PySem.W.Frag) (mg : PySem.Str → Option PySem.Value) (cs : List (PySem.Addr × PySem.Addr)) : Prop where
  blt : ∀ x ∈ bltNames, mg (PySem.Str.ofString x) = none
  d_law_begin : DefAt K mg "_law_begin" (topAt 54)
  d_law_mixed : DefAt K mg "_law_mixed" (topAt 53)
  d_law_draw : DefAt K mg "_law_draw" (topAt 55)
  d_law_of : DefAt K mg "_law_of" (topAt 56)
  d_law_like : DefAt K mg "_law_like" (topAt 57)
  dsets_over : DefAt K mg "sets_over" (topAt 34)
  dsum_at : DefAt K mg "sum_at" (topAt 35)
  dlessened : DefAt K mg "lessened" (topAt 37)
  dis_formula : DefAt K mg "is_formula" (topAt 45)
  dcheck_formula : DefAt K mg "check_formula" (topAt 46)
  dis_from : DefAt K mg "is_from" (topAt 4)
  dtold_so : DefAt K mg "told_so" (topAt 36)
  dvalue_at : DefAt K mg "value_at" (topAt 48)
  djoined_by : DefAt K mg "joined_by" (topAt 41)
  dplus_formula : DefAt K mg "plus_formula" (topAt 42)
  dformula_plus : DefAt K mg "formula_plus" (topAt 49)
  dminus_formula : DefAt K mg "minus_formula" (topAt 43)
  dformula_minus : DefAt K mg "formula_minus" (topAt 50)
  dequal_from : DefAt K mg "equal_from" (topAt 51)
  d_law_formulas_right : DefAt K mg "_law_formulas_right" (topAt 61)
  dreaches_so : DefAt K mg "reaches_so" (topAt 19)
  dleast_so : DefAt K mg "least_so" (topAt 20)
  dis_gaps : DefAt K mg "is_gaps" (topAt 14)
  dcheck_rows : DefAt K mg "check_rows" (topAt 16)
  dleast_rows : DefAt K mg "least_rows" (topAt 27)
  djoined_so : DefAt K mg "joined_so" (topAt 21)
  djoined : DefAt K mg "joined" (topAt 28)
  dcheck_arity : DefAt K mg "check_arity" (topAt 17)
  dsets_so : DefAt K mg "sets_so" (topAt 22)
  dgaps_so : DefAt K mg "gaps_so" (topAt 18)
  dcounted_so : DefAt K mg "counted_so" (topAt 23)
  dcounted : DefAt K mg "counted" (topAt 29)
  ddifferences : DefAt K mg "differences" (topAt 38)
  dshifted : DefAt K mg "shifted" (topAt 39)
  dsummed : DefAt K mg "summed" (topAt 40)
  dformula_so : DefAt K mg "formula_so" (topAt 44)
  dformula_of : DefAt K mg "formula_of" (topAt 47)
  d_law_rows_right : DefAt K mg "_law_rows_right" (topAt 60)
  dis_places : DefAt K mg "is_places" (topAt 13)
  dcheck_many : DefAt K mg "check_many" (topAt 7)
  dgaps_of : DefAt K mg "gaps_of" (topAt 24)
  dcheck_gaps : DefAt K mg "check_gaps" (topAt 15)
  dplaces_of : DefAt K mg "places_of" (topAt 25)
  dreaches : DefAt K mg "reaches" (topAt 26)
  d_law_gaps_right : DefAt K mg "_law_gaps_right" (topAt 59)
  dlaw : DefAt K mg "law" (topAt 62)
  d_law_heard : DefAt K mg "_law_heard" (topAt 58)
  c_MOST_VALUES : ∃ u, mg (PySem.Str.ofString "MOST_VALUES") = some u ∧ IsD K (.int 400) u
  c_MOST_MANY : ∃ u, mg (PySem.Str.ofString "MOST_MANY") = some u ∧ IsD K (.int 1000000000000000000000000000000) u
  c_equal_from : ∃ u, mg (PySem.Str.ofString "equal_from") = some u ∧ IsD K (.fn M.AD_equal_from) u
  c_formula_minus : ∃ u, mg (PySem.Str.ofString "formula_minus") = some u ∧ IsD K (.fn M.AD_formula_minus) u
  c_formula_plus : ∃ u, mg (PySem.Str.ofString "formula_plus") = some u ∧ IsD K (.fn M.AD_formula_plus) u
  c_MOST_PLACES_gaps : ∃ u, mg (PySem.Str.ofString "MOST_PLACES_gaps") = some u ∧ IsD K (.int 40) u
  c_MOST_ROWS : ∃ u, mg (PySem.Str.ofString "MOST_ROWS") = some u ∧ IsD K (.int 60) u
  c_MOST_GAP : ∃ u, mg (PySem.Str.ofString "MOST_GAP") = some u ∧ IsD K (.int 12) u
  c_MOST_COUNTED : ∃ u, mg (PySem.Str.ofString "MOST_COUNTED") = some u ∧ IsD K (.int 20) u
  c_NOTHING : ∃ u, mg (PySem.Str.ofString "NOTHING") = some u ∧ IsD K (.tup [(.tup []), (.tup [(.int 0), (.int 0), (.int 0), (.int 0)])]) u
  c_MOST_PLACES_sayings : ∃ u, mg (PySem.Str.ofString "MOST_PLACES_sayings") = some u ∧ IsD K (.int 40) u
  ad_equal_from : mg (PySem.Str.ofString "equal_from") = some (.ref M.AD_equal_from)
  ad_formula_minus : mg (PySem.Str.ofString "formula_minus") = some (.ref M.AD_formula_minus)
  ad_formula_plus : mg (PySem.Str.ofString "formula_plus") = some (.ref M.AD_formula_plus)
  lam_law_formulas_right : LamF K mg cs "_law_formulas_right"
  lam_law_rows_right : LamF K mg cs "_law_rows_right"
  lam_law_gaps_right : LamF K mg cs "_law_gaps_right"
  cls_BadParameter : ClsF P K mg "BadParameter"
  errs : ErrsOk K mg
  hc_law_heard : HcOk mg M.Llaw_heardHs
section
variable {P : PySem.Program} {w : PySem.World} {K : PySem.W.Frag} {mg : PySem.Str → Option PySem.Value} {base : PySem.Heap} {cs : List (PySem.Addr × PySem.Addr)}
theorem nx_law_mixed : NeverX M.Llaw_mixed := never_fn (by unfold M.Llaw_mixedS; simp [quietS, quiet])
theorem nx_law_draw : NeverX M.Llaw_draw := never_fn (by unfold M.Llaw_drawS; simp [quietS, quiet, nx_law_mixed])
theorem nx_law_of : NeverX M.Llaw_of := never_fn (by unfold M.Llaw_ofS; simp [quietS, quiet, nx_law_draw])
theorem nx_law_like : NeverX M.Llaw_like := never_fn (by unfold M.Llaw_likeS; simp [quietS, quiet])
theorem nxsets_over : NeverX M.sets_over := never_fn (by unfold M.sets_overS; simp [quietS, quiet])
theorem nxsum_at : NeverX M.sum_at := never_fn (by unfold M.sum_atS; simp [quietS, quiet, nxsets_over])
theorem nxlessened : NeverX M.lessened := never_fn (by unfold M.lessenedS; simp [quietS, quiet, nxsum_at])
theorem nxis_formula : NeverX M.is_formula := never_fn (by unfold M.is_formulaS; simp [quietS, quiet, nxlessened])
theorem nxis_from : NeverX M.is_from := never_fn (by unfold M.is_fromS; simp [quietS, quiet])
theorem nxtold_so : NeverX M.told_so := never_fn (by unfold M.told_soS; simp [quietS, quiet, nxsum_at])
theorem nxjoined_by : NeverX M.joined_by := never_fn (by unfold M.joined_byS; simp [quietS, quiet, nxtold_so, nxlessened])
theorem nxplus_formula : NeverX M.plus_formula := never_fn (by unfold M.plus_formulaS; simp [quietS, quiet, nxjoined_by])
theorem nxminus_formula : NeverX M.minus_formula := never_fn (by unfold M.minus_formulaS; simp [quietS, quiet, nxjoined_by])
theorem nx_law_formulas_right : NeverX M.Llaw_formulas_right := never_fn (by unfold M.Llaw_formulas_rightS; simp [quietS, quiet, nx_law_of, nx_law_like])
theorem nxreaches_so : NeverX M.reaches_so := never_fn (by unfold M.reaches_soS; simp [quietS, quiet])
theorem nxleast_so : NeverX M.least_so := never_fn (by unfold M.least_soS; simp [quietS, quiet, nxreaches_so])
theorem nxis_gaps : NeverX M.is_gaps := never_fn (by unfold M.is_gapsS; simp [quietS, quiet, nxis_from])
theorem nxjoined_so : NeverX M.joined_so := never_fn (by unfold M.joined_soS; simp [quietS, quiet])
theorem nxsets_so : NeverX M.sets_so := never_fn (by unfold M.sets_soS; simp [quietS, quiet])
theorem nxgaps_so : NeverX M.gaps_so := never_fn (by unfold M.gaps_soS; simp [quietS, quiet])
theorem nxcounted_so : NeverX M.counted_so := never_fn (by unfold M.counted_soS; simp [quietS, quiet, nxsets_so, nxgaps_so, nxreaches_so])
theorem nxdifferences : NeverX M.differences := never_fn (by unfold M.differencesS; simp [quietS, quiet])
theorem nxshifted : NeverX M.shifted := never_fn (by unfold M.shiftedS; simp [quietS, quiet, nxdifferences, nxsum_at, nxlessened])
theorem nxsummed : NeverX M.summed := never_fn (by unfold M.summedS; simp [quietS, quiet, nxsum_at, nxlessened])
theorem nxformula_so_ : ∀ n, NeverX (M.formula_so_ n)
  | 0 => never_no
  | n + 1 => never_fn (by unfold M.formula_soS; simp [quietS, quiet, nxformula_so_ n, nxlessened, nxshifted, nxsummed, nxleast_so, nxplus_formula])
theorem nxformula_so : NeverX M.formula_so := nxformula_so_ 5
theorem nx_law_rows_right : NeverX M.Llaw_rows_right := never_fn (by unfold M.Llaw_rows_rightS; simp [quietS, quiet, nx_law_of, nx_law_like])
theorem nxis_places : NeverX M.is_places := never_fn (by unfold M.is_placesS; simp [quietS, quiet, nxis_from])
theorem nx_law_gaps_right : NeverX M.Llaw_gaps_right := never_fn (by unfold M.Llaw_gaps_rightS; simp [quietS, quiet, nx_law_of, nx_law_like])
theorem hear_law_heard (T : Tops P K mg cs) : HearAt K mg "_law_heard" (topAt 58) ["call", "told", "error"] "call" 1 M.Llaw_heardPre M.Llaw_heardHs 1 2 :=
  ⟨T.d_law_heard, by decide +kernel, by decide +kernel, (fun _ _ _ _ _ _ us hl => match us, hl with | [_], _ => rfl), by decide, by decide, by decide, by decide, by decide, by decide, by decide +kernel, by decide +kernel⟩
theorem sc_law_mixed : scB ["cell", "k"] ["cell", "k"] (L2.defScope (topAt 53)) = true := by decide +kernel
theorem mt_law_mixed : mtSs M.Llaw_mixedS ⟨["cell", "k"], L2.defScope (topAt 53), fun _ => true, true⟩ (L2.defBody (topAt 53)) = true := by decide +kernel
theorem oks_law_mixed (T : Tops P K mg cs) (HB : ∀ p ∈ cs, LamX.TabB base mg p.1 p.2) : ∀ A, L2.Room 0 A → (true = true → A.guards = some []) → okS ⟨P, w, K, mg, base, A, cdAt K mg "_law_mixed", PySem.Str.ofString "_law_mixed" ++ (".<locals>." : PySem.Str)⟩ M.Llaw_mixedS := by
  intro A hr hg
  unfold M.Llaw_mixedS
  (try simp only [okS, okE, true_and, and_true])
  (repeat' apply And.intro)
  all_goals first | trivial | (exact fun z => absurd z (by decide))
theorem ok_law_mixed (T : Tops P K mg cs) (HB : ∀ p ∈ cs, LamX.TabB base mg p.1 p.2) : Has P w K mg base "_law_mixed" (topAt 53) ["cell", "k"] 1 M.Llaw_mixed true := has_of T.d_law_mixed T.blt sc_law_mixed mt_law_mixed (fun _ _ _ _ _ _ us hl => match us, hl with | [_, _], _ => rfl) (oks_law_mixed T HB)
theorem sc_law_draw : scB ["state", "limit", "at", "spot", "left", "mixed"] ["state", "limit"] (L2.defScope (topAt 55)) = true := by decide +kernel
theorem mt_law_draw : mtSs M.Llaw_drawS ⟨["state", "limit", "at", "spot", "left", "mixed"], L2.defScope (topAt 55), fun _ => true, true⟩ (L2.defBody (topAt 55)) = true := by decide +kernel
theorem oks_law_draw (T : Tops P K mg cs) (HB : ∀ p ∈ cs, LamX.TabB base mg p.1 p.2) : ∀ A, L2.Room 1 A → (true = true → A.guards = some []) → okS ⟨P, w, K, mg, base, A, cdAt K mg "_law_draw", PySem.Str.ofString "_law_draw" ++ (".<locals>." : PySem.Str)⟩ M.Llaw_drawS := by
  intro A hr hg
  have h_law_mixed := ok_law_mixed (P := P) (w := w) (base := base) T HB
  unfold M.Llaw_drawS
  (try simp only [okS, okE, true_and, and_true])
  (repeat' apply And.intro)
  all_goals first | trivial | (exact h_law_mixed.call hr hg (by decide)) | (exact fun z => absurd z (by decide))
theorem ok_law_draw (T : Tops P K mg cs) (HB : ∀ p ∈ cs, LamX.TabB base mg p.1 p.2) : Has P w K mg base "_law_draw" (topAt 55) ["state", "limit"] 2 M.Llaw_draw true := has_of T.d_law_draw T.blt sc_law_draw mt_law_draw (fun _ _ _ _ _ _ us hl => match us, hl with | [_, _], _ => rfl) (oks_law_draw T HB)
theorem sc_law_of : scB ["state", "some"] ["state", "some"] (L2.defScope (topAt 56)) = true := by decide +kernel
theorem mt_law_of : mtSs M.Llaw_ofS ⟨["state", "some"], L2.defScope (topAt 56), fun _ => true, true⟩ (L2.defBody (topAt 56)) = true := by decide +kernel
theorem oks_law_of (T : Tops P K mg cs) (HB : ∀ p ∈ cs, LamX.TabB base mg p.1 p.2) : ∀ A, L2.Room 2 A → (true = true → A.guards = some []) → okS ⟨P, w, K, mg, base, A, cdAt K mg "_law_of", PySem.Str.ofString "_law_of" ++ (".<locals>." : PySem.Str)⟩ M.Llaw_ofS := by
  intro A hr hg
  have h_law_draw := ok_law_draw (P := P) (w := w) (base := base) T HB
  unfold M.Llaw_ofS
  (try simp only [okS, okE, true_and, and_true])
  (repeat' apply And.intro)
  all_goals first | trivial | (exact h_law_draw.call hr hg (by decide)) | (exact fun z => absurd z (by decide))
theorem ok_law_of (T : Tops P K mg cs) (HB : ∀ p ∈ cs, LamX.TabB base mg p.1 p.2) : Has P w K mg base "_law_of" (topAt 56) ["state", "some"] 3 M.Llaw_of true := has_of T.d_law_of T.blt sc_law_of mt_law_of (fun _ _ _ _ _ _ us hl => match us, hl with | [_, _], _ => rfl) (oks_law_of T HB)
theorem sc_law_like : scB ["got", "due"] ["got", "due"] (L2.defScope (topAt 57)) = true := by decide +kernel
theorem mt_law_like : mtSs M.Llaw_likeS ⟨["got", "due"], L2.defScope (topAt 57), fun _ => true, true⟩ (L2.defBody (topAt 57)) = true := by decide +kernel
theorem oks_law_like (T : Tops P K mg cs) (HB : ∀ p ∈ cs, LamX.TabB base mg p.1 p.2) : ∀ A, L2.Room 0 A → (true = true → A.guards = some []) → okS ⟨P, w, K, mg, base, A, cdAt K mg "_law_like", PySem.Str.ofString "_law_like" ++ (".<locals>." : PySem.Str)⟩ M.Llaw_likeS := by
  intro A hr hg
  unfold M.Llaw_likeS
  (try simp only [okS, okE, true_and, and_true])
  (repeat' apply And.intro)
  all_goals first | trivial | (exact fun z => absurd z (by decide))
theorem ok_law_like (T : Tops P K mg cs) (HB : ∀ p ∈ cs, LamX.TabB base mg p.1 p.2) : Has P w K mg base "_law_like" (topAt 57) ["got", "due"] 1 M.Llaw_like true := has_of T.d_law_like T.blt sc_law_like mt_law_like (fun _ _ _ _ _ _ us hl => match us, hl with | [_, _], _ => rfl) (oks_law_like T HB)
theorem scsets_over : scB ["many", "size", "found", "step"] ["many", "size"] (L2.defScope (topAt 34)) = true := by decide +kernel
theorem mtsets_over : mtSs M.sets_overS ⟨["many", "size", "found", "step"], L2.defScope (topAt 34), fun _ => true, false⟩ (L2.defBody (topAt 34)) = true := by decide +kernel
theorem okssets_over (T : Tops P K mg cs) (HB : ∀ p ∈ cs, LamX.TabB base mg p.1 p.2) : ∀ A, L2.Room 0 A → (false = true → A.guards = some []) → okS ⟨P, w, K, mg, base, A, cdAt K mg "sets_over", PySem.Str.ofString "sets_over" ++ (".<locals>." : PySem.Str)⟩ M.sets_overS := by
  intro A hr hg
  unfold M.sets_overS
  (try simp only [okS, okE, true_and, and_true])
  (repeat' apply And.intro)
  all_goals first | trivial | (exact fun z => absurd z (by decide))
theorem oksets_over (T : Tops P K mg cs) (HB : ∀ p ∈ cs, LamX.TabB base mg p.1 p.2) : Has P w K mg base "sets_over" (topAt 34) ["many", "size"] 1 M.sets_over false := has_of T.dsets_over T.blt scsets_over mtsets_over (fun _ _ _ _ _ _ us hl => match us, hl with | [_, _], _ => rfl) (okssets_over T HB)
theorem scsum_at : scB ["coefs", "many", "size", "coef"] ["coefs", "many"] (L2.defScope (topAt 35)) = true := by decide +kernel
theorem mtsum_at : mtSs M.sum_atS ⟨["coefs", "many", "size", "coef"], L2.defScope (topAt 35), fun _ => true, false⟩ (L2.defBody (topAt 35)) = true := by decide +kernel
theorem okssum_at (T : Tops P K mg cs) (HB : ∀ p ∈ cs, LamX.TabB base mg p.1 p.2) : ∀ A, L2.Room 1 A → (false = true → A.guards = some []) → okS ⟨P, w, K, mg, base, A, cdAt K mg "sum_at", PySem.Str.ofString "sum_at" ++ (".<locals>." : PySem.Str)⟩ M.sum_atS := by
  intro A hr hg
  have hsets_over := oksets_over (P := P) (w := w) (base := base) T HB
  unfold M.sum_atS
  (try simp only [okS, okE, true_and, and_true])
  (repeat' apply And.intro)
  all_goals first | trivial | (exact hsets_over.call hr (fun z => by cases z) (by decide)) | (exact fun z => absurd z (by decide))
theorem oksum_at (T : Tops P K mg cs) (HB : ∀ p ∈ cs, LamX.TabB base mg p.1 p.2) : Has P w K mg base "sum_at" (topAt 35) ["coefs", "many"] 2 M.sum_at false := has_of T.dsum_at T.blt scsum_at mtsum_at (fun _ _ _ _ _ _ us hl => match us, hl with | [_, _], _ => rfl) (okssum_at T HB)
theorem sclessened : scB ["values", "coefs", "count"] ["values", "coefs"] (L2.defScope (topAt 37)) = true := by decide +kernel
theorem mtlessened : mtSs M.lessenedS ⟨["values", "coefs", "count"], L2.defScope (topAt 37), fun _ => true, false⟩ (L2.defBody (topAt 37)) = true := by decide +kernel
theorem okslessened (T : Tops P K mg cs) (HB : ∀ p ∈ cs, LamX.TabB base mg p.1 p.2) : ∀ A, L2.Room 2 A → (false = true → A.guards = some []) → okS ⟨P, w, K, mg, base, A, cdAt K mg "lessened", PySem.Str.ofString "lessened" ++ (".<locals>." : PySem.Str)⟩ M.lessenedS := by
  intro A hr hg
  have hsum_at := oksum_at (P := P) (w := w) (base := base) T HB
  unfold M.lessenedS
  (try simp only [okS, okE, true_and, and_true])
  (repeat' apply And.intro)
  all_goals first | trivial | (exact hsum_at.call hr (fun z => by cases z) (by decide)) | (exact fun z => absurd z (by decide))
theorem oklessened (T : Tops P K mg cs) (HB : ∀ p ∈ cs, LamX.TabB base mg p.1 p.2) : Has P w K mg base "lessened" (topAt 37) ["values", "coefs"] 3 M.lessened false := has_of T.dlessened T.blt sclessened mtlessened (fun _ _ _ _ _ _ us hl => match us, hl with | [_, _], _ => rfl) (okslessened T HB)
theorem scis_formula : scB ["value", "values", "coefs", "item"] ["value"] (L2.defScope (topAt 45)) = true := by decide +kernel
theorem mtis_formula : mtSs M.is_formulaS ⟨["value", "values", "coefs", "item"], L2.defScope (topAt 45), fun _ => true, false⟩ (L2.defBody (topAt 45)) = true := by decide +kernel
theorem oksis_formula (T : Tops P K mg cs) (HB : ∀ p ∈ cs, LamX.TabB base mg p.1 p.2) : ∀ A, L2.Room 3 A → (false = true → A.guards = some []) → okS ⟨P, w, K, mg, base, A, cdAt K mg "is_formula", PySem.Str.ofString "is_formula" ++ (".<locals>." : PySem.Str)⟩ M.is_formulaS := by
  intro A hr hg
  have hlessened := oklessened (P := P) (w := w) (base := base) T HB
  unfold M.is_formulaS
  (try simp only [okS, okE, true_and, and_true])
  (repeat' apply And.intro)
  all_goals first | trivial | (exact hlessened.call hr (fun z => by cases z) (by decide)) | (exact globOk T.c_MOST_VALUES) | (exact fun z => absurd z (by decide))
theorem okis_formula (T : Tops P K mg cs) (HB : ∀ p ∈ cs, LamX.TabB base mg p.1 p.2) : Has P w K mg base "is_formula" (topAt 45) ["value"] 4 M.is_formula false := has_of T.dis_formula T.blt scis_formula mtis_formula (fun _ _ _ _ _ _ us hl => match us, hl with | [_], _ => rfl) (oksis_formula T HB)
theorem sccheck_formula : scB ["value"] ["value"] (L2.defScope (topAt 46)) = true := by decide +kernel
theorem mtcheck_formula : mtSs M.check_formulaS ⟨["value"], L2.defScope (topAt 46), fun _ => true, false⟩ (L2.defBody (topAt 46)) = true := by decide +kernel
theorem okscheck_formula (T : Tops P K mg cs) (HB : ∀ p ∈ cs, LamX.TabB base mg p.1 p.2) : ∀ A, L2.Room 4 A → (false = true → A.guards = some []) → okS ⟨P, w, K, mg, base, A, cdAt K mg "check_formula", PySem.Str.ofString "check_formula" ++ (".<locals>." : PySem.Str)⟩ M.check_formulaS := by
  intro A hr hg
  have his_formula := okis_formula (P := P) (w := w) (base := base) T HB
  unfold M.check_formulaS
  (try simp only [okS, okE, true_and, and_true])
  (repeat' apply And.intro)
  all_goals first | trivial | (exact his_formula.call hr (fun z => by cases z) (by decide)) | (exact fun z => absurd z (by decide))
theorem okcheck_formula (T : Tops P K mg cs) (HB : ∀ p ∈ cs, LamX.TabB base mg p.1 p.2) : Has P w K mg base "check_formula" (topAt 46) ["value"] 5 M.check_formula false := has_of T.dcheck_formula T.blt sccheck_formula mtcheck_formula (fun _ _ _ _ _ _ us hl => match us, hl with | [_], _ => rfl) (okscheck_formula T HB)
theorem okXcheck_formula (T : Tops P K mg cs) (HB : ∀ p ∈ cs, LamX.TabB base mg p.1 p.2) : HasX P w K mg base "check_formula" (topAt 46) ["value"] 5 M.check_formula false := by
  refine hasX_of T.dcheck_formula T.blt sccheck_formula mtcheck_formula (fun _ _ _ _ _ _ us hl => match us, hl with | [_], _ => rfl) (okscheck_formula T HB) fun A hr hg => ?_
  unfold M.check_formulaS
  (try simp [okSX, okX, quiet, quietS, primPlain, nxis_formula])
  (repeat' apply And.intro)
  all_goals first | trivial | (exact nxis_formula) | (exact .inl nxis_formula) | (exact T.cls_BadParameter.at.raise hr (by decide))
theorem scis_from : scB ["value", "low", "high"] ["value", "low", "high"] (L2.defScope (topAt 4)) = true := by decide +kernel
theorem mtis_from : mtSs M.is_fromS ⟨["value", "low", "high"], L2.defScope (topAt 4), fun _ => true, false⟩ (L2.defBody (topAt 4)) = true := by decide +kernel
theorem oksis_from (T : Tops P K mg cs) (HB : ∀ p ∈ cs, LamX.TabB base mg p.1 p.2) : ∀ A, L2.Room 0 A → (false = true → A.guards = some []) → okS ⟨P, w, K, mg, base, A, cdAt K mg "is_from", PySem.Str.ofString "is_from" ++ (".<locals>." : PySem.Str)⟩ M.is_fromS := by
  intro A hr hg
  unfold M.is_fromS
  (try simp only [okS, okE, true_and, and_true])
  (repeat' apply And.intro)
  all_goals first | trivial | (exact fun z => absurd z (by decide))
theorem okis_from (T : Tops P K mg cs) (HB : ∀ p ∈ cs, LamX.TabB base mg p.1 p.2) : Has P w K mg base "is_from" (topAt 4) ["value", "low", "high"] 1 M.is_from false := has_of T.dis_from T.blt scis_from mtis_from (fun _ _ _ _ _ _ us hl => match us, hl with | [_, _, _], _ => rfl) (oksis_from T HB)
theorem sctold_so : scB ["formula", "many"] ["formula", "many"] (L2.defScope (topAt 36)) = true := by decide +kernel
theorem mttold_so : mtSs M.told_soS ⟨["formula", "many"], L2.defScope (topAt 36), fun _ => true, false⟩ (L2.defBody (topAt 36)) = true := by decide +kernel
theorem okstold_so (T : Tops P K mg cs) (HB : ∀ p ∈ cs, LamX.TabB base mg p.1 p.2) : ∀ A, L2.Room 2 A → (false = true → A.guards = some []) → okS ⟨P, w, K, mg, base, A, cdAt K mg "told_so", PySem.Str.ofString "told_so" ++ (".<locals>." : PySem.Str)⟩ M.told_soS := by
  intro A hr hg
  have hsum_at := oksum_at (P := P) (w := w) (base := base) T HB
  unfold M.told_soS
  (try simp only [okS, okE, true_and, and_true])
  (repeat' apply And.intro)
  all_goals first | trivial | (exact hsum_at.call hr (fun z => by cases z) (by decide)) | (exact fun z => absurd z (by decide))
theorem oktold_so (T : Tops P K mg cs) (HB : ∀ p ∈ cs, LamX.TabB base mg p.1 p.2) : Has P w K mg base "told_so" (topAt 36) ["formula", "many"] 3 M.told_so false := has_of T.dtold_so T.blt sctold_so mttold_so (fun _ _ _ _ _ _ us hl => match us, hl with | [_, _], _ => rfl) (okstold_so T HB)
theorem scvalue_at : scB ["formula", "many"] ["formula", "many"] (L2.defScope (topAt 48)) = true := by decide +kernel
theorem mtvalue_at : mtSs M.value_atS ⟨["formula", "many"], L2.defScope (topAt 48), fun _ => true, false⟩ (L2.defBody (topAt 48)) = true := by decide +kernel
theorem oksvalue_at (T : Tops P K mg cs) (HB : ∀ p ∈ cs, LamX.TabB base mg p.1 p.2) : ∀ A, L2.Room 5 A → (false = true → A.guards = some []) → okS ⟨P, w, K, mg, base, A, cdAt K mg "value_at", PySem.Str.ofString "value_at" ++ (".<locals>." : PySem.Str)⟩ M.value_atS := by
  intro A hr hg
  have hcheck_formula := okcheck_formula (P := P) (w := w) (base := base) T HB
  have his_from := okis_from (P := P) (w := w) (base := base) T HB
  have htold_so := oktold_so (P := P) (w := w) (base := base) T HB
  unfold M.value_atS
  (try simp only [okS, okE, true_and, and_true])
  (repeat' apply And.intro)
  all_goals first | trivial | (exact hcheck_formula.call hr (fun z => by cases z) (by decide)) | (exact his_from.call hr (fun z => by cases z) (by decide)) | (exact htold_so.call hr (fun z => by cases z) (by decide)) | (exact globOk T.c_MOST_MANY) | (exact fun z => absurd z (by decide))
theorem okvalue_at (T : Tops P K mg cs) (HB : ∀ p ∈ cs, LamX.TabB base mg p.1 p.2) : Has P w K mg base "value_at" (topAt 48) ["formula", "many"] 6 M.value_at false := has_of T.dvalue_at T.blt scvalue_at mtvalue_at (fun _ _ _ _ _ _ us hl => match us, hl with | [_, _], _ => rfl) (oksvalue_at T HB)
theorem okXvalue_at (T : Tops P K mg cs) (HB : ∀ p ∈ cs, LamX.TabB base mg p.1 p.2) : HasX P w K mg base "value_at" (topAt 48) ["formula", "many"] 6 M.value_at false := by
  refine hasX_of T.dvalue_at T.blt scvalue_at mtvalue_at (fun _ _ _ _ _ _ us hl => match us, hl with | [_, _], _ => rfl) (oksvalue_at T HB) fun A hr hg => ?_
  have hxcheck_formula := okXcheck_formula (P := P) (w := w) (base := base) T HB
  unfold M.value_atS
  (try simp [okSX, okX, quiet, quietS, primPlain, nxis_from, nxtold_so])
  (repeat' apply And.intro)
  all_goals first | trivial | (exact .inr (hxcheck_formula.call hr (fun z => by cases z) (by decide))) | (exact .inl (.inr (hxcheck_formula.call hr (fun z => by cases z) (by decide)))) | (exact nxis_from) | (exact .inl nxis_from) | (exact nxtold_so) | (exact .inl nxtold_so) | (exact T.cls_BadParameter.at.raise hr (by decide))
theorem scjoined_by : scB ["one", "other", "sign", "count", "values", "many", "near", "far"] ["one", "other", "sign"] (L2.defScope (topAt 41)) = true := by decide +kernel
theorem mtjoined_by : mtSs M.joined_byS ⟨["one", "other", "sign", "count", "values", "many", "near", "far"], L2.defScope (topAt 41), fun _ => true, false⟩ (L2.defBody (topAt 41)) = true := by decide +kernel
theorem oksjoined_by (T : Tops P K mg cs) (HB : ∀ p ∈ cs, LamX.TabB base mg p.1 p.2) : ∀ A, L2.Room 3 A → (false = true → A.guards = some []) → okS ⟨P, w, K, mg, base, A, cdAt K mg "joined_by", PySem.Str.ofString "joined_by" ++ (".<locals>." : PySem.Str)⟩ M.joined_byS := by
  intro A hr hg
  have htold_so := oktold_so (P := P) (w := w) (base := base) T HB
  have hlessened := oklessened (P := P) (w := w) (base := base) T HB
  unfold M.joined_byS
  (try simp only [okS, okE, true_and, and_true])
  (repeat' apply And.intro)
  all_goals first | trivial | (exact htold_so.call hr (fun z => by cases z) (by decide)) | (exact hlessened.call hr (fun z => by cases z) (by decide)) | (exact fun z => absurd z (by decide))
theorem okjoined_by (T : Tops P K mg cs) (HB : ∀ p ∈ cs, LamX.TabB base mg p.1 p.2) : Has P w K mg base "joined_by" (topAt 41) ["one", "other", "sign"] 4 M.joined_by false := has_of T.djoined_by T.blt scjoined_by mtjoined_by (fun _ _ _ _ _ _ us hl => match us, hl with | [_, _, _], _ => rfl) (oksjoined_by T HB)
theorem scplus_formula : scB ["one", "other"] ["one", "other"] (L2.defScope (topAt 42)) = true := by decide +kernel
theorem mtplus_formula : mtSs M.plus_formulaS ⟨["one", "other"], L2.defScope (topAt 42), fun _ => true, false⟩ (L2.defBody (topAt 42)) = true := by decide +kernel
theorem oksplus_formula (T : Tops P K mg cs) (HB : ∀ p ∈ cs, LamX.TabB base mg p.1 p.2) : ∀ A, L2.Room 4 A → (false = true → A.guards = some []) → okS ⟨P, w, K, mg, base, A, cdAt K mg "plus_formula", PySem.Str.ofString "plus_formula" ++ (".<locals>." : PySem.Str)⟩ M.plus_formulaS := by
  intro A hr hg
  have hjoined_by := okjoined_by (P := P) (w := w) (base := base) T HB
  unfold M.plus_formulaS
  (try simp only [okS, okE, true_and, and_true])
  (repeat' apply And.intro)
  all_goals first | trivial | (exact hjoined_by.call hr (fun z => by cases z) (by decide)) | (exact fun z => absurd z (by decide))
theorem okplus_formula (T : Tops P K mg cs) (HB : ∀ p ∈ cs, LamX.TabB base mg p.1 p.2) : Has P w K mg base "plus_formula" (topAt 42) ["one", "other"] 5 M.plus_formula false := has_of T.dplus_formula T.blt scplus_formula mtplus_formula (fun _ _ _ _ _ _ us hl => match us, hl with | [_, _], _ => rfl) (oksplus_formula T HB)
theorem scformula_plus : scB ["one", "other"] ["one", "other"] (L2.defScope (topAt 49)) = true := by decide +kernel
theorem mtformula_plus : mtSs M.formula_plusS ⟨["one", "other"], L2.defScope (topAt 49), fun _ => true, false⟩ (L2.defBody (topAt 49)) = true := by decide +kernel
theorem oksformula_plus (T : Tops P K mg cs) (HB : ∀ p ∈ cs, LamX.TabB base mg p.1 p.2) : ∀ A, L2.Room 5 A → (false = true → A.guards = some []) → okS ⟨P, w, K, mg, base, A, cdAt K mg "formula_plus", PySem.Str.ofString "formula_plus" ++ (".<locals>." : PySem.Str)⟩ M.formula_plusS := by
  intro A hr hg
  have hcheck_formula := okcheck_formula (P := P) (w := w) (base := base) T HB
  have hplus_formula := okplus_formula (P := P) (w := w) (base := base) T HB
  unfold M.formula_plusS
  (try simp only [okS, okE, true_and, and_true])
  (repeat' apply And.intro)
  all_goals first | trivial | (exact hcheck_formula.call hr (fun z => by cases z) (by decide)) | (exact hplus_formula.call hr (fun z => by cases z) (by decide)) | (exact fun z => absurd z (by decide))
theorem okformula_plus (T : Tops P K mg cs) (HB : ∀ p ∈ cs, LamX.TabB base mg p.1 p.2) : Has P w K mg base "formula_plus" (topAt 49) ["one", "other"] 6 M.formula_plus false := has_of T.dformula_plus T.blt scformula_plus mtformula_plus (fun _ _ _ _ _ _ us hl => match us, hl with | [_, _], _ => rfl) (oksformula_plus T HB)
theorem okXformula_plus (T : Tops P K mg cs) (HB : ∀ p ∈ cs, LamX.TabB base mg p.1 p.2) : HasX P w K mg base "formula_plus" (topAt 49) ["one", "other"] 6 M.formula_plus false := by
  refine hasX_of T.dformula_plus T.blt scformula_plus mtformula_plus (fun _ _ _ _ _ _ us hl => match us, hl with | [_, _], _ => rfl) (oksformula_plus T HB) fun A hr hg => ?_
  have hxcheck_formula := okXcheck_formula (P := P) (w := w) (base := base) T HB
  unfold M.formula_plusS
  (try simp [okSX, okX, quiet, quietS, primPlain, nxplus_formula])
  (repeat' apply And.intro)
  all_goals first | trivial | (exact .inr (hxcheck_formula.call hr (fun z => by cases z) (by decide))) | (exact .inl (.inr (hxcheck_formula.call hr (fun z => by cases z) (by decide)))) | (exact nxplus_formula) | (exact .inl nxplus_formula)
theorem scminus_formula : scB ["one", "other"] ["one", "other"] (L2.defScope (topAt 43)) = true := by decide +kernel
theorem mtminus_formula : mtSs M.minus_formulaS ⟨["one", "other"], L2.defScope (topAt 43), fun _ => true, false⟩ (L2.defBody (topAt 43)) = true := by decide +kernel
theorem oksminus_formula (T : Tops P K mg cs) (HB : ∀ p ∈ cs, LamX.TabB base mg p.1 p.2) : ∀ A, L2.Room 4 A → (false = true → A.guards = some []) → okS ⟨P, w, K, mg, base, A, cdAt K mg "minus_formula", PySem.Str.ofString "minus_formula" ++ (".<locals>." : PySem.Str)⟩ M.minus_formulaS := by
  intro A hr hg
  have hjoined_by := okjoined_by (P := P) (w := w) (base := base) T HB
  unfold M.minus_formulaS
  (try simp only [okS, okE, true_and, and_true])
  (repeat' apply And.intro)
  all_goals first | trivial | (exact hjoined_by.call hr (fun z => by cases z) (by decide)) | (exact fun z => absurd z (by decide))
theorem okminus_formula (T : Tops P K mg cs) (HB : ∀ p ∈ cs, LamX.TabB base mg p.1 p.2) : Has P w K mg base "minus_formula" (topAt 43) ["one", "other"] 5 M.minus_formula false := has_of T.dminus_formula T.blt scminus_formula mtminus_formula (fun _ _ _ _ _ _ us hl => match us, hl with | [_, _], _ => rfl) (oksminus_formula T HB)
theorem scformula_minus : scB ["one", "other"] ["one", "other"] (L2.defScope (topAt 50)) = true := by decide +kernel
theorem mtformula_minus : mtSs M.formula_minusS ⟨["one", "other"], L2.defScope (topAt 50), fun _ => true, false⟩ (L2.defBody (topAt 50)) = true := by decide +kernel
theorem oksformula_minus (T : Tops P K mg cs) (HB : ∀ p ∈ cs, LamX.TabB base mg p.1 p.2) : ∀ A, L2.Room 5 A → (false = true → A.guards = some []) → okS ⟨P, w, K, mg, base, A, cdAt K mg "formula_minus", PySem.Str.ofString "formula_minus" ++ (".<locals>." : PySem.Str)⟩ M.formula_minusS := by
  intro A hr hg
  have hcheck_formula := okcheck_formula (P := P) (w := w) (base := base) T HB
  have hminus_formula := okminus_formula (P := P) (w := w) (base := base) T HB
  unfold M.formula_minusS
  (try simp only [okS, okE, true_and, and_true])
  (repeat' apply And.intro)
  all_goals first | trivial | (exact hcheck_formula.call hr (fun z => by cases z) (by decide)) | (exact hminus_formula.call hr (fun z => by cases z) (by decide)) | (exact fun z => absurd z (by decide))
theorem okformula_minus (T : Tops P K mg cs) (HB : ∀ p ∈ cs, LamX.TabB base mg p.1 p.2) : Has P w K mg base "formula_minus" (topAt 50) ["one", "other"] 6 M.formula_minus false := has_of T.dformula_minus T.blt scformula_minus mtformula_minus (fun _ _ _ _ _ _ us hl => match us, hl with | [_, _], _ => rfl) (oksformula_minus T HB)
theorem okXformula_minus (T : Tops P K mg cs) (HB : ∀ p ∈ cs, LamX.TabB base mg p.1 p.2) : HasX P w K mg base "formula_minus" (topAt 50) ["one", "other"] 6 M.formula_minus false := by
  refine hasX_of T.dformula_minus T.blt scformula_minus mtformula_minus (fun _ _ _ _ _ _ us hl => match us, hl with | [_, _], _ => rfl) (oksformula_minus T HB) fun A hr hg => ?_
  have hxcheck_formula := okXcheck_formula (P := P) (w := w) (base := base) T HB
  unfold M.formula_minusS
  (try simp [okSX, okX, quiet, quietS, primPlain, nxminus_formula])
  (repeat' apply And.intro)
  all_goals first | trivial | (exact .inr (hxcheck_formula.call hr (fun z => by cases z) (by decide))) | (exact .inl (.inr (hxcheck_formula.call hr (fun z => by cases z) (by decide)))) | (exact nxminus_formula) | (exact .inl nxminus_formula)
theorem scequal_from : scB ["one", "other"] ["one", "other"] (L2.defScope (topAt 51)) = true := by decide +kernel
theorem mtequal_from : mtSs M.equal_fromS ⟨["one", "other"], L2.defScope (topAt 51), fun _ => true, false⟩ (L2.defBody (topAt 51)) = true := by decide +kernel
theorem oksequal_from (T : Tops P K mg cs) (HB : ∀ p ∈ cs, LamX.TabB base mg p.1 p.2) : ∀ A, L2.Room 5 A → (false = true → A.guards = some []) → okS ⟨P, w, K, mg, base, A, cdAt K mg "equal_from", PySem.Str.ofString "equal_from" ++ (".<locals>." : PySem.Str)⟩ M.equal_fromS := by
  intro A hr hg
  have hcheck_formula := okcheck_formula (P := P) (w := w) (base := base) T HB
  have hminus_formula := okminus_formula (P := P) (w := w) (base := base) T HB
  unfold M.equal_fromS
  (try simp only [okS, okE, true_and, and_true])
  (repeat' apply And.intro)
  all_goals first | trivial | (exact hcheck_formula.call hr (fun z => by cases z) (by decide)) | (exact hminus_formula.call hr (fun z => by cases z) (by decide)) | (exact fun z => absurd z (by decide))
theorem okequal_from (T : Tops P K mg cs) (HB : ∀ p ∈ cs, LamX.TabB base mg p.1 p.2) : Has P w K mg base "equal_from" (topAt 51) ["one", "other"] 6 M.equal_from false := has_of T.dequal_from T.blt scequal_from mtequal_from (fun _ _ _ _ _ _ us hl => match us, hl with | [_, _], _ => rfl) (oksequal_from T HB)
theorem okXequal_from (T : Tops P K mg cs) (HB : ∀ p ∈ cs, LamX.TabB base mg p.1 p.2) : HasX P w K mg base "equal_from" (topAt 51) ["one", "other"] 6 M.equal_from false := by
  refine hasX_of T.dequal_from T.blt scequal_from mtequal_from (fun _ _ _ _ _ _ us hl => match us, hl with | [_, _], _ => rfl) (oksequal_from T HB) fun A hr hg => ?_
  have hxcheck_formula := okXcheck_formula (P := P) (w := w) (base := base) T HB
  unfold M.equal_fromS
  (try simp [okSX, okX, quiet, quietS, primPlain, nxminus_formula])
  (repeat' apply And.intro)
  all_goals first | trivial | (exact .inr (hxcheck_formula.call hr (fun z => by cases z) (by decide))) | (exact .inl (.inr (hxcheck_formula.call hr (fun z => by cases z) (by decide)))) | (exact nxminus_formula) | (exact .inl nxminus_formula)
theorem sc_law_formulas_right : scB ["state", "good", "flat", "lot", "odd", "bad", "got", "call", "due"] ["state"] (L2.defScope (topAt 61)) = true := by decide +kernel
theorem mt_law_formulas_right : mtSs M.Llaw_formulas_rightS ⟨["state", "good", "flat", "lot", "odd", "bad", "got", "call", "due"], L2.defScope (topAt 61), fun _ => true, true⟩ (L2.defBody (topAt 61)) = true := by decide +kernel
theorem oks_law_formulas_right (T : Tops P K mg cs) (HB : ∀ p ∈ cs, LamX.TabB base mg p.1 p.2) : ∀ A, L2.Room 8 A → (true = true → A.guards = some []) → okS ⟨P, w, K, mg, base, A, cdAt K mg "_law_formulas_right", PySem.Str.ofString "_law_formulas_right" ++ (".<locals>." : PySem.Str)⟩ M.Llaw_formulas_rightS := by
  intro A hr hg
  have h_law_of := ok_law_of (P := P) (w := w) (base := base) T HB
  have h_law_like := ok_law_like (P := P) (w := w) (base := base) T HB
  have hvalue_at := okvalue_at (P := P) (w := w) (base := base) T HB
  have hformula_plus := okformula_plus (P := P) (w := w) (base := base) T HB
  have hformula_minus := okformula_minus (P := P) (w := w) (base := base) T HB
  have hequal_from := okequal_from (P := P) (w := w) (base := base) T HB
  have hxvalue_at := okXvalue_at (P := P) (w := w) (base := base) T HB
  have hxformula_plus := okXformula_plus (P := P) (w := w) (base := base) T HB
  have hxformula_minus := okXformula_minus (P := P) (w := w) (base := base) T HB
  have hxequal_from := okXequal_from (P := P) (w := w) (base := base) T HB
  unfold M.Llaw_formulas_rightS
  (try simp only [okS, okE, true_and, and_true])
  (repeat' apply And.intro)
  all_goals first | trivial | (exact h_law_of.call hr hg (by decide)) | (exact h_law_like.call hr hg (by decide)) | (exact globOk T.c_equal_from) | (exact globOk T.c_formula_minus) | (exact globOk T.c_formula_plus) | (exact fun z => absurd z (by decide)) | (exact heard_sem (lv := 6) (hear_law_heard T) T.hc_law_heard T.errs (T.lam_law_formulas_right.at HB) (hr.mono (by decide)) (fun A' cd' q' hr' => by ((try simp only [okE, true_and, and_true]) <;> (repeat' apply And.intro) <;> first | trivial | (exact hvalue_at.call hr' (fun z => by cases z) (by decide)) | (exact hformula_plus.call hr' (fun z => by cases z) (by decide)) | (exact hformula_minus.call hr' (fun z => by cases z) (by decide)) | (exact hequal_from.call hr' (fun z => by cases z) (by decide)) | (exact globOk T.c_equal_from) | (exact globOk T.c_formula_minus) | (exact globOk T.c_formula_plus) | ((intro p hp; simp only [List.mem_cons, List.mem_nil_iff, or_false] at hp; rcases hp with rfl | rfl | rfl <;> first | exact hequal_from.v T.ad_equal_from hr' (fun z => by cases z) (by decide) | exact hformula_minus.v T.ad_formula_minus hr' (fun z => by cases z) (by decide) | exact hformula_plus.v T.ad_formula_plus hr' (fun z => by cases z) (by decide) | exact hformula_plus.vk T.ad_formula_plus hr' (fun z => by cases z) (by decide) (fun _ _ _ _ _ _ s ws hl => match ws, hl with | [_, _], _ => .of_eq rfl) (by decide) | exact hformula_minus.vk T.ad_formula_minus hr' (fun z => by cases z) (by decide) (fun _ _ _ _ _ _ s ws hl => match ws, hl with | [_, _], _ => .of_eq rfl) (by decide) | exact hequal_from.vk T.ad_equal_from hr' (fun z => by cases z) (by decide) (fun _ _ _ _ _ _ s ws hl => match ws, hl with | [_, _], _ => .of_eq rfl) (by decide))))) (fun A' cd' q' hr' => by ((try simp [okX, quiet, primPlain]) <;> (repeat' apply And.intro) <;> first | trivial | (exact .inr (hxvalue_at.call hr' (fun z => by cases z) (by decide))) | (exact .inr (hxformula_plus.call hr' (fun z => by cases z) (by decide))) | (exact .inr (hxformula_minus.call hr' (fun z => by cases z) (by decide))) | (exact .inr (hxequal_from.call hr' (fun z => by cases z) (by decide))) | (exact .inr (hxequal_from.v T.ad_equal_from hr' (fun z => by cases z) (by decide))) | (exact .inr (hxformula_minus.v T.ad_formula_minus hr' (fun z => by cases z) (by decide))) | (exact .inr (hxformula_plus.v T.ad_formula_plus hr' (fun z => by cases z) (by decide))) | (exact .inr (hxformula_plus.vk T.ad_formula_plus hr' (fun z => by cases z) (by decide) (fun _ _ _ _ _ _ s ws hl => match ws, hl with | [_, _], _ => .of_eq rfl) (by decide))) | (exact .inr (hxformula_minus.vk T.ad_formula_minus hr' (fun z => by cases z) (by decide) (fun _ _ _ _ _ _ s ws hl => match ws, hl with | [_, _], _ => .of_eq rfl) (by decide))) | (exact .inr (hxequal_from.vk T.ad_equal_from hr' (fun z => by cases z) (by decide) (fun _ _ _ _ _ _ s ws hl => match ws, hl with | [_, _], _ => .of_eq rfl) (by decide))) | ((intro p hp; simp only [List.mem_cons, List.mem_nil_iff, or_false] at hp; rcases hp with rfl | rfl | rfl <;> first | exact .inr (hxequal_from.v T.ad_equal_from hr' (fun z => by cases z) (by decide)) | exact .inr (hxformula_minus.v T.ad_formula_minus hr' (fun z => by cases z) (by decide)) | exact .inr (hxformula_plus.v T.ad_formula_plus hr' (fun z => by cases z) (by decide)) | exact .inr (hxformula_plus.vk T.ad_formula_plus hr' (fun z => by cases z) (by decide) (fun _ _ _ _ _ _ s ws hl => match ws, hl with | [_, _], _ => .of_eq rfl) (by decide)) | exact .inr (hxformula_minus.vk T.ad_formula_minus hr' (fun z => by cases z) (by decide) (fun _ _ _ _ _ _ s ws hl => match ws, hl with | [_, _], _ => .of_eq rfl) (by decide)) | exact .inr (hxequal_from.vk T.ad_equal_from hr' (fun z => by cases z) (by decide) (fun _ _ _ _ _ _ s ws hl => match ws, hl with | [_, _], _ => .of_eq rfl) (by decide)))))))
theorem ok_law_formulas_right (T : Tops P K mg cs) (HB : ∀ p ∈ cs, LamX.TabB base mg p.1 p.2) : Has P w K mg base "_law_formulas_right" (topAt 61) ["state"] 9 M.Llaw_formulas_right true := has_of T.d_law_formulas_right T.blt sc_law_formulas_right mt_law_formulas_right (fun _ _ _ _ _ _ us hl => match us, hl with | [_], _ => rfl) (oks_law_formulas_right T HB)
theorem screaches_so : scB ["gaps", "others", "near", "far"] ["gaps", "others"] (L2.defScope (topAt 19)) = true := by decide +kernel
theorem mtreaches_so : mtSs M.reaches_soS ⟨["gaps", "others", "near", "far"], L2.defScope (topAt 19), fun _ => true, false⟩ (L2.defBody (topAt 19)) = true := by decide +kernel
theorem oksreaches_so (T : Tops P K mg cs) (HB : ∀ p ∈ cs, LamX.TabB base mg p.1 p.2) : ∀ A, L2.Room 0 A → (false = true → A.guards = some []) → okS ⟨P, w, K, mg, base, A, cdAt K mg "reaches_so", PySem.Str.ofString "reaches_so" ++ (".<locals>." : PySem.Str)⟩ M.reaches_soS := by
  intro A hr hg
  unfold M.reaches_soS
  (try simp only [okS, okE, true_and, and_true])
  (repeat' apply And.intro)
  all_goals first | trivial | (exact fun z => absurd z (by decide))
theorem okreaches_so (T : Tops P K mg cs) (HB : ∀ p ∈ cs, LamX.TabB base mg p.1 p.2) : Has P w K mg base "reaches_so" (topAt 19) ["gaps", "others"] 1 M.reaches_so false := has_of T.dreaches_so T.blt screaches_so mtreaches_so (fun _ _ _ _ _ _ us hl => match us, hl with | [_, _], _ => rfl) (oksreaches_so T HB)
theorem scleast_so : scB ["rows", "found", "row", "other"] ["rows"] (L2.defScope (topAt 20)) = true := by decide +kernel
theorem mtleast_so : mtSs M.least_soS ⟨["rows", "found", "row", "other"], L2.defScope (topAt 20), fun _ => true, false⟩ (L2.defBody (topAt 20)) = true := by decide +kernel
theorem oksleast_so (T : Tops P K mg cs) (HB : ∀ p ∈ cs, LamX.TabB base mg p.1 p.2) : ∀ A, L2.Room 1 A → (false = true → A.guards = some []) → okS ⟨P, w, K, mg, base, A, cdAt K mg "least_so", PySem.Str.ofString "least_so" ++ (".<locals>." : PySem.Str)⟩ M.least_soS := by
  intro A hr hg
  have hreaches_so := okreaches_so (P := P) (w := w) (base := base) T HB
  unfold M.least_soS
  (try simp only [okS, okE, true_and, and_true])
  (repeat' apply And.intro)
  all_goals first | trivial | (exact hreaches_so.call hr (fun z => by cases z) (by decide)) | (exact fun z => absurd z (by decide))
theorem okleast_so (T : Tops P K mg cs) (HB : ∀ p ∈ cs, LamX.TabB base mg p.1 p.2) : Has P w K mg base "least_so" (topAt 20) ["rows"] 2 M.least_so false := has_of T.dleast_so T.blt scleast_so mtleast_so (fun _ _ _ _ _ _ us hl => match us, hl with | [_], _ => rfl) (oksleast_so T HB)
theorem scis_gaps : scB ["value", "item"] ["value"] (L2.defScope (topAt 14)) = true := by decide +kernel
theorem mtis_gaps : mtSs M.is_gapsS ⟨["value", "item"], L2.defScope (topAt 14), fun _ => true, false⟩ (L2.defBody (topAt 14)) = true := by decide +kernel
theorem oksis_gaps (T : Tops P K mg cs) (HB : ∀ p ∈ cs, LamX.TabB base mg p.1 p.2) : ∀ A, L2.Room 1 A → (false = true → A.guards = some []) → okS ⟨P, w, K, mg, base, A, cdAt K mg "is_gaps", PySem.Str.ofString "is_gaps" ++ (".<locals>." : PySem.Str)⟩ M.is_gapsS := by
  intro A hr hg
  have his_from := okis_from (P := P) (w := w) (base := base) T HB
  unfold M.is_gapsS
  (try simp only [okS, okE, true_and, and_true])
  (repeat' apply And.intro)
  all_goals first | trivial | (exact his_from.call hr (fun z => by cases z) (by decide)) | (exact globOk T.c_MOST_PLACES_gaps) | (exact fun z => absurd z (by decide))
theorem okis_gaps (T : Tops P K mg cs) (HB : ∀ p ∈ cs, LamX.TabB base mg p.1 p.2) : Has P w K mg base "is_gaps" (topAt 14) ["value"] 2 M.is_gaps false := has_of T.dis_gaps T.blt scis_gaps mtis_gaps (fun _ _ _ _ _ _ us hl => match us, hl with | [_], _ => rfl) (oksis_gaps T HB)
theorem sccheck_rows : scB ["value", "row"] ["value"] (L2.defScope (topAt 16)) = true := by decide +kernel
theorem mtcheck_rows : mtSs M.check_rowsS ⟨["value", "row"], L2.defScope (topAt 16), fun _ => true, false⟩ (L2.defBody (topAt 16)) = true := by decide +kernel
theorem okscheck_rows (T : Tops P K mg cs) (HB : ∀ p ∈ cs, LamX.TabB base mg p.1 p.2) : ∀ A, L2.Room 3 A → (false = true → A.guards = some []) → okS ⟨P, w, K, mg, base, A, cdAt K mg "check_rows", PySem.Str.ofString "check_rows" ++ (".<locals>." : PySem.Str)⟩ M.check_rowsS := by
  intro A hr hg
  have his_gaps := okis_gaps (P := P) (w := w) (base := base) T HB
  unfold M.check_rowsS
  (try simp only [okS, okE, true_and, and_true])
  (repeat' apply And.intro)
  all_goals first | trivial | (exact his_gaps.call hr (fun z => by cases z) (by decide)) | (exact globOk T.c_MOST_ROWS) | (exact globOk T.c_MOST_GAP) | (exact fun z => absurd z (by decide))
theorem okcheck_rows (T : Tops P K mg cs) (HB : ∀ p ∈ cs, LamX.TabB base mg p.1 p.2) : Has P w K mg base "check_rows" (topAt 16) ["value"] 4 M.check_rows false := has_of T.dcheck_rows T.blt sccheck_rows mtcheck_rows (fun _ _ _ _ _ _ us hl => match us, hl with | [_], _ => rfl) (okscheck_rows T HB)
theorem okXcheck_rows (T : Tops P K mg cs) (HB : ∀ p ∈ cs, LamX.TabB base mg p.1 p.2) : HasX P w K mg base "check_rows" (topAt 16) ["value"] 4 M.check_rows false := by
  refine hasX_of T.dcheck_rows T.blt sccheck_rows mtcheck_rows (fun _ _ _ _ _ _ us hl => match us, hl with | [_], _ => rfl) (okscheck_rows T HB) fun A hr hg => ?_
  unfold M.check_rowsS
  (try simp [okSX, okX, quiet, quietS, primPlain, nxis_gaps])
  (repeat' apply And.intro)
  all_goals first | trivial | (exact nxis_gaps) | (exact .inl nxis_gaps) | (exact T.cls_BadParameter.at.raise hr (by decide))
theorem scleast_rows : scB ["rows"] ["rows"] (L2.defScope (topAt 27)) = true := by decide +kernel
theorem mtleast_rows : mtSs M.least_rowsS ⟨["rows"], L2.defScope (topAt 27), fun _ => true, false⟩ (L2.defBody (topAt 27)) = true := by decide +kernel
theorem oksleast_rows (T : Tops P K mg cs) (HB : ∀ p ∈ cs, LamX.TabB base mg p.1 p.2) : ∀ A, L2.Room 4 A → (false = true → A.guards = some []) → okS ⟨P, w, K, mg, base, A, cdAt K mg "least_rows", PySem.Str.ofString "least_rows" ++ (".<locals>." : PySem.Str)⟩ M.least_rowsS := by
  intro A hr hg
  have hleast_so := okleast_so (P := P) (w := w) (base := base) T HB
  have hcheck_rows := okcheck_rows (P := P) (w := w) (base := base) T HB
  unfold M.least_rowsS
  (try simp only [okS, okE, true_and, and_true])
  (repeat' apply And.intro)
  all_goals first | trivial | (exact hleast_so.call hr (fun z => by cases z) (by decide)) | (exact hcheck_rows.call hr (fun z => by cases z) (by decide)) | (exact fun z => absurd z (by decide))
theorem okleast_rows (T : Tops P K mg cs) (HB : ∀ p ∈ cs, LamX.TabB base mg p.1 p.2) : Has P w K mg base "least_rows" (topAt 27) ["rows"] 5 M.least_rows false := has_of T.dleast_rows T.blt scleast_rows mtleast_rows (fun _ _ _ _ _ _ us hl => match us, hl with | [_], _ => rfl) (oksleast_rows T HB)
theorem okXleast_rows (T : Tops P K mg cs) (HB : ∀ p ∈ cs, LamX.TabB base mg p.1 p.2) : HasX P w K mg base "least_rows" (topAt 27) ["rows"] 5 M.least_rows false := by
  refine hasX_of T.dleast_rows T.blt scleast_rows mtleast_rows (fun _ _ _ _ _ _ us hl => match us, hl with | [_], _ => rfl) (oksleast_rows T HB) fun A hr hg => ?_
  have hxcheck_rows := okXcheck_rows (P := P) (w := w) (base := base) T HB
  unfold M.least_rowsS
  (try simp [okSX, okX, quiet, quietS, primPlain, nxleast_so])
  (repeat' apply And.intro)
  all_goals first | trivial | (exact nxleast_so) | (exact .inl nxleast_so) | (exact .inr (hxcheck_rows.call hr (fun z => by cases z) (by decide))) | (exact .inl (.inr (hxcheck_rows.call hr (fun z => by cases z) (by decide))))
theorem scjoined_so : scB ["rows", "found", "row", "near", "far"] ["rows"] (L2.defScope (topAt 21)) = true := by decide +kernel
theorem mtjoined_so : mtSs M.joined_soS ⟨["rows", "found", "row", "near", "far"], L2.defScope (topAt 21), fun _ => true, false⟩ (L2.defBody (topAt 21)) = true := by decide +kernel
theorem oksjoined_so (T : Tops P K mg cs) (HB : ∀ p ∈ cs, LamX.TabB base mg p.1 p.2) : ∀ A, L2.Room 0 A → (false = true → A.guards = some []) → okS ⟨P, w, K, mg, base, A, cdAt K mg "joined_so", PySem.Str.ofString "joined_so" ++ (".<locals>." : PySem.Str)⟩ M.joined_soS := by
  intro A hr hg
  unfold M.joined_soS
  (try simp only [okS, okE, true_and, and_true])
  (repeat' apply And.intro)
  all_goals first | trivial | (exact fun z => absurd z (by decide))
theorem okjoined_so (T : Tops P K mg cs) (HB : ∀ p ∈ cs, LamX.TabB base mg p.1 p.2) : Has P w K mg base "joined_so" (topAt 21) ["rows"] 1 M.joined_so false := has_of T.djoined_so T.blt scjoined_so mtjoined_so (fun _ _ _ _ _ _ us hl => match us, hl with | [_], _ => rfl) (oksjoined_so T HB)
theorem scjoined : scB ["rows"] ["rows"] (L2.defScope (topAt 28)) = true := by decide +kernel
theorem mtjoined : mtSs M.joinedS ⟨["rows"], L2.defScope (topAt 28), fun _ => true, false⟩ (L2.defBody (topAt 28)) = true := by decide +kernel
theorem oksjoined (T : Tops P K mg cs) (HB : ∀ p ∈ cs, LamX.TabB base mg p.1 p.2) : ∀ A, L2.Room 4 A → (false = true → A.guards = some []) → okS ⟨P, w, K, mg, base, A, cdAt K mg "joined", PySem.Str.ofString "joined" ++ (".<locals>." : PySem.Str)⟩ M.joinedS := by
  intro A hr hg
  have hcheck_rows := okcheck_rows (P := P) (w := w) (base := base) T HB
  have hjoined_so := okjoined_so (P := P) (w := w) (base := base) T HB
  unfold M.joinedS
  (try simp only [okS, okE, true_and, and_true])
  (repeat' apply And.intro)
  all_goals first | trivial | (exact hcheck_rows.call hr (fun z => by cases z) (by decide)) | (exact hjoined_so.call hr (fun z => by cases z) (by decide)) | (exact fun z => absurd z (by decide))
theorem okjoined (T : Tops P K mg cs) (HB : ∀ p ∈ cs, LamX.TabB base mg p.1 p.2) : Has P w K mg base "joined" (topAt 28) ["rows"] 5 M.joined false := has_of T.djoined T.blt scjoined mtjoined (fun _ _ _ _ _ _ us hl => match us, hl with | [_], _ => rfl) (oksjoined T HB)
theorem okXjoined (T : Tops P K mg cs) (HB : ∀ p ∈ cs, LamX.TabB base mg p.1 p.2) : HasX P w K mg base "joined" (topAt 28) ["rows"] 5 M.joined false := by
  refine hasX_of T.djoined T.blt scjoined mtjoined (fun _ _ _ _ _ _ us hl => match us, hl with | [_], _ => rfl) (oksjoined T HB) fun A hr hg => ?_
  have hxcheck_rows := okXcheck_rows (P := P) (w := w) (base := base) T HB
  unfold M.joinedS
  (try simp [okSX, okX, quiet, quietS, primPlain, nxjoined_so])
  (repeat' apply And.intro)
  all_goals first | trivial | (exact .inr (hxcheck_rows.call hr (fun z => by cases z) (by decide))) | (exact .inl (.inr (hxcheck_rows.call hr (fun z => by cases z) (by decide)))) | (exact nxjoined_so) | (exact .inl nxjoined_so) | (exact T.cls_BadParameter.at.raise hr (by decide))
theorem sccheck_arity : scB ["rows", "value", "row"] ["rows", "value"] (L2.defScope (topAt 17)) = true := by decide +kernel
theorem mtcheck_arity : mtSs M.check_arityS ⟨["rows", "value", "row"], L2.defScope (topAt 17), fun _ => true, false⟩ (L2.defBody (topAt 17)) = true := by decide +kernel
theorem okscheck_arity (T : Tops P K mg cs) (HB : ∀ p ∈ cs, LamX.TabB base mg p.1 p.2) : ∀ A, L2.Room 3 A → (false = true → A.guards = some []) → okS ⟨P, w, K, mg, base, A, cdAt K mg "check_arity", PySem.Str.ofString "check_arity" ++ (".<locals>." : PySem.Str)⟩ M.check_arityS := by
  intro A hr hg
  have his_from := okis_from (P := P) (w := w) (base := base) T HB
  unfold M.check_arityS
  (try simp only [okS, okE, true_and, and_true])
  (repeat' apply And.intro)
  all_goals first | trivial | (exact his_from.call hr (fun z => by cases z) (by decide)) | (exact fun z => absurd z (by decide))
theorem okcheck_arity (T : Tops P K mg cs) (HB : ∀ p ∈ cs, LamX.TabB base mg p.1 p.2) : Has P w K mg base "check_arity" (topAt 17) ["rows", "value"] 4 M.check_arity false := has_of T.dcheck_arity T.blt sccheck_arity mtcheck_arity (fun _ _ _ _ _ _ us hl => match us, hl with | [_, _], _ => rfl) (okscheck_arity T HB)
theorem okXcheck_arity (T : Tops P K mg cs) (HB : ∀ p ∈ cs, LamX.TabB base mg p.1 p.2) : HasX P w K mg base "check_arity" (topAt 17) ["rows", "value"] 4 M.check_arity false := by
  refine hasX_of T.dcheck_arity T.blt sccheck_arity mtcheck_arity (fun _ _ _ _ _ _ us hl => match us, hl with | [_, _], _ => rfl) (okscheck_arity T HB) fun A hr hg => ?_
  unfold M.check_arityS
  (try simp [okSX, okX, quiet, quietS, primPlain, nxis_from])
  (repeat' apply And.intro)
  all_goals first | trivial | (exact nxis_from) | (exact .inl nxis_from) | (exact T.cls_BadParameter.at.raise hr (by decide))
theorem scsets_so : scB ["many", "size", "found", "_step", "more", "places", "first", "place"] ["many", "size"] (L2.defScope (topAt 22)) = true := by decide +kernel
theorem mtsets_so : mtSs M.sets_soS ⟨["many", "size", "found", "_step", "more", "places", "first", "place"], L2.defScope (topAt 22), fun _ => true, false⟩ (L2.defBody (topAt 22)) = true := by decide +kernel
theorem okssets_so (T : Tops P K mg cs) (HB : ∀ p ∈ cs, LamX.TabB base mg p.1 p.2) : ∀ A, L2.Room 0 A → (false = true → A.guards = some []) → okS ⟨P, w, K, mg, base, A, cdAt K mg "sets_so", PySem.Str.ofString "sets_so" ++ (".<locals>." : PySem.Str)⟩ M.sets_soS := by
  intro A hr hg
  unfold M.sets_soS
  (try simp only [okS, okE, true_and, and_true])
  (repeat' apply And.intro)
  all_goals first | trivial | (exact fun z => absurd z (by decide))
theorem oksets_so (T : Tops P K mg cs) (HB : ∀ p ∈ cs, LamX.TabB base mg p.1 p.2) : Has P w K mg base "sets_so" (topAt 22) ["many", "size"] 1 M.sets_so false := has_of T.dsets_so T.blt scsets_so mtsets_so (fun _ _ _ _ _ _ us hl => match us, hl with | [_, _], _ => rfl) (okssets_so T HB)
theorem scgaps_so : scB ["many", "places", "ends", "near", "far"] ["many", "places"] (L2.defScope (topAt 18)) = true := by decide +kernel
theorem mtgaps_so : mtSs M.gaps_soS ⟨["many", "places", "ends", "near", "far"], L2.defScope (topAt 18), fun _ => true, false⟩ (L2.defBody (topAt 18)) = true := by decide +kernel
theorem oksgaps_so (T : Tops P K mg cs) (HB : ∀ p ∈ cs, LamX.TabB base mg p.1 p.2) : ∀ A, L2.Room 0 A → (false = true → A.guards = some []) → okS ⟨P, w, K, mg, base, A, cdAt K mg "gaps_so", PySem.Str.ofString "gaps_so" ++ (".<locals>." : PySem.Str)⟩ M.gaps_soS := by
  intro A hr hg
  unfold M.gaps_soS
  (try simp only [okS, okE, true_and, and_true])
  (repeat' apply And.intro)
  all_goals first | trivial | (exact fun z => absurd z (by decide))
theorem okgaps_so (T : Tops P K mg cs) (HB : ∀ p ∈ cs, LamX.TabB base mg p.1 p.2) : Has P w K mg base "gaps_so" (topAt 18) ["many", "places"] 1 M.gaps_so false := has_of T.dgaps_so T.blt scgaps_so mtgaps_so (fun _ _ _ _ _ _ us hl => match us, hl with | [_, _], _ => rfl) (oksgaps_so T HB)
theorem sccounted_so : scB ["rows", "arity", "many", "count", "places", "gaps", "row"] ["rows", "arity", "many"] (L2.defScope (topAt 23)) = true := by decide +kernel
theorem mtcounted_so : mtSs M.counted_soS ⟨["rows", "arity", "many", "count", "places", "gaps", "row"], L2.defScope (topAt 23), fun _ => true, false⟩ (L2.defBody (topAt 23)) = true := by decide +kernel
theorem okscounted_so (T : Tops P K mg cs) (HB : ∀ p ∈ cs, LamX.TabB base mg p.1 p.2) : ∀ A, L2.Room 1 A → (false = true → A.guards = some []) → okS ⟨P, w, K, mg, base, A, cdAt K mg "counted_so", PySem.Str.ofString "counted_so" ++ (".<locals>." : PySem.Str)⟩ M.counted_soS := by
  intro A hr hg
  have hsets_so := oksets_so (P := P) (w := w) (base := base) T HB
  have hgaps_so := okgaps_so (P := P) (w := w) (base := base) T HB
  have hreaches_so := okreaches_so (P := P) (w := w) (base := base) T HB
  unfold M.counted_soS
  (try simp only [okS, okE, true_and, and_true])
  (repeat' apply And.intro)
  all_goals first | trivial | (exact hsets_so.call hr (fun z => by cases z) (by decide)) | (exact hgaps_so.call hr (fun z => by cases z) (by decide)) | (exact hreaches_so.call hr (fun z => by cases z) (by decide)) | (exact fun z => absurd z (by decide))
theorem okcounted_so (T : Tops P K mg cs) (HB : ∀ p ∈ cs, LamX.TabB base mg p.1 p.2) : Has P w K mg base "counted_so" (topAt 23) ["rows", "arity", "many"] 2 M.counted_so false := has_of T.dcounted_so T.blt sccounted_so mtcounted_so (fun _ _ _ _ _ _ us hl => match us, hl with | [_, _, _], _ => rfl) (okscounted_so T HB)
theorem sccounted : scB ["rows", "arity", "many"] ["rows", "arity", "many"] (L2.defScope (topAt 29)) = true := by decide +kernel
theorem mtcounted : mtSs M.countedS ⟨["rows", "arity", "many"], L2.defScope (topAt 29), fun _ => true, false⟩ (L2.defBody (topAt 29)) = true := by decide +kernel
theorem okscounted (T : Tops P K mg cs) (HB : ∀ p ∈ cs, LamX.TabB base mg p.1 p.2) : ∀ A, L2.Room 4 A → (false = true → A.guards = some []) → okS ⟨P, w, K, mg, base, A, cdAt K mg "counted", PySem.Str.ofString "counted" ++ (".<locals>." : PySem.Str)⟩ M.countedS := by
  intro A hr hg
  have hcheck_arity := okcheck_arity (P := P) (w := w) (base := base) T HB
  have hcheck_rows := okcheck_rows (P := P) (w := w) (base := base) T HB
  have his_from := okis_from (P := P) (w := w) (base := base) T HB
  have hcounted_so := okcounted_so (P := P) (w := w) (base := base) T HB
  unfold M.countedS
  (try simp only [okS, okE, true_and, and_true])
  (repeat' apply And.intro)
  all_goals first | trivial | (exact hcheck_arity.call hr (fun z => by cases z) (by decide)) | (exact hcheck_rows.call hr (fun z => by cases z) (by decide)) | (exact his_from.call hr (fun z => by cases z) (by decide)) | (exact hcounted_so.call hr (fun z => by cases z) (by decide)) | (exact globOk T.c_MOST_COUNTED) | (exact fun z => absurd z (by decide))
theorem okcounted (T : Tops P K mg cs) (HB : ∀ p ∈ cs, LamX.TabB base mg p.1 p.2) : Has P w K mg base "counted" (topAt 29) ["rows", "arity", "many"] 5 M.counted false := has_of T.dcounted T.blt sccounted mtcounted (fun _ _ _ _ _ _ us hl => match us, hl with | [_, _, _], _ => rfl) (okscounted T HB)
theorem okXcounted (T : Tops P K mg cs) (HB : ∀ p ∈ cs, LamX.TabB base mg p.1 p.2) : HasX P w K mg base "counted" (topAt 29) ["rows", "arity", "many"] 5 M.counted false := by
  refine hasX_of T.dcounted T.blt sccounted mtcounted (fun _ _ _ _ _ _ us hl => match us, hl with | [_, _, _], _ => rfl) (okscounted T HB) fun A hr hg => ?_
  have hxcheck_arity := okXcheck_arity (P := P) (w := w) (base := base) T HB
  have hxcheck_rows := okXcheck_rows (P := P) (w := w) (base := base) T HB
  unfold M.countedS
  (try simp [okSX, okX, quiet, quietS, primPlain, nxis_from, nxcounted_so])
  (repeat' apply And.intro)
  all_goals first | trivial | (exact .inr (hxcheck_arity.call hr (fun z => by cases z) (by decide))) | (exact .inl (.inr (hxcheck_arity.call hr (fun z => by cases z) (by decide)))) | (exact .inr (hxcheck_rows.call hr (fun z => by cases z) (by decide))) | (exact .inl (.inr (hxcheck_rows.call hr (fun z => by cases z) (by decide)))) | (exact nxis_from) | (exact .inl nxis_from) | (exact nxcounted_so) | (exact .inl nxcounted_so) | (exact T.cls_BadParameter.at.raise hr (by decide))
theorem scdifferences : scB ["values", "found", "here", "near", "far"] ["values"] (L2.defScope (topAt 38)) = true := by decide +kernel
theorem mtdifferences : mtSs M.differencesS ⟨["values", "found", "here", "near", "far"], L2.defScope (topAt 38), fun _ => true, false⟩ (L2.defBody (topAt 38)) = true := by decide +kernel
theorem oksdifferences (T : Tops P K mg cs) (HB : ∀ p ∈ cs, LamX.TabB base mg p.1 p.2) : ∀ A, L2.Room 0 A → (false = true → A.guards = some []) → okS ⟨P, w, K, mg, base, A, cdAt K mg "differences", PySem.Str.ofString "differences" ++ (".<locals>." : PySem.Str)⟩ M.differencesS := by
  intro A hr hg
  unfold M.differencesS
  (try simp only [okS, okE, true_and, and_true])
  (repeat' apply And.intro)
  all_goals first | trivial | (exact fun z => absurd z (by decide))
theorem okdifferences (T : Tops P K mg cs) (HB : ∀ p ∈ cs, LamX.TabB base mg p.1 p.2) : Has P w K mg base "differences" (topAt 38) ["values"] 1 M.differences false := has_of T.ddifferences T.blt scdifferences mtdifferences (fun _ _ _ _ _ _ us hl => match us, hl with | [_], _ => rfl) (oksdifferences T HB)
theorem scshifted : scB ["formula", "by", "values", "coefs", "more", "many"] ["formula", "by"] (L2.defScope (topAt 39)) = true := by decide +kernel
theorem mtshifted : mtSs M.shiftedS ⟨["formula", "by", "values", "coefs", "more", "many"], L2.defScope (topAt 39), fun _ => true, false⟩ (L2.defBody (topAt 39)) = true := by decide +kernel
theorem oksshifted (T : Tops P K mg cs) (HB : ∀ p ∈ cs, LamX.TabB base mg p.1 p.2) : ∀ A, L2.Room 3 A → (false = true → A.guards = some []) → okS ⟨P, w, K, mg, base, A, cdAt K mg "shifted", PySem.Str.ofString "shifted" ++ (".<locals>." : PySem.Str)⟩ M.shiftedS := by
  intro A hr hg
  have hdifferences := okdifferences (P := P) (w := w) (base := base) T HB
  have hsum_at := oksum_at (P := P) (w := w) (base := base) T HB
  have hlessened := oklessened (P := P) (w := w) (base := base) T HB
  unfold M.shiftedS
  (try simp only [okS, okE, true_and, and_true])
  (repeat' apply And.intro)
  all_goals first | trivial | (exact hdifferences.call hr (fun z => by cases z) (by decide)) | (exact hsum_at.call hr (fun z => by cases z) (by decide)) | (exact hlessened.call hr (fun z => by cases z) (by decide)) | (exact fun z => absurd z (by decide))
theorem okshifted (T : Tops P K mg cs) (HB : ∀ p ∈ cs, LamX.TabB base mg p.1 p.2) : Has P w K mg base "shifted" (topAt 39) ["formula", "by"] 4 M.shifted false := has_of T.dshifted T.blt scshifted mtshifted (fun _ _ _ _ _ _ us hl => match us, hl with | [_, _], _ => rfl) (oksshifted T HB)
theorem scsummed : scB ["formula", "values", "coefs", "found", "value", "more"] ["formula"] (L2.defScope (topAt 40)) = true := by decide +kernel
theorem mtsummed : mtSs M.summedS ⟨["formula", "values", "coefs", "found", "value", "more"], L2.defScope (topAt 40), fun _ => true, false⟩ (L2.defBody (topAt 40)) = true := by decide +kernel
theorem okssummed (T : Tops P K mg cs) (HB : ∀ p ∈ cs, LamX.TabB base mg p.1 p.2) : ∀ A, L2.Room 3 A → (false = true → A.guards = some []) → okS ⟨P, w, K, mg, base, A, cdAt K mg "summed", PySem.Str.ofString "summed" ++ (".<locals>." : PySem.Str)⟩ M.summedS := by
  intro A hr hg
  have hsum_at := oksum_at (P := P) (w := w) (base := base) T HB
  have hlessened := oklessened (P := P) (w := w) (base := base) T HB
  unfold M.summedS
  (try simp only [okS, okE, true_and, and_true])
  (repeat' apply And.intro)
  all_goals first | trivial | (exact hsum_at.call hr (fun z => by cases z) (by decide)) | (exact hlessened.call hr (fun z => by cases z) (by decide)) | (exact fun z => absurd z (by decide))
theorem oksummed (T : Tops P K mg cs) (HB : ∀ p ∈ cs, LamX.TabB base mg p.1 p.2) : Has P w K mg base "summed" (topAt 40) ["formula"] 4 M.summed false := has_of T.dsummed T.blt scsummed mtsummed (fun _ _ _ _ _ _ us hl => match us, hl with | [_], _ => rfl) (okssummed T HB)
theorem scformula_so : scB ["rows", "arity", "first", "row", "last", "found", "gap", "some"] ["rows", "arity"] (L2.defScope (topAt 44)) = true := by decide +kernel
theorem okformula_so_0 (T : Tops P K mg cs) (HB : ∀ p ∈ cs, LamX.TabB base mg p.1 p.2) : Has P w K mg base "formula_so" (topAt 44) ["rows", "arity"] 1 (M.formula_so_ 0) false := has_never T.dformula_so (fun _ _ _ _ _ _ us hl => match us, hl with | [_, _], _ => rfl)
theorem mtformula_so_0 : mtSs (M.formula_soS (M.formula_so_ 0)) ⟨["rows", "arity", "first", "row", "last", "found", "gap", "some"], L2.defScope (topAt 44), fun _ => true, false⟩ (L2.defBody (topAt 44)) = true := by decide +kernel
theorem okformula_so_1 (T : Tops P K mg cs) (HB : ∀ p ∈ cs, LamX.TabB base mg p.1 p.2) : Has P w K mg base "formula_so" (topAt 44) ["rows", "arity"] 7 (M.formula_so_ 1) false := by
  refine has_of T.dformula_so T.blt scformula_so mtformula_so_0 (fun _ _ _ _ _ _ us hl => match us, hl with | [_, _], _ => rfl) fun A hr hg => ?_
  have hlessened := oklessened (P := P) (w := w) (base := base) T HB
  have hshifted := okshifted (P := P) (w := w) (base := base) T HB
  have hsummed := oksummed (P := P) (w := w) (base := base) T HB
  have hleast_so := okleast_so (P := P) (w := w) (base := base) T HB
  have hplus_formula := okplus_formula (P := P) (w := w) (base := base) T HB
  have hme := okformula_so_0 (P := P) (w := w) (base := base) T HB
  unfold M.formula_soS
  simp only [okS, okE, true_and, and_true]
  repeat' apply And.intro
  all_goals first | trivial | (exact hme.call hr hg (by decide)) | (exact hlessened.call hr (fun z => by cases z) (by decide)) | (exact hshifted.call hr (fun z => by cases z) (by decide)) | (exact hsummed.call hr (fun z => by cases z) (by decide)) | (exact hleast_so.call hr (fun z => by cases z) (by decide)) | (exact hplus_formula.call hr (fun z => by cases z) (by decide)) | (exact globOk T.c_NOTHING) | (exact fun z => absurd z (by decide))
theorem mtformula_so_1 : mtSs (M.formula_soS (M.formula_so_ 1)) ⟨["rows", "arity", "first", "row", "last", "found", "gap", "some"], L2.defScope (topAt 44), fun _ => true, false⟩ (L2.defBody (topAt 44)) = true := by decide +kernel
theorem okformula_so_2 (T : Tops P K mg cs) (HB : ∀ p ∈ cs, LamX.TabB base mg p.1 p.2) : Has P w K mg base "formula_so" (topAt 44) ["rows", "arity"] 8 (M.formula_so_ 2) false := by
  refine has_of T.dformula_so T.blt scformula_so mtformula_so_1 (fun _ _ _ _ _ _ us hl => match us, hl with | [_, _], _ => rfl) fun A hr hg => ?_
  have hlessened := oklessened (P := P) (w := w) (base := base) T HB
  have hshifted := okshifted (P := P) (w := w) (base := base) T HB
  have hsummed := oksummed (P := P) (w := w) (base := base) T HB
  have hleast_so := okleast_so (P := P) (w := w) (base := base) T HB
  have hplus_formula := okplus_formula (P := P) (w := w) (base := base) T HB
  have hme := okformula_so_1 (P := P) (w := w) (base := base) T HB
  unfold M.formula_soS
  simp only [okS, okE, true_and, and_true]
  repeat' apply And.intro
  all_goals first | trivial | (exact hme.call hr hg (by decide)) | (exact hlessened.call hr (fun z => by cases z) (by decide)) | (exact hshifted.call hr (fun z => by cases z) (by decide)) | (exact hsummed.call hr (fun z => by cases z) (by decide)) | (exact hleast_so.call hr (fun z => by cases z) (by decide)) | (exact hplus_formula.call hr (fun z => by cases z) (by decide)) | (exact globOk T.c_NOTHING) | (exact fun z => absurd z (by decide))
theorem mtformula_so_2 : mtSs (M.formula_soS (M.formula_so_ 2)) ⟨["rows", "arity", "first", "row", "last", "found", "gap", "some"], L2.defScope (topAt 44), fun _ => true, false⟩ (L2.defBody (topAt 44)) = true := by decide +kernel
theorem okformula_so_3 (T : Tops P K mg cs) (HB : ∀ p ∈ cs, LamX.TabB base mg p.1 p.2) : Has P w K mg base "formula_so" (topAt 44) ["rows", "arity"] 9 (M.formula_so_ 3) false := by
  refine has_of T.dformula_so T.blt scformula_so mtformula_so_2 (fun _ _ _ _ _ _ us hl => match us, hl with | [_, _], _ => rfl) fun A hr hg => ?_
  have hlessened := oklessened (P := P) (w := w) (base := base) T HB
  have hshifted := okshifted (P := P) (w := w) (base := base) T HB
  have hsummed := oksummed (P := P) (w := w) (base := base) T HB
  have hleast_so := okleast_so (P := P) (w := w) (base := base) T HB
  have hplus_formula := okplus_formula (P := P) (w := w) (base := base) T HB
  have hme := okformula_so_2 (P := P) (w := w) (base := base) T HB
  unfold M.formula_soS
  simp only [okS, okE, true_and, and_true]
  repeat' apply And.intro
  all_goals first | trivial | (exact hme.call hr hg (by decide)) | (exact hlessened.call hr (fun z => by cases z) (by decide)) | (exact hshifted.call hr (fun z => by cases z) (by decide)) | (exact hsummed.call hr (fun z => by cases z) (by decide)) | (exact hleast_so.call hr (fun z => by cases z) (by decide)) | (exact hplus_formula.call hr (fun z => by cases z) (by decide)) | (exact globOk T.c_NOTHING) | (exact fun z => absurd z (by decide))
theorem mtformula_so_3 : mtSs (M.formula_soS (M.formula_so_ 3)) ⟨["rows", "arity", "first", "row", "last", "found", "gap", "some"], L2.defScope (topAt 44), fun _ => true, false⟩ (L2.defBody (topAt 44)) = true := by decide +kernel
theorem okformula_so_4 (T : Tops P K mg cs) (HB : ∀ p ∈ cs, LamX.TabB base mg p.1 p.2) : Has P w K mg base "formula_so" (topAt 44) ["rows", "arity"] 10 (M.formula_so_ 4) false := by
  refine has_of T.dformula_so T.blt scformula_so mtformula_so_3 (fun _ _ _ _ _ _ us hl => match us, hl with | [_, _], _ => rfl) fun A hr hg => ?_
  have hlessened := oklessened (P := P) (w := w) (base := base) T HB
  have hshifted := okshifted (P := P) (w := w) (base := base) T HB
  have hsummed := oksummed (P := P) (w := w) (base := base) T HB
  have hleast_so := okleast_so (P := P) (w := w) (base := base) T HB
  have hplus_formula := okplus_formula (P := P) (w := w) (base := base) T HB
  have hme := okformula_so_3 (P := P) (w := w) (base := base) T HB
  unfold M.formula_soS
  simp only [okS, okE, true_and, and_true]
  repeat' apply And.intro
  all_goals first | trivial | (exact hme.call hr hg (by decide)) | (exact hlessened.call hr (fun z => by cases z) (by decide)) | (exact hshifted.call hr (fun z => by cases z) (by decide)) | (exact hsummed.call hr (fun z => by cases z) (by decide)) | (exact hleast_so.call hr (fun z => by cases z) (by decide)) | (exact hplus_formula.call hr (fun z => by cases z) (by decide)) | (exact globOk T.c_NOTHING) | (exact fun z => absurd z (by decide))
theorem mtformula_so_4 : mtSs (M.formula_soS (M.formula_so_ 4)) ⟨["rows", "arity", "first", "row", "last", "found", "gap", "some"], L2.defScope (topAt 44), fun _ => true, false⟩ (L2.defBody (topAt 44)) = true := by decide +kernel
theorem okformula_so_5 (T : Tops P K mg cs) (HB : ∀ p ∈ cs, LamX.TabB base mg p.1 p.2) : Has P w K mg base "formula_so" (topAt 44) ["rows", "arity"] 11 (M.formula_so_ 5) false := by
  refine has_of T.dformula_so T.blt scformula_so mtformula_so_4 (fun _ _ _ _ _ _ us hl => match us, hl with | [_, _], _ => rfl) fun A hr hg => ?_
  have hlessened := oklessened (P := P) (w := w) (base := base) T HB
  have hshifted := okshifted (P := P) (w := w) (base := base) T HB
  have hsummed := oksummed (P := P) (w := w) (base := base) T HB
  have hleast_so := okleast_so (P := P) (w := w) (base := base) T HB
  have hplus_formula := okplus_formula (P := P) (w := w) (base := base) T HB
  have hme := okformula_so_4 (P := P) (w := w) (base := base) T HB
  unfold M.formula_soS
  simp only [okS, okE, true_and, and_true]
  repeat' apply And.intro
  all_goals first | trivial | (exact hme.call hr hg (by decide)) | (exact hlessened.call hr (fun z => by cases z) (by decide)) | (exact hshifted.call hr (fun z => by cases z) (by decide)) | (exact hsummed.call hr (fun z => by cases z) (by decide)) | (exact hleast_so.call hr (fun z => by cases z) (by decide)) | (exact hplus_formula.call hr (fun z => by cases z) (by decide)) | (exact globOk T.c_NOTHING) | (exact fun z => absurd z (by decide))
theorem okformula_so (T : Tops P K mg cs) (HB : ∀ p ∈ cs, LamX.TabB base mg p.1 p.2) : Has P w K mg base "formula_so" (topAt 44) ["rows", "arity"] 11 M.formula_so false := okformula_so_5 T HB
theorem scformula_of : scB ["rows", "arity"] ["rows", "arity"] (L2.defScope (topAt 47)) = true := by decide +kernel
theorem mtformula_of : mtSs M.formula_ofS ⟨["rows", "arity"], L2.defScope (topAt 47), fun _ => true, false⟩ (L2.defBody (topAt 47)) = true := by decide +kernel
theorem oksformula_of (T : Tops P K mg cs) (HB : ∀ p ∈ cs, LamX.TabB base mg p.1 p.2) : ∀ A, L2.Room 11 A → (false = true → A.guards = some []) → okS ⟨P, w, K, mg, base, A, cdAt K mg "formula_of", PySem.Str.ofString "formula_of" ++ (".<locals>." : PySem.Str)⟩ M.formula_ofS := by
  intro A hr hg
  have hformula_so := okformula_so (P := P) (w := w) (base := base) T HB
  have hcheck_arity := okcheck_arity (P := P) (w := w) (base := base) T HB
  have hcheck_rows := okcheck_rows (P := P) (w := w) (base := base) T HB
  unfold M.formula_ofS
  (try simp only [okS, okE, true_and, and_true])
  (repeat' apply And.intro)
  all_goals first | trivial | (exact hformula_so.call hr (fun z => by cases z) (by decide)) | (exact hcheck_arity.call hr (fun z => by cases z) (by decide)) | (exact hcheck_rows.call hr (fun z => by cases z) (by decide)) | (exact fun z => absurd z (by decide))
theorem okformula_of (T : Tops P K mg cs) (HB : ∀ p ∈ cs, LamX.TabB base mg p.1 p.2) : Has P w K mg base "formula_of" (topAt 47) ["rows", "arity"] 12 M.formula_of false := has_of T.dformula_of T.blt scformula_of mtformula_of (fun _ _ _ _ _ _ us hl => match us, hl with | [_, _], _ => rfl) (oksformula_of T HB)
theorem okXformula_of (T : Tops P K mg cs) (HB : ∀ p ∈ cs, LamX.TabB base mg p.1 p.2) : HasX P w K mg base "formula_of" (topAt 47) ["rows", "arity"] 12 M.formula_of false := by
  refine hasX_of T.dformula_of T.blt scformula_of mtformula_of (fun _ _ _ _ _ _ us hl => match us, hl with | [_, _], _ => rfl) (oksformula_of T HB) fun A hr hg => ?_
  have hxcheck_arity := okXcheck_arity (P := P) (w := w) (base := base) T HB
  have hxcheck_rows := okXcheck_rows (P := P) (w := w) (base := base) T HB
  unfold M.formula_ofS
  (try simp [okSX, okX, quiet, quietS, primPlain, nxformula_so])
  (repeat' apply And.intro)
  all_goals first | trivial | (exact nxformula_so) | (exact .inl nxformula_so) | (exact .inr (hxcheck_arity.call hr (fun z => by cases z) (by decide))) | (exact .inl (.inr (hxcheck_arity.call hr (fun z => by cases z) (by decide)))) | (exact .inr (hxcheck_rows.call hr (fun z => by cases z) (by decide))) | (exact .inl (.inr (hxcheck_rows.call hr (fun z => by cases z) (by decide))))
theorem sc_law_rows_right : scB ["state", "good", "full", "odd", "size", "many_so", "got", "due", "value_so"] ["state"] (L2.defScope (topAt 60)) = true := by decide +kernel
theorem mt_law_rows_right : mtSs M.Llaw_rows_rightS ⟨["state", "good", "full", "odd", "size", "many_so", "got", "due", "value_so"], L2.defScope (topAt 60), fun _ => true, true⟩ (L2.defBody (topAt 60)) = true := by decide +kernel
theorem oks_law_rows_right (T : Tops P K mg cs) (HB : ∀ p ∈ cs, LamX.TabB base mg p.1 p.2) : ∀ A, L2.Room 14 A → (true = true → A.guards = some []) → okS ⟨P, w, K, mg, base, A, cdAt K mg "_law_rows_right", PySem.Str.ofString "_law_rows_right" ++ (".<locals>." : PySem.Str)⟩ M.Llaw_rows_rightS := by
  intro A hr hg
  have h_law_of := ok_law_of (P := P) (w := w) (base := base) T HB
  have h_law_like := ok_law_like (P := P) (w := w) (base := base) T HB
  have hleast_rows := okleast_rows (P := P) (w := w) (base := base) T HB
  have hjoined := okjoined (P := P) (w := w) (base := base) T HB
  have hcounted := okcounted (P := P) (w := w) (base := base) T HB
  have hformula_of := okformula_of (P := P) (w := w) (base := base) T HB
  have hxleast_rows := okXleast_rows (P := P) (w := w) (base := base) T HB
  have hxjoined := okXjoined (P := P) (w := w) (base := base) T HB
  have hxcounted := okXcounted (P := P) (w := w) (base := base) T HB
  have hxformula_of := okXformula_of (P := P) (w := w) (base := base) T HB
  unfold M.Llaw_rows_rightS
  (try simp only [okS, okE, true_and, and_true])
  (repeat' apply And.intro)
  all_goals first | trivial | (exact h_law_of.call hr hg (by decide)) | (exact h_law_like.call hr hg (by decide)) | (exact fun z => absurd z (by decide)) | (exact heard_sem (lv := 12) (hear_law_heard T) T.hc_law_heard T.errs (T.lam_law_rows_right.at HB) (hr.mono (by decide)) (fun A' cd' q' hr' => by ((try simp only [okE, true_and, and_true]) <;> (repeat' apply And.intro) <;> first | trivial | (exact hleast_rows.call hr' (fun z => by cases z) (by decide)) | (exact hjoined.call hr' (fun z => by cases z) (by decide)) | (exact hcounted.call hr' (fun z => by cases z) (by decide)) | (exact hformula_of.call hr' (fun z => by cases z) (by decide)))) (fun A' cd' q' hr' => by ((try simp [okX, quiet, primPlain]) <;> (repeat' apply And.intro) <;> first | trivial | (exact .inr (hxleast_rows.call hr' (fun z => by cases z) (by decide))) | (exact .inr (hxjoined.call hr' (fun z => by cases z) (by decide))) | (exact .inr (hxcounted.call hr' (fun z => by cases z) (by decide))) | (exact .inr (hxformula_of.call hr' (fun z => by cases z) (by decide))))))
theorem ok_law_rows_right (T : Tops P K mg cs) (HB : ∀ p ∈ cs, LamX.TabB base mg p.1 p.2) : Has P w K mg base "_law_rows_right" (topAt 60) ["state"] 15 M.Llaw_rows_right true := has_of T.d_law_rows_right T.blt sc_law_rows_right mt_law_rows_right (fun _ _ _ _ _ _ us hl => match us, hl with | [_], _ => rfl) (oks_law_rows_right T HB)
theorem scis_places : scB ["value", "many", "item", "near", "far"] ["value", "many"] (L2.defScope (topAt 13)) = true := by decide +kernel
theorem mtis_places : mtSs M.is_placesS ⟨["value", "many", "item", "near", "far"], L2.defScope (topAt 13), fun _ => true, false⟩ (L2.defBody (topAt 13)) = true := by decide +kernel
theorem oksis_places (T : Tops P K mg cs) (HB : ∀ p ∈ cs, LamX.TabB base mg p.1 p.2) : ∀ A, L2.Room 1 A → (false = true → A.guards = some []) → okS ⟨P, w, K, mg, base, A, cdAt K mg "is_places", PySem.Str.ofString "is_places" ++ (".<locals>." : PySem.Str)⟩ M.is_placesS := by
  intro A hr hg
  have his_from := okis_from (P := P) (w := w) (base := base) T HB
  unfold M.is_placesS
  (try simp only [okS, okE, true_and, and_true])
  (repeat' apply And.intro)
  all_goals first | trivial | (exact his_from.call hr (fun z => by cases z) (by decide)) | (exact fun z => absurd z (by decide))
theorem okis_places (T : Tops P K mg cs) (HB : ∀ p ∈ cs, LamX.TabB base mg p.1 p.2) : Has P w K mg base "is_places" (topAt 13) ["value", "many"] 2 M.is_places false := has_of T.dis_places T.blt scis_places mtis_places (fun _ _ _ _ _ _ us hl => match us, hl with | [_, _], _ => rfl) (oksis_places T HB)
theorem sccheck_many : scB ["value"] ["value"] (L2.defScope (topAt 7)) = true := by decide +kernel
theorem mtcheck_many : mtSs M.check_manyS ⟨["value"], L2.defScope (topAt 7), fun _ => true, false⟩ (L2.defBody (topAt 7)) = true := by decide +kernel
theorem okscheck_many (T : Tops P K mg cs) (HB : ∀ p ∈ cs, LamX.TabB base mg p.1 p.2) : ∀ A, L2.Room 3 A → (false = true → A.guards = some []) → okS ⟨P, w, K, mg, base, A, cdAt K mg "check_many", PySem.Str.ofString "check_many" ++ (".<locals>." : PySem.Str)⟩ M.check_manyS := by
  intro A hr hg
  have his_from := okis_from (P := P) (w := w) (base := base) T HB
  unfold M.check_manyS
  (try simp only [okS, okE, true_and, and_true])
  (repeat' apply And.intro)
  all_goals first | trivial | (exact his_from.call hr (fun z => by cases z) (by decide)) | (exact globOk T.c_MOST_PLACES_sayings) | (exact fun z => absurd z (by decide))
theorem okcheck_many (T : Tops P K mg cs) (HB : ∀ p ∈ cs, LamX.TabB base mg p.1 p.2) : Has P w K mg base "check_many" (topAt 7) ["value"] 4 M.check_many false := has_of T.dcheck_many T.blt sccheck_many mtcheck_many (fun _ _ _ _ _ _ us hl => match us, hl with | [_], _ => rfl) (okscheck_many T HB)
theorem okXcheck_many (T : Tops P K mg cs) (HB : ∀ p ∈ cs, LamX.TabB base mg p.1 p.2) : HasX P w K mg base "check_many" (topAt 7) ["value"] 4 M.check_many false := by
  refine hasX_of T.dcheck_many T.blt sccheck_many mtcheck_many (fun _ _ _ _ _ _ us hl => match us, hl with | [_], _ => rfl) (okscheck_many T HB) fun A hr hg => ?_
  unfold M.check_manyS
  (try simp [okSX, okX, quiet, quietS, primPlain, nxis_from])
  (repeat' apply And.intro)
  all_goals first | trivial | (exact nxis_from) | (exact .inl nxis_from) | (exact T.cls_BadParameter.at.raise hr (by decide))
theorem scgaps_of : scB ["many", "places"] ["many", "places"] (L2.defScope (topAt 24)) = true := by decide +kernel
theorem mtgaps_of : mtSs M.gaps_ofS ⟨["many", "places"], L2.defScope (topAt 24), fun _ => true, false⟩ (L2.defBody (topAt 24)) = true := by decide +kernel
theorem oksgaps_of (T : Tops P K mg cs) (HB : ∀ p ∈ cs, LamX.TabB base mg p.1 p.2) : ∀ A, L2.Room 4 A → (false = true → A.guards = some []) → okS ⟨P, w, K, mg, base, A, cdAt K mg "gaps_of", PySem.Str.ofString "gaps_of" ++ (".<locals>." : PySem.Str)⟩ M.gaps_ofS := by
  intro A hr hg
  have his_places := okis_places (P := P) (w := w) (base := base) T HB
  have hcheck_many := okcheck_many (P := P) (w := w) (base := base) T HB
  have hgaps_so := okgaps_so (P := P) (w := w) (base := base) T HB
  unfold M.gaps_ofS
  (try simp only [okS, okE, true_and, and_true])
  (repeat' apply And.intro)
  all_goals first | trivial | (exact his_places.call hr (fun z => by cases z) (by decide)) | (exact hcheck_many.call hr (fun z => by cases z) (by decide)) | (exact hgaps_so.call hr (fun z => by cases z) (by decide)) | (exact fun z => absurd z (by decide))
theorem okgaps_of (T : Tops P K mg cs) (HB : ∀ p ∈ cs, LamX.TabB base mg p.1 p.2) : Has P w K mg base "gaps_of" (topAt 24) ["many", "places"] 5 M.gaps_of false := has_of T.dgaps_of T.blt scgaps_of mtgaps_of (fun _ _ _ _ _ _ us hl => match us, hl with | [_, _], _ => rfl) (oksgaps_of T HB)
theorem okXgaps_of (T : Tops P K mg cs) (HB : ∀ p ∈ cs, LamX.TabB base mg p.1 p.2) : HasX P w K mg base "gaps_of" (topAt 24) ["many", "places"] 5 M.gaps_of false := by
  refine hasX_of T.dgaps_of T.blt scgaps_of mtgaps_of (fun _ _ _ _ _ _ us hl => match us, hl with | [_, _], _ => rfl) (oksgaps_of T HB) fun A hr hg => ?_
  have hxcheck_many := okXcheck_many (P := P) (w := w) (base := base) T HB
  unfold M.gaps_ofS
  (try simp [okSX, okX, quiet, quietS, primPlain, nxis_places, nxgaps_so])
  (repeat' apply And.intro)
  all_goals first | trivial | (exact nxis_places) | (exact .inl nxis_places) | (exact .inr (hxcheck_many.call hr (fun z => by cases z) (by decide))) | (exact .inl (.inr (hxcheck_many.call hr (fun z => by cases z) (by decide)))) | (exact nxgaps_so) | (exact .inl nxgaps_so) | (exact T.cls_BadParameter.at.raise hr (by decide))
theorem sccheck_gaps : scB ["value"] ["value"] (L2.defScope (topAt 15)) = true := by decide +kernel
theorem mtcheck_gaps : mtSs M.check_gapsS ⟨["value"], L2.defScope (topAt 15), fun _ => true, false⟩ (L2.defBody (topAt 15)) = true := by decide +kernel
theorem okscheck_gaps (T : Tops P K mg cs) (HB : ∀ p ∈ cs, LamX.TabB base mg p.1 p.2) : ∀ A, L2.Room 3 A → (false = true → A.guards = some []) → okS ⟨P, w, K, mg, base, A, cdAt K mg "check_gaps", PySem.Str.ofString "check_gaps" ++ (".<locals>." : PySem.Str)⟩ M.check_gapsS := by
  intro A hr hg
  have his_gaps := okis_gaps (P := P) (w := w) (base := base) T HB
  unfold M.check_gapsS
  (try simp only [okS, okE, true_and, and_true])
  (repeat' apply And.intro)
  all_goals first | trivial | (exact his_gaps.call hr (fun z => by cases z) (by decide)) | (exact fun z => absurd z (by decide))
theorem okcheck_gaps (T : Tops P K mg cs) (HB : ∀ p ∈ cs, LamX.TabB base mg p.1 p.2) : Has P w K mg base "check_gaps" (topAt 15) ["value"] 4 M.check_gaps false := has_of T.dcheck_gaps T.blt sccheck_gaps mtcheck_gaps (fun _ _ _ _ _ _ us hl => match us, hl with | [_], _ => rfl) (okscheck_gaps T HB)
theorem okXcheck_gaps (T : Tops P K mg cs) (HB : ∀ p ∈ cs, LamX.TabB base mg p.1 p.2) : HasX P w K mg base "check_gaps" (topAt 15) ["value"] 4 M.check_gaps false := by
  refine hasX_of T.dcheck_gaps T.blt sccheck_gaps mtcheck_gaps (fun _ _ _ _ _ _ us hl => match us, hl with | [_], _ => rfl) (okscheck_gaps T HB) fun A hr hg => ?_
  unfold M.check_gapsS
  (try simp [okSX, okX, quiet, quietS, primPlain, nxis_gaps])
  (repeat' apply And.intro)
  all_goals first | trivial | (exact nxis_gaps) | (exact .inl nxis_gaps) | (exact T.cls_BadParameter.at.raise hr (by decide))
theorem scplaces_of : scB ["gaps", "many", "found", "gap"] ["gaps"] (L2.defScope (topAt 25)) = true := by decide +kernel
theorem mtplaces_of : mtSs M.places_ofS ⟨["gaps", "many", "found", "gap"], L2.defScope (topAt 25), fun _ => true, false⟩ (L2.defBody (topAt 25)) = true := by decide +kernel
theorem oksplaces_of (T : Tops P K mg cs) (HB : ∀ p ∈ cs, LamX.TabB base mg p.1 p.2) : ∀ A, L2.Room 4 A → (false = true → A.guards = some []) → okS ⟨P, w, K, mg, base, A, cdAt K mg "places_of", PySem.Str.ofString "places_of" ++ (".<locals>." : PySem.Str)⟩ M.places_ofS := by
  intro A hr hg
  have hcheck_gaps := okcheck_gaps (P := P) (w := w) (base := base) T HB
  unfold M.places_ofS
  (try simp only [okS, okE, true_and, and_true])
  (repeat' apply And.intro)
  all_goals first | trivial | (exact hcheck_gaps.call hr (fun z => by cases z) (by decide)) | (exact globOk T.c_MOST_PLACES_gaps) | (exact fun z => absurd z (by decide))
theorem okplaces_of (T : Tops P K mg cs) (HB : ∀ p ∈ cs, LamX.TabB base mg p.1 p.2) : Has P w K mg base "places_of" (topAt 25) ["gaps"] 5 M.places_of false := has_of T.dplaces_of T.blt scplaces_of mtplaces_of (fun _ _ _ _ _ _ us hl => match us, hl with | [_], _ => rfl) (oksplaces_of T HB)
theorem okXplaces_of (T : Tops P K mg cs) (HB : ∀ p ∈ cs, LamX.TabB base mg p.1 p.2) : HasX P w K mg base "places_of" (topAt 25) ["gaps"] 5 M.places_of false := by
  refine hasX_of T.dplaces_of T.blt scplaces_of mtplaces_of (fun _ _ _ _ _ _ us hl => match us, hl with | [_], _ => rfl) (oksplaces_of T HB) fun A hr hg => ?_
  have hxcheck_gaps := okXcheck_gaps (P := P) (w := w) (base := base) T HB
  unfold M.places_ofS
  (try simp [okSX, okX, quiet, quietS, primPlain])
  (repeat' apply And.intro)
  all_goals first | trivial | (exact .inr (hxcheck_gaps.call hr (fun z => by cases z) (by decide))) | (exact .inl (.inr (hxcheck_gaps.call hr (fun z => by cases z) (by decide)))) | (exact T.cls_BadParameter.at.raise hr (by decide))
theorem screaches : scB ["gaps", "others"] ["gaps", "others"] (L2.defScope (topAt 26)) = true := by decide +kernel
theorem mtreaches : mtSs M.reachesS ⟨["gaps", "others"], L2.defScope (topAt 26), fun _ => true, false⟩ (L2.defBody (topAt 26)) = true := by decide +kernel
theorem oksreaches (T : Tops P K mg cs) (HB : ∀ p ∈ cs, LamX.TabB base mg p.1 p.2) : ∀ A, L2.Room 4 A → (false = true → A.guards = some []) → okS ⟨P, w, K, mg, base, A, cdAt K mg "reaches", PySem.Str.ofString "reaches" ++ (".<locals>." : PySem.Str)⟩ M.reachesS := by
  intro A hr hg
  have hcheck_gaps := okcheck_gaps (P := P) (w := w) (base := base) T HB
  have hreaches_so := okreaches_so (P := P) (w := w) (base := base) T HB
  unfold M.reachesS
  (try simp only [okS, okE, true_and, and_true])
  (repeat' apply And.intro)
  all_goals first | trivial | (exact hcheck_gaps.call hr (fun z => by cases z) (by decide)) | (exact hreaches_so.call hr (fun z => by cases z) (by decide)) | (exact fun z => absurd z (by decide))
theorem okreaches (T : Tops P K mg cs) (HB : ∀ p ∈ cs, LamX.TabB base mg p.1 p.2) : Has P w K mg base "reaches" (topAt 26) ["gaps", "others"] 5 M.reaches false := has_of T.dreaches T.blt screaches mtreaches (fun _ _ _ _ _ _ us hl => match us, hl with | [_, _], _ => rfl) (oksreaches T HB)
theorem okXreaches (T : Tops P K mg cs) (HB : ∀ p ∈ cs, LamX.TabB base mg p.1 p.2) : HasX P w K mg base "reaches" (topAt 26) ["gaps", "others"] 5 M.reaches false := by
  refine hasX_of T.dreaches T.blt screaches mtreaches (fun _ _ _ _ _ _ us hl => match us, hl with | [_, _], _ => rfl) (oksreaches T HB) fun A hr hg => ?_
  have hxcheck_gaps := okXcheck_gaps (P := P) (w := w) (base := base) T HB
  unfold M.reachesS
  (try simp [okSX, okX, quiet, quietS, primPlain, nxreaches_so])
  (repeat' apply And.intro)
  all_goals first | trivial | (exact .inr (hxcheck_gaps.call hr (fun z => by cases z) (by decide))) | (exact .inl (.inr (hxcheck_gaps.call hr (fun z => by cases z) (by decide)))) | (exact nxreaches_so) | (exact .inl nxreaches_so) | (exact T.cls_BadParameter.at.raise hr (by decide))
theorem sc_law_gaps_right : scB ["state", "odd", "bad", "worse", "got", "due"] ["state"] (L2.defScope (topAt 59)) = true := by decide +kernel
theorem mt_law_gaps_right : mtSs M.Llaw_gaps_rightS ⟨["state", "odd", "bad", "worse", "got", "due"], L2.defScope (topAt 59), fun _ => true, true⟩ (L2.defBody (topAt 59)) = true := by decide +kernel
theorem oks_law_gaps_right (T : Tops P K mg cs) (HB : ∀ p ∈ cs, LamX.TabB base mg p.1 p.2) : ∀ A, L2.Room 7 A → (true = true → A.guards = some []) → okS ⟨P, w, K, mg, base, A, cdAt K mg "_law_gaps_right", PySem.Str.ofString "_law_gaps_right" ++ (".<locals>." : PySem.Str)⟩ M.Llaw_gaps_rightS := by
  intro A hr hg
  have h_law_of := ok_law_of (P := P) (w := w) (base := base) T HB
  have h_law_like := ok_law_like (P := P) (w := w) (base := base) T HB
  have hgaps_of := okgaps_of (P := P) (w := w) (base := base) T HB
  have hplaces_of := okplaces_of (P := P) (w := w) (base := base) T HB
  have hreaches := okreaches (P := P) (w := w) (base := base) T HB
  have hxgaps_of := okXgaps_of (P := P) (w := w) (base := base) T HB
  have hxplaces_of := okXplaces_of (P := P) (w := w) (base := base) T HB
  have hxreaches := okXreaches (P := P) (w := w) (base := base) T HB
  unfold M.Llaw_gaps_rightS
  (try simp only [okS, okE, true_and, and_true])
  (repeat' apply And.intro)
  all_goals first | trivial | (exact h_law_of.call hr hg (by decide)) | (exact h_law_like.call hr hg (by decide)) | (exact fun z => absurd z (by decide)) | (exact heard_sem (lv := 5) (hear_law_heard T) T.hc_law_heard T.errs (T.lam_law_gaps_right.at HB) (hr.mono (by decide)) (fun A' cd' q' hr' => by ((try simp only [okE, true_and, and_true]) <;> (repeat' apply And.intro) <;> first | trivial | (exact hgaps_of.call hr' (fun z => by cases z) (by decide)) | (exact hplaces_of.call hr' (fun z => by cases z) (by decide)) | (exact hreaches.call hr' (fun z => by cases z) (by decide)))) (fun A' cd' q' hr' => by ((try simp [okX, quiet, primPlain]) <;> (repeat' apply And.intro) <;> first | trivial | (exact .inr (hxgaps_of.call hr' (fun z => by cases z) (by decide))) | (exact .inr (hxplaces_of.call hr' (fun z => by cases z) (by decide))) | (exact .inr (hxreaches.call hr' (fun z => by cases z) (by decide))))))
theorem ok_law_gaps_right (T : Tops P K mg cs) (HB : ∀ p ∈ cs, LamX.TabB base mg p.1 p.2) : Has P w K mg base "_law_gaps_right" (topAt 59) ["state"] 8 M.Llaw_gaps_right true := has_of T.d_law_gaps_right T.blt sc_law_gaps_right mt_law_gaps_right (fun _ _ _ _ _ _ us hl => match us, hl with | [_], _ => rfl) (oks_law_gaps_right T HB)
theorem sclaw : scB ["script", "state", "turn"] ["script"] (L2.defScope (topAt 62)) = true := by decide +kernel
theorem mtlaw : mtSs M.lawS ⟨["script", "state", "turn"], L2.defScope (topAt 62), fun _ => true, true⟩ ((L2.defBody (topAt 62)).drop 1) = true := by decide +kernel
theorem oklaw (T : Tops P K mg cs) (HB : ∀ p ∈ cs, LamX.TabB base mg p.1 p.2) : ∃ f fd, mg "law" = some (.ref f) ∧ L2.Fun K "law" "law" (topAt 62) f fd ∧ (∀ (s : PySem.Shared) (u : PySem.Value), BindsTo s fd ⟨[u], []⟩ [("script", u)]) ∧ LawGo P w K mg base f fd "script" 3 1 M.lawS := by
  refine law_of T.dlaw T.d_law_begin T.blt (p := fun i => bgPos.getD i ⟨0, 0, 0, 0⟩) (y := "state") (N := ["script", "state", "turn"]) (j := 1) sclaw rfl rfl rfl rfl (by decide +kernel) rfl (by decide +kernel) (by decide +kernel) mtlaw (fun _ _ _ _ _ _ _ => rfl) (fun _ _ _ _ _ _ us hl => match us, hl with | [_], _ => rfl) fun A hr hg => ?_
  have h_law_formulas_right := ok_law_formulas_right (P := P) (w := w) (base := base) T HB
  have h_law_rows_right := ok_law_rows_right (P := P) (w := w) (base := base) T HB
  have h_law_gaps_right := ok_law_gaps_right (P := P) (w := w) (base := base) T HB
  unfold M.lawS
  (try simp only [okS, okE, true_and, and_true])
  (repeat' apply And.intro)
  all_goals first | trivial | (exact h_law_formulas_right.call hr (fun _ => hg) (by decide)) | (exact h_law_rows_right.call hr (fun _ => hg) (by decide)) | (exact h_law_gaps_right.call hr (fun _ => hg) (by decide)) | (exact fun z => absurd z (by decide))
end
theorem tops_mk {P : PySem.Program} {w : PySem.World} {K : PySem.W.Frag} {h : PySem.Heap} {mg : PySem.Str → Option PySem.Value} {fa : PySem.Addr} {cs : List (PySem.Addr × PySem.Addr)} (X : K.In h) (G : h.Ns mainGlobals mg) (hfa : mg "law" = some (.ref fa)) (tb : List (PySem.Addr × String)) (htb : TB K = tb.map fun p => (p.1, lamStr p.2))
    (cls_BadParameter : ClsF P K mg "BadParameter")
    (er : ErrsOk K mg)
    (hc_law_heard : HcOk mg M.Llaw_heardHs)
    {r0 : PySem.Addr} {oc0 kV0 dc0 pm0 cd0 ct0 : PySem.Value} {od0 an0 : Option PySem.Addr} {sl0 : Array (Option PySem.Value)}
    {r1 : PySem.Addr} {oc1 kV1 dc1 pm1 cd1 ct1 : PySem.Value} {od1 an1 : Option PySem.Addr} {sl1 : Array (Option PySem.Value)}
    {r2 : PySem.Addr} {oc2 kV2 dc2 pm2 cd2 ct2 : PySem.Value} {od2 an2 : Option PySem.Addr} {sl2 : Array (Option PySem.Value)}
    {r3 : PySem.Addr} {oc3 kV3 dc3 pm3 cd3 ct3 : PySem.Value} {od3 an3 : Option PySem.Addr} {sl3 : Array (Option PySem.Value)}
    {r4 : PySem.Addr} {oc4 kV4 dc4 pm4 cd4 ct4 : PySem.Value} {od4 an4 : Option PySem.Addr} {sl4 : Array (Option PySem.Value)}
    {r5 : PySem.Addr} {oc5 kV5 dc5 pm5 cd5 ct5 : PySem.Value} {od5 an5 : Option PySem.Addr} {sl5 : Array (Option PySem.Value)}
    {r6 : PySem.Addr} {oc6 kV6 dc6 pm6 cd6 ct6 : PySem.Value} {od6 an6 : Option PySem.Addr} {sl6 : Array (Option PySem.Value)}
    {r7 : PySem.Addr} {oc7 kV7 dc7 pm7 cd7 ct7 : PySem.Value} {od7 an7 : Option PySem.Addr} {sl7 : Array (Option PySem.Value)}
    {r8 : PySem.Addr} {oc8 kV8 dc8 pm8 cd8 ct8 : PySem.Value} {od8 an8 : Option PySem.Addr} {sl8 : Array (Option PySem.Value)}
    {r9 : PySem.Addr} {oc9 kV9 dc9 pm9 cd9 ct9 : PySem.Value} {od9 an9 : Option PySem.Addr} {sl9 : Array (Option PySem.Value)}
    {r10 : PySem.Addr} {oc10 kV10 dc10 pm10 cd10 ct10 : PySem.Value} {od10 an10 : Option PySem.Addr} {sl10 : Array (Option PySem.Value)}
    {r11 : PySem.Addr} {oc11 kV11 dc11 pm11 cd11 ct11 : PySem.Value} {od11 an11 : Option PySem.Addr} {sl11 : Array (Option PySem.Value)}
    {r12 : PySem.Addr} {oc12 kV12 dc12 pm12 cd12 ct12 : PySem.Value} {od12 an12 : Option PySem.Addr} {sl12 : Array (Option PySem.Value)}
    {r13 : PySem.Addr} {oc13 kV13 dc13 pm13 cd13 ct13 : PySem.Value} {od13 an13 : Option PySem.Addr} {sl13 : Array (Option PySem.Value)}
    {r14 : PySem.Addr} {oc14 kV14 dc14 pm14 cd14 ct14 : PySem.Value} {od14 an14 : Option PySem.Addr} {sl14 : Array (Option PySem.Value)}
    {r15 : PySem.Addr} {oc15 kV15 dc15 pm15 cd15 ct15 : PySem.Value} {od15 an15 : Option PySem.Addr} {sl15 : Array (Option PySem.Value)}
    {r16 : PySem.Addr} {oc16 kV16 dc16 pm16 cd16 ct16 : PySem.Value} {od16 an16 : Option PySem.Addr} {sl16 : Array (Option PySem.Value)}
    {r17 : PySem.Addr} {oc17 kV17 dc17 pm17 cd17 ct17 : PySem.Value} {od17 an17 : Option PySem.Addr} {sl17 : Array (Option PySem.Value)}
    {r18 : PySem.Addr} {oc18 kV18 dc18 pm18 cd18 ct18 : PySem.Value} {od18 an18 : Option PySem.Addr} {sl18 : Array (Option PySem.Value)}
    {r19 : PySem.Addr} {oc19 kV19 dc19 pm19 cd19 ct19 : PySem.Value} {od19 an19 : Option PySem.Addr} {sl19 : Array (Option PySem.Value)}
    {r20 : PySem.Addr} {oc20 kV20 dc20 pm20 cd20 ct20 : PySem.Value} {od20 an20 : Option PySem.Addr} {sl20 : Array (Option PySem.Value)}
    {r21 : PySem.Addr} {oc21 kV21 dc21 pm21 cd21 ct21 : PySem.Value} {od21 an21 : Option PySem.Addr} {sl21 : Array (Option PySem.Value)}
    {r22 : PySem.Addr} {oc22 kV22 dc22 pm22 cd22 ct22 : PySem.Value} {od22 an22 : Option PySem.Addr} {sl22 : Array (Option PySem.Value)}
    {r23 : PySem.Addr} {oc23 kV23 dc23 pm23 cd23 ct23 : PySem.Value} {od23 an23 : Option PySem.Addr} {sl23 : Array (Option PySem.Value)}
    {r24 : PySem.Addr} {oc24 kV24 dc24 pm24 cd24 ct24 : PySem.Value} {od24 an24 : Option PySem.Addr} {sl24 : Array (Option PySem.Value)}
    {r25 : PySem.Addr} {oc25 kV25 dc25 pm25 cd25 ct25 : PySem.Value} {od25 an25 : Option PySem.Addr} {sl25 : Array (Option PySem.Value)}
    {r26 : PySem.Addr} {oc26 kV26 dc26 pm26 cd26 ct26 : PySem.Value} {od26 an26 : Option PySem.Addr} {sl26 : Array (Option PySem.Value)}
    {r27 : PySem.Addr} {oc27 kV27 dc27 pm27 cd27 ct27 : PySem.Value} {od27 an27 : Option PySem.Addr} {sl27 : Array (Option PySem.Value)}
    {r28 : PySem.Addr} {oc28 kV28 dc28 pm28 cd28 ct28 : PySem.Value} {od28 an28 : Option PySem.Addr} {sl28 : Array (Option PySem.Value)}
    {r29 : PySem.Addr} {oc29 kV29 dc29 pm29 cd29 ct29 : PySem.Value} {od29 an29 : Option PySem.Addr} {sl29 : Array (Option PySem.Value)}
    {r30 : PySem.Addr} {oc30 kV30 dc30 pm30 cd30 ct30 : PySem.Value} {od30 an30 : Option PySem.Addr} {sl30 : Array (Option PySem.Value)}
    {r31 : PySem.Addr} {oc31 kV31 dc31 pm31 cd31 ct31 : PySem.Value} {od31 an31 : Option PySem.Addr} {sl31 : Array (Option PySem.Value)}
    {r32 : PySem.Addr} {oc32 kV32 dc32 pm32 cd32 ct32 : PySem.Value} {od32 an32 : Option PySem.Addr} {sl32 : Array (Option PySem.Value)}
    {r33 : PySem.Addr} {oc33 kV33 dc33 pm33 cd33 ct33 : PySem.Value} {od33 an33 : Option PySem.Addr} {sl33 : Array (Option PySem.Value)}
    {r34 : PySem.Addr} {oc34 kV34 dc34 pm34 cd34 ct34 : PySem.Value} {od34 an34 : Option PySem.Addr} {sl34 : Array (Option PySem.Value)}
    {r35 : PySem.Addr} {oc35 kV35 dc35 pm35 cd35 ct35 : PySem.Value} {od35 an35 : Option PySem.Addr} {sl35 : Array (Option PySem.Value)}
    {r36 : PySem.Addr} {oc36 kV36 dc36 pm36 cd36 ct36 : PySem.Value} {od36 an36 : Option PySem.Addr} {sl36 : Array (Option PySem.Value)}
    {r37 : PySem.Addr} {oc37 kV37 dc37 pm37 cd37 ct37 : PySem.Value} {od37 an37 : Option PySem.Addr} {sl37 : Array (Option PySem.Value)}
    {r38 : PySem.Addr} {oc38 kV38 dc38 pm38 cd38 ct38 : PySem.Value} {od38 an38 : Option PySem.Addr} {sl38 : Array (Option PySem.Value)}
    {r39 : PySem.Addr} {oc39 kV39 dc39 pm39 cd39 ct39 : PySem.Value} {od39 an39 : Option PySem.Addr} {sl39 : Array (Option PySem.Value)}
    {r40 : PySem.Addr} {oc40 kV40 dc40 pm40 cd40 ct40 : PySem.Value} {od40 an40 : Option PySem.Addr} {sl40 : Array (Option PySem.Value)}
    {r41 : PySem.Addr} {oc41 kV41 dc41 pm41 cd41 ct41 : PySem.Value} {od41 an41 : Option PySem.Addr} {sl41 : Array (Option PySem.Value)}
    {r42 : PySem.Addr} {oc42 kV42 dc42 pm42 cd42 ct42 : PySem.Value} {od42 an42 : Option PySem.Addr} {sl42 : Array (Option PySem.Value)}
    {r43 : PySem.Addr} {oc43 kV43 dc43 pm43 cd43 ct43 : PySem.Value} {od43 an43 : Option PySem.Addr} {sl43 : Array (Option PySem.Value)}
    {r44 : PySem.Addr} {oc44 kV44 dc44 pm44 cd44 ct44 : PySem.Value} {od44 an44 : Option PySem.Addr} {sl44 : Array (Option PySem.Value)}
    {r45 : PySem.Addr} {oc45 kV45 dc45 pm45 cd45 ct45 : PySem.Value} {od45 an45 : Option PySem.Addr} {sl45 : Array (Option PySem.Value)}
    {r46 : PySem.Addr} {oc46 kV46 dc46 pm46 cd46 ct46 : PySem.Value} {od46 an46 : Option PySem.Addr} {sl46 : Array (Option PySem.Value)}
    {u0 : PySem.Value}
    {u1 : PySem.Value}
    {u5 : PySem.Value}
    {u6 : PySem.Value}
    {u7 : PySem.Value}
    {u8 : PySem.Value}
    {u9 : PySem.Value}
    {u10 : PySem.Value}
    (a0 : PySem.W.nsIn K mainGlobals "_law_begin" = some (some (.ref r0))) (l0 : K.lookup r0 = some ⟨oc0, od0, .func (PySem.W.fnOf "_law_begin" "_law_begin" (L2.defArgs (topAt 54)) (L2.defBody (topAt 54)) (L2.defScope (topAt 54)) .none kV0 dc0 pm0 an0 cd0 ct0), sl0⟩) (c0 : PySem.W.codeIn K cd0 "_law_begin" = true) (k0 : PySem.W.keepIn K (.ref r0) = true)
    (a1 : PySem.W.nsIn K mainGlobals "_law_mixed" = some (some (.ref r1))) (l1 : K.lookup r1 = some ⟨oc1, od1, .func (PySem.W.fnOf "_law_mixed" "_law_mixed" (L2.defArgs (topAt 53)) (L2.defBody (topAt 53)) (L2.defScope (topAt 53)) .none kV1 dc1 pm1 an1 cd1 ct1), sl1⟩) (c1 : PySem.W.codeIn K cd1 "_law_mixed" = true) (k1 : PySem.W.keepIn K (.ref r1) = true)
    (a2 : PySem.W.nsIn K mainGlobals "_law_draw" = some (some (.ref r2))) (l2 : K.lookup r2 = some ⟨oc2, od2, .func (PySem.W.fnOf "_law_draw" "_law_draw" (L2.defArgs (topAt 55)) (L2.defBody (topAt 55)) (L2.defScope (topAt 55)) .none kV2 dc2 pm2 an2 cd2 ct2), sl2⟩) (c2 : PySem.W.codeIn K cd2 "_law_draw" = true) (k2 : PySem.W.keepIn K (.ref r2) = true)
    (a3 : PySem.W.nsIn K mainGlobals "_law_of" = some (some (.ref r3))) (l3 : K.lookup r3 = some ⟨oc3, od3, .func (PySem.W.fnOf "_law_of" "_law_of" (L2.defArgs (topAt 56)) (L2.defBody (topAt 56)) (L2.defScope (topAt 56)) .none kV3 dc3 pm3 an3 cd3 ct3), sl3⟩) (c3 : PySem.W.codeIn K cd3 "_law_of" = true) (k3 : PySem.W.keepIn K (.ref r3) = true)
    (a4 : PySem.W.nsIn K mainGlobals "_law_like" = some (some (.ref r4))) (l4 : K.lookup r4 = some ⟨oc4, od4, .func (PySem.W.fnOf "_law_like" "_law_like" (L2.defArgs (topAt 57)) (L2.defBody (topAt 57)) (L2.defScope (topAt 57)) .none kV4 dc4 pm4 an4 cd4 ct4), sl4⟩) (c4 : PySem.W.codeIn K cd4 "_law_like" = true) (k4 : PySem.W.keepIn K (.ref r4) = true)
    (a5 : PySem.W.nsIn K mainGlobals "sets_over" = some (some (.ref r5))) (l5 : K.lookup r5 = some ⟨oc5, od5, .func (PySem.W.fnOf "sets_over" "sets_over" (L2.defArgs (topAt 34)) (L2.defBody (topAt 34)) (L2.defScope (topAt 34)) .none kV5 dc5 pm5 an5 cd5 ct5), sl5⟩) (c5 : PySem.W.codeIn K cd5 "sets_over" = true) (k5 : PySem.W.keepIn K (.ref r5) = true)
    (a6 : PySem.W.nsIn K mainGlobals "sum_at" = some (some (.ref r6))) (l6 : K.lookup r6 = some ⟨oc6, od6, .func (PySem.W.fnOf "sum_at" "sum_at" (L2.defArgs (topAt 35)) (L2.defBody (topAt 35)) (L2.defScope (topAt 35)) .none kV6 dc6 pm6 an6 cd6 ct6), sl6⟩) (c6 : PySem.W.codeIn K cd6 "sum_at" = true) (k6 : PySem.W.keepIn K (.ref r6) = true)
    (a7 : PySem.W.nsIn K mainGlobals "lessened" = some (some (.ref r7))) (l7 : K.lookup r7 = some ⟨oc7, od7, .func (PySem.W.fnOf "lessened" "lessened" (L2.defArgs (topAt 37)) (L2.defBody (topAt 37)) (L2.defScope (topAt 37)) .none kV7 dc7 pm7 an7 cd7 ct7), sl7⟩) (c7 : PySem.W.codeIn K cd7 "lessened" = true) (k7 : PySem.W.keepIn K (.ref r7) = true)
    (a8 : PySem.W.nsIn K mainGlobals "is_formula" = some (some (.ref r8))) (l8 : K.lookup r8 = some ⟨oc8, od8, .func (PySem.W.fnOf "is_formula" "is_formula" (L2.defArgs (topAt 45)) (L2.defBody (topAt 45)) (L2.defScope (topAt 45)) .none kV8 dc8 pm8 an8 cd8 ct8), sl8⟩) (c8 : PySem.W.codeIn K cd8 "is_formula" = true) (k8 : PySem.W.keepIn K (.ref r8) = true)
    (a9 : PySem.W.nsIn K mainGlobals "check_formula" = some (some (.ref r9))) (l9 : K.lookup r9 = some ⟨oc9, od9, .func (PySem.W.fnOf "check_formula" "check_formula" (L2.defArgs (topAt 46)) (L2.defBody (topAt 46)) (L2.defScope (topAt 46)) .none kV9 dc9 pm9 an9 cd9 ct9), sl9⟩) (c9 : PySem.W.codeIn K cd9 "check_formula" = true) (k9 : PySem.W.keepIn K (.ref r9) = true)
    (a10 : PySem.W.nsIn K mainGlobals "is_from" = some (some (.ref r10))) (l10 : K.lookup r10 = some ⟨oc10, od10, .func (PySem.W.fnOf "is_from" "is_from" (L2.defArgs (topAt 4)) (L2.defBody (topAt 4)) (L2.defScope (topAt 4)) .none kV10 dc10 pm10 an10 cd10 ct10), sl10⟩) (c10 : PySem.W.codeIn K cd10 "is_from" = true) (k10 : PySem.W.keepIn K (.ref r10) = true)
    (a11 : PySem.W.nsIn K mainGlobals "told_so" = some (some (.ref r11))) (l11 : K.lookup r11 = some ⟨oc11, od11, .func (PySem.W.fnOf "told_so" "told_so" (L2.defArgs (topAt 36)) (L2.defBody (topAt 36)) (L2.defScope (topAt 36)) .none kV11 dc11 pm11 an11 cd11 ct11), sl11⟩) (c11 : PySem.W.codeIn K cd11 "told_so" = true) (k11 : PySem.W.keepIn K (.ref r11) = true)
    (a12 : PySem.W.nsIn K mainGlobals "value_at" = some (some (.ref r12))) (l12 : K.lookup r12 = some ⟨oc12, od12, .func (PySem.W.fnOf "value_at" "value_at" (L2.defArgs (topAt 48)) (L2.defBody (topAt 48)) (L2.defScope (topAt 48)) .none kV12 dc12 pm12 an12 cd12 ct12), sl12⟩) (c12 : PySem.W.codeIn K cd12 "value_at" = true) (k12 : PySem.W.keepIn K (.ref r12) = true)
    (a13 : PySem.W.nsIn K mainGlobals "joined_by" = some (some (.ref r13))) (l13 : K.lookup r13 = some ⟨oc13, od13, .func (PySem.W.fnOf "joined_by" "joined_by" (L2.defArgs (topAt 41)) (L2.defBody (topAt 41)) (L2.defScope (topAt 41)) .none kV13 dc13 pm13 an13 cd13 ct13), sl13⟩) (c13 : PySem.W.codeIn K cd13 "joined_by" = true) (k13 : PySem.W.keepIn K (.ref r13) = true)
    (a14 : PySem.W.nsIn K mainGlobals "plus_formula" = some (some (.ref r14))) (l14 : K.lookup r14 = some ⟨oc14, od14, .func (PySem.W.fnOf "plus_formula" "plus_formula" (L2.defArgs (topAt 42)) (L2.defBody (topAt 42)) (L2.defScope (topAt 42)) .none kV14 dc14 pm14 an14 cd14 ct14), sl14⟩) (c14 : PySem.W.codeIn K cd14 "plus_formula" = true) (k14 : PySem.W.keepIn K (.ref r14) = true)
    (a15 : PySem.W.nsIn K mainGlobals "formula_plus" = some (some (.ref r15))) (l15 : K.lookup r15 = some ⟨oc15, od15, .func (PySem.W.fnOf "formula_plus" "formula_plus" (L2.defArgs (topAt 49)) (L2.defBody (topAt 49)) (L2.defScope (topAt 49)) .none kV15 dc15 pm15 an15 cd15 ct15), sl15⟩) (c15 : PySem.W.codeIn K cd15 "formula_plus" = true) (k15 : PySem.W.keepIn K (.ref r15) = true)
    (a16 : PySem.W.nsIn K mainGlobals "minus_formula" = some (some (.ref r16))) (l16 : K.lookup r16 = some ⟨oc16, od16, .func (PySem.W.fnOf "minus_formula" "minus_formula" (L2.defArgs (topAt 43)) (L2.defBody (topAt 43)) (L2.defScope (topAt 43)) .none kV16 dc16 pm16 an16 cd16 ct16), sl16⟩) (c16 : PySem.W.codeIn K cd16 "minus_formula" = true) (k16 : PySem.W.keepIn K (.ref r16) = true)
    (a17 : PySem.W.nsIn K mainGlobals "formula_minus" = some (some (.ref r17))) (l17 : K.lookup r17 = some ⟨oc17, od17, .func (PySem.W.fnOf "formula_minus" "formula_minus" (L2.defArgs (topAt 50)) (L2.defBody (topAt 50)) (L2.defScope (topAt 50)) .none kV17 dc17 pm17 an17 cd17 ct17), sl17⟩) (c17 : PySem.W.codeIn K cd17 "formula_minus" = true) (k17 : PySem.W.keepIn K (.ref r17) = true)
    (a18 : PySem.W.nsIn K mainGlobals "equal_from" = some (some (.ref r18))) (l18 : K.lookup r18 = some ⟨oc18, od18, .func (PySem.W.fnOf "equal_from" "equal_from" (L2.defArgs (topAt 51)) (L2.defBody (topAt 51)) (L2.defScope (topAt 51)) .none kV18 dc18 pm18 an18 cd18 ct18), sl18⟩) (c18 : PySem.W.codeIn K cd18 "equal_from" = true) (k18 : PySem.W.keepIn K (.ref r18) = true)
    (a19 : PySem.W.nsIn K mainGlobals "_law_formulas_right" = some (some (.ref r19))) (l19 : K.lookup r19 = some ⟨oc19, od19, .func (PySem.W.fnOf "_law_formulas_right" "_law_formulas_right" (L2.defArgs (topAt 61)) (L2.defBody (topAt 61)) (L2.defScope (topAt 61)) .none kV19 dc19 pm19 an19 cd19 ct19), sl19⟩) (c19 : PySem.W.codeIn K cd19 "_law_formulas_right" = true) (k19 : PySem.W.keepIn K (.ref r19) = true)
    (a20 : PySem.W.nsIn K mainGlobals "reaches_so" = some (some (.ref r20))) (l20 : K.lookup r20 = some ⟨oc20, od20, .func (PySem.W.fnOf "reaches_so" "reaches_so" (L2.defArgs (topAt 19)) (L2.defBody (topAt 19)) (L2.defScope (topAt 19)) .none kV20 dc20 pm20 an20 cd20 ct20), sl20⟩) (c20 : PySem.W.codeIn K cd20 "reaches_so" = true) (k20 : PySem.W.keepIn K (.ref r20) = true)
    (a21 : PySem.W.nsIn K mainGlobals "least_so" = some (some (.ref r21))) (l21 : K.lookup r21 = some ⟨oc21, od21, .func (PySem.W.fnOf "least_so" "least_so" (L2.defArgs (topAt 20)) (L2.defBody (topAt 20)) (L2.defScope (topAt 20)) .none kV21 dc21 pm21 an21 cd21 ct21), sl21⟩) (c21 : PySem.W.codeIn K cd21 "least_so" = true) (k21 : PySem.W.keepIn K (.ref r21) = true)
    (a22 : PySem.W.nsIn K mainGlobals "is_gaps" = some (some (.ref r22))) (l22 : K.lookup r22 = some ⟨oc22, od22, .func (PySem.W.fnOf "is_gaps" "is_gaps" (L2.defArgs (topAt 14)) (L2.defBody (topAt 14)) (L2.defScope (topAt 14)) .none kV22 dc22 pm22 an22 cd22 ct22), sl22⟩) (c22 : PySem.W.codeIn K cd22 "is_gaps" = true) (k22 : PySem.W.keepIn K (.ref r22) = true)
    (a23 : PySem.W.nsIn K mainGlobals "check_rows" = some (some (.ref r23))) (l23 : K.lookup r23 = some ⟨oc23, od23, .func (PySem.W.fnOf "check_rows" "check_rows" (L2.defArgs (topAt 16)) (L2.defBody (topAt 16)) (L2.defScope (topAt 16)) .none kV23 dc23 pm23 an23 cd23 ct23), sl23⟩) (c23 : PySem.W.codeIn K cd23 "check_rows" = true) (k23 : PySem.W.keepIn K (.ref r23) = true)
    (a24 : PySem.W.nsIn K mainGlobals "least_rows" = some (some (.ref r24))) (l24 : K.lookup r24 = some ⟨oc24, od24, .func (PySem.W.fnOf "least_rows" "least_rows" (L2.defArgs (topAt 27)) (L2.defBody (topAt 27)) (L2.defScope (topAt 27)) .none kV24 dc24 pm24 an24 cd24 ct24), sl24⟩) (c24 : PySem.W.codeIn K cd24 "least_rows" = true) (k24 : PySem.W.keepIn K (.ref r24) = true)
    (a25 : PySem.W.nsIn K mainGlobals "joined_so" = some (some (.ref r25))) (l25 : K.lookup r25 = some ⟨oc25, od25, .func (PySem.W.fnOf "joined_so" "joined_so" (L2.defArgs (topAt 21)) (L2.defBody (topAt 21)) (L2.defScope (topAt 21)) .none kV25 dc25 pm25 an25 cd25 ct25), sl25⟩) (c25 : PySem.W.codeIn K cd25 "joined_so" = true) (k25 : PySem.W.keepIn K (.ref r25) = true)
    (a26 : PySem.W.nsIn K mainGlobals "joined" = some (some (.ref r26))) (l26 : K.lookup r26 = some ⟨oc26, od26, .func (PySem.W.fnOf "joined" "joined" (L2.defArgs (topAt 28)) (L2.defBody (topAt 28)) (L2.defScope (topAt 28)) .none kV26 dc26 pm26 an26 cd26 ct26), sl26⟩) (c26 : PySem.W.codeIn K cd26 "joined" = true) (k26 : PySem.W.keepIn K (.ref r26) = true)
    (a27 : PySem.W.nsIn K mainGlobals "check_arity" = some (some (.ref r27))) (l27 : K.lookup r27 = some ⟨oc27, od27, .func (PySem.W.fnOf "check_arity" "check_arity" (L2.defArgs (topAt 17)) (L2.defBody (topAt 17)) (L2.defScope (topAt 17)) .none kV27 dc27 pm27 an27 cd27 ct27), sl27⟩) (c27 : PySem.W.codeIn K cd27 "check_arity" = true) (k27 : PySem.W.keepIn K (.ref r27) = true)
    (a28 : PySem.W.nsIn K mainGlobals "sets_so" = some (some (.ref r28))) (l28 : K.lookup r28 = some ⟨oc28, od28, .func (PySem.W.fnOf "sets_so" "sets_so" (L2.defArgs (topAt 22)) (L2.defBody (topAt 22)) (L2.defScope (topAt 22)) .none kV28 dc28 pm28 an28 cd28 ct28), sl28⟩) (c28 : PySem.W.codeIn K cd28 "sets_so" = true) (k28 : PySem.W.keepIn K (.ref r28) = true)
    (a29 : PySem.W.nsIn K mainGlobals "gaps_so" = some (some (.ref r29))) (l29 : K.lookup r29 = some ⟨oc29, od29, .func (PySem.W.fnOf "gaps_so" "gaps_so" (L2.defArgs (topAt 18)) (L2.defBody (topAt 18)) (L2.defScope (topAt 18)) .none kV29 dc29 pm29 an29 cd29 ct29), sl29⟩) (c29 : PySem.W.codeIn K cd29 "gaps_so" = true) (k29 : PySem.W.keepIn K (.ref r29) = true)
    (a30 : PySem.W.nsIn K mainGlobals "counted_so" = some (some (.ref r30))) (l30 : K.lookup r30 = some ⟨oc30, od30, .func (PySem.W.fnOf "counted_so" "counted_so" (L2.defArgs (topAt 23)) (L2.defBody (topAt 23)) (L2.defScope (topAt 23)) .none kV30 dc30 pm30 an30 cd30 ct30), sl30⟩) (c30 : PySem.W.codeIn K cd30 "counted_so" = true) (k30 : PySem.W.keepIn K (.ref r30) = true)
    (a31 : PySem.W.nsIn K mainGlobals "counted" = some (some (.ref r31))) (l31 : K.lookup r31 = some ⟨oc31, od31, .func (PySem.W.fnOf "counted" "counted" (L2.defArgs (topAt 29)) (L2.defBody (topAt 29)) (L2.defScope (topAt 29)) .none kV31 dc31 pm31 an31 cd31 ct31), sl31⟩) (c31 : PySem.W.codeIn K cd31 "counted" = true) (k31 : PySem.W.keepIn K (.ref r31) = true)
    (a32 : PySem.W.nsIn K mainGlobals "differences" = some (some (.ref r32))) (l32 : K.lookup r32 = some ⟨oc32, od32, .func (PySem.W.fnOf "differences" "differences" (L2.defArgs (topAt 38)) (L2.defBody (topAt 38)) (L2.defScope (topAt 38)) .none kV32 dc32 pm32 an32 cd32 ct32), sl32⟩) (c32 : PySem.W.codeIn K cd32 "differences" = true) (k32 : PySem.W.keepIn K (.ref r32) = true)
    (a33 : PySem.W.nsIn K mainGlobals "shifted" = some (some (.ref r33))) (l33 : K.lookup r33 = some ⟨oc33, od33, .func (PySem.W.fnOf "shifted" "shifted" (L2.defArgs (topAt 39)) (L2.defBody (topAt 39)) (L2.defScope (topAt 39)) .none kV33 dc33 pm33 an33 cd33 ct33), sl33⟩) (c33 : PySem.W.codeIn K cd33 "shifted" = true) (k33 : PySem.W.keepIn K (.ref r33) = true)
    (a34 : PySem.W.nsIn K mainGlobals "summed" = some (some (.ref r34))) (l34 : K.lookup r34 = some ⟨oc34, od34, .func (PySem.W.fnOf "summed" "summed" (L2.defArgs (topAt 40)) (L2.defBody (topAt 40)) (L2.defScope (topAt 40)) .none kV34 dc34 pm34 an34 cd34 ct34), sl34⟩) (c34 : PySem.W.codeIn K cd34 "summed" = true) (k34 : PySem.W.keepIn K (.ref r34) = true)
    (a35 : PySem.W.nsIn K mainGlobals "formula_so" = some (some (.ref r35))) (l35 : K.lookup r35 = some ⟨oc35, od35, .func (PySem.W.fnOf "formula_so" "formula_so" (L2.defArgs (topAt 44)) (L2.defBody (topAt 44)) (L2.defScope (topAt 44)) .none kV35 dc35 pm35 an35 cd35 ct35), sl35⟩) (c35 : PySem.W.codeIn K cd35 "formula_so" = true) (k35 : PySem.W.keepIn K (.ref r35) = true)
    (a36 : PySem.W.nsIn K mainGlobals "formula_of" = some (some (.ref r36))) (l36 : K.lookup r36 = some ⟨oc36, od36, .func (PySem.W.fnOf "formula_of" "formula_of" (L2.defArgs (topAt 47)) (L2.defBody (topAt 47)) (L2.defScope (topAt 47)) .none kV36 dc36 pm36 an36 cd36 ct36), sl36⟩) (c36 : PySem.W.codeIn K cd36 "formula_of" = true) (k36 : PySem.W.keepIn K (.ref r36) = true)
    (a37 : PySem.W.nsIn K mainGlobals "_law_rows_right" = some (some (.ref r37))) (l37 : K.lookup r37 = some ⟨oc37, od37, .func (PySem.W.fnOf "_law_rows_right" "_law_rows_right" (L2.defArgs (topAt 60)) (L2.defBody (topAt 60)) (L2.defScope (topAt 60)) .none kV37 dc37 pm37 an37 cd37 ct37), sl37⟩) (c37 : PySem.W.codeIn K cd37 "_law_rows_right" = true) (k37 : PySem.W.keepIn K (.ref r37) = true)
    (a38 : PySem.W.nsIn K mainGlobals "is_places" = some (some (.ref r38))) (l38 : K.lookup r38 = some ⟨oc38, od38, .func (PySem.W.fnOf "is_places" "is_places" (L2.defArgs (topAt 13)) (L2.defBody (topAt 13)) (L2.defScope (topAt 13)) .none kV38 dc38 pm38 an38 cd38 ct38), sl38⟩) (c38 : PySem.W.codeIn K cd38 "is_places" = true) (k38 : PySem.W.keepIn K (.ref r38) = true)
    (a39 : PySem.W.nsIn K mainGlobals "check_many" = some (some (.ref r39))) (l39 : K.lookup r39 = some ⟨oc39, od39, .func (PySem.W.fnOf "check_many" "check_many" (L2.defArgs (topAt 7)) (L2.defBody (topAt 7)) (L2.defScope (topAt 7)) .none kV39 dc39 pm39 an39 cd39 ct39), sl39⟩) (c39 : PySem.W.codeIn K cd39 "check_many" = true) (k39 : PySem.W.keepIn K (.ref r39) = true)
    (a40 : PySem.W.nsIn K mainGlobals "gaps_of" = some (some (.ref r40))) (l40 : K.lookup r40 = some ⟨oc40, od40, .func (PySem.W.fnOf "gaps_of" "gaps_of" (L2.defArgs (topAt 24)) (L2.defBody (topAt 24)) (L2.defScope (topAt 24)) .none kV40 dc40 pm40 an40 cd40 ct40), sl40⟩) (c40 : PySem.W.codeIn K cd40 "gaps_of" = true) (k40 : PySem.W.keepIn K (.ref r40) = true)
    (a41 : PySem.W.nsIn K mainGlobals "check_gaps" = some (some (.ref r41))) (l41 : K.lookup r41 = some ⟨oc41, od41, .func (PySem.W.fnOf "check_gaps" "check_gaps" (L2.defArgs (topAt 15)) (L2.defBody (topAt 15)) (L2.defScope (topAt 15)) .none kV41 dc41 pm41 an41 cd41 ct41), sl41⟩) (c41 : PySem.W.codeIn K cd41 "check_gaps" = true) (k41 : PySem.W.keepIn K (.ref r41) = true)
    (a42 : PySem.W.nsIn K mainGlobals "places_of" = some (some (.ref r42))) (l42 : K.lookup r42 = some ⟨oc42, od42, .func (PySem.W.fnOf "places_of" "places_of" (L2.defArgs (topAt 25)) (L2.defBody (topAt 25)) (L2.defScope (topAt 25)) .none kV42 dc42 pm42 an42 cd42 ct42), sl42⟩) (c42 : PySem.W.codeIn K cd42 "places_of" = true) (k42 : PySem.W.keepIn K (.ref r42) = true)
    (a43 : PySem.W.nsIn K mainGlobals "reaches" = some (some (.ref r43))) (l43 : K.lookup r43 = some ⟨oc43, od43, .func (PySem.W.fnOf "reaches" "reaches" (L2.defArgs (topAt 26)) (L2.defBody (topAt 26)) (L2.defScope (topAt 26)) .none kV43 dc43 pm43 an43 cd43 ct43), sl43⟩) (c43 : PySem.W.codeIn K cd43 "reaches" = true) (k43 : PySem.W.keepIn K (.ref r43) = true)
    (a44 : PySem.W.nsIn K mainGlobals "_law_gaps_right" = some (some (.ref r44))) (l44 : K.lookup r44 = some ⟨oc44, od44, .func (PySem.W.fnOf "_law_gaps_right" "_law_gaps_right" (L2.defArgs (topAt 59)) (L2.defBody (topAt 59)) (L2.defScope (topAt 59)) .none kV44 dc44 pm44 an44 cd44 ct44), sl44⟩) (c44 : PySem.W.codeIn K cd44 "_law_gaps_right" = true) (k44 : PySem.W.keepIn K (.ref r44) = true)
    (a45 : PySem.W.nsIn K mainGlobals "law" = some (some (.ref r45))) (l45 : K.lookup r45 = some ⟨oc45, od45, .func (PySem.W.fnOf "law" "law" (L2.defArgs (topAt 62)) (L2.defBody (topAt 62)) (L2.defScope (topAt 62)) .none kV45 dc45 pm45 an45 cd45 ct45), sl45⟩) (c45 : PySem.W.codeIn K cd45 "law" = true) (k45 : PySem.W.keepIn K (.ref r45) = true)
    (a46 : PySem.W.nsIn K mainGlobals "_law_heard" = some (some (.ref r46))) (l46 : K.lookup r46 = some ⟨oc46, od46, .func (PySem.W.fnOf "_law_heard" "_law_heard" (L2.defArgs (topAt 58)) (L2.defBody (topAt 58)) (L2.defScope (topAt 58)) .none kV46 dc46 pm46 an46 cd46 ct46), sl46⟩) (c46 : PySem.W.codeIn K cd46 "_law_heard" = true) (k46 : PySem.W.keepIn K (.ref r46) = true)
    (z0 : PySem.W.nsIn K mainGlobals "len" = some none)
    (z1 : PySem.W.nsIn K mainGlobals "tuple" = some none)
    (z2 : PySem.W.nsIn K mainGlobals "list" = some none)
    (z3 : PySem.W.nsIn K mainGlobals "sum" = some none)
    (z4 : PySem.W.nsIn K mainGlobals "max" = some none)
    (z5 : PySem.W.nsIn K mainGlobals "min" = some none)
    (z6 : PySem.W.nsIn K mainGlobals "abs" = some none)
    (z7 : PySem.W.nsIn K mainGlobals "int" = some none)
    (z8 : PySem.W.nsIn K mainGlobals "sorted" = some none)
    (z9 : PySem.W.nsIn K mainGlobals "set" = some none)
    (z10 : PySem.W.nsIn K mainGlobals "isinstance" = some none)
    (z11 : PySem.W.nsIn K mainGlobals "repr" = some none)
    (z12 : PySem.W.nsIn K mainGlobals "range" = some none)
    (z13 : PySem.W.nsIn K mainGlobals "zip" = some none)
    (z14 : PySem.W.nsIn K mainGlobals "enumerate" = some none)
    (z15 : PySem.W.nsIn K mainGlobals "bool" = some none)
    (z16 : PySem.W.nsIn K mainGlobals "dict" = some none)
    (z17 : PySem.W.nsIn K mainGlobals "reversed" = some none)
    (cg0 : PySem.W.nsIn K mainGlobals "MOST_VALUES" = some (some u0)) (dg0 : IsD K (.int 400) u0)
    (cg1 : PySem.W.nsIn K mainGlobals "MOST_MANY" = some (some u1)) (dg1 : IsD K (.int 1000000000000000000000000000000) u1)
    (cg5 : PySem.W.nsIn K mainGlobals "MOST_PLACES_gaps" = some (some u5)) (dg5 : IsD K (.int 40) u5)
    (cg6 : PySem.W.nsIn K mainGlobals "MOST_ROWS" = some (some u6)) (dg6 : IsD K (.int 60) u6)
    (cg7 : PySem.W.nsIn K mainGlobals "MOST_GAP" = some (some u7)) (dg7 : IsD K (.int 12) u7)
    (cg8 : PySem.W.nsIn K mainGlobals "MOST_COUNTED" = some (some u8)) (dg8 : IsD K (.int 20) u8)
    (cg9 : PySem.W.nsIn K mainGlobals "NOTHING" = some (some u9)) (dg9 : IsD K (.tup [(.tup []), (.tup [(.int 0), (.int 0), (.int 0), (.int 0)])]) u9)
    (cg10 : PySem.W.nsIn K mainGlobals "MOST_PLACES_sayings" = some (some u10)) (dg10 : IsD K (.int 40) u10)
    (ad_equal_from : PySem.W.nsIn K mainGlobals "equal_from" = some (some (.ref M.AD_equal_from)))
    (ad_formula_minus : PySem.W.nsIn K mainGlobals "formula_minus" = some (some (.ref M.AD_formula_minus)))
    (ad_formula_plus : PySem.W.nsIn K mainGlobals "formula_plus" = some (some (.ref M.AD_formula_plus)))
    (lc_law_formulas_right : cd19 = .ref 336) (lm_law_formulas_right : (336, 332) ∈ cs) (l1_law_formulas_right : ((332, "_law_formulas_right") : PySem.Addr × String) ∈ tb) (l2_law_formulas_right : (tb.filter fun p => p.1 == 332).all (fun p => p.2 == "_law_formulas_right") = true)
    (lc_law_rows_right : cd37 = .ref 329) (lm_law_rows_right : (329, 327) ∈ cs) (l1_law_rows_right : ((327, "_law_rows_right") : PySem.Addr × String) ∈ tb) (l2_law_rows_right : (tb.filter fun p => p.1 == 327).all (fun p => p.2 == "_law_rows_right") = true)
    (lc_law_gaps_right : cd44 = .ref 324) (lm_law_gaps_right : (324, 320) ∈ cs) (l1_law_gaps_right : ((320, "_law_gaps_right") : PySem.Addr × String) ∈ tb) (l2_law_gaps_right : (tb.filter fun p => p.1 == 320).all (fun p => p.2 == "_law_gaps_right") = true) :
    ∃ fd : PySem.FuncData, (∀ (s : PySem.Shared) (u : PySem.Value), BindsTo s fd ⟨[u], []⟩ [("script", u)]) ∧ ∀ base : PySem.Heap, K.In base → base.Ns mainGlobals mg → (∀ p ∈ cs, LamX.TabB base mg p.1 p.2) → LawGo P w K mg base fa fd "script" 3 1 M.lawS := by
  have T : Tops P K mg cs := {
    blt := by
      intro x hx
      rcases List.mem_cons.mp hx with rfl | hx
      · exact PySem.W.mg_none_of X G z0
      rcases List.mem_cons.mp hx with rfl | hx
      · exact PySem.W.mg_none_of X G z1
      rcases List.mem_cons.mp hx with rfl | hx
      · exact PySem.W.mg_none_of X G z2
      rcases List.mem_cons.mp hx with rfl | hx
      · exact PySem.W.mg_none_of X G z3
      rcases List.mem_cons.mp hx with rfl | hx
      · exact PySem.W.mg_none_of X G z4
      rcases List.mem_cons.mp hx with rfl | hx
      · exact PySem.W.mg_none_of X G z5
      rcases List.mem_cons.mp hx with rfl | hx
      · exact PySem.W.mg_none_of X G z6
      rcases List.mem_cons.mp hx with rfl | hx
      · exact PySem.W.mg_none_of X G z7
      rcases List.mem_cons.mp hx with rfl | hx
      · exact PySem.W.mg_none_of X G z8
      rcases List.mem_cons.mp hx with rfl | hx
      · exact PySem.W.mg_none_of X G z9
      rcases List.mem_cons.mp hx with rfl | hx
      · exact PySem.W.mg_none_of X G z10
      rcases List.mem_cons.mp hx with rfl | hx
      · exact PySem.W.mg_none_of X G z11
      rcases List.mem_cons.mp hx with rfl | hx
      · exact PySem.W.mg_none_of X G z12
      rcases List.mem_cons.mp hx with rfl | hx
      · exact PySem.W.mg_none_of X G z13
      rcases List.mem_cons.mp hx with rfl | hx
      · exact PySem.W.mg_none_of X G z14
      rcases List.mem_cons.mp hx with rfl | hx
      · exact PySem.W.mg_none_of X G z15
      rcases List.mem_cons.mp hx with rfl | hx
      · exact PySem.W.mg_none_of X G z16
      rcases List.mem_cons.mp hx with rfl | hx
      · exact PySem.W.mg_none_of X G z17
      exact absurd hx (by simp)
    d_law_begin := ⟨_, _, PySem.W.mg_of X G a0, L2.fun_mk (st := topAt 54) l0 c0 k0⟩
    d_law_mixed := ⟨_, _, PySem.W.mg_of X G a1, L2.fun_mk (st := topAt 53) l1 c1 k1⟩
    d_law_draw := ⟨_, _, PySem.W.mg_of X G a2, L2.fun_mk (st := topAt 55) l2 c2 k2⟩
    d_law_of := ⟨_, _, PySem.W.mg_of X G a3, L2.fun_mk (st := topAt 56) l3 c3 k3⟩
    d_law_like := ⟨_, _, PySem.W.mg_of X G a4, L2.fun_mk (st := topAt 57) l4 c4 k4⟩
    dsets_over := ⟨_, _, PySem.W.mg_of X G a5, L2.fun_mk (st := topAt 34) l5 c5 k5⟩
    dsum_at := ⟨_, _, PySem.W.mg_of X G a6, L2.fun_mk (st := topAt 35) l6 c6 k6⟩
    dlessened := ⟨_, _, PySem.W.mg_of X G a7, L2.fun_mk (st := topAt 37) l7 c7 k7⟩
    dis_formula := ⟨_, _, PySem.W.mg_of X G a8, L2.fun_mk (st := topAt 45) l8 c8 k8⟩
    dcheck_formula := ⟨_, _, PySem.W.mg_of X G a9, L2.fun_mk (st := topAt 46) l9 c9 k9⟩
    dis_from := ⟨_, _, PySem.W.mg_of X G a10, L2.fun_mk (st := topAt 4) l10 c10 k10⟩
    dtold_so := ⟨_, _, PySem.W.mg_of X G a11, L2.fun_mk (st := topAt 36) l11 c11 k11⟩
    dvalue_at := ⟨_, _, PySem.W.mg_of X G a12, L2.fun_mk (st := topAt 48) l12 c12 k12⟩
    djoined_by := ⟨_, _, PySem.W.mg_of X G a13, L2.fun_mk (st := topAt 41) l13 c13 k13⟩
    dplus_formula := ⟨_, _, PySem.W.mg_of X G a14, L2.fun_mk (st := topAt 42) l14 c14 k14⟩
    dformula_plus := ⟨_, _, PySem.W.mg_of X G a15, L2.fun_mk (st := topAt 49) l15 c15 k15⟩
    dminus_formula := ⟨_, _, PySem.W.mg_of X G a16, L2.fun_mk (st := topAt 43) l16 c16 k16⟩
    dformula_minus := ⟨_, _, PySem.W.mg_of X G a17, L2.fun_mk (st := topAt 50) l17 c17 k17⟩
    dequal_from := ⟨_, _, PySem.W.mg_of X G a18, L2.fun_mk (st := topAt 51) l18 c18 k18⟩
    d_law_formulas_right := ⟨_, _, PySem.W.mg_of X G a19, L2.fun_mk (st := topAt 61) l19 c19 k19⟩
    dreaches_so := ⟨_, _, PySem.W.mg_of X G a20, L2.fun_mk (st := topAt 19) l20 c20 k20⟩
    dleast_so := ⟨_, _, PySem.W.mg_of X G a21, L2.fun_mk (st := topAt 20) l21 c21 k21⟩
    dis_gaps := ⟨_, _, PySem.W.mg_of X G a22, L2.fun_mk (st := topAt 14) l22 c22 k22⟩
    dcheck_rows := ⟨_, _, PySem.W.mg_of X G a23, L2.fun_mk (st := topAt 16) l23 c23 k23⟩
    dleast_rows := ⟨_, _, PySem.W.mg_of X G a24, L2.fun_mk (st := topAt 27) l24 c24 k24⟩
    djoined_so := ⟨_, _, PySem.W.mg_of X G a25, L2.fun_mk (st := topAt 21) l25 c25 k25⟩
    djoined := ⟨_, _, PySem.W.mg_of X G a26, L2.fun_mk (st := topAt 28) l26 c26 k26⟩
    dcheck_arity := ⟨_, _, PySem.W.mg_of X G a27, L2.fun_mk (st := topAt 17) l27 c27 k27⟩
    dsets_so := ⟨_, _, PySem.W.mg_of X G a28, L2.fun_mk (st := topAt 22) l28 c28 k28⟩
    dgaps_so := ⟨_, _, PySem.W.mg_of X G a29, L2.fun_mk (st := topAt 18) l29 c29 k29⟩
    dcounted_so := ⟨_, _, PySem.W.mg_of X G a30, L2.fun_mk (st := topAt 23) l30 c30 k30⟩
    dcounted := ⟨_, _, PySem.W.mg_of X G a31, L2.fun_mk (st := topAt 29) l31 c31 k31⟩
    ddifferences := ⟨_, _, PySem.W.mg_of X G a32, L2.fun_mk (st := topAt 38) l32 c32 k32⟩
    dshifted := ⟨_, _, PySem.W.mg_of X G a33, L2.fun_mk (st := topAt 39) l33 c33 k33⟩
    dsummed := ⟨_, _, PySem.W.mg_of X G a34, L2.fun_mk (st := topAt 40) l34 c34 k34⟩
    dformula_so := ⟨_, _, PySem.W.mg_of X G a35, L2.fun_mk (st := topAt 44) l35 c35 k35⟩
    dformula_of := ⟨_, _, PySem.W.mg_of X G a36, L2.fun_mk (st := topAt 47) l36 c36 k36⟩
    d_law_rows_right := ⟨_, _, PySem.W.mg_of X G a37, L2.fun_mk (st := topAt 60) l37 c37 k37⟩
    dis_places := ⟨_, _, PySem.W.mg_of X G a38, L2.fun_mk (st := topAt 13) l38 c38 k38⟩
    dcheck_many := ⟨_, _, PySem.W.mg_of X G a39, L2.fun_mk (st := topAt 7) l39 c39 k39⟩
    dgaps_of := ⟨_, _, PySem.W.mg_of X G a40, L2.fun_mk (st := topAt 24) l40 c40 k40⟩
    dcheck_gaps := ⟨_, _, PySem.W.mg_of X G a41, L2.fun_mk (st := topAt 15) l41 c41 k41⟩
    dplaces_of := ⟨_, _, PySem.W.mg_of X G a42, L2.fun_mk (st := topAt 25) l42 c42 k42⟩
    dreaches := ⟨_, _, PySem.W.mg_of X G a43, L2.fun_mk (st := topAt 26) l43 c43 k43⟩
    d_law_gaps_right := ⟨_, _, PySem.W.mg_of X G a44, L2.fun_mk (st := topAt 59) l44 c44 k44⟩
    dlaw := ⟨_, _, PySem.W.mg_of X G a45, L2.fun_mk (st := topAt 62) l45 c45 k45⟩
    d_law_heard := ⟨_, _, PySem.W.mg_of X G a46, L2.fun_mk (st := topAt 58) l46 c46 k46⟩
    c_MOST_VALUES := ⟨_, PySem.W.mg_of X G cg0, dg0⟩
    c_MOST_MANY := ⟨_, PySem.W.mg_of X G cg1, dg1⟩
    c_equal_from := ⟨_, PySem.W.mg_of X G ad_equal_from, isD_fn⟩
    c_formula_minus := ⟨_, PySem.W.mg_of X G ad_formula_minus, isD_fn⟩
    c_formula_plus := ⟨_, PySem.W.mg_of X G ad_formula_plus, isD_fn⟩
    c_MOST_PLACES_gaps := ⟨_, PySem.W.mg_of X G cg5, dg5⟩
    c_MOST_ROWS := ⟨_, PySem.W.mg_of X G cg6, dg6⟩
    c_MOST_GAP := ⟨_, PySem.W.mg_of X G cg7, dg7⟩
    c_MOST_COUNTED := ⟨_, PySem.W.mg_of X G cg8, dg8⟩
    c_NOTHING := ⟨_, PySem.W.mg_of X G cg9, dg9⟩
    c_MOST_PLACES_sayings := ⟨_, PySem.W.mg_of X G cg10, dg10⟩
    ad_equal_from := PySem.W.mg_of X G ad_equal_from
    ad_formula_minus := PySem.W.mg_of X G ad_formula_minus
    ad_formula_plus := PySem.W.mg_of X G ad_formula_plus
    lam_law_formulas_right := lamF_mk (cdAt_mk X G a19 l19 lc_law_formulas_right) lm_law_formulas_right htb l1_law_formulas_right l2_law_formulas_right
    lam_law_rows_right := lamF_mk (cdAt_mk X G a37 l37 lc_law_rows_right) lm_law_rows_right htb l1_law_rows_right l2_law_rows_right
    lam_law_gaps_right := lamF_mk (cdAt_mk X G a44 l44 lc_law_gaps_right) lm_law_gaps_right htb l1_law_gaps_right l2_law_gaps_right
    cls_BadParameter := cls_BadParameter
    errs := er
    hc_law_heard := hc_law_heard }
  exact law_uniformT hfa T.dlaw (fun _ _ _ _ _ _ _ => rfl) fun base HB => oklaw (P := P) (w := w) (base := base) T HB
end RS
end
section
set_option Elab.async false
set_option linter.all false
set_option autoImplicit false
set_option maxRecDepth 100000
set_option maxHeartbeats 4000000
namespace RS
theorem un_Llaw_mixed : UniF M.Llaw_mixed := uni_fn (by unfold M.Llaw_mixedS; simp [uniS, uniE])
theorem un_Llaw_like : UniF M.Llaw_like := uni_fn (by unfold M.Llaw_likeS; simp [uniS, uniE])
theorem un_sets_over : UniF M.sets_over := uni_fn (by unfold M.sets_overS; simp [uniS, uniE])
theorem un_sum_at : UniF M.sum_at := uni_fn (by unfold M.sum_atS; simp [uniS, uniE, un_sets_over])
theorem un_lessened : UniF M.lessened := uni_fn (by unfold M.lessenedS; simp [uniS, uniE, un_sum_at])
theorem un_is_formula : UniF M.is_formula := uni_fn (by unfold M.is_formulaS; simp [uniS, uniE, un_lessened])
theorem un_check_formula : UniF M.check_formula := uni_fn (by unfold M.check_formulaS; simp [uniS, uniE, un_is_formula])
theorem un_is_from : UniF M.is_from := uni_fn (by unfold M.is_fromS; simp [uniS, uniE])
theorem un_told_so : UniF M.told_so := uni_fn (by unfold M.told_soS; simp [uniS, uniE, un_sum_at])
theorem un_value_at : UniF M.value_at := uni_fn (by unfold M.value_atS; simp [uniS, uniE, un_check_formula, un_is_from, un_told_so])
theorem un_joined_by : UniF M.joined_by := uni_fn (by unfold M.joined_byS; simp [uniS, uniE, un_told_so, un_lessened])
theorem un_plus_formula : UniF M.plus_formula := uni_fn (by unfold M.plus_formulaS; simp [uniS, uniE, un_joined_by])
theorem un_formula_plus : UniF M.formula_plus := uni_fn (by unfold M.formula_plusS; simp [uniS, uniE, un_check_formula, un_plus_formula])
theorem un_minus_formula : UniF M.minus_formula := uni_fn (by unfold M.minus_formulaS; simp [uniS, uniE, un_joined_by])
theorem un_formula_minus : UniF M.formula_minus := uni_fn (by unfold M.formula_minusS; simp [uniS, uniE, un_check_formula, un_minus_formula])
theorem un_equal_from : UniF M.equal_from := uni_fn (by unfold M.equal_fromS; simp [uniS, uniE, un_check_formula, un_minus_formula])
theorem un_reaches_so : UniF M.reaches_so := uni_fn (by unfold M.reaches_soS; simp [uniS, uniE])
theorem un_least_so : UniF M.least_so := uni_fn (by unfold M.least_soS; simp [uniS, uniE, un_reaches_so])
theorem un_is_gaps : UniF M.is_gaps := uni_fn (by unfold M.is_gapsS; simp [uniS, uniE, un_is_from])
theorem un_check_rows : UniF M.check_rows := uni_fn (by unfold M.check_rowsS; simp [uniS, uniE, un_is_gaps])
theorem un_least_rows : UniF M.least_rows := uni_fn (by unfold M.least_rowsS; simp [uniS, uniE, un_least_so, un_check_rows])
theorem un_joined_so : UniF M.joined_so := uni_fn (by unfold M.joined_soS; simp [uniS, uniE])
theorem un_joined : UniF M.joined := uni_fn (by unfold M.joinedS; simp [uniS, uniE, un_check_rows, un_joined_so])
theorem un_check_arity : UniF M.check_arity := uni_fn (by unfold M.check_arityS; simp [uniS, uniE, un_is_from])
theorem un_sets_so : UniF M.sets_so := uni_fn (by unfold M.sets_soS; simp [uniS, uniE])
theorem un_gaps_so : UniF M.gaps_so := uni_fn (by unfold M.gaps_soS; simp [uniS, uniE])
theorem un_counted_so : UniF M.counted_so := uni_fn (by unfold M.counted_soS; simp [uniS, uniE, un_sets_so, un_gaps_so, un_reaches_so])
theorem un_counted : UniF M.counted := uni_fn (by unfold M.countedS; simp [uniS, uniE, un_check_arity, un_check_rows, un_is_from, un_counted_so])
theorem un_differences : UniF M.differences := uni_fn (by unfold M.differencesS; simp [uniS, uniE])
theorem un_shifted : UniF M.shifted := uni_fn (by unfold M.shiftedS; simp [uniS, uniE, un_differences, un_sum_at, un_lessened])
theorem un_summed : UniF M.summed := uni_fn (by unfold M.summedS; simp [uniS, uniE, un_sum_at, un_lessened])
theorem un_formula_so_ : ∀ n, UniF (M.formula_so_ n)
  | 0 => uni_no
  | n + 1 => uni_fn (by unfold M.formula_soS; simp [uniS, uniE, un_lessened, un_shifted, un_summed, un_least_so, un_plus_formula, un_formula_so_ n])
theorem un_formula_so : UniF M.formula_so := un_formula_so_ 5
theorem un_formula_of : UniF M.formula_of := uni_fn (by unfold M.formula_ofS; simp [uniS, uniE, un_formula_so, un_check_rows, un_check_arity])
theorem un_is_places : UniF M.is_places := uni_fn (by unfold M.is_placesS; simp [uniS, uniE, un_is_from])
theorem un_check_many : UniF M.check_many := uni_fn (by unfold M.check_manyS; simp [uniS, uniE, un_is_from])
theorem un_gaps_of : UniF M.gaps_of := uni_fn (by unfold M.gaps_ofS; simp [uniS, uniE, un_is_places, un_check_many, un_gaps_so])
theorem un_check_gaps : UniF M.check_gaps := uni_fn (by unfold M.check_gapsS; simp [uniS, uniE, un_is_gaps])
theorem un_places_of : UniF M.places_of := uni_fn (by unfold M.places_ofS; simp [uniS, uniE, un_check_gaps])
theorem un_reaches : UniF M.reaches := uni_fn (by unfold M.reachesS; simp [uniS, uniE, un_check_gaps, un_reaches_so])
end RS
end
section
set_option autoImplicit false
set_option linter.all false
set_option maxRecDepth 100000
set_option maxHeartbeats 4000000
/-! RSPlain: the evaluator on small programs; the law's draws. -/
namespace RS
theorem fitsI_of {i : Int} (h : i.natAbs < 2 ^ 200) : fitsI i = true := by
  unfold fitsI BIG
  rw [decide_eq_true_eq]
  exact Nat.lt_trans h (Nat.pow_lt_pow_right (by decide) (by decide))
/-- k more draws may be made -/
structure St (k : Nat) (s : OSt) : Prop where
  ne : 0 < s.cells.length
  len : s.lefts.length = s.cells.length
  pos : s.pos + k ≤ 1000000000
theorem St.mono {j k : Nat} {s : OSt} (h : St k s) (l : j ≤ k) : St j s := ⟨h.ne, h.len, by have := h.pos; omega⟩
theorem beginSt_ok (ns : List Int) : St 1000000000 (beginSt ns) := by
  unfold beginSt
  refine ⟨?_, by simp, by simp⟩
  dsimp only
  split
  · exact Nat.le_refl 1
  · rename_i h; exact List.length_pos_iff.mpr h
theorem mixed_run (c k : Int) (hk : 0 ≤ k) (hk2 : k < 2 ^ 64) (s : OSt) : ∃ m : Int, M.Llaw_mixed [.int c, .int k] s = .ok (.sh (.int m)) s ∧ 0 ≤ m ∧ m < 2147483629 := by
  refine ⟨(c.fmod 2147483647 * (48271 + 2 * k * k) + 69621 * k + 11).fmod 2147483647 * 69621 |>.fmod 2147483629, ?_, ?_, ?_⟩
  · have h1 : 0 ≤ c.fmod 2147483647 ∧ c.fmod 2147483647 < 2147483647 := by
      rw [Int.fmod_eq_emod_of_nonneg _ (by decide)]; omega
    have f : ∀ i : Int, -(2 ^ 150) < i → i < 2 ^ 150 → fitsI i = true := fun i a b => fitsI_of (by omega)
    have h3 : k * k ≤ (2 ^ 64 - 1) * (2 ^ 64 - 1) ∧ 0 ≤ k * k := ⟨Int.mul_le_mul (by omega) (by omega) hk (by decide), Int.mul_nonneg hk hk⟩
    have h4 : 2 * k * k = 2 * (k * k) := Int.mul_assoc _ _ _
    have h5 : 0 ≤ (c.fmod 2147483647 * (48271 + 2 * k * k) + 69621 * k + 11).fmod 2147483647 ∧ (c.fmod 2147483647 * (48271 + 2 * k * k) + 69621 * k + 11).fmod 2147483647 < 2147483647 := by
      rw [Int.fmod_eq_emod_of_nonneg _ (by decide)]; omega
    have e1 := f (c.fmod 2147483647) (by omega) (by omega)
    have e2 := f k (by omega) (by omega)
    have e3 := f (2 * k) (by omega) (by omega)
    have e4 := f (48271 + 2 * k * k) (by omega) (by omega)
    have e5 := f _ (by have := h5.1; omega) (by have := h5.2; omega : (c.fmod 2147483647 * (48271 + 2 * k * k) + 69621 * k + 11).fmod 2147483647 < 2 ^ 150)
    have e6 := f 2 (by decide) (by decide)
    have e7 := f 69621 (by decide) (by decide)
    simp [M.Llaw_mixed, M.Llaw_mixedS, evFn, exS, ev, evs, startE, R.bind, withV, lift, primF, int1, binF, Slot.val, outOf, assignAll, slotOf, Rs.isBo, Rs.d, endR, e1, e2, e3, e4, e5, e6, e7]
  · rw [Int.fmod_eq_emod_of_nonneg _ (by decide)]; omega
  · rw [Int.fmod_eq_emod_of_nonneg _ (by decide)]; omega
theorem ixOf_nat {n i : Nat} (h : i < n) : ixOf n (i : Int) = some i := by
  unfold ixOf
  rw [if_pos (by omega), if_pos (by omega)]
  simp
theorem draw_run {k : Nat} {s : OSt} (h : St (k + 1) s) {l : Int} (h0 : 0 < l) (h1 : l < 2 ^ 64) : ∃ (d : Int) (s' : OSt), M.Llaw_draw [.st, .int l] s = .ok (.sh (.int d)) s' ∧ 0 ≤ d ∧ d < l ∧ St k s' := by
  obtain ⟨hne, hlen, hpos⟩ := h
  have hsp : s.pos % s.cells.length < s.cells.length := Nat.mod_lt _ hne
  have e1 : ((s.pos : Nat) : Int) % (s.cells.length : Int) = ((s.pos % s.cells.length : Nat) : Int) := by simp
  have hsl : s.pos % s.cells.length < s.lefts.length := by omega
  have e2 : ixOf s.cells.length ((s.pos : Int) % (s.cells.length : Int)) = some (s.pos % s.cells.length) := by rw [e1]; exact ixOf_nat hsp
  have e3 : ixOf s.lefts.length ((s.pos : Int) % (s.cells.length : Int)) = some (s.pos % s.cells.length) := by rw [e1]; exact ixOf_nat hsl
  clear e1
  have fm : ((s.pos : Nat) : Int).fmod (s.cells.length : Int) = (s.pos : Int) % (s.cells.length : Int) := Int.fmod_eq_emod_of_nonneg _ (by omega)
  have nc : s.cells ≠ [] := List.length_pos_iff.mp hne
  have g1 : s.lefts[s.pos % s.cells.length]? = some (s.lefts[s.pos % s.cells.length]) := List.getElem?_eq_getElem hsl
  have g2 : s.cells[s.pos % s.cells.length]? = some (s.cells[s.pos % s.cells.length]) := List.getElem?_eq_getElem hsp
  generalize s.lefts[s.pos % s.cells.length] = left at g1
  generalize s.cells[s.pos % s.cells.length] = cell at g2
  have hl : l ≠ 0 := by omega
  have fl : fitsI l = true := fitsI_of (by omega)
  have nn : ((s.cells.length : Nat) : Int) ≠ 0 := by omega
  have np : (0 : Int) ≤ (s.pos : Int) + 1 := by omega
  have lm : ∀ x : Int, 0 ≤ x.fmod l ∧ x.fmod l < l := fun x => by
    rw [Int.fmod_eq_emod_of_nonneg _ (by omega)]
    exact ⟨Int.emod_nonneg _ hl, Int.emod_lt_of_pos _ h0⟩
  by_cases hp : left > 0
  · have hp' : (0 : Int) < left := hp
    refine ⟨left.fmod l, ⟨s.cells, s.lefts.set (s.pos % s.cells.length) (left.fdiv l), s.pos + 1⟩, ?_, (lm left).1, (lm left).2, hne, by simpa using hlen, by show s.pos + 1 + k ≤ _; omega⟩
    simp [M.Llaw_draw, M.Llaw_drawS, evFn, exS, ev, evs, startE, R.bind, withV, lift, primF, int1, binF, Slot.val, outOf, assignAll, slotOf, Rs.isBo, Rs.d, endR, isSt, cellF, putAt, putLeft, cmpF, ordF, bothInt, fm, e2, e3, g1, g2, hl, fl, nc, np, hp']
  · have hp' : ¬ (0 : Int) < left := hp
    obtain ⟨m1, r1, a1, b1⟩ := mixed_run cell s.pos (by omega) (by omega) ⟨s.cells, s.lefts, s.pos + 1⟩
    obtain ⟨m2, r2, a2, b2⟩ := mixed_run m1 (40 + s.pos) (by omega) (by omega) ⟨s.cells, s.lefts, s.pos + 1⟩
    obtain ⟨m3, r3, a3, b3⟩ := mixed_run m2 (7 + s.pos) (by omega) (by omega) ⟨s.cells, s.lefts, s.pos + 1⟩
    have f2 : fitsI m2 = true := fitsI_of (by omega)
    have f3 : fitsI 2147483647 = true := fitsI_of (by decide)
    have f4 : fitsI 64 = true := fitsI_of (by decide)
    refine ⟨((m2 * 2147483647 + m3).fdiv 64).fmod l, ⟨s.cells, s.lefts, s.pos + 1⟩, ?_, (lm _).1, (lm _).2, hne, hlen, by show s.pos + 1 + k ≤ _; omega⟩
    simp [M.Llaw_draw, M.Llaw_drawS, evFn, exS, ev, evs, startE, R.bind, withV, lift, primF, int1, binF, Slot.val, outOf, assignAll, slotOf, Rs.isBo, Rs.d, endR, isSt, cellF, putAt, putLeft, cmpF, ordF, bothInt, callR, freeze, fm, e2, e3, g1, g2, hl, fl, nc, np, hp', r1, r2, r3, f2, f3, f4]
end RS
end
section
set_option autoImplicit false
set_option linter.all false
set_option maxRecDepth 100000
set_option maxHeartbeats 4000000
/-! RSPlain2: lists of ints, comprehensions, loops. -/
namespace RS
def tn (l : List Int) : D := .tup (l.map D.int)
theorem intsOf_map : ∀ l : List Int, intsOf (l.map D.int) = some l
  | [] => rfl
  | x :: l => by rw [List.map_cons, intsOf, intsOf_map l]; rfl
theorem deeps_ints (n : Nat) : ∀ l : List Int, D.deeps n (l.map D.int) = true
  | [] => by simp [D.deeps]
  | x :: l => by rw [List.map_cons, D.deeps, deeps_ints n l]; cases n <;> simp [D.deep]
theorem deep_tn (n : Nat) (l : List Int) : D.deep (n + 1) (tn l) = true := by rw [tn, D.deep]; exact deeps_ints n l
theorem eqvs_ints : ∀ a b : List Int, D.eqvs (a.map D.int) (b.map D.int) = decide (a = b)
  | [], [] => by simp [D.eqvs]
  | [], _ :: _ => by simp [D.eqvs]
  | _ :: _, [] => by simp [D.eqvs]
  | x :: a, y :: b => by
    rw [List.map_cons, List.map_cons, D.eqvs, D.eqv, eqvs_ints a b]
    by_cases h1 : x = y <;> by_cases h2 : a = b <;> simp [h1, h2]
theorem eqF_tn (a b : List Int) : eqF (tn a) (tn b) = some (decide (a = b)) := by
  unfold eqF
  rw [show DEEP = 59 + 1 from rfl, deep_tn, deep_tn]
  simp only [Bool.and_self, if_true, tn, D.eqv, eqvs_ints]
theorem showables_ints : ∀ l : List Int, (∀ x ∈ l, x.natAbs < 2 ^ 1000) → D.showables (l.map D.int) = true
  | [], _ => by simp [D.showables]
  | x :: l, h => by
    rw [List.map_cons, D.showables, showables_ints l fun y hy => h y (List.mem_cons_of_mem _ hy), D.showable, Bool.and_true, decide_eq_true_eq]
    exact Nat.lt_trans (h x List.mem_cons_self) (by unfold SHOW; exact Nat.pow_lt_pow_right (by decide) (by decide))
theorem rlens_ints : ∀ l : List Int, D.rlens (l.map D.int) = 642 * l.length
  | [] => by simp [D.rlens]
  | x :: l => by rw [List.map_cons, D.rlens, rlens_ints l, D.rlen, List.length_cons]; omega
theorem reprOk_tn {l : List Int} (h : ∀ x ∈ l, x.natAbs < 2 ^ 1000) (hl : l.length ≤ 1000) : reprOk (tn l) = true := by
  unfold reprOk
  rw [show DEEP = 59 + 1 from rfl, deep_tn, tn, D.showable, showables_ints l h, D.rlen, rlens_ints]
  simp only [Bool.true_and, Bool.and_true, decide_eq_true_eq]
  omega
theorem compL_pure {step : D → OSt → R (Option D)} (g : D → Option D) {s : OSt} : ∀ (items acc : List D), (∀ d ∈ items, step d s = .ok (g d) s) → acc.length + items.length ≤ LIM → compL step items acc s = .ok (acc ++ items.filterMap g) s
  | [], acc, _, _ => by simp [compL]
  | d :: items, acc, h, hl => by
    have h1 := h d List.mem_cons_self
    have ih := fun acc' => compL_pure g items acc' fun e he => h e (List.mem_cons_of_mem _ he)
    rw [List.length_cons] at hl
    rw [compL, h1]
    cases hg : g d with
    | none => simp only []; rw [ih acc (by omega), List.filterMap_cons, hg]
    | some y =>
      simp only []
      rw [if_pos (by omega), ih _ (by simp; omega), List.filterMap_cons, hg]
      simp
def lentE (b : Option Nat) (ρ : Env) : Env := match b with
  | some i => ρ.set i .no
  | none => ρ
def stepP (ρw : Env) (tg : Tg) (cnd elt : E) (d : D) (s : OSt) : R (Option D) := match bindTg tg d ρw with
  | some ρ1 => (ev cnd ρ1 s).bind fun c s2 => match c with
    | .sh (.bl true) => (ev elt ρ1 s2).bind fun y s3 => if y.isBo then .no else .ok (some y.d) s3
    | .sh (.bl false) => .ok none s2
    | _ => .no
  | none => .no
theorem bind_mk {α β : Type} {a : α} {s : OSt} {f : α → OSt → R β} : (R.ok a s).bind f = f a s := rfl
theorem ev_comp {vs : List Nat} {tg : Tg} {it cnd elt : E} {ρ : Env} {s : OSt} {items : List D} {b : Option Nat} (hi : evI it ρ s = .ok (items, b) s) (no : noOw ρ vs = true) (g : D → Option D)
    (h : ∀ d ∈ items, stepP (wipeE (lentE b ρ) vs) tg cnd elt d s = .ok (g d) s) (hl : items.length ≤ LIM) : ev (.comp vs tg it cnd elt) ρ s = .ok (.fr (.lst (items.filterMap g))) s := by
  rw [ev, hi, bind_mk]
  dsimp only
  rw [if_pos no]
  have e : compL (stepP (wipeE (lentE b ρ) vs) tg cnd elt) items [] s = .ok ([] ++ items.filterMap g) s := compL_pure g items [] h (by simpa using hl)
  exact Eq.trans (congrArg (fun z => R.bind z fun acc s2 => R.ok (Rs.fr (.lst acc)) s2) e) rfl
theorem forL_run {step : D → Env → OSt → Out} {s : OSt} (I : Nat → Env → Prop) : ∀ (items : List D) (k : Nat) (ρ : Env), I k ρ → (∀ i d ρ, items[i]? = some d → I (k + i) ρ → ∃ ρ', step d ρ s = .nx ρ' s ∧ I (k + i + 1) ρ') → ∃ ρ', forL step items ρ s = .nx ρ' s ∧ I (k + items.length) ρ'
  | [], k, ρ, h, _ => ⟨ρ, by rw [forL], h⟩
  | d :: items, k, ρ, h, hs => by
    obtain ⟨ρ1, e1, h1⟩ := hs 0 d ρ rfl h
    obtain ⟨ρ2, e2, h2⟩ := forL_run I items (k + 1) ρ1 h1 fun i d ρ hd hI => by
      have := hs (i + 1) d ρ (by simpa using hd) (by rw [show k + (i + 1) = k + 1 + i by omega]; exact hI)
      rw [show k + 1 + i + 1 = k + (i + 1) + 1 by omega]; exact this
    refine ⟨ρ2, by rw [forL, e1]; exact e2, ?_⟩
    rw [List.length_cons, show k + (items.length + 1) = k + 1 + items.length by omega]; exact h2
end RS
end
section
set_option Elab.async false
set_option linter.all false
set_option autoImplicit false
set_option maxRecDepth 100000
set_option maxHeartbeats 4000000
namespace RS
/-- one of some things -/
theorem of_run {l : List D} {k : Nat} {s : OSt} (h : St (k + 1) s) (h0 : 0 < l.length) (h1 : l.length < 1000) : ∃ d s', d ∈ l ∧ M.Llaw_of [.st, .lst l] s = .ok (.sh d) s' ∧ St k s' := by
  obtain ⟨d, s', e, a, b, h'⟩ := draw_run h (l := (l.length : Int)) (by omega) (by omega)
  obtain ⟨i, rfl⟩ := Int.eq_ofNat_of_zero_le a
  have hi : i < l.length := by omega
  refine ⟨l[i], s', List.getElem_mem hi, ?_, h'⟩
  have q : (ixOf l.length (i : Int)).bind (fun j => l[j]?) = some l[i] := by rw [ixOf_nat hi]; exact List.getElem?_eq_getElem hi
  simp only [M.Llaw_of, M.Llaw_ofS, evFn, exS, startE, ev, evs, List.map, List.getD, List.length, Slot.val, lift, bind_mk, callR, e, primF, lenF, withV, List.getElem?_cons_zero, List.getElem?_cons_succ, Option.getD_some, List.cons_append, List.nil_append, Rs.d, idxF, q, endR, Rs.isBo, freeze, if_true, Bool.not_false, Bool.true_or, Bool.and_true, Bool.false_eq_true, if_false, Option.map_some]
/-- a draw of one of the things that e tells -/
theorem of_ev {e : E} {ρ : Env} {k : Nat} {s : OSt} (h : St (k + 1) s) (u : uniE e) (hk : isOkR (ev e ρ s0) = true) (l : List D) (hl : valOf (ev e ρ s0) = .fr (.lst l) ∨ valOf (ev e ρ s0) = .sh (.lst l)) (h0 : 0 < l.length) (h1 : l.length < 1000) (hv : ρ.getD 0 .no = .sh .st) :
    ∃ d s', d ∈ l ∧ ev (.call "_law_of" M.Llaw_of (.cons (.var 0) (.cons e .nil))) ρ s = .ok (.sh d) s' ∧ St k s' := by
  obtain ⟨d, s', m, r, h'⟩ := of_run h h0 h1
  refine ⟨d, s', m, ?_, h'⟩
  have z := ((uniE_ok e u).1 ρ).run hk s
  rcases hl with w | w <;> rw [w] at z <;> simp only [ev, evs, hv, Slot.val, lift, bind_mk, z, callR, List.map, Rs.d, r, Rs.isBo, freeze, Bool.not_false, Bool.true_and, Bool.true_or, if_true, Bool.false_eq_true, if_false]
theorem asgS_run {i : Nat} {e : E} {b : S} {ρ : Env} {s s1 : OSt} {d : D} (h : ev e ρ s = .ok (.sh d) s1) (hi : i < ρ.length) : exS (.seq (.asgS i e) b) ρ s = exS b (ρ.set i (.sh d)) s1 := by
  simp [exS, h, withV, Rs.isBo, assignAll, slotOf, outOf, hi, Rs.d]
end RS
end
section
set_option Elab.async false
set_option linter.all false
set_option autoImplicit false
set_option maxRecDepth 100000
set_option maxHeartbeats 4000000
namespace RS
def getE : Nat → S → E
  | 0, .seq (.asgS _ (.call _ _ (.cons _ (.cons e _)))) _ => e
  | 0, .seq (.asgT _ (.tup (.cons (.call _ _ (.cons _ (.cons e _))) _))) _ => e
  | n + 1, .seq _ b => getE n b
  | _, _ => .nil
abbrev gE1 : E := getE 0 M.Llaw_gaps_rightS
abbrev gE2 : E := getE 1 M.Llaw_gaps_rightS
abbrev gE3 : E := getE 2 M.Llaw_gaps_rightS
abbrev lawOf (e : E) : E := .call "_law_of" M.Llaw_of (.cons (.var 0) (.cons e .nil))
def gapsOdd : List D := [.non, .int (-1), .int 41, .bl true, .str [51], .tup [.int 3], .lst [.int 3]]
def gapsBad : List D := [.non, .lst [.int 0], .tup [.int 0, .int 0], .tup [.int 1, .int 0], .tup [.int 3], .tup [.int (-1)], .tup [.bl true], .tup [.str [48]], .tup [.int 0, .int 1, .int 2, .int 3], .int 0]
def gapsWorse : List D := [.non, .tup [], .tup [.int 0, .int 0, .int 0, .int 0, .int 0], .tup [.int (-1)], .tup [.int 41], .tup [.bl true, .int 0], .lst [.int 0, .int 1], .tup [.str [48]], .int 3, .tup [.tup [.int 0]]]
def gapsEnd (a b c : D) : R Rs := endR (exS (dropS 3 M.Llaw_gaps_rightS) [.sh .st, .sh a, .sh b, .sh c, .no, .no] s0)
def gapsAt (a : D) : Bool := gapsBad.all fun b => gapsWorse.all fun c => isTrue (gapsEnd a b c)
theorem gaps_0 : gapsAt (.non) = true := by decide +kernel
theorem gaps_1 : gapsAt (.int (-1)) = true := by decide +kernel
theorem gaps_2 : gapsAt (.int 41) = true := by decide +kernel
theorem gaps_3 : gapsAt (.bl true) = true := by decide +kernel
theorem gaps_4 : gapsAt (.str [51]) = true := by decide +kernel
theorem gaps_5 : gapsAt (.tup [.int 3]) = true := by decide +kernel
theorem gaps_6 : gapsAt (.lst [.int 3]) = true := by decide +kernel
theorem gaps_all : (gapsOdd.all gapsAt) = true := by
  simp only [gapsOdd, List.all_cons, List.all_nil, gaps_0, gaps_1, gaps_2, gaps_3, gaps_4, gaps_5, gaps_6, Bool.and_true, Bool.and_self]
theorem gaps_split : M.Llaw_gaps_rightS = .seq (.asgS 1 (lawOf gE1)) (.seq (.asgS 2 (lawOf gE2)) (.seq (.asgS 3 (lawOf gE3)) (dropS 3 M.Llaw_gaps_rightS))) := rfl
/-! rows -/
def fullD : D := .tup (List.replicate 60 (.tup [.int 0, .int 12]))
def goodD : D := .tup [.tup [.int 1, .int 0], .tup [.int 0, .int 2]]
def rowsOdd : List D := [.non, .tup [.tup [.int 1, .int 0], .tup [.int 0]], .tup [.tup [.int 1, .int 0], .non], .lst [.tup [.int 1, .int 0]], .tup [.tup [.int 13, .int 0]], .tup [.tup [.int 0, .int (-1)]], .tup (List.replicate 61 (.tup [.int 0, .int 12])), .int 5]
def rowsSize : List D := [.non, .int (-1), .int 4, .bl true, .int 0, .int 2, .int 3, .str [49]]
def rowsMany : List D := [.non, .int (-1), .int 21, .bl true, .str [50], .int (10 ^ 30)]
abbrev rE1 : E := getE 1 M.Llaw_rows_rightS
abbrev rE2 : E := getE 2 M.Llaw_rows_rightS
abbrev rE3 : E := getE 3 M.Llaw_rows_rightS
def headS : S → S
  | .seq a _ => a
  | b => b
theorem rows_split : M.Llaw_rows_rightS = .seq (headS M.Llaw_rows_rightS) (.seq (.asgS 3 (lawOf rE1)) (.seq (.asgS 4 (lawOf rE2)) (.seq (.asgS 5 (lawOf rE3)) (dropS 4 M.Llaw_rows_rightS)))) := rfl
def rowsEnd (a b c : D) : R Rs := endR (exS (dropS 4 M.Llaw_rows_rightS) [.sh .st, .sh goodD, .sh fullD, .sh a, .sh b, .sh c, .no, .no, .no] s0)
def rowsAt (a : D) : Bool := rowsSize.all fun b => rowsMany.all fun c => isTrue (rowsEnd a b c)
theorem rows_0 : rowsAt (.non) = true := by decide +kernel
theorem rows_1 : rowsAt (.tup [.tup [.int 1, .int 0], .tup [.int 0]]) = true := by decide +kernel
theorem rows_2 : rowsAt (.tup [.tup [.int 1, .int 0], .non]) = true := by decide +kernel
theorem rows_3 : rowsAt (.lst [.tup [.int 1, .int 0]]) = true := by decide +kernel
theorem rows_4 : rowsAt (.tup [.tup [.int 13, .int 0]]) = true := by decide +kernel
theorem rows_5 : rowsAt (.tup [.tup [.int 0, .int (-1)]]) = true := by decide +kernel
theorem rows_6 : rowsAt (.tup (List.replicate 61 (.tup [.int 0, .int 12]))) = true := by decide +kernel
theorem rows_7 : rowsAt (.int 5) = true := by decide +kernel
theorem rows_all : (rowsOdd.all rowsAt) = true := by
  simp only [rowsOdd, List.all_cons, List.all_nil, rows_0, rows_1, rows_2, rows_3, rows_4, rows_5, rows_6, rows_7, Bool.and_true, Bool.and_self]
end RS
end
section
set_option Elab.async false
set_option linter.all false
set_option autoImplicit false
set_option maxRecDepth 100000
set_option maxHeartbeats 4000000
namespace RS
theorem gaps_rest : uniS (dropS 3 M.Llaw_gaps_rightS) := by
  unfold M.Llaw_gaps_rightS
  simp [dropS, uniS, uniE, un_gaps_of, un_places_of, un_reaches, un_Llaw_like]
theorem gaps_run {k : Nat} {s : OSt} (h : St (k + 3) s) : ∃ s', M.Llaw_gaps_right [.st] s = .ok (.sh (.bl true)) s' ∧ St k s' := by
  obtain ⟨a, s1, m1, e1, h1⟩ := of_ev (e := gE1) (ρ := [.sh .st, .no, .no, .no, .no, .no]) h (by simp [gE1, getE, M.Llaw_gaps_rightS, uniE]) rfl gapsOdd (.inl rfl) (by decide) (by decide) rfl
  obtain ⟨b, s2, m2, e2, h2⟩ := of_ev (e := gE2) (ρ := [.sh .st, .sh a, .no, .no, .no, .no]) h1 (by simp [gE2, getE, M.Llaw_gaps_rightS, uniE]) rfl gapsBad (.inl rfl) (by decide) (by decide) rfl
  obtain ⟨c, s3, m3, e3, h3⟩ := of_ev (e := gE3) (ρ := [.sh .st, .sh a, .sh b, .no, .no, .no]) h2 (by simp [gE3, getE, M.Llaw_gaps_rightS, uniE]) rfl gapsWorse (.inl rfl) (by decide) (by decide) rfl
  refine ⟨s3, ?_, h3⟩
  have g := isTrue_all (isTrue_all (isTrue_all gaps_all m1) m2) m3
  have u := (uniS_ok _ gaps_rest [.sh .st, .sh a, .sh b, .sh c, .no, .no]).endR.yes g s3
  rw [M.Llaw_gaps_right, evFn, if_pos (by rfl), gaps_split]
  show endR (exS _ [.sh .st, .no, .no, .no, .no, .no] s) = _
  rw [asgS_run e1 (by simp)]
  show endR (exS _ [.sh .st, .sh a, .no, .no, .no, .no] s1) = _
  rw [asgS_run e2 (by simp)]
  show endR (exS _ [.sh .st, .sh a, .sh b, .no, .no, .no] s2) = _
  rw [asgS_run e3 (by simp)]
  exact u
theorem rows_rest : uniS (dropS 4 M.Llaw_rows_rightS) := by
  unfold M.Llaw_rows_rightS
  simp [dropS, uniS, uniE, un_least_rows, un_joined, un_counted, un_formula_of, un_Llaw_like]
theorem rows_run {k : Nat} {s : OSt} (h : St (k + 3) s) : ∃ s', M.Llaw_rows_right [.st] s = .ok (.sh (.bl true)) s' ∧ St k s' := by
  have e0 : exS (headS M.Llaw_rows_rightS) [.sh .st, .no, .no, .no, .no, .no, .no, .no, .no] s = .nx [.sh .st, .sh goodD, .sh fullD, .no, .no, .no, .no, .no, .no] s := rfl
  obtain ⟨a, s1, m1, e1, h1⟩ := of_ev (e := rE1) (ρ := [.sh .st, .sh goodD, .sh fullD, .no, .no, .no, .no, .no, .no]) h (by simp [rE1, getE, M.Llaw_rows_rightS, uniE]) rfl rowsOdd (.inl rfl) (by decide) (by decide) rfl
  obtain ⟨b, s2, m2, e2, h2⟩ := of_ev (e := rE2) (ρ := [.sh .st, .sh goodD, .sh fullD, .sh a, .no, .no, .no, .no, .no]) h1 (by simp [rE2, getE, M.Llaw_rows_rightS, uniE]) rfl rowsSize (.inl rfl) (by decide) (by decide) rfl
  obtain ⟨c, s3, m3, e3, h3⟩ := of_ev (e := rE3) (ρ := [.sh .st, .sh goodD, .sh fullD, .sh a, .sh b, .no, .no, .no, .no]) h2 (by simp [rE3, getE, M.Llaw_rows_rightS, uniE]) rfl rowsMany (.inl rfl) (by decide) (by decide) rfl
  refine ⟨s3, ?_, h3⟩
  have g := isTrue_all (isTrue_all (isTrue_all rows_all m1) m2) m3
  have u := (uniS_ok _ rows_rest [.sh .st, .sh goodD, .sh fullD, .sh a, .sh b, .sh c, .no, .no, .no]).endR.yes g s3
  rw [M.Llaw_rows_right, evFn, if_pos (by rfl), rows_split]
  show endR (exS _ [.sh .st, .no, .no, .no, .no, .no, .no, .no, .no] s) = _
  rw [seq_run e0, asgS_run e1 (by simp)]
  show endR (exS _ [.sh .st, .sh goodD, .sh fullD, .sh a, .no, .no, .no, .no, .no] s1) = _
  rw [asgS_run e2 (by simp)]
  show endR (exS _ [.sh .st, .sh goodD, .sh fullD, .sh a, .sh b, .no, .no, .no, .no] s2) = _
  rw [asgS_run e3 (by simp)]
  exact u
end RS
end
section
set_option Elab.async false
set_option linter.all false
set_option autoImplicit false
set_option maxRecDepth 100000
set_option maxHeartbeats 4000000
namespace RS
/-! formulas -/
def zeros4 : D := .tup [.int 0, .int 0, .int 0, .int 0]
def goodF : D := .tup [.tup [.int 0], .tup [.int 1, .int (-1), .int 1, .int 0]]
def lotA : List D := [.non, .tup [], .tup [.tup [.int 0], zeros4], .tup [.tup [], .tup [.int 0, .int 0, .int 0]], .tup [.lst [.int 1], zeros4], .tup [.tup [.int 1], .lst [.int 0, .int 0, .int 0, .int 0]], .tup [.tup [.bl true], zeros4]]
def lotB : List D := [.tup [.tup [.int 1], .tup [.int 0, .int 0, .int 0, .bl true]], .tup [.tup (List.replicate 401 (.int 1)), zeros4], .tup [.tup [.int 1], zeros4, .tup []], .tup [.int 1, zeros4], .tup [.tup [.str [49]], zeros4]]
def lotC : List D := [.tup [.tup [.int 3, .int 1], .tup [.int 1, .int 0, .int 0, .int 0]], .int 7]
def fmLot : List D := lotA ++ lotB ++ lotC
def fmBad : List D := [.non, .int (-1), .int (10 ^ 30 + 1), .bl true, .str [53], .tup [.int 1]]
def getF : Nat → S → E
  | 0, .seq (.asgT _ (.tup (.cons _ (.cons (.call _ _ (.cons _ (.cons e _))) _)))) _ => e
  | n + 1, .seq _ b => getF n b
  | _, _ => .nil
abbrev fE2 : E := getF 4 M.Llaw_formulas_rightS
theorem fm_split : M.Llaw_formulas_rightS = .seq (headS M.Llaw_formulas_rightS) (.seq (headS (dropS 1 M.Llaw_formulas_rightS)) (.seq (headS (dropS 2 M.Llaw_formulas_rightS)) (.seq (headS (dropS 3 M.Llaw_formulas_rightS)) (.seq (.asgT (.tup (.cons (.nm 4) (.cons (.nm 5) .nil))) (.tup (.cons (lawOf (.var 3)) (.cons (lawOf fE2) .nil)))) (dropS 5 M.Llaw_formulas_rightS))))) := rfl
def fmEnd (a b : D) : R Rs := endR (exS (dropS 5 M.Llaw_formulas_rightS) [.sh .st, .sh goodF, .sh zeros4, .sh (.lst fmLot), .sh a, .sh b, .no, .no, .no] s0)
theorem fm_all : (fmLot.all fun a => fmBad.all fun b => isTrue (fmEnd a b)) = true := by decide +kernel
theorem fm_rest : uniS (dropS 5 M.Llaw_formulas_rightS) := by
  unfold M.Llaw_formulas_rightS
  simp [dropS, uniS, uniE, un_value_at, un_formula_plus, un_formula_minus, un_equal_from, un_Llaw_like]
theorem asgT2_run {i j : Nat} {e1 e2 : E} {ρ : Env} {s s1 s2 : OSt} {a b : D} (h1 : ev e1 ρ s = .ok (.sh a) s1) (h2 : ev e2 ρ s1 = .ok (.sh b) s2) (hi : i < ρ.length) (hj : j < ρ.length) :
    exS (.asgT (.tup (.cons (.nm i) (.cons (.nm j) .nil))) (.tup (.cons e1 (.cons e2 .nil)))) ρ s = .nx ((ρ.set i (.sh a)).set j (.sh b)) s2 := by
  simp [exS, ev, evs, h1, h2, bind_mk, withV, Rs.isBo, freeze, Rs.d, bindTg, bindTgs, hi, hj, outOf]
/-- the first four rows of the def -/
theorem fm_1 (s : OSt) : exS (headS M.Llaw_formulas_rightS) [.sh .st, .no, .no, .no, .no, .no, .no, .no, .no] s = .nx [.sh .st, .sh goodF, .sh zeros4, .no, .no, .no, .no, .no, .no] s := rfl
theorem fm_2 (s : OSt) : exS (headS (dropS 1 M.Llaw_formulas_rightS)) [.sh .st, .sh goodF, .sh zeros4, .no, .no, .no, .no, .no, .no] s = .nx [.sh .st, .sh goodF, .sh zeros4, .sh (.lst lotA), .no, .no, .no, .no, .no] s := rfl
theorem fm_3 (s : OSt) : exS (headS (dropS 2 M.Llaw_formulas_rightS)) [.sh .st, .sh goodF, .sh zeros4, .sh (.lst lotA), .no, .no, .no, .no, .no] s = .nx [.sh .st, .sh goodF, .sh zeros4, .sh (.lst (lotA ++ lotB)), .no, .no, .no, .no, .no] s := rfl
theorem fm_4 (s : OSt) : exS (headS (dropS 3 M.Llaw_formulas_rightS)) [.sh .st, .sh goodF, .sh zeros4, .sh (.lst (lotA ++ lotB)), .no, .no, .no, .no, .no] s = .nx [.sh .st, .sh goodF, .sh zeros4, .sh (.lst fmLot), .no, .no, .no, .no, .no] s := rfl
theorem fm_run {k : Nat} {s : OSt} (h : St (k + 2) s) : ∃ s', M.Llaw_formulas_right [.st] s = .ok (.sh (.bl true)) s' ∧ St k s' := by
  obtain ⟨a, s1, m1, e1, h1⟩ := of_ev (e := .var 3) (ρ := [.sh .st, .sh goodF, .sh zeros4, .sh (.lst fmLot), .no, .no, .no, .no, .no]) h trivial rfl fmLot (.inr rfl) (by decide) (by decide) rfl
  obtain ⟨b, s2, m2, e2, h2⟩ := of_ev (e := fE2) (ρ := [.sh .st, .sh goodF, .sh zeros4, .sh (.lst fmLot), .no, .no, .no, .no, .no]) h1 (by simp [fE2, getF, M.Llaw_formulas_rightS, uniE]) rfl fmBad (.inl rfl) (by decide) (by decide) rfl
  refine ⟨s2, ?_, h2⟩
  have g := isTrue_all (isTrue_all fm_all m1) m2
  have u := (uniS_ok _ fm_rest [.sh .st, .sh goodF, .sh zeros4, .sh (.lst fmLot), .sh a, .sh b, .no, .no, .no]).endR.yes g s2
  rw [M.Llaw_formulas_right, evFn, if_pos (by rfl), fm_split]
  show endR (exS _ [.sh .st, .no, .no, .no, .no, .no, .no, .no, .no] s) = _
  rw [seq_run (fm_1 s), seq_run (fm_2 s), seq_run (fm_3 s), seq_run (fm_4 s), seq_run (asgT2_run e1 e2 (by simp) (by simp))]
  exact u
/-! the law -/
theorem callSt {x : String} {f : Fn} {ρ : Env} {s s' : OSt} (hv : ρ.getD 1 .no = .sh .st) (r : f [.st] s = .ok (.sh (.bl true)) s') : ev (.not (.call x f (.cons (.var 1) .nil))) ρ s = .ok (.sh (.bl false)) s' := by
  simp only [ev, evs, hv, Slot.val, lift, bind_mk, callR, List.map, Rs.d, r, Rs.isBo, freeze, Bool.not_false, Bool.true_and, Bool.true_or, if_true, Bool.false_eq_true, if_false, Bool.not_true]
theorem turn_run {k : Nat} {ρ : Env} {s : OSt} (hv : ρ.getD 1 .no = .sh .st) (h : St (k + 8) s) : ∃ s', exS (match M.lawS with | .seq (.for _ _ b) _ => b | b => b) ρ s = .nx ρ s' ∧ St k s' := by
  obtain ⟨s1, e1, h1⟩ := gaps_run (k := k + 5) h
  obtain ⟨s2, e2, h2⟩ := rows_run (k := k + 2) h1
  obtain ⟨s3, e3, h3⟩ := fm_run h2
  refine ⟨s3, ?_, h3⟩
  have c1 := callSt (x := "_law_gaps_right") hv e1
  have c2 := callSt (x := "_law_rows_right") hv e2
  have c3 := callSt (x := "_law_formulas_right") hv e3
  have c : ev (.or (.not (.call "_law_gaps_right" M.Llaw_gaps_right (.cons (.var 1) .nil))) (.or (.not (.call "_law_rows_right" M.Llaw_rows_right (.cons (.var 1) .nil))) (.not (.call "_law_formulas_right" M.Llaw_formulas_right (.cons (.var 1) .nil))))) ρ s = .ok (.sh (.bl false)) s3 := by
    rw [ev, c1]
    show ev (.or _ _) ρ s1 = _
    rw [ev, c2]
    exact c3
  show exS (.seq (.ife _ _ _) .skip) ρ s = _
  rw [exS, exS, c]
  rfl
theorem law_run (ns : List Int) : ∃ st', endR (exS M.lawS ((List.replicate 3 .no).set 1 (.sh .st)) (beginSt ns)) = .ok (.sh (.bl true)) st' := by
  have h := beginSt_ok ns
  have l : ∀ (n : Nat) (i : Nat) (x : Slot) (s : OSt), St (8 * n) s → ∃ y s', forL (fun d ρ s => match bindTg (.nm 2) d ρ with
      | some ρ1 => exS (match M.lawS with | .seq (.for _ _ b) _ => b | b => b) ρ1 s
      | none => .no) ((List.range n).map fun j => D.int ((i + j : Nat) : Int)) [.no, .sh .st, x] s = .nx [.no, .sh .st, y] s' := by
    intro n
    induction n with
    | zero => exact fun i x s _ => ⟨x, s, rfl⟩
    | succ n ih =>
      intro i x s h
      obtain ⟨s1, e1, h1⟩ := turn_run (k := 8 * n) (ρ := [.no, .sh .st, .sh (.int (i : Int))]) rfl h
      obtain ⟨y, s', e2⟩ := ih (i + 1) (.sh (.int (i : Int))) s1 h1
      refine ⟨y, s', ?_⟩
      rw [List.range_succ_eq_map, List.map_cons, forL]
      show (match exS _ [.no, .sh .st, .sh (.int (i : Int))] s with | .nx ρ1 s1 => _ | .ct ρ1 s1 => _ | .bk ρ1 s1 => _ | .rt r s1 => _ | .exc c d s1 => _ | .no => _) = _
      rw [e1]
      simp only [List.map_map]
      rw [← e2]
      congr 1
      apply List.map_congr_left
      intro a _
      simp only [Function.comp]
      congr 1
      omega
  obtain ⟨y, s', e⟩ := l 4 0 .no (beginSt ns) (h.mono (by decide))
  refine ⟨s', ?_⟩
  have e' : exS (headS M.lawS) [.no, .sh .st, .no] (beginSt ns) = .nx [.no, .sh .st, y] s' := e
  show endR (exS (.seq (headS M.lawS) (dropS 1 M.lawS)) [.no, .sh .st, .no] (beginSt ns)) = _
  rw [seq_run e']
  rfl
end RS
end
section
set_option Elab.async false
set_option maxRecDepth 100000
open PySem PySem.W PyProof.Rows
set_option maxHeartbeats 0 in
theorem PySem.Challenge.cw_risingsays_k18_gaps_and_formulas_refused_holds : PySem.Challenge.rw_risingsays_k18_gaps_and_formulas_refused.Holds := by
  w_on; o_law; k_head; (case hw => w_witness2)
  k_fill
  refine RS.walkGT (law := PySem.Challenge.rw_risingsays_k18_gaps_and_formulas_refused) (x := "script") (n := 3) (j := 1) (b := RS.M.lawS) [(336, 332), (329, 327), (324, 320)] rfl rfl (fun w h Y => ⟨PySem.W.km_in_of Y, (RS.fa_cons (PySem.W.km_tabs_of Y 332 (by decide)) (RS.fa_cons (PySem.W.km_tabs_of Y 327 (by decide)) (RS.fa_cons (PySem.W.km_tabs_of Y 320 (by decide)) RS.fa_nil)))⟩) ?nT ?C ?hcs ?F (fun ns _ => RS.law_run ns)
  case nT => exact fun w => (RS.fa_cons (by first | rfl | kernel_rfl) (RS.fa_cons (by first | rfl | kernel_rfl) (RS.fa_cons (by first | rfl | kernel_rfl) RS.fa_nil)))
  case C => exact fun w => (RS.fa_cons (by first | k_is | rfl | kernel_rfl) (RS.fa_cons (by first | k_is | rfl | kernel_rfl) (RS.fa_cons (by first | k_is | rfl | kernel_rfl) RS.fa_nil)))
  case hcs => exact fun w => RS.hcs_mk [(320, "_law_gaps_right"), (327, "_law_rows_right"), (332, "_law_formulas_right")] (by first | kernel_rfl | rfl) (by decide)
  case F =>
    intro w mg fa h KX G hmg
    refine' RS.tops_mk KX G hmg [(320, "_law_gaps_right"), (327, "_law_rows_right"), (332, "_law_formulas_right")] ?htb ?cls_BadParameter ?er ?hc_law_heard ?a0 ?l0 ?c0 ?k0 ?a1 ?l1 ?c1 ?k1 ?a2 ?l2 ?c2 ?k2 ?a3 ?l3 ?c3 ?k3 ?a4 ?l4 ?c4 ?k4 ?a5 ?l5 ?c5 ?k5 ?a6 ?l6 ?c6 ?k6 ?a7 ?l7 ?c7 ?k7 ?a8 ?l8 ?c8 ?k8 ?a9 ?l9 ?c9 ?k9 ?a10 ?l10 ?c10 ?k10 ?a11 ?l11 ?c11 ?k11 ?a12 ?l12 ?c12 ?k12 ?a13 ?l13 ?c13 ?k13 ?a14 ?l14 ?c14 ?k14 ?a15 ?l15 ?c15 ?k15 ?a16 ?l16 ?c16 ?k16 ?a17 ?l17 ?c17 ?k17 ?a18 ?l18 ?c18 ?k18 ?a19 ?l19 ?c19 ?k19 ?a20 ?l20 ?c20 ?k20 ?a21 ?l21 ?c21 ?k21 ?a22 ?l22 ?c22 ?k22 ?a23 ?l23 ?c23 ?k23 ?a24 ?l24 ?c24 ?k24 ?a25 ?l25 ?c25 ?k25 ?a26 ?l26 ?c26 ?k26 ?a27 ?l27 ?c27 ?k27 ?a28 ?l28 ?c28 ?k28 ?a29 ?l29 ?c29 ?k29 ?a30 ?l30 ?c30 ?k30 ?a31 ?l31 ?c31 ?k31 ?a32 ?l32 ?c32 ?k32 ?a33 ?l33 ?c33 ?k33 ?a34 ?l34 ?c34 ?k34 ?a35 ?l35 ?c35 ?k35 ?a36 ?l36 ?c36 ?k36 ?a37 ?l37 ?c37 ?k37 ?a38 ?l38 ?c38 ?k38 ?a39 ?l39 ?c39 ?k39 ?a40 ?l40 ?c40 ?k40 ?a41 ?l41 ?c41 ?k41 ?a42 ?l42 ?c42 ?k42 ?a43 ?l43 ?c43 ?k43 ?a44 ?l44 ?c44 ?k44 ?a45 ?l45 ?c45 ?k45 ?a46 ?l46 ?c46 ?k46 ?z0 ?z1 ?z2 ?z3 ?z4 ?z5 ?z6 ?z7 ?z8 ?z9 ?z10 ?z11 ?z12 ?z13 ?z14 ?z15 ?z16 ?z17 ?cg0 ?dg0 ?cg1 ?dg1 ?cg5 ?dg5 ?cg6 ?dg6 ?cg7 ?dg7 ?cg8 ?dg8 ?cg9 ?dg9 ?cg10 ?dg10 ?ad_equal_from ?ad_formula_minus ?ad_formula_plus ?lc_law_formulas_right ?lm_law_formulas_right ?l1_law_formulas_right ?l2_law_formulas_right ?lc_law_rows_right ?lm_law_rows_right ?l1_law_rows_right ?l2_law_rows_right ?lc_law_gaps_right ?lm_law_gaps_right ?l1_law_gaps_right ?l2_law_gaps_right
    (case htb => first | kernel_rfl | rfl)
    (case cls_BadParameter =>
      refine' RS.clsF_mk KX G ?c_e1 ?c_e2 ?c_e3 ?c_e4 ?c_e5 ?c_e6 ?c_e7 ?c_f1 ?c_f2 ?c_f3 ?c_f4 ?c_f5 ?c_f6 ?c_f7 ?c_f8 ?c_f9 ?c_f10 ?c_f11 ?c_g1 ?c_g2 ?c_g3 ?c_g4 ?c_g5 ?c_g6 ?c_g7 ?c_g8 ?c_g9 ?c_hb
      (case c_e1 => first | k_is | rfl)
      (case c_e2 => first | k_is | rfl)
      (case c_e3 => first | rfl | decide | decide +kernel)
      (case c_e4 => first | k_is | rfl)
      (case c_e5 => first | k_is | rfl)
      (case c_e6 => first | k_is | rfl)
      (case c_e7 => first | k_is | rfl)
      (case c_f1 => first | k_is | rfl)
      (case c_f2 => first | k_is | rfl)
      (case c_f3 => first | k_is | rfl)
      (case c_f4 => first | k_is | rfl)
      (case c_f5 => exact ⟨_, _, _, _, _, _, _, _, _, _, rfl, rfl⟩)
      (case c_f6 => first | rfl | decide | decide +kernel)
      (case c_f7 => exact ⟨_, rfl, rfl⟩)
      (case c_f8 => first | k_is | rfl)
      (case c_f9 => first | rfl | decide | decide +kernel)
      (case c_f10 => first | rfl | decide | decide +kernel)
      (case c_f11 => first | k_is | rfl)
      (case c_g1 => first | k_is | rfl)
      (case c_g2 => first | k_is | rfl)
      (case c_g3 => first | rfl | decide | decide +kernel)
      (case c_g4 => first | rfl | decide | decide +kernel)
      (case c_g5 => first | rfl | decide | decide +kernel)
      (case c_g6 => first | k_is | rfl)
      (case c_g7 => first | k_is | rfl)
      (case c_g8 => first | k_is | rfl)
      (case c_g9 => first | rfl | decide | decide +kernel)
      (case c_hb => exact fun _ _ => rfl))
    (case er => exact RS.errsOk_mk KX G [("RisingError", some 24), ("BadBook", none), ("BadSaying", none), ("BadTable", none), ("BadTerms", none), ("BadPaper", none), ("BadDeed", none), ("BadParameter", some 46), ("TooGreat", none)] (by decide) (RS.fa_cons (by first | k_is | rfl | kernel_rfl) (RS.fa_cons (by first | k_is | rfl | kernel_rfl) (RS.fa_cons (by first | k_is | rfl | kernel_rfl) (RS.fa_cons (by first | k_is | rfl | kernel_rfl) (RS.fa_cons (by first | k_is | rfl | kernel_rfl) (RS.fa_cons (by first | k_is | rfl | kernel_rfl) (RS.fa_cons (by first | k_is | rfl | kernel_rfl) (RS.fa_cons (by first | k_is | rfl | kernel_rfl) (RS.fa_cons (by first | k_is | rfl | kernel_rfl) RS.fa_nil))))))))) (RS.fa_cons (fun C hC hm => absurd hm (by decide)) (RS.fa_cons (fun C hC _ => by cases hC) (RS.fa_cons (fun C hC _ => by cases hC) (RS.fa_cons (fun C hC _ => by cases hC) (RS.fa_cons (fun C hC _ => by cases hC) (RS.fa_cons (fun C hC _ => by cases hC) (RS.fa_cons (fun C hC _ => by cases hC) (RS.fa_cons (fun C hC _ => by cases hC; exact ⟨(by first | k_is | rfl | kernel_rfl), (by first | k_is | rfl | kernel_rfl), (by first | k_is | rfl | kernel_rfl), (by first | k_is | rfl | kernel_rfl), (by first | k_is | rfl | kernel_rfl), (by first | k_is | rfl | kernel_rfl), (by first | k_is | rfl | kernel_rfl), (by first | k_is | rfl | kernel_rfl), (by first | k_is | rfl | kernel_rfl), (by first | k_is | rfl | kernel_rfl)⟩) (RS.fa_cons (fun C hC _ => by cases hC) RS.fa_nil))))))))) (RS.fa_cons (fun C hC hm => absurd hm (by decide)) (RS.fa_cons (fun C hC _ => by cases hC) (RS.fa_cons (fun C hC _ => by cases hC) (RS.fa_cons (fun C hC _ => by cases hC) (RS.fa_cons (fun C hC _ => by cases hC) (RS.fa_cons (fun C hC _ => by cases hC) (RS.fa_cons (fun C hC _ => by cases hC) (RS.fa_cons (fun C hC _ => by cases hC; exact (RS.fa_cons (fun C' hC' => by cases hC'; exact ⟨(by first | k_is | rfl | kernel_rfl), (by first | k_is | rfl | kernel_rfl)⟩) (RS.fa_cons (fun C' hC' => by cases hC') (RS.fa_cons (fun C' hC' => by cases hC') (RS.fa_cons (fun C' hC' => by cases hC') (RS.fa_cons (fun C' hC' => by cases hC') (RS.fa_cons (fun C' hC' => by cases hC') (RS.fa_cons (fun C' hC' => by cases hC') (RS.fa_cons (fun C' hC' => by cases hC'; exact ⟨(by first | k_is | rfl | kernel_rfl), (by first | k_is | rfl | kernel_rfl)⟩) (RS.fa_cons (fun C' hC' => by cases hC') RS.fa_nil)))))))))) (RS.fa_cons (fun C hC _ => by cases hC) RS.fa_nil))))))))))
    (case hc_law_heard => exact RS.hcOk_mk (by show ∀ c ∈ (["BadParameter", "RisingError", "RisingError"] : List String), RS.ClsIn mg c; exact (RS.fa_cons (RS.clsIn_mk (C := 46) KX G (by decide) (by first | k_is | rfl | kernel_rfl)) (RS.fa_cons (RS.clsIn_mk (C := 24) KX G (by decide) (by first | k_is | rfl | kernel_rfl)) (RS.fa_cons (RS.clsIn_mk (C := 24) KX G (by decide) (by first | k_is | rfl | kernel_rfl)) RS.fa_nil)))))
    (case a0 => k_is); (case l0 => k_is); (case c0 => k_is); (case k0 => k_is); (case a1 => k_is); (case l1 => k_is); (case c1 => k_is); (case k1 => k_is); (case a2 => k_is); (case l2 => k_is); (case c2 => k_is); (case k2 => k_is); (case a3 => k_is); (case l3 => k_is); (case c3 => k_is); (case k3 => k_is); (case a4 => k_is); (case l4 => k_is); (case c4 => k_is); (case k4 => k_is); (case a5 => k_is); (case l5 => k_is); (case c5 => k_is); (case k5 => k_is); (case a6 => k_is); (case l6 => k_is); (case c6 => k_is); (case k6 => k_is); (case a7 => k_is); (case l7 => k_is); (case c7 => k_is); (case k7 => k_is); (case a8 => k_is); (case l8 => k_is); (case c8 => k_is); (case k8 => k_is); (case a9 => k_is); (case l9 => k_is); (case c9 => k_is); (case k9 => k_is); (case a10 => k_is); (case l10 => k_is); (case c10 => k_is); (case k10 => k_is); (case a11 => k_is); (case l11 => k_is); (case c11 => k_is); (case k11 => k_is); (case a12 => k_is); (case l12 => k_is); (case c12 => k_is); (case k12 => k_is); (case a13 => k_is); (case l13 => k_is); (case c13 => k_is); (case k13 => k_is); (case a14 => k_is); (case l14 => k_is); (case c14 => k_is); (case k14 => k_is); (case a15 => k_is); (case l15 => k_is); (case c15 => k_is); (case k15 => k_is); (case a16 => k_is); (case l16 => k_is); (case c16 => k_is); (case k16 => k_is); (case a17 => k_is); (case l17 => k_is); (case c17 => k_is); (case k17 => k_is); (case a18 => k_is); (case l18 => k_is); (case c18 => k_is); (case k18 => k_is); (case a19 => k_is); (case l19 => k_is); (case c19 => k_is); (case k19 => k_is); (case a20 => k_is); (case l20 => k_is); (case c20 => k_is); (case k20 => k_is); (case a21 => k_is); (case l21 => k_is); (case c21 => k_is); (case k21 => k_is); (case a22 => k_is); (case l22 => k_is); (case c22 => k_is); (case k22 => k_is); (case a23 => k_is); (case l23 => k_is); (case c23 => k_is); (case k23 => k_is); (case a24 => k_is); (case l24 => k_is); (case c24 => k_is); (case k24 => k_is); (case a25 => k_is); (case l25 => k_is); (case c25 => k_is); (case k25 => k_is); (case a26 => k_is); (case l26 => k_is); (case c26 => k_is); (case k26 => k_is); (case a27 => k_is); (case l27 => k_is); (case c27 => k_is); (case k27 => k_is); (case a28 => k_is); (case l28 => k_is); (case c28 => k_is); (case k28 => k_is); (case a29 => k_is); (case l29 => k_is); (case c29 => k_is); (case k29 => k_is); (case a30 => k_is); (case l30 => k_is); (case c30 => k_is); (case k30 => k_is); (case a31 => k_is); (case l31 => k_is); (case c31 => k_is); (case k31 => k_is); (case a32 => k_is); (case l32 => k_is); (case c32 => k_is); (case k32 => k_is); (case a33 => k_is); (case l33 => k_is); (case c33 => k_is); (case k33 => k_is); (case a34 => k_is); (case l34 => k_is); (case c34 => k_is); (case k34 => k_is); (case a35 => k_is); (case l35 => k_is); (case c35 => k_is); (case k35 => k_is); (case a36 => k_is); (case l36 => k_is); (case c36 => k_is); (case k36 => k_is); (case a37 => k_is); (case l37 => k_is); (case c37 => k_is); (case k37 => k_is); (case a38 => k_is); (case l38 => k_is); (case c38 => k_is); (case k38 => k_is); (case a39 => k_is); (case l39 => k_is); (case c39 => k_is); (case k39 => k_is); (case a40 => k_is); (case l40 => k_is); (case c40 => k_is); (case k40 => k_is); (case a41 => k_is); (case l41 => k_is); (case c41 => k_is); (case k41 => k_is); (case a42 => k_is); (case l42 => k_is); (case c42 => k_is); (case k42 => k_is); (case a43 => k_is); (case l43 => k_is); (case c43 => k_is); (case k43 => k_is); (case a44 => k_is); (case l44 => k_is); (case c44 => k_is); (case k44 => k_is); (case a45 => k_is); (case l45 => k_is); (case c45 => k_is); (case k45 => k_is); (case a46 => k_is); (case l46 => k_is); (case c46 => k_is); (case k46 => k_is); (case z0 => k_is); (case z1 => k_is); (case z2 => k_is); (case z3 => k_is); (case z4 => k_is); (case z5 => k_is); (case z6 => k_is); (case z7 => k_is); (case z8 => k_is); (case z9 => k_is); (case z10 => k_is); (case z11 => k_is); (case z12 => k_is); (case z13 => k_is); (case z14 => k_is); (case z15 => k_is); (case z16 => k_is); (case z17 => k_is); (case cg0 => k_is); (case dg0 => exact RS.isD_int); (case cg1 => k_is); (case dg1 => exact RS.isD_int); (case cg5 => k_is); (case dg5 => exact RS.isD_int); (case cg6 => k_is); (case dg6 => exact RS.isD_int); (case cg7 => k_is); (case dg7 => exact RS.isD_int); (case cg8 => k_is); (case dg8 => exact RS.isD_int); (case cg9 => k_is); (case dg9 => (refine' RS.isD_tup ?lk10 ?hh10 ?hz10; (case lk10 => k_is); (case hz10 => decide); (case hh10 => (refine' RS.IsDs.cons ?h11_ ?t11_; (case h11_ => (refine' RS.isD_tup ?lk12 ?hh12 ?hz12; (case lk12 => k_is); (case hz12 => decide); (case hh12 => exact RS.IsDs.nil))); (case t11_ => (refine' RS.IsDs.cons ?h13_ ?t13_; (case h13_ => (refine' RS.isD_tup ?lk14 ?hh14 ?hz14; (case lk14 => k_is); (case hz14 => decide); (case hh14 => (refine' RS.IsDs.cons ?h15_ ?t15_; (case h15_ => exact RS.isD_int); (case t15_ => (refine' RS.IsDs.cons ?h16_ ?t16_; (case h16_ => exact RS.isD_int); (case t16_ => (refine' RS.IsDs.cons ?h17_ ?t17_; (case h17_ => exact RS.isD_int); (case t17_ => (refine' RS.IsDs.cons ?h18_ ?t18_; (case h18_ => exact RS.isD_int); (case t18_ => exact RS.IsDs.nil))))))))))); (case t13_ => exact RS.IsDs.nil))))))); (case cg10 => k_is); (case dg10 => exact RS.isD_int); (case ad_equal_from => k_is); (case ad_formula_minus => k_is); (case ad_formula_plus => k_is)
    (case lc_law_formulas_right => first | rfl | k_is); (case lm_law_formulas_right => decide); (case l1_law_formulas_right => decide); (case l2_law_formulas_right => decide); (case lc_law_rows_right => first | rfl | k_is); (case lm_law_rows_right => decide); (case l1_law_rows_right => decide); (case l2_law_rows_right => decide); (case lc_law_gaps_right => first | rfl | k_is); (case lm_law_gaps_right => decide); (case l1_law_gaps_right => decide); (case l2_law_gaps_right => decide)
end
