import PyProof.Rows.All
import Wide.All
import OpenK.AllK
import Wide.FinOn
import PySem.Challenge.RW_risingsays_k16_whole_formulas_added_and
import HandS.ForMost
import HandS.Walk
import HandS.Zip
import HandS.Gcd
import HandS.Wide
import HandS.Style
import HandS.TupAny
import HandS.Rev
import HandS.IsInst
import KE.DataCmp
import KE.SortData
import KE.DataEq
import PyProof.ReprRoads
import HandS.TupMul
import KE.DataMinMax
import HandS.TupSets
import KE.GoesEnum
set_option Elab.async false
section
/-! RSPure: data, small syntax trees, and their evaluation. Core Lean only. -/
set_option autoImplicit false
namespace RS

/-! ## data -/
inductive D where
  | non | bl (b : Bool) | int (i : Int) | str (x : List Nat) | tup (l : List D) | lst (l : List D) | dct (ks vs : List D) | st
  deriving Inhabited

def LIM : Nat := 1000000
def BIG : Nat := 2 ^ 8000
def SHOW : Nat := 2 ^ 1900

mutual
def D.beq : D → D → Bool
  | .non, .non => true
  | .bl a, .bl b => a == b
  | .int a, .int b => a == b
  | .str a, .str b => a == b
  | .tup a, .tup b => D.beqs a b
  | .lst a, .lst b => D.beqs a b
  | .dct a a', .dct b b' => D.beqs a b && D.beqs a' b'
  | .st, .st => true
  | _, _ => false
def D.beqs : List D → List D → Bool
  | [], [] => true
  | x :: xs, y :: ys => D.beq x y && D.beqs xs ys
  | _, _ => false
end
mutual
theorem D.beq_eq : ∀ a b : D, D.beq a b = true → a = b
  | .non, b, h => by cases b <;> simp [D.beq] at h ⊢
  | .bl _, b, h => by cases b <;> simp [D.beq] at h ⊢; exact h
  | .int _, b, h => by cases b <;> simp [D.beq] at h ⊢; exact h
  | .str _, b, h => by cases b <;> simp [D.beq] at h ⊢; exact h
  | .tup x, b, h => by cases b <;> simp [D.beq] at h ⊢; exact D.beqs_eq _ _ h
  | .lst x, b, h => by cases b <;> simp [D.beq] at h ⊢; exact D.beqs_eq _ _ h
  | .dct x y, b, h => by cases b <;> simp [D.beq] at h ⊢; exact ⟨D.beqs_eq _ _ h.1, D.beqs_eq _ _ h.2⟩
  | .st, b, h => by cases b <;> simp [D.beq] at h ⊢
theorem D.beqs_eq : ∀ a b : List D, D.beqs a b = true → a = b
  | [], b, h => by cases b <;> simp [D.beqs] at h ⊢
  | x :: xs, b, h => by
    cases b with
    | nil => simp [D.beqs] at h
    | cons y ys =>
      simp [D.beqs] at h
      rw [D.beq_eq _ _ h.1, D.beqs_eq _ _ h.2]
end
mutual
theorem D.beq_refl : ∀ a : D, D.beq a a = true
  | .non => rfl
  | .bl _ => by simp [D.beq]
  | .int _ => by simp [D.beq]
  | .str _ => by simp [D.beq]
  | .tup x => by simp [D.beq, D.beqs_refl x]
  | .lst x => by simp [D.beq, D.beqs_refl x]
  | .dct x y => by simp [D.beq, D.beqs_refl x, D.beqs_refl y]
  | .st => rfl
theorem D.beqs_refl : ∀ a : List D, D.beqs a a = true
  | [] => rfl
  | x :: xs => by simp [D.beqs, D.beq_refl x, D.beqs_refl xs]
end
instance : DecidableEq D := fun a b => if h : D.beq a b = true then isTrue (D.beq_eq a b h) else isFalse fun e => h (e ▸ D.beq_refl a)

/-- equal as Python compares (True is 1) -/
def b2i (b : Bool) : Int := if b then 1 else 0
mutual
def D.eqv : D → D → Bool
  | .non, .non => true
  | .bl a, .bl b => a == b
  | .bl a, .int j => b2i a == j
  | .int i, .bl b => i == b2i b
  | .int a, .int b => a == b
  | .str a, .str b => a == b
  | .tup a, .tup b => D.eqvs a b
  | .lst a, .lst b => D.eqvs a b
  | _, _ => false
def D.eqvs : List D → List D → Bool
  | [], [] => true
  | x :: xs, y :: ys => D.eqv x y && D.eqvs xs ys
  | _, _ => false
end
mutual
/-- numbers, truth values, None, texts, tuples, lists: no deeper than n -/
def D.deep : Nat → D → Bool
  | _, .non => true
  | _, .bl _ => true
  | _, .int _ => true
  | _, .str _ => true
  | 0, _ => false
  | n + 1, .tup l => D.deeps n l
  | n + 1, .lst l => D.deeps n l
  | _, _ => false
def D.deeps : Nat → List D → Bool
  | _, [] => true
  | n, x :: xs => D.deep n x && D.deeps n xs
end
mutual
/-- no list, no dict, no state within -/
def D.imm : D → Bool
  | .non => true
  | .bl _ => true
  | .int _ => true
  | .str _ => true
  | .tup l => D.imms l
  | _ => false
def D.imms : List D → Bool
  | [] => true
  | x :: xs => D.imm x && D.imms xs
end
mutual
/-- can be shown, and in about how many signs -/
def D.rlen : D → Nat
  | .non => 4
  | .bl _ => 5
  | .int _ => 640
  | .str _ => 0
  | .tup l => 3 + D.rlens l
  | .lst l => 3 + D.rlens l
  | _ => 0
def D.rlens : List D → Nat
  | [] => 0
  | x :: xs => D.rlen x + 2 + D.rlens xs
end
mutual
def D.showable : D → Bool
  | .non => true
  | .bl _ => true
  | .int i => decide (i.natAbs < SHOW)
  | .tup l => D.showables l
  | .lst l => D.showables l
  | _ => false
def D.showables : List D → Bool
  | [] => true
  | x :: xs => D.showable x && D.showables xs
end
mutual
/-- can be put in order, place by place -/
def D.alike : D → D → Bool
  | .bl _, .bl _ => true
  | .int _, .int _ => true
  | .str _, .str _ => true
  | .tup a, .tup b => D.alikes a b
  | .lst a, .lst b => D.alikes a b
  | _, _ => false
def D.alikes : List D → List D → Bool
  | x :: xs, y :: ys => D.alike x y && D.alikes xs ys
  | _, _ => true
end
def natsLt : List Nat → List Nat → Bool
  | [], [] => false
  | [], _ :: _ => true
  | _ :: _, [] => false
  | x :: xs, y :: ys => if x = y then natsLt xs ys else decide (x < y)
mutual
def D.lt : D → D → Bool
  | .bl a, .bl b => !a && b
  | .int a, .int b => decide (a < b)
  | .str a, .str b => natsLt a b
  | .tup a, .tup b => D.lts a b
  | .lst a, .lst b => D.lts a b
  | _, _ => false
def D.lts : List D → List D → Bool
  | [], [] => false
  | [], _ :: _ => true
  | _ :: _, [] => false
  | x :: xs, y :: ys => if D.eqv x y then D.lts xs ys else D.lt x y
end

def D.items : D → Option (List D)
  | .tup l => some l
  | .lst l => some l
  | _ => none

/-! ## the law's draws -/
structure OSt where
  cells : List Int
  lefts : List Int
  pos : Nat

def mixed (cell k : Int) : Int := ((cell % 2147483647) * (48271 + 2 * k * k) + 69621 * k + 11) % 2147483647 * 69621 % 2147483629
def beginSt (script : List Int) : OSt :=
  let c := if script = [] then [0] else script
  ⟨c, c.map fun x => if x ≥ 10 ^ 18 then x else 0, 0⟩
def drawSt (s : OSt) (limit : Int) : Int × OSt :=
  let spot := s.pos % s.cells.length
  let left := s.lefts.getD spot 0
  if left > 0 then (left % limit, ⟨s.cells, s.lefts.set spot (left / limit), s.pos + 1⟩)
  else
    let m := mixed (mixed (s.cells.getD spot 0) s.pos) (40 + s.pos)
    (((m * 2147483647 + mixed m (7 + s.pos)) / 64) % limit, ⟨s.cells, s.lefts, s.pos + 1⟩)
theorem drawSt_lo (s : OSt) (l : Int) (h : 0 < l) : 0 ≤ (drawSt s l).1 := by
  unfold drawSt; dsimp only; split <;> exact Int.emod_nonneg _ (by omega)
theorem drawSt_hi (s : OSt) (l : Int) (h : 0 < l) : (drawSt s l).1 < l := by
  unfold drawSt; dsimp only; split <;> exact Int.emod_lt_of_pos _ h

/-! ## results -/
inductive R (α : Type) where
  | ok (a : α) (s : OSt) | exc (c : String) (d : D) (s : OSt) | no
def R.bind {α β : Type} (x : R α) (f : α → OSt → R β) : R β := match x with
  | .ok a s => f a s
  | .exc c d s => .exc c d s
  | .no => .no
/-- a value: shared, fresh (nobody else holds it), or what slot i owns -/
inductive Rs where
  | sh (d : D) | fr (d : D) | bo (i : Nat) (d : D)
  deriving Inhabited
def Rs.d : Rs → D
  | .sh d => d
  | .fr d => d
  | .bo _ d => d
def Rs.isBo : Rs → Bool
  | .bo _ _ => true
  | _ => false
/-- holds nothing that can be changed, but itself if it is fresh -/
def Rs.clean : Rs → Bool
  | .sh d => d.imm
  | .fr (.lst l) => D.imms l
  | .fr (.dct k v) => D.imms k && D.imms v
  | _ => false
abbrev Fn := List D → OSt → R Rs

inductive Slot where
  | no | sh (d : D) | ow (d : D)
  deriving Inhabited
abbrev Env := List Slot
inductive Out where
  | nx (ρ : Env) (s : OSt) | rt (r : Rs) (s : OSt) | bk (ρ : Env) (s : OSt) | ct (ρ : Env) (s : OSt) | exc (c : String) (d : D) (s : OSt) | no

/-! ## syntax -/
inductive BOp where
  | add | sub | mul | fdiv | mod | pow
  deriving DecidableEq
inductive COp where
  | eq | ne | lt | le | gt | ge | is | isnot | inn | nin
  deriving DecidableEq
inductive Prim where
  | len | tuple | list | sum | max | min | abs | int | sorted | sortedRev | sortedSet | isInt | isBool | isTup | gcd | comb
  deriving DecidableEq
inductive Tg where
  | nm (i : Nat) | nil | cons (a b : Tg) | tup (a : Tg)
inductive E where
  | var (i : Nat) | con (d : D) | glob (x : String) (d : D)
  | nil | cons (a b : E) | omit
  | tup (es : E) | lst (es : E)
  | bin (o : BOp) (a b : E) | neg (a : E)
  | cmp (o : COp) (a b : E) | chain (o1 o2 : COp) (a b c : E)
  | and (a b : E) | or (a b : E) | not (a : E)
  | ife (c a b : E)
  | idx (a i : E) | slc (a lo hi : E) | rev (a : E)
  | call (x : String) (f : Fn) (es : E) | callK (x : String) (f : Fn) (es : E) (ks : List String) (kes : E) (perm : List Nat)
  | prim (p : Prim) (es : E) | reprEq (a b : E)
  | comp (vs : List Nat) (tg : Tg) (it cnd elt : E)
  | itE (a : E) | itRange (es : E) | itZip (a b : E) | itEnum (a : E)
  | stAt (i : Nat) | stLen (i : Nat) | stCell (i : Nat) (k : E) | stLeft (i : Nat) (k : E)
inductive S where
  | skip | seq (a b : S)
  | asg (i : Nat) (e : E) | asgS (i : Nat) (e : E) | asgT (tg : Tg) (e : E) | par (is : List Nat) (es : E)
  | app (i : Nat) (e : E) | ext (i : Nat) (e : E) | seti (i : Nat) (k e : E)
  | expr (e : E) | ret (e : E)
  | ife (c : E) (a b : S)
  | for (tg : Tg) (it : E) (b : S) | whl (fuel : Nat) (c : E) (b : S)
  | brk | cont | share (i : Nat) | never
  | stPut (i : Nat) (e : E) | stPutLeft (i : Nat) (k e : E)

/-! ## meaning of operators -/
def fitsI (i : Int) : Bool := decide (i.natAbs < BIG)
def binF : BOp → D → D → Option Rs
  | .add, .int i, .int j => some (.sh (.int (i + j)))
  | .add, .tup a, .tup b => if a.length + b.length ≤ LIM then some (.sh (.tup (a ++ b))) else none
  | .add, .lst a, .lst b => if a.length + b.length ≤ LIM then some (.fr (.lst (a ++ b))) else none
  | .sub, .int i, .int j => some (.sh (.int (i - j)))
  | .mul, .int i, .int j => if fitsI i && fitsI j then some (.sh (.int (i * j))) else none
  | .mul, .lst a, .int k => if 0 ≤ k ∧ k ≤ 1000 ∧ a.length ≤ 1000 then some (.fr (.lst (List.replicate k.toNat a).flatten)) else none
  | .mul, .tup a, .int k => if 0 ≤ k ∧ k ≤ 1000 ∧ a.length ≤ 1000 then some (.sh (.tup (List.replicate k.toNat a).flatten)) else none
  | .fdiv, .int i, .int j => if j ≠ 0 ∧ fitsI j = true then some (.sh (.int (i.fdiv j))) else none
  | .mod, .int i, .int j => if j ≠ 0 then some (.sh (.int (i.fmod j))) else none
  | .pow, .int i, .int j => if 0 ≤ j ∧ j ≤ 1000 ∧ i.natAbs < 2 ^ 64 then some (.sh (.int (i ^ j.toNat))) else none
  | _, _, _ => none
def DEEP : Nat := 60
def D.isNon : D → Bool
  | .non => true
  | _ => false
def bothInt : D → D → Option (Int × Int)
  | .int i, .int j => some (i, j)
  | _, _ => none
def D.bl? : D → Option Bool
  | .bl b => some b
  | _ => none
def ordF (f : Int → Int → Bool) (g : D → D → Bool) (a b : D) : Option Bool := match bothInt a b with
  | some (i, j) => some (f i j)
  | none => if D.alike a b && D.deep DEEP a && D.deep DEEP b then some (g a b) else none
def isF (a b : D) : Option Bool := if b.isNon then some a.isNon else match a.bl?, b.bl? with
  | some x, some y => some (x == y)
  | _, _ => none
def inF (a b : D) : Option Bool := match b.items with
  | some l => if D.deep DEEP a && D.deeps DEEP l then some (l.any fun z => D.eqv z a) else none
  | none => none
def eqF (a b : D) : Option Bool := if D.deep DEEP a && D.deep DEEP b then some (D.eqv a b) else none
def cmpF : COp → D → D → Option Bool
  | .eq, a, b => eqF a b
  | .ne, a, b => (eqF a b).map (!·)
  | .lt, a, b => ordF (fun i j => decide (i < j)) D.lt a b
  | .le, a, b => ordF (fun i j => decide (i ≤ j)) (fun x y => !D.lt y x) a b
  | .gt, a, b => ordF (fun i j => decide (j < i)) (fun x y => D.lt y x) a b
  | .ge, a, b => ordF (fun i j => decide (j ≤ i)) (fun x y => !D.lt x y) a b
  | .is, a, b => isF a b
  | .isnot, a, b => (isF a b).map (!·)
  | .inn, a, b => inF a b
  | .nin, a, b => (inF a b).map (!·)
/-- the place that an index names among n things -/
def ixOf (n : Nat) (i : Int) : Option Nat := if 0 ≤ i then (if i < n then some i.toNat else none) else if -(n : Int) ≤ i then some (i + n).toNat else none
def idxF : D → D → Option D
  | .tup l, .int i => (ixOf l.length i).bind fun j => l[j]?
  | .lst l, .int i => (ixOf l.length i).bind fun j => l[j]?
  | _, _ => none
def endOf (n d : Nat) : Option Int → Nat
  | none => d
  | some v => if v < 0 then (v + (n : Int)).toNat else min v.toNat n
def cut (l : List D) (lo hi : Option Int) : List D := (l.drop (endOf l.length 0 lo)).take (endOf l.length l.length hi - endOf l.length 0 lo)
def slcF (d : D) (lo hi : Option Int) : Option Rs := match d with
  | .tup l => some (.sh (.tup (cut l lo hi)))
  | .lst l => some (.fr (.lst (cut l lo hi)))
  | _ => none
def negF : D → Option Rs
  | .int i => some (.sh (.int (-i)))
  | _ => none
def revF : D → Option Rs
  | .lst l => some (.fr (.lst l.reverse))
  | .tup l => some (.sh (.tup l.reverse))
  | _ => none
def D.toInt? : D → Option Int
  | .int i => some i
  | _ => none
def intsOf : List D → Option (List Int)
  | [] => some []
  | .int i :: r => (intsOf r).map (i :: ·)
  | _ :: _ => none
def insD (x : D) : List D → List D
  | [] => [x]
  | y :: r => if D.lt y x then y :: insD x r else x :: y :: r
/-- in order, equal ones as they were -/
def sortD : List D → List D
  | [] => []
  | x :: r => insD x (sortD r)
def insR (x : D) : List D → List D
  | [] => [x]
  | y :: r => if D.lt x y then y :: insR x r else x :: y :: r
def sortR : List D → List D
  | [] => []
  | x :: r => insR x (sortR r)
def dedup : List D → List D
  | [] => []
  | x :: r => x :: (dedup r).filter fun y => !D.eqv y x
def alikeAll (l : List D) : Bool := l.all fun x => l.all fun y => D.alike x y
def maxI : List Int → Option Int
  | [] => none
  | x :: r => some (r.foldl max x)
def minI : List Int → Option Int
  | [] => none
  | x :: r => some (r.foldl min x)
def combN : Nat → Nat → Nat
  | _, 0 => 1
  | 0, _ + 1 => 0
  | n + 1, k + 1 => combN n k + combN n (k + 1)
def lenF : List D → Option Rs
  | [.tup l] => some (.sh (.int l.length))
  | [.lst l] => some (.sh (.int l.length))
  | _ => none
def tupleF : List D → Option Rs
  | [.tup l] => some (.sh (.tup l))
  | [.lst l] => some (.sh (.tup l))
  | _ => none
def listF : List D → Option Rs
  | [.tup l] => some (.fr (.lst l))
  | [.lst l] => some (.fr (.lst l))
  | _ => none
def seqInts (f : List Int → Option Int) : List D → Option Rs
  | [.tup l] => ((intsOf l).bind f).map fun n => .sh (.int n)
  | [.lst l] => ((intsOf l).bind f).map fun n => .sh (.int n)
  | _ => none
def maxF : List D → Option Rs
  | [.int i, .int j] => some (.sh (.int (if j > i then j else i)))
  | ds => seqInts maxI ds
def minF : List D → Option Rs
  | [.int i, .int j] => some (.sh (.int (if j < i then j else i)))
  | ds => seqInts minI ds
def int1 (f : Int → Int) : List D → Option Rs
  | [.int i] => some (.sh (.int (f i)))
  | _ => none
def sortF (f : List D → List D) : List D → Option Rs
  | [.lst l] => if alikeAll l && D.deeps DEEP l then some (.fr (.lst (f l))) else none
  | [.tup l] => if alikeAll l && D.deeps DEEP l then some (.fr (.lst (f l))) else none
  | _ => none
/-! rows of ints, unlike ones in order -/
def D.row? : D → Option (List Int)
  | .tup l => intsOf l
  | _ => none
def rowsOf : List D → Option (List (List Int))
  | [] => some []
  | d :: ds => (D.row? d).bind fun r => (rowsOf ds).map (r :: ·)
def codeK : List Int → Int
  | [] => 0
  | d :: r => d * 1048576 ^ r.length + codeK r
def insK (k : List Int) : List (List Int) → List (List Int)
  | [] => [k]
  | y :: r => if codeK k < codeK y then k :: y :: r else if codeK k = codeK y then y :: r else y :: insK k r
def sortK : List (List Int) → List (List Int)
  | [] => []
  | k :: ks => insK k (sortK ks)
def rowIn (n : Nat) (k : List Int) : Bool := k.length == n && k.all fun x => decide (0 ≤ x ∧ x < 1048576)
def rowsIn : List (List Int) → Bool
  | [] => true
  | k :: ks => decide (1 ≤ k.length ∧ ks.length < 63) && (k :: ks).all (rowIn k.length)
def setF (ks : List (List Int)) : Option Rs := if rowsIn ks then some (.fr (.lst ((sortK ks).map fun k => .tup (k.map .int)))) else none
def sortSetF : List D → Option Rs
  | [.tup l] => (rowsOf l).bind setF
  | [.lst l] => (rowsOf l).bind setF
  | _ => none
def isOf (f : D → Option Bool) : List D → Option Rs
  | [d] => (f d).map fun b => .sh (.bl b)
  | _ => none
def D.isInt : D → Option Bool
  | .int _ => some true
  | .bl _ => some true
  | .st => none
  | .dct _ _ => none
  | _ => some false
def D.isBool : D → Option Bool
  | .bl _ => some true
  | .st => none
  | .dct _ _ => none
  | _ => some false
def D.isTup : D → Option Bool
  | .tup _ => some true
  | .st => none
  | .dct _ _ => none
  | _ => some false
def gcdF : List D → Option Rs
  | [.int i, .int j] => some (.sh (.int ((Nat.gcd i.natAbs j.natAbs : Nat) : Int)))
  | _ => none
def combF : List D → Option Rs
  | [.int i, .int j] => if 0 ≤ i ∧ 0 ≤ j ∧ i ≤ 1000 ∧ j ≤ 1000 then some (.sh (.int ((combN i.toNat j.toNat : Nat) : Int))) else none
  | _ => none
def primF : Prim → List D → Option Rs
  | .len => lenF
  | .tuple => tupleF
  | .list => listF
  | .sum => seqInts fun ns => some ns.sum
  | .max => maxF
  | .min => minF
  | .abs => int1 fun i => if i < 0 then -i else i
  | .int => int1 fun i => i
  | .sorted => sortF sortD
  | .sortedRev => sortF sortR
  | .sortedSet => sortSetF
  | .isInt => isOf D.isInt
  | .isBool => isOf D.isBool
  | .isTup => isOf D.isTup
  | .gcd => gcdF
  | .comb => combF
def reprOk (d : D) : Bool := d.showable && decide (d.rlen ≤ 16000000) && D.deep DEEP d
def isSt (ρ : Env) (i : Nat) : Bool := match ρ.getD i .no with
  | .sh .st => true
  | _ => false
def cellF (l : List Int) : D → Option Rs
  | .int n => (ixOf l.length n).bind fun j => (l[j]?).map fun x => .sh (.int x)
  | _ => none
def putAt (s : OSt) : D → Option OSt
  | .int n => if 0 ≤ n then some ⟨s.cells, s.lefts, n.toNat⟩ else none
  | _ => none
def putLeft (s : OSt) : D → D → Option OSt
  | .int n, .int x => (ixOf s.lefts.length n).map fun j => ⟨s.cells, s.lefts.set j x, s.pos⟩
  | _, _ => none
def partOf (e : E) (r : Rs) : Option (Option Int) := match e with
  | .omit => some none
  | _ => match r with
    | .sh (.int i) => some (some i)
    | _ => none
def Slot.val : Slot → Nat → Option Rs
  | .no, _ => none
  | .sh d, _ => some (.sh d)
  | .ow d, i => some (.bo i d)
mutual
def bindTg : Tg → D → Env → Option Env
  | .nm i, d, ρ => if i < ρ.length then some (ρ.set i (.sh d)) else none
  | .tup t, .tup ds, ρ => bindTgs t ds ρ
  | _, _, _ => none
def bindTgs : Tg → List D → Env → Option Env
  | .nil, [], ρ => some ρ
  | .cons a b, d :: ds, ρ => (bindTg a d ρ).bind fun ρ' => bindTgs b ds ρ'
  | _, _, _ => none
end
def wipeE (ρ : Env) : List Nat → Env
  | [] => ρ
  | v :: vs => (wipeE ρ vs).set v .no
def noOw (ρ : Env) (vs : List Nat) : Bool := vs.all fun i => match ρ.getD i .no with
  | .ow _ => false
  | _ => true
def compL (step : D → OSt → R (Option D)) : List D → List D → OSt → R (List D)
  | [], acc, s => .ok acc s
  | d :: ds, acc, s => match step d s with
    | .ok none s1 => compL step ds acc s1
    | .ok (some y) s1 => if acc.length < LIM then compL step ds (acc ++ [y]) s1 else .no
    | _ => .no
def lift {α : Type} (o : Option α) (s : OSt) : R α := match o with
  | some a => .ok a s
  | none => .no
def freeze : List Rs → Bool
  | [] => true
  | r :: rs => !r.isBo && freeze rs
def fromInts (a : Int) (n : Nat) : List D := (List.range n).map fun (k : Nat) => D.int (a + k)
def smallR (i : Int) : Bool := decide (i.natAbs < 2 ^ 61)
def rangeF : List D → Option (List D)
  | [.int n] => if smallR n = true then some (fromInts 0 n.toNat) else none
  | [.int a, .int b] => if smallR a = true ∧ smallR b = true then some (fromInts a (b - a).toNat) else none
  | _ => none
def zipD : List D → List D → List D
  | x :: xs, y :: ys => .tup [x, y] :: zipD xs ys
  | _, _ => []
def zipF : D → D → Option (List D)
  | .lst a, .lst b => some (zipD a b)
  | .tup a, .tup b => some (zipD a b)
  | _, _ => none
def enumD : Nat → List D → List D
  | _, [] => []
  | n, x :: xs => .tup [.int n, x] :: enumD (n + 1) xs
def permR (perm : List Nat) (rs : List Rs) : List Rs := perm.map fun i => .sh (rs.getD i (.sh .non)).d
def callR (f : Fn) (rs : List Rs) (s : OSt) : R Rs :=
  (f (rs.map Rs.d) s).bind fun r s' => if r.isBo then .no else if freeze rs || r.clean then .ok r s' else .no
mutual
def ev : E → Env → OSt → R Rs
  | .var i, ρ, s => lift ((ρ.getD i .no).val i) s
  | .con d, _, s => .ok (.sh d) s
  | .glob _ d, _, s => .ok (.sh d) s
  | .omit, _, s => .ok (.sh (.bl true)) s
  | .tup es, ρ, s => (evs es ρ s).bind fun rs s' => if freeze rs then .ok (.sh (.tup (rs.map Rs.d))) s' else .no
  | .lst es, ρ, s => (evs es ρ s).bind fun rs s' => if freeze rs then .ok (.fr (.lst (rs.map Rs.d))) s' else .no
  | .bin o a b, ρ, s => (ev a ρ s).bind fun x s1 => (ev b ρ s1).bind fun y s2 => lift (binF o x.d y.d) s2
  | .neg a, ρ, s => (ev a ρ s).bind fun x s1 => lift (negF x.d) s1
  | .cmp o a b, ρ, s => (ev a ρ s).bind fun x s1 => (ev b ρ s1).bind fun y s2 => lift ((cmpF o x.d y.d).map fun b => .sh (.bl b)) s2
  | .chain o1 o2 a b c, ρ, s => (ev a ρ s).bind fun x s1 => (ev b ρ s1).bind fun y s2 => match cmpF o1 x.d y.d with
    | some true => (ev c ρ s2).bind fun z s3 => lift ((cmpF o2 y.d z.d).map fun b => .sh (.bl b)) s3
    | some false => .ok (.sh (.bl false)) s2
    | none => .no
  | .and a b, ρ, s => (ev a ρ s).bind fun x s1 => match x with
    | .sh (.bl true) => ev b ρ s1
    | .sh (.bl false) => .ok (.sh (.bl false)) s1
    | _ => .no
  | .or a b, ρ, s => (ev a ρ s).bind fun x s1 => match x with
    | .sh (.bl false) => ev b ρ s1
    | .sh (.bl true) => .ok (.sh (.bl true)) s1
    | _ => .no
  | .not a, ρ, s => (ev a ρ s).bind fun x s1 => match x with
    | .sh (.bl b) => .ok (.sh (.bl !b)) s1
    | _ => .no
  | .ife c a b, ρ, s => (ev c ρ s).bind fun x s1 => match x with
    | .sh (.bl true) => ev a ρ s1
    | .sh (.bl false) => ev b ρ s1
    | _ => .no
  | .idx a i, ρ, s => (ev a ρ s).bind fun x s1 => (ev i ρ s1).bind fun y s2 => lift ((idxF x.d y.d).map .sh) s2
  | .slc a lo hi, ρ, s => (ev a ρ s).bind fun x s1 => (ev lo ρ s1).bind fun y s2 => (ev hi ρ s2).bind fun z s3 =>
      match partOf lo y, partOf hi z with
      | some l, some h => lift (slcF x.d l h) s3
      | _, _ => .no
  | .rev a, ρ, s => (ev a ρ s).bind fun x s1 => lift (revF x.d) s1
  | .call _ f es, ρ, s => (evs es ρ s).bind fun rs s' => callR f rs s'
  | .callK _ f _ _ kes perm, ρ, s => ((evs kes ρ s).bind fun rs s1 => if freeze rs then .ok (permR perm rs) s1 else .no).bind fun rs s1 => callR f rs s1
  | .prim p es, ρ, s => (evs es ρ s).bind fun rs s' => lift (primF p (rs.map Rs.d)) s'
  | .reprEq a b, ρ, s => (ev a ρ s).bind fun x s1 => (ev b ρ s1).bind fun y s2 => if x.d = y.d ∧ reprOk x.d = true then .ok (.sh (.bl true)) s2 else .no
  | .comp vs tg it cnd elt, ρ, s => (evI it ρ s).bind fun (items, b) s1 =>
      if noOw ρ vs then
        (compL (fun d s => match bindTg tg d (wipeE (match b with | some i => ρ.set i .no | none => ρ) vs) with
          | some ρ1 => (ev cnd ρ1 s).bind fun c s2 => match c with
            | .sh (.bl true) => (ev elt ρ1 s2).bind fun y s3 => if y.isBo then .no else .ok (some y.d) s3
            | .sh (.bl false) => .ok none s2
            | _ => .no
          | none => .no) items [] s1).bind fun acc s2 => .ok (.fr (.lst acc)) s2
      else .no
  | .stAt i, ρ, s => if isSt ρ i then .ok (.sh (.int s.pos)) s else .no
  | .stLen i, ρ, s => if isSt ρ i then .ok (.sh (.int s.cells.length)) s else .no
  | .stCell i k, ρ, s => if isSt ρ i then (ev k ρ s).bind fun y s1 => lift (cellF s1.cells y.d) s1 else .no
  | .stLeft i k, ρ, s => if isSt ρ i then (ev k ρ s).bind fun y s1 => lift (cellF s1.lefts y.d) s1 else .no
  | .nil, _, _ => .no
  | .cons _ _, _, _ => .no
  | .itE _, _, _ => .no
  | .itRange _, _, _ => .no
  | .itZip _ _, _, _ => .no
  | .itEnum _, _, _ => .no
def evs : E → Env → OSt → R (List Rs)
  | .nil, _, s => .ok [] s
  | .cons a b, ρ, s => (ev a ρ s).bind fun x s1 => (evs b ρ s1).bind fun xs s2 => .ok (x :: xs) s2
  | _, _, _ => .no
/-- what is walked; the slot whose own list it is -/
def evI : E → Env → OSt → R (List D × Option Nat)
  | .itE a, ρ, s => (ev a ρ s).bind fun x s1 => match x with
    | .bo i (.lst l) => .ok (l, some i) s1
    | .bo _ _ => .no
    | x => lift (x.d.items.map fun l => (l, none)) s1
  | .itRange es, ρ, s => (evs es ρ s).bind fun rs s1 => lift ((rangeF (rs.map Rs.d)).map fun l => (l, none)) s1
  | .itZip a b, ρ, s => (ev a ρ s).bind fun x s1 => (ev b ρ s1).bind fun y s2 => if x.isBo || y.isBo then .no else lift ((zipF x.d y.d).map fun l => (l, none)) s2
  | .itEnum a, ρ, s => (ev a ρ s).bind fun x s1 => if x.isBo then .no else lift (x.d.items.map fun l => (enumD 0 l, none)) s1
  | _, _, _ => .no
end

def slotOf : Rs → Option Slot
  | .sh d => some (.sh d)
  | .fr d => some (.ow d)
  | .bo _ _ => none
def assignAll : List Nat → List Rs → Env → Option Env
  | [], [], ρ => some ρ
  | i :: is, r :: rs, ρ => match slotOf r with
    | some sl => if i < ρ.length then assignAll is rs (ρ.set i sl) else none
    | none => none
  | _, _, _ => none
def forL (step : D → Env → OSt → Out) : List D → Env → OSt → Out
  | [], ρ, s => .nx ρ s
  | d :: ds, ρ, s => match step d ρ s with
    | .nx ρ1 s1 => forL step ds ρ1 s1
    | .ct ρ1 s1 => forL step ds ρ1 s1
    | .bk ρ1 s1 => .nx ρ1 s1
    | .rt r s1 => .rt r s1
    | .exc c d s1 => .exc c d s1
    | .no => .no
def whlL (test : Env → OSt → R Rs) (body : Env → OSt → Out) : Nat → Env → OSt → Out
  | 0, _, _ => .no
  | n + 1, ρ, s => match test ρ s with
    | .ok (.sh (.bl true)) s1 => match body ρ s1 with
      | .nx ρ1 s2 => whlL test body n ρ1 s2
      | .ct ρ1 s2 => whlL test body n ρ1 s2
      | .bk ρ1 s2 => .nx ρ1 s2
      | .rt r s2 => .rt r s2
      | .exc c d s2 => .exc c d s2
      | .no => .no
    | .ok (.sh (.bl false)) s1 => .nx ρ s1
    | .exc c d s1 => .exc c d s1
    | _ => .no
def withV (r : R Rs) (f : Rs → OSt → Out) : Out := match r with
  | .ok a s => f a s
  | .exc c d s => .exc c d s
  | .no => .no
def outOf (o : Option Env) (s : OSt) : Out := match o with
  | some ρ => .nx ρ s
  | none => .no
def exS : S → Env → OSt → Out
  | .skip, ρ, s => .nx ρ s
  | .seq a b, ρ, s => match exS a ρ s with
    | .nx ρ1 s1 => exS b ρ1 s1
    | o => o
  | .asg i e, ρ, s => withV (ev e ρ s) fun r s1 => outOf (assignAll [i] [r] ρ) s1
  | .asgS i e, ρ, s => withV (ev e ρ s) fun r s1 => if r.isBo then .no else outOf (assignAll [i] [.sh r.d] ρ) s1
  | .asgT tg e, ρ, s => withV (ev e ρ s) fun r s1 => if r.isBo then .no else outOf (bindTg tg r.d ρ) s1
  | .par is es, ρ, s => match evs es ρ s with
    | .ok rs s1 => outOf (assignAll is rs ρ) s1
    | .exc c d s1 => .exc c d s1
    | .no => .no
  | .app i e, ρ, s => withV (ev e ρ s) fun r s1 => match ρ.getD i .no with
    | .ow (.lst l) => if r.isBo = false ∧ l.length < LIM then .nx (ρ.set i (.ow (.lst (l ++ [r.d])))) s1 else .no
    | _ => .no
  | .ext i e, ρ, s => withV (ev e ρ s) fun r s1 => match ρ.getD i .no with
    | .ow (.lst l) => match r.d with
      | .lst m => if r.isBo = false ∧ l.length + m.length ≤ LIM then .nx (ρ.set i (.ow (.lst (l ++ m)))) s1 else .no
      | _ => .no
    | _ => .no
  | .seti i k e, ρ, s => withV (ev e ρ s) fun r s1 => withV (ev k ρ s1) fun q s2 => match ρ.getD i .no, q.d with
    | .ow (.lst l), .int n => match ixOf l.length n with
      | some j => if r.isBo = false then .nx (ρ.set i (.ow (.lst (l.set j r.d)))) s2 else .no
      | none => .no
    | _, _ => .no
  | .expr e, ρ, s => withV (ev e ρ s) fun _ s1 => .nx ρ s1
  | .ret e, ρ, s => withV (ev e ρ s) fun r s1 => match r with
    | .bo _ d => .rt (.fr d) s1
    | r => .rt r s1
  | .ife c a b, ρ, s => withV (ev c ρ s) fun r s1 => match r with
    | .sh (.bl true) => exS a ρ s1
    | .sh (.bl false) => exS b ρ s1
    | _ => .no
  | .for tg it b, ρ, s => match evI it ρ s with
    | .ok (items, none) s1 => forL (fun d ρ s => match bindTg tg d ρ with
      | some ρ1 => exS b ρ1 s
      | none => .no) items ρ s1
    | .ok (_, some _) _ => .no
    | .exc c d s1 => .exc c d s1
    | .no => .no
  | .whl n c b, ρ, s => whlL (fun ρ s => ev c ρ s) (fun ρ s => exS b ρ s) n ρ s
  | .brk, ρ, s => .bk ρ s
  | .cont, ρ, s => .ct ρ s
  | .share i, ρ, s => match ρ.getD i .no with
    | .ow d => .nx (ρ.set i (.sh d)) s
    | .sh d => .nx (ρ.set i (.sh d)) s
    | .no => .no
  | .never, _, _ => .no
  | .stPut i e, ρ, s => withV (ev e ρ s) fun r s1 => if isSt ρ i then (match putAt s1 r.d with
    | some s2 => .nx ρ s2
    | none => .no) else .no
  | .stPutLeft i k e, ρ, s => withV (ev e ρ s) fun r s1 => withV (ev k ρ s1) fun q s2 => if isSt ρ i then (match putLeft s2 q.d r.d with
    | some s3 => .nx ρ s3
    | none => .no) else .no
def startE (n : Nat) (ds : List D) : Env := ds.map .sh ++ List.replicate (n - ds.length) .no
def endR : Out → R Rs
  | .nx _ s => .ok (.sh .non) s
  | .rt r s => .ok r s
  | .exc c d s => .exc c d s
  | _ => .no
/-- a def: n slots, p parameters -/
def evFn (n p : Nat) (b : S) : Fn := fun ds s => if ds.length = p then endR (exS b (startE n ds) s) else .no
/-- the law's draw -/
def drawFn : Fn := fun ds s => match ds with
  | [.st, .int l] => if 0 < l ∧ l.natAbs < 2 ^ 29 then .ok (.sh (.int (drawSt s l).1)) (drawSt s l).2 else .no
  | _ => .no
end RS
end
section
set_option Elab.async false
set_option linter.all false
set_option maxRecDepth 100000
set_option autoImplicit false
/-! RSBase: how data lie in the abstract heap; what holds of slots, shared and owned things between two steps. -/
namespace RS
open PySem L2

/-! ## data in the heap -/
section
variable (K : PySem.W.Frag) (aS : Addr) (O : Addr → Prop) (H : Hp)
mutual
def Rep : D → V → Prop
  | .non, v => v = .non
  | .bl b, v => v = .bl b
  | .int i, v => v = .int i
  | .str x, v => v = .str ⟨x.toArray⟩
  | .tup l, v => ∃ a xs, v = .ref a ∧ SqT K H a xs ∧ Reps l xs
  | .lst l, v => ∃ a xs, v = .ref a ∧ ¬ O a ∧ H a = some (.lst xs) ∧ Reps l xs
  | .dct _ _, _ => False
  | .st, v => v = .ref aS
def Reps : List D → List V → Prop
  | [], xs => xs = []
  | d :: ds, xs => ∃ v vs, xs = v :: vs ∧ Rep d v ∧ Reps ds vs
end
/-- a fresh or owned thing -/
def Top : D → Addr → Prop
  | .lst l, a => ∃ xs, H a = some (.lst xs) ∧ Reps K aS O H l xs
  | _, _ => False
end

section
variable {K : PySem.W.Frag} {aS : Addr} {O O' : Addr → Prop} {H H' : Hp}
theorem Reps.length : ∀ {ds : List D} {xs : List V}, Reps K aS O H ds xs → xs.length = ds.length
  | [], _, h => by rw [Reps] at h; subst h; rfl
  | _ :: _, _, h => by
    rw [Reps] at h
    obtain ⟨v, vs, rfl, _, h⟩ := h
    simp [Reps.length h]
theorem Reps.cons {d : D} {ds : List D} {v : V} {vs : List V} (h : Rep K aS O H d v) (t : Reps K aS O H ds vs) : Reps K aS O H (d :: ds) (v :: vs) := by
  rw [Reps]; exact ⟨v, vs, rfl, h, t⟩
theorem Reps.nil : Reps K aS O H [] [] := by rw [Reps]
theorem Reps.get : ∀ {ds : List D} {xs : List V} {i : Nat} {d : D}, Reps K aS O H ds xs → ds[i]? = some d → ∃ v, xs[i]? = some v ∧ Rep K aS O H d v
  | [], _, _, _, _, e => by simp at e
  | d :: ds, _, 0, _, h, e => by
    rw [Reps] at h
    obtain ⟨v, vs, rfl, r, _⟩ := h
    simp at e; subst e
    exact ⟨v, rfl, r⟩
  | d :: ds, _, i + 1, x, h, e => by
    rw [Reps] at h
    obtain ⟨v, vs, rfl, _, t⟩ := h
    obtain ⟨u, h1, h2⟩ := Reps.get (i := i) (d := x) t (by simpa using e)
    exact ⟨u, by simpa using h1, h2⟩
theorem Reps.append : ∀ {ds es : List D} {xs ys : List V}, Reps K aS O H ds xs → Reps K aS O H es ys → Reps K aS O H (ds ++ es) (xs ++ ys)
  | [], _, _, _, h, q => by rw [Reps] at h; subst h; exact q
  | _ :: _, _, _, _, h, q => by
    rw [Reps] at h
    obtain ⟨v, vs, rfl, r, t⟩ := h
    exact Reps.cons r (Reps.append t q)
theorem Reps.take : ∀ {ds : List D} {xs : List V} (n : Nat), Reps K aS O H ds xs → Reps K aS O H (ds.take n) (xs.take n)
  | _, _, 0, _ => by simp [Reps]
  | [], _, n + 1, h => by rw [Reps] at h; subst h; simp [Reps]
  | _ :: _, _, n + 1, h => by
    rw [Reps] at h
    obtain ⟨v, vs, rfl, r, t⟩ := h
    exact Reps.cons r (Reps.take n t)
theorem Reps.drop : ∀ {ds : List D} {xs : List V} (n : Nat), Reps K aS O H ds xs → Reps K aS O H (ds.drop n) (xs.drop n)
  | _, _, 0, h => by simpa using h
  | [], _, n + 1, h => by rw [Reps] at h; subst h; simp [Reps]
  | _ :: _, _, n + 1, h => by
    rw [Reps] at h
    obtain ⟨v, vs, rfl, _, t⟩ := h
    simpa using Reps.drop n t
theorem Reps.reverse : ∀ {ds : List D} {xs : List V}, Reps K aS O H ds xs → Reps K aS O H ds.reverse xs.reverse
  | [], _, h => by rw [Reps] at h; subst h; simp [Reps]
  | _ :: _, _, h => by
    rw [Reps] at h
    obtain ⟨v, vs, rfl, r, t⟩ := h
    simpa using Reps.append (Reps.reverse t) (Reps.cons r Reps.nil)
theorem Reps.set : ∀ {ds : List D} {xs : List V} (i : Nat) {d : D} {v : V}, Rep K aS O H d v → Reps K aS O H ds xs → Reps K aS O H (ds.set i d) (xs.set i v)
  | [], _, _, _, _, _, h => by rw [Reps] at h; subst h; simp [Reps]
  | _ :: _, _, 0, _, _, r, h => by
    rw [Reps] at h
    obtain ⟨v, vs, rfl, _, t⟩ := h
    exact Reps.cons r t
  | _ :: _, _, i + 1, _, _, r, h => by
    rw [Reps] at h
    obtain ⟨v, vs, rfl, q, t⟩ := h
    exact Reps.cons q (Reps.set i r t)
theorem Reps.replicate {ds : List D} {xs : List V} (h : Reps K aS O H ds xs) : ∀ n : Nat, Reps K aS O H (List.replicate n ds).flatten (List.replicate n xs).flatten
  | 0 => by simp [Reps]
  | n + 1 => by simpa [List.replicate_succ] using Reps.append h (Reps.replicate h n)
theorem Reps.of_get : ∀ {ds : List D} {xs : List V}, xs.length = ds.length → (∀ (i : Nat) (d : D) (v : V), ds[i]? = some d → xs[i]? = some v → Rep K aS O H d v) → Reps K aS O H ds xs
  | [], xs, hl, _ => by rw [Reps]; exact List.length_eq_zero_iff.mp hl
  | d :: ds, [], hl, _ => by simp at hl
  | d :: ds, v :: vs, hl, h => Reps.cons (h 0 d v rfl rfl) (Reps.of_get (by simpa using hl) fun i x y e1 e2 => h (i + 1) x y (by simpa using e1) (by simpa using e2))
theorem Reps.mem {ds : List D} {xs : List V} (h : Reps K aS O H ds xs) {d : D} (hd : d ∈ ds) : ∃ v, v ∈ xs ∧ Rep K aS O H d v := by
  obtain ⟨i, hi, e⟩ := List.getElem_of_mem hd
  obtain ⟨v, h1, h2⟩ := h.get (i := i) (d := d) (by rw [List.getElem?_eq_getElem hi, e])
  exact ⟨v, List.mem_of_getElem? h1, h2⟩

/-- from one heap to another one, from one set of forbidden places to another one -/
structure Go (K : PySem.W.Frag) (O O' : Addr → Prop) (H H' : Hp) : Prop where
  no : ∀ a, O' a → O a ∨ H a = none
  tup : ∀ a xs, SqT K H a xs → SqT K H' a xs
  lst : ∀ a xs, ¬ O a → H a = some (.lst xs) → H' a = some (.lst xs)
mutual
theorem Rep.go (g : Go K O O' H H') : ∀ (d : D) (v : V), Rep K aS O H d v → Rep K aS O' H' d v
  | .non, _, h => by rw [Rep] at h ⊢; exact h
  | .bl _, _, h => by rw [Rep] at h ⊢; exact h
  | .int _, _, h => by rw [Rep] at h ⊢; exact h
  | .str _, _, h => by rw [Rep] at h ⊢; exact h
  | .tup l, _, h => by
    rw [Rep] at h ⊢
    obtain ⟨a, xs, e, q, t⟩ := h
    exact ⟨a, xs, e, g.tup a xs q, Reps.go g l xs t⟩
  | .lst l, _, h => by
    rw [Rep] at h ⊢
    obtain ⟨a, xs, e, n, q, t⟩ := h
    refine ⟨a, xs, e, fun z => ?_, g.lst a xs n q, Reps.go g l xs t⟩
    rcases g.no a z with z | z
    · exact n z
    · rw [z] at q; cases q
  | .dct _ _, _, h => by rw [Rep] at h; exact h.elim
  | .st, _, h => by rw [Rep] at h ⊢; exact h
theorem Reps.go (g : Go K O O' H H') : ∀ (ds : List D) (xs : List V), Reps K aS O H ds xs → Reps K aS O' H' ds xs
  | [], _, h => by rw [Reps] at h ⊢; exact h
  | d :: ds, _, h => by
    rw [Reps] at h
    obtain ⟨v, vs, e, r, t⟩ := h
    rw [Reps]
    exact ⟨v, vs, e, Rep.go g d v r, Reps.go g ds vs t⟩
end
theorem Go.less (h : ∀ a, O' a → O a) : Go K O O' H H := ⟨fun a z => .inl (h a z), fun _ _ q => q, fun _ _ _ q => q⟩
theorem sqT_upd {a p : Addr} {xs : List V} {o : HO} (hp : H p = none) (h : SqT K H a xs) : SqT K (upd H p o) a xs := by
  rcases h with (h | ⟨ob, h⟩) | h
  · exact .inl (.inl (by rw [upd_ne (ne_of_none h hp)]; exact h))
  · exact .inl (.inr ⟨ob, by rw [upd_ne (ne_of_none h hp)]; exact h⟩)
  · exact .inr h
theorem Go.alloc {p : Addr} {o : HO} (hp : H p = none) (h : ∀ a, O' a → O a ∨ a = p) : Go K O O' H (upd H p o) :=
  ⟨fun a z => (h a z).imp id fun e => by rw [e]; exact hp, fun _ _ q => sqT_upd hp q, fun _ _ _ q => by rw [upd_ne (ne_of_none q hp)]; exact q⟩
/-- an owned thing is written -/
theorem Go.write {p : Addr} {xs ys : List V} (hO : O p) (hp : H p = some (.lst xs)) (h : ∀ a, O' a → O a) : Go K O O' H (upd H p (.lst ys)) := by
  refine ⟨fun a z => .inl (h a z), fun a zs q => ?_, fun a zs n q => ?_⟩
  · rcases q with (q | ⟨ob, q⟩) | q
    · exact .inl (.inl (by rw [upd_ne (ne_of q hp (by intro z; cases z))]; exact q))
    · exact .inl (.inr ⟨ob, by rw [upd_ne (ne_of q hp (by intro z; cases z))]; exact q⟩)
    · exact .inr q
  · have ne : a ≠ p := fun e => n (e ▸ hO)
    rw [upd_ne ne]; exact q
theorem Top.go (g : Go K O O' H H') {d : D} {a : Addr} (h : Top K aS O H d a) (hk : ∀ xs, H a = some (.lst xs) → H' a = some (.lst xs)) : Top K aS O' H' d a := by
  cases d <;> first | exact h.elim | skip
  obtain ⟨xs, e, t⟩ := h
  exact ⟨xs, hk xs e, Reps.go g _ _ t⟩
theorem Top.rep {d : D} {a : Addr} (h : Top K aS O H d a) (n : ¬ O a) : Rep K aS O H d (.ref a) := by
  cases d <;> first | exact h.elim | skip
  obtain ⟨xs, e, t⟩ := h
  rw [Rep]
  exact ⟨a, xs, rfl, n, e, t⟩
/-- data without lists hang on no forbidden place -/
theorem imm_rep : ∀ (d : D) (v : V), d.imm = true → Rep K aS O H d v → Rep K aS O' H d v := by
  have key : ∀ n : Nat, (∀ d : D, sizeOf d ≤ n → ∀ v, d.imm = true → Rep K aS O H d v → Rep K aS O' H d v) ∧ (∀ ds : List D, sizeOf ds ≤ n → ∀ vs, D.imms ds = true → Reps K aS O H ds vs → Reps K aS O' H ds vs) := by
    intro n
    induction n with
    | zero => exact ⟨fun d h => by cases d <;> simp at h, fun ds h => by cases ds <;> simp at h⟩
    | succ n ih =>
      refine ⟨fun d hs v hi h => ?_, fun ds hs vs hi h => ?_⟩
      · cases d <;> simp [D.imm] at hi <;> (rw [Rep] at h ⊢) <;> first | exact h | skip
        obtain ⟨a, xs, e, q, t⟩ := h
        exact ⟨a, xs, e, q, ih.2 _ (by simp at hs; omega) _ hi t⟩
      · cases ds with
        | nil => rw [Reps] at h ⊢; exact h
        | cons d ds =>
          rw [Reps] at h ⊢
          simp [D.imms] at hi
          obtain ⟨v, vs, e, r, t⟩ := h
          simp at hs
          exact ⟨v, vs, e, ih.1 d (by omega) v hi.1 r, ih.2 ds (by omega) vs hi.2 t⟩
  exact fun d v => (key (sizeOf d)).1 d (Nat.le_refl _) v
theorem imms_reps (ds : List D) (vs : List V) (hi : D.imms ds = true) (h : Reps K aS O H ds vs) : Reps K aS O' H ds vs := by
  induction ds generalizing vs with
  | nil => rw [Reps] at h ⊢; exact h
  | cons d ds ih =>
    rw [Reps] at h ⊢
    simp [D.imms] at hi
    obtain ⟨v, vs, e, r, t⟩ := h
    exact ⟨v, vs, e, imm_rep d v hi.1 r, ih vs hi.2 t⟩
end

/-! ## what holds between two steps -/
/-- a def's run: what may not be reached, the heap at the entry, the draws' state -/
structure Cfg where
  O : Addr → Prop
  H0 : Hp
  aS : Addr
  aL : Addr
  aC : Addr
abbrev Shd := List (D × V)
abbrev Own := List (D × Addr)
def Cfg.Ow (c : Cfg) (F : Own) : Addr → Prop := fun a => c.O a ∨ a ∈ F.map (·.2)
def NotTbl : HO → Prop
  | .tbl _ => False
  | _ => True
def Solid : HO → Prop
  | .tbl _ => False
  | .tup _ => False
  | _ => True
structure Keeps (c : Cfg) (H H' : Hp) : Prop where
  obj : ∀ a o, H a = some o → NotTbl o → a ≠ c.aS → a ≠ c.aL → H' a = some o
  there : ∀ a, H' a = none → H a = none
structure StOk (c : Cfg) (H : Hp) (s : OSt) : Prop where
  dict : H c.aS = some (.dK [(.inr "cells", .ref c.aC), (.inr "lefts", .ref c.aL), (.inr "at", .int s.pos)])
  cells : H c.aC = some (.lst (s.cells.map V.int))
  lefts : H c.aL = some (.lst (s.lefts.map V.int))
  ne : c.aC ≠ c.aL
  len : s.lefts.length = s.cells.length
  pos : 0 < s.cells.length
  most : s.cells.length ≤ 1000
structure Bs (K : PySem.W.Frag) (c : Cfg) (T : Shd) (F : Own) (H : Hp) (s : OSt) : Prop where
  tT : ∀ p ∈ T, Rep K c.aS (c.Ow F) H p.1 p.2
  tF : ∀ p ∈ F, Top K c.aS (c.Ow F) H p.1 p.2 ∧ ¬ c.O p.2 ∧ c.H0 p.2 = none
  nd : (F.map (·.2)).Nodup
  st : StOk c H s
  oS : c.O c.aS ∧ c.O c.aL ∧ c.O c.aC
  trk : ∀ a, c.O a → ∃ o, H a = some o ∧ Solid o
  kp : Keeps c c.H0 H

section
variable {K : PySem.W.Frag} {c : Cfg} {T T' : Shd} {F : Own} {H H' : Hp} {s s' : OSt}
theorem Solid.notTbl {o : HO} (h : Solid o) : NotTbl o := by cases o <;> first | exact h | trivial
theorem Keeps.refl : Keeps c H H := ⟨fun _ _ e _ _ _ => e, fun _ e => e⟩
theorem Keeps.trans {H1 : Hp} (a : Keeps c H H1) (b : Keeps c H1 H') : Keeps c H H' := ⟨fun x o e n h1 h2 => b.obj x o (a.obj x o e n h1 h2) n h1 h2, fun x e => a.there x (b.there x e)⟩
theorem Bs.weaken (B : Bs K c T F H s) (h : ∀ p ∈ T', p ∈ T) : Bs K c T' F H s := ⟨fun p hp => B.tT p (h p hp), B.tF, B.nd, B.st, B.oS, B.trk, B.kp⟩
theorem Bs.addT (B : Bs K c T F H s) {d : D} {v : V} (r : Rep K c.aS (c.Ow F) H d v) : Bs K c ((d, v) :: T) F H s :=
  ⟨fun p hp => by
    rcases List.mem_cons.mp hp with e | hp
    · rw [e]; exact r
    · exact B.tT p hp, B.tF, B.nd, B.st, B.oS, B.trk, B.kp⟩
theorem Bs.top_at (B : Bs K c T F H s) {d : D} {a : Addr} (h : (d, a) ∈ F) : ∃ l xs, d = .lst l ∧ H a = some (.lst xs) ∧ Reps K c.aS (c.Ow F) H l xs := by
  have q := (B.tF _ h).1
  cases d <;> first | exact q.elim | skip
  obtain ⟨xs, e, t⟩ := q
  exact ⟨_, xs, rfl, e, t⟩
theorem StOk.upd {p : Addr} {o : HO} (h : StOk c H s) (h1 : c.aS ≠ p) (h2 : c.aL ≠ p) (h3 : c.aC ≠ p) : StOk c (upd H p o) s :=
  ⟨by rw [upd_ne h1]; exact h.dict, by rw [upd_ne h3]; exact h.cells, by rw [upd_ne h2]; exact h.lefts, h.ne, h.len, h.pos, h.most⟩
/-- a new object -/
theorem Bs.alloc (B : Bs K c T F H s) {p : Addr} {o : HO} (hp : H p = none) : Bs K c T F (upd H p o) s := by
  have g : Go K (c.Ow F) (c.Ow F) H (upd H p o) := Go.alloc hp fun a z => .inl z
  have neO : ∀ a, c.O a → a ≠ p := fun a z e => by
    obtain ⟨o', q, _⟩ := B.trk a z
    rw [e, hp] at q; cases q
  refine ⟨fun q hq => Rep.go g _ _ (B.tT q hq), fun q hq => ?_, B.nd, B.st.upd (neO _ B.oS.1) (neO _ B.oS.2.1) (neO _ B.oS.2.2), B.oS, fun a z => ?_, fun a o' e n h1 h2 => ?_, fun a e => ?_⟩
  · obtain ⟨t, n, z⟩ := B.tF q hq
    exact ⟨t.go g fun xs e => by rw [upd_ne (ne_of_none e hp)]; exact e, n, z⟩
  · obtain ⟨o', q, n⟩ := B.trk a z
    exact ⟨o', by rw [upd_ne (neO a z)]; exact q, n⟩
  · rw [upd_ne (ne_of_none (B.kp.obj a o' e n h1 h2) hp)]
    exact B.kp.obj a o' e n h1 h2
  · refine B.kp.there a ?_
    by_cases ea : a = p
    · rw [ea]; exact hp
    · rw [upd_ne ea] at e; exact e
theorem Bs.tup (B : Bs K c T F H s) {p : Addr} {ds : List D} {xs : List V} (hp : H p = none) (r : Reps K c.aS (c.Ow F) H ds xs) : Bs K c ((.tup ds, .ref p) :: T) F (upd H p (.tup xs)) s := by
  refine (B.alloc hp).addT ?_
  rw [Rep]
  exact ⟨p, xs, rfl, SqT.of upd_same, Reps.go (Go.alloc hp fun a z => .inl z) _ _ r⟩
/-- what is not yet tracked becomes an own thing -/
theorem Bs.adopt (B : Bs K c T F H s) {p : Addr} {d : D} (hO : ¬ c.O p) (h0 : c.H0 p = none) (hF : p ∉ F.map (·.2)) (t : Top K c.aS (c.Ow ((d, p) :: F)) H d p)
    (hT : ∀ q ∈ T, Rep K c.aS (c.Ow ((d, p) :: F)) H q.1 q.2) (hF2 : ∀ q ∈ F, Top K c.aS (c.Ow ((d, p) :: F)) H q.1 q.2) : Bs K c T ((d, p) :: F) H s := by
  refine ⟨hT, fun q hq => ?_, ?_, B.st, B.oS, B.trk, B.kp⟩
  · rcases List.mem_cons.mp hq with e | hq
    · rw [e]; exact ⟨t, hO, h0⟩
    · exact ⟨hF2 q hq, (B.tF q hq).2⟩
  · rw [List.map_cons, List.nodup_cons]; exact ⟨hF, B.nd⟩
theorem Bs.lst (B : Bs K c T F H s) {p : Addr} {ds : List D} {xs : List V} (hp : H p = none) (r : Reps K c.aS (c.Ow F) H ds xs) : Bs K c T ((.lst ds, p) :: F) (upd H p (.lst xs)) s := by
  have g : Go K (c.Ow F) (c.Ow ((.lst ds, p) :: F)) H (upd H p (.lst xs)) := Go.alloc hp fun a z => by
    rcases z with z | z
    · exact .inl (.inl z)
    · rw [List.map_cons] at z
      rcases List.mem_cons.mp z with z | z
      · exact .inr z
      · exact .inl (.inr z)
  have nO : ¬ c.O p := fun z => by obtain ⟨o, q, _⟩ := B.trk p z; rw [hp] at q; cases q
  refine (B.alloc hp).adopt nO (B.kp.there p hp) (fun z => ?_) ⟨xs, upd_same, Reps.go g _ _ r⟩ (fun q hq => Rep.go g _ _ (B.tT q hq)) fun q hq => ?_
  · obtain ⟨q, hq, e⟩ := List.mem_map.mp z
    obtain ⟨l, ys, _, e2, _⟩ := B.top_at (d := q.1) (a := q.2) hq
    rw [e, hp] at e2; cases e2
  · exact (B.tF q hq).1.go g fun ys e => by rw [upd_ne (ne_of_none e hp)]; exact e
theorem Bs.share (B : Bs K c T F H s) {d : D} {a : Addr} (h : (d, a) ∈ F) : Bs K c ((d, .ref a) :: T) (F.filter fun p => decide (p.2 ≠ a)) H s := by
  have less : ∀ b, c.Ow (F.filter fun p => decide (p.2 ≠ a)) b → c.Ow F b := fun b z => by
    rcases z with z | z
    · exact .inl z
    · obtain ⟨q, hq, e⟩ := List.mem_map.mp z
      exact .inr (List.mem_map.mpr ⟨q, (List.mem_filter.mp hq).1, e⟩)
  have g : Go K (c.Ow F) (c.Ow (F.filter fun p => decide (p.2 ≠ a))) H H := Go.less less
  refine ⟨fun q hq => ?_, fun q hq => ?_, ?_, B.st, B.oS, B.trk, B.kp⟩
  · rcases List.mem_cons.mp hq with e | hq
    · rw [e]
      obtain ⟨t, n, _⟩ := B.tF _ h
      refine (t.go g fun _ e => e).rep fun z => ?_
      rcases z with z | z
      · exact n z
      · obtain ⟨q, hq, e⟩ := List.mem_map.mp z
        exact of_decide_eq_true (List.mem_filter.mp hq).2 e
    · exact Rep.go g _ _ (B.tT q hq)
  · obtain ⟨t, n, z⟩ := B.tF q (List.mem_filter.mp hq).1
    exact ⟨t.go g fun _ e => e, n, z⟩
  · exact List.Sublist.nodup (List.Sublist.map _ List.filter_sublist) B.nd
/-- the data of one owned thing changed -/
def putO (F : Own) (a : Addr) (d : D) : Own := F.map fun p => if p.2 = a then (d, a) else p
theorem putO_addr (F : Own) (a : Addr) (d : D) : (putO F a d).map (·.2) = F.map (·.2) := by
  unfold putO
  rw [List.map_map]
  apply List.map_congr_left
  intro p _
  show (if p.2 = a then (d, a) else p).2 = p.2
  split
  · rename_i e; exact e.symm
  · rfl
theorem putO_ow (F : Own) (a : Addr) (d : D) : c.Ow (putO F a d) = c.Ow F := by
  funext b; unfold Cfg.Ow; rw [putO_addr]
theorem mem_putO {F : Own} {a : Addr} {d e : D} (h : (e, a) ∈ F) : (d, a) ∈ putO F a d := List.mem_map.mpr ⟨(e, a), h, by simp⟩
theorem mem_putO_ne {F : Own} {a b : Addr} {d e : D} (h : (e, b) ∈ F) (n : b ≠ a) : (e, b) ∈ putO F a d := List.mem_map.mpr ⟨(e, b), h, by simp [n]⟩
theorem Bs.mut (B : Bs K c T F H s) {d : D} {a : Addr} {ds : List D} {ys : List V} (h : (d, a) ∈ F) (r : Reps K c.aS (c.Ow F) H ds ys) :
    Bs K c T (putO F a (.lst ds)) (upd H a (.lst ys)) s := by
  obtain ⟨l, xs, rfl, ha, _⟩ := B.top_at h
  obtain ⟨_, nO, h0⟩ := B.tF _ h
  have mem : a ∈ F.map (·.2) := List.mem_map.mpr ⟨_, h, rfl⟩
  have g : Go K (c.Ow F) (c.Ow F) H (upd H a (.lst ys)) := Go.write (.inr mem) ha fun _ z => z
  have neO : ∀ b, c.O b → b ≠ a := fun b z e => nO (e ▸ z)
  refine ⟨fun q hq => by rw [putO_ow]; exact Rep.go g _ _ (B.tT q hq), fun q hq => ?_, by rw [putO_addr]; exact B.nd, B.st.upd (neO _ B.oS.1) (neO _ B.oS.2.1) (neO _ B.oS.2.2), B.oS, fun b z => ?_, fun b o e n h1 h2 => ?_, fun b e => ?_⟩
  · rw [putO_ow]
    obtain ⟨p, hp, e⟩ := List.mem_map.mp hq
    by_cases c1 : p.2 = a
    · rw [if_pos c1] at e
      rw [← e]
      exact ⟨⟨ys, upd_same, Reps.go g _ _ r⟩, nO, h0⟩
    · rw [if_neg c1] at e
      rw [← e]
      obtain ⟨t, n, z⟩ := B.tF p hp
      exact ⟨t.go g fun zs e => by rw [upd_ne c1]; exact e, n, z⟩
  · obtain ⟨o, q, n⟩ := B.trk b z
    exact ⟨o, by rw [upd_ne (neO b z)]; exact q, n⟩
  · have ne : b ≠ a := fun z => by rw [z, h0] at e; cases e
    rw [upd_ne ne]
    exact B.kp.obj b o e n h1 h2
  · by_cases eb : b = a
    · rw [eb]; exact h0
    · rw [upd_ne eb] at e; exact B.kp.there b e
/-- behind a call -/
theorem Bs.call (B : Bs K c T F H s) (k : Keeps c H H') (st : StOk c H' s') : Bs K c T F H' s' := by
  have nS : ∀ a, ¬ c.O a → a ≠ c.aS ∧ a ≠ c.aL := fun a n => ⟨fun e => n (e ▸ B.oS.1), fun e => n (e ▸ B.oS.2.1)⟩
  have kt : ∀ a o, H a = some o → NotTbl o → (∀ kvs, o ≠ .dK kvs) → a ≠ c.aL → H' a = some o := fun a o e n d h2 => k.obj a o e n (fun z => by rw [z, B.st.dict] at e; exact d _ (Option.some.inj e).symm) h2
  have g : Go K (c.Ow F) (c.Ow F) H H' := by
    refine ⟨fun a z => .inl z, fun a xs q => ?_, fun a xs n q => ?_⟩
    · have ne : ∀ o, H a = some o → (∀ ys, o ≠ .lst ys) → a ≠ c.aL := fun o e d z => by rw [z, B.st.lefts] at e; exact d _ (Option.some.inj e).symm
      rcases q with (q | ⟨ob, q⟩) | q
      · exact .inl (.inl (kt a _ q trivial (fun _ z => by cases z) (ne _ q fun _ z => by cases z)))
      · exact .inl (.inr ⟨ob, kt a _ q trivial (fun _ z => by cases z) (ne _ q fun _ z => by cases z)⟩)
      · exact .inr q
    · have n' : ¬ c.O a := fun z => n (.inl z)
      exact k.obj a _ q trivial (nS a n').1 (nS a n').2
  refine ⟨fun q hq => Rep.go g _ _ (B.tT q hq), fun q hq => ?_, B.nd, st, B.oS, fun a z => ?_, B.kp.trans k⟩
  · obtain ⟨t, n, z⟩ := B.tF q hq
    exact ⟨t.go g fun xs e => k.obj _ _ e trivial (nS _ n).1 (nS _ n).2, n, z⟩
  · by_cases h1 : a = c.aS
    · exact ⟨.dK _, by rw [h1]; exact st.dict, trivial⟩
    · by_cases h2 : a = c.aL
      · exact ⟨.lst _, by rw [h2]; exact st.lefts, trivial⟩
      · obtain ⟨o, q, n⟩ := B.trk a z
        exact ⟨o, k.obj a o q n.notTbl h1 h2, n⟩
end
end RS
end
section
set_option Elab.async false
set_option linter.all false
set_option maxRecDepth 100000
set_option autoImplicit false
/-! RSOps: the operators, built-ins and subscripts by data. -/
namespace RS
open PySem L2

/-! ## data of the library -/
mutual
def D.py : D → PyData
  | .non => .none
  | .bl b => .bool b
  | .int i => .int i
  | .str x => .str ⟨x.toArray⟩
  | .tup l => .tuple (D.pys l)
  | .lst l => .list (D.pys l)
  | .dct _ _ => .none
  | .st => .none
def D.pys : List D → List PyData
  | [] => []
  | x :: xs => D.py x :: D.pys xs
end
theorem D.pys_map : ∀ l : List D, D.pys l = l.map D.py
  | [] => rfl
  | x :: xs => by rw [D.pys, D.pys_map xs]; rfl
section
variable (K : PySem.W.Frag) (aS : Addr) (O : Addr → Prop) (H : Hp)
/-- a value at hand: what its list is does not matter (shared, fresh, owned) -/
def Tv : D → V → Prop
  | .lst l, v => ∃ a xs, v = .ref a ∧ H a = some (.lst xs) ∧ Reps K aS O H l xs
  | d, v => Rep K aS O H d v
end
section
variable {K : PySem.W.Frag} {aS : Addr} {O : Addr → Prop} {H : Hp}
theorem Rep.tv : ∀ {d : D} {v : V}, Rep K aS O H d v → Tv K aS O H d v
  | .lst l, v, h => by
    rw [Rep] at h
    obtain ⟨a, xs, e, _, q, t⟩ := h
    exact ⟨a, xs, e, q, t⟩
  | .non, _, h => h
  | .bl _, _, h => h
  | .int _, _, h => h
  | .str _, _, h => h
  | .tup _, _, h => h
  | .dct _ _, _, h => h
  | .st, _, h => h
theorem Tv.int {i : Int} {v : V} (h : Tv K aS O H (.int i) v) : v = .int i := by
  have h : Rep K aS O H (.int i) v := h
  rw [Rep] at h; exact h
theorem Tv.bl {i : Bool} {v : V} (h : Tv K aS O H (.bl i) v) : v = .bl i := by
  have h : Rep K aS O H (.bl i) v := h
  rw [Rep] at h; exact h
theorem Tv.non {v : V} (h : Tv K aS O H .non v) : v = .non := by
  have h : Rep K aS O H .non v := h
  rw [Rep] at h; exact h
theorem Tv.str {x : List Nat} {v : V} (h : Tv K aS O H (.str x) v) : v = .str ⟨x.toArray⟩ := by
  have h : Rep K aS O H (.str x) v := h
  rw [Rep] at h; exact h
theorem Tv.tup {l : List D} {v : V} (h : Tv K aS O H (.tup l) v) : ∃ a xs, v = .ref a ∧ SqT K H a xs ∧ Reps K aS O H l xs := by
  have h : Rep K aS O H (.tup l) v := h
  rw [Rep] at h; exact h
theorem Tv.lst {l : List D} {v : V} (h : Tv K aS O H (.lst l) v) : ∃ a xs, v = .ref a ∧ H a = some (.lst xs) ∧ Reps K aS O H l xs := h
theorem Tv.st {v : V} (h : Tv K aS O H .st v) : v = .ref aS := by
  have h : Rep K aS O H .st v := h
  rw [Rep] at h; exact h
theorem Tv.dct {k v : List D} {x : V} (h : Tv K aS O H (.dct k v) x) : False := by
  have h : Rep K aS O H (.dct k v) x := h
  rw [Rep] at h; exact h
theorem Rep.int' {i : Int} : Rep K aS O H (.int i) (.int i) := by rw [Rep]
theorem Rep.bl' {b : Bool} : Rep K aS O H (.bl b) (.bl b) := by rw [Rep]
theorem Rep.non' : Rep K aS O H .non .non := by rw [Rep]

mutual
theorem Rep.dp : ∀ (n : Nat) (d : D) (v : V), D.deep n d = true → Rep K aS O H d v → Dp K H v d.py
  | _, .non, v, _, h => by rw [Rep] at h; rw [h, D.py]; exact .non
  | _, .bl b, v, _, h => by rw [Rep] at h; rw [h, D.py]; exact .bl b
  | _, .int i, v, _, h => by rw [Rep] at h; rw [h, D.py]; exact .int i
  | _, .str x, v, _, h => by rw [Rep] at h; rw [h, D.py]; exact .str _
  | n + 1, .tup l, v, hd, h => by
    rw [Rep] at h
    obtain ⟨a, xs, e, q, t⟩ := h
    rw [e, D.py]
    exact .tup q (Reps.dp n l xs (by simpa [D.deep] using hd) t)
  | n + 1, .lst l, v, hd, h => by
    rw [Rep] at h
    obtain ⟨a, xs, e, _, q, t⟩ := h
    rw [e, D.py]
    exact .lst (SqL.of q) (Reps.dp n l xs (by simpa [D.deep] using hd) t)
  | 0, .tup _, _, hd, _ => by simp [D.deep] at hd
  | 0, .lst _, _, hd, _ => by simp [D.deep] at hd
  | 0, .dct _ _, _, hd, _ => by simp [D.deep] at hd
  | n + 1, .dct _ _, _, hd, _ => by simp [D.deep] at hd
  | 0, .st, _, hd, _ => by simp [D.deep] at hd
  | n + 1, .st, _, hd, _ => by simp [D.deep] at hd
theorem Reps.dp : ∀ (n : Nat) (ds : List D) (xs : List V), D.deeps n ds = true → Reps K aS O H ds xs → DpAll K H xs (D.pys ds)
  | _, [], xs, _, h => by rw [Reps] at h; rw [h, D.pys]; exact .nil
  | n, d :: ds, xs, hd, h => by
    rw [Reps] at h
    obtain ⟨v, vs, e, r, t⟩ := h
    simp [D.deeps] at hd
    rw [e, D.pys]
    exact .cons (Rep.dp n d v hd.1 r) (Reps.dp n ds vs hd.2 t)
end
theorem Tv.dp : ∀ {n : Nat} {d : D} {v : V}, D.deep n d = true → Tv K aS O H d v → Dp K H v d.py
  | n + 1, .lst l, v, hd, h => by
    obtain ⟨a, xs, e, q, t⟩ := h
    rw [e, D.py]
    exact .lst (SqL.of q) (Reps.dp n l xs (by simpa [D.deep] using hd) t)
  | 0, .lst l, v, hd, h => by simp [D.deep] at hd
  | n, .non, v, hd, h => Rep.dp (aS := aS) (O := O) n _ v hd h
  | n, .bl _, v, hd, h => Rep.dp (aS := aS) (O := O) n _ v hd h
  | n, .int _, v, hd, h => Rep.dp (aS := aS) (O := O) n _ v hd h
  | n, .str _, v, hd, h => Rep.dp (aS := aS) (O := O) n _ v hd h
  | n, .tup _, v, hd, h => Rep.dp (aS := aS) (O := O) n _ v hd h
  | n, .dct _ _, v, hd, h => Rep.dp (aS := aS) (O := O) n _ v hd h
  | n, .st, v, hd, h => Rep.dp (aS := aS) (O := O) n _ v hd h
end
mutual
theorem deep_depth : ∀ (n : Nat) (d : D), D.deep n d = true → d.py.depth ≤ n
  | n, .non, _ => by rw [D.py]; simp [PyData.depth]
  | n, .bl _, _ => by rw [D.py]; simp [PyData.depth]
  | n, .int _, _ => by rw [D.py]; simp [PyData.depth]
  | n, .str _, _ => by rw [D.py]; simp [PyData.depth]
  | n + 1, .tup l, h => by
    rw [D.py]; have := deeps_depth n l (by simpa [D.deep] using h); simp [PyData.depth]; omega
  | n + 1, .lst l, h => by
    rw [D.py]; have := deeps_depth n l (by simpa [D.deep] using h); simp [PyData.depth]; omega
  | 0, .tup _, h => by simp [D.deep] at h
  | 0, .lst _, h => by simp [D.deep] at h
  | 0, .dct _ _, h => by simp [D.deep] at h
  | n + 1, .dct _ _, h => by simp [D.deep] at h
  | 0, .st, h => by simp [D.deep] at h
  | n + 1, .st, h => by simp [D.deep] at h
theorem deeps_depth : ∀ (n : Nat) (ds : List D), D.deeps n ds = true → PyData.depthAll (D.pys ds) ≤ n
  | _, [], _ => by rw [D.pys]; simp [PyData.depthAll]
  | n, d :: ds, h => by
    simp [D.deeps] at h
    have h1 := deep_depth n d h.1
    have h2 := deeps_depth n ds h.2
    rw [D.pys]; simp [PyData.depthAll]; omega
end
mutual
theorem deep_plain : ∀ (n : Nat) (d : D), D.deep n d = true → d.py.plain = true
  | n, .non, _ => by rw [D.py]; rfl
  | n, .bl _, _ => by rw [D.py]; rfl
  | n, .int _, _ => by rw [D.py]; rfl
  | n, .str _, _ => by rw [D.py]; rfl
  | n + 1, .tup l, h => by rw [D.py, PyData.plain]; exact deeps_plain n l (by simpa [D.deep] using h)
  | n + 1, .lst l, h => by rw [D.py, PyData.plain]; exact deeps_plain n l (by simpa [D.deep] using h)
  | 0, .tup _, h => by simp [D.deep] at h
  | 0, .lst _, h => by simp [D.deep] at h
  | 0, .dct _ _, h => by simp [D.deep] at h
  | n + 1, .dct _ _, h => by simp [D.deep] at h
  | 0, .st, h => by simp [D.deep] at h
  | n + 1, .st, h => by simp [D.deep] at h
theorem deeps_plain : ∀ (n : Nat) (ds : List D), D.deeps n ds = true → PyData.plainAll (D.pys ds) = true
  | _, [], _ => by rw [D.pys]; rfl
  | n, d :: ds, h => by
    simp [D.deeps] at h
    rw [D.pys, PyData.plainAll, deep_plain n d h.1, deeps_plain n ds h.2]; rfl
end
theorem str_beq (x y : List Nat) : ((⟨x.toArray⟩ : Str) == ⟨y.toArray⟩) = (x == y) := by
  by_cases h : x = y
  · subst h; simp
  · have h' : ¬ (⟨x.toArray⟩ : Str) = ⟨y.toArray⟩ := fun e => h (by injection e with e; simpa using e)
    rw [beq_eq_false_iff_ne.mpr h, beq_eq_false_iff_ne.mpr h']
mutual
theorem eqv_py : ∀ (n m : Nat) (d e : D), D.deep n d = true → D.deep m e = true → PyData.eqv d.py e.py = D.eqv d e
  | n, m, .non, e, h1, h2 => by cases e <;> cases m <;> simp_all [D.py, PyData.eqv, D.eqv, D.deep]
  | n, m, .bl a, e, h1, h2 => by cases e <;> cases m <;> simp_all [D.py, PyData.eqv, D.eqv, D.deep, b2i]
  | n, m, .int a, e, h1, h2 => by cases e <;> cases m <;> simp_all [D.py, PyData.eqv, D.eqv, D.deep, b2i]
  | n, m, .str a, e, h1, h2 => by cases e <;> cases m <;> simp_all [D.py, PyData.eqv, D.eqv, D.deep, str_beq]
  | n + 1, m, .tup a, e, h1, h2 => by
    cases e <;> cases m <;> simp_all [D.py, PyData.eqv, D.eqv, D.deep]
    exact eqvs_py _ _ _ _ h1 h2
  | n + 1, m, .lst a, e, h1, h2 => by
    cases e <;> cases m <;> simp_all [D.py, PyData.eqv, D.eqv, D.deep]
    exact eqvs_py _ _ _ _ h1 h2
  | 0, _, .tup _, _, h, _ => by simp [D.deep] at h
  | 0, _, .lst _, _, h, _ => by simp [D.deep] at h
  | 0, _, .dct _ _, _, h, _ => by simp [D.deep] at h
  | n + 1, _, .dct _ _, _, h, _ => by simp [D.deep] at h
  | 0, _, .st, _, h, _ => by simp [D.deep] at h
  | n + 1, _, .st, _, h, _ => by simp [D.deep] at h
theorem eqvs_py : ∀ (n m : Nat) (ds es : List D), D.deeps n ds = true → D.deeps m es = true → PyData.eqvAll (D.pys ds) (D.pys es) = D.eqvs ds es
  | _, _, [], [], _, _ => by simp [D.pys, PyData.eqvAll, D.eqvs]
  | _, _, [], _ :: _, _, _ => by simp [D.pys, PyData.eqvAll, D.eqvs]
  | _, _, _ :: _, [], _, _ => by simp [D.pys, PyData.eqvAll, D.eqvs]
  | n, m, d :: ds, e :: es, h1, h2 => by
    simp [D.deeps] at h1 h2
    rw [D.pys, D.pys, PyData.eqvAll, D.eqvs, eqv_py n m d e h1.1 h2.1, eqvs_py n m ds es h1.2 h2.2]
end
end RS
end
section
set_option Elab.async false
set_option linter.all false
set_option maxRecDepth 100000
set_option autoImplicit false
set_option maxHeartbeats 1000000
namespace RS
open PySem L2
open PySem.W (alike dataLt keyToks keyToksAll toks_eqv lex_pre)
mutual
theorem alike_py : ∀ d e : D, D.alike d e = true → alike d.py e.py = true
  | .bl _, e, h => by cases e <;> first | (rw [D.py, D.py]; rfl) | cases h
  | .int _, e, h => by cases e <;> first | (rw [D.py, D.py]; rfl) | cases h
  | .str _, e, h => by cases e <;> first | (rw [D.py, D.py]; rfl) | cases h
  | .tup a, e, h => by
    cases e <;> first | cases h | skip
    rw [D.py, D.py, alike]; exact alikes_py _ _ (by rw [D.alike] at h; exact h)
  | .lst a, e, h => by
    cases e <;> first | cases h | skip
    rw [D.py, D.py, alike]; exact alikes_py _ _ (by rw [D.alike] at h; exact h)
  | .non, e, h => by cases e <;> cases h
  | .dct _ _, e, h => by cases e <;> cases h
  | .st, e, h => by cases e <;> cases h
theorem alikes_py : ∀ d e : List D, D.alikes d e = true → PySem.W.alikeAll (D.pys d) (D.pys e) = true
  | [], e, _ => by rw [D.pys]; unfold PySem.W.alikeAll; rfl
  | x :: xs, [], _ => by rw [D.pys, D.pys]; rfl
  | x :: xs, y :: ys, h => by
    rw [D.alikes, Bool.and_eq_true] at h
    rw [D.pys, D.pys, PySem.W.alikeAll, alike_py x y h.1, alikes_py xs ys h.2]; rfl
end
theorem itemLt_inl (a b : Int) : PyProof.Rows.lexLt PyProof.Rows.itemOrd [.inl a] [.inl b] = decide (a < b) := by
  show (decide (a < b) || (!decide (b < a) && false)) = _
  simp
theorem natsLt_eq : ∀ a b : List Nat, PyProof.Rows.strKind.blt a b = natsLt a b := by
  intro a
  induction a with
  | nil => intro b; cases b <;> rfl
  | cons x xs ih =>
    intro b
    cases b with
    | nil => rfl
    | cons y ys =>
      rw [natsLt, ← ih ys]
      show decide (x :: xs < y :: ys) = _
      by_cases h : x = y
      · subst h; simp
      · simp [h, List.cons_lt_cons_iff]
mutual
theorem lt_py : ∀ (n m : Nat) (d e : D), D.alike d e = true → D.deep n d = true → D.deep m e = true → dataLt d.py e.py = D.lt d e
  | _, _, .bl a, .bl b, _, _, _ => by
    rw [D.py, D.py]
    cases a <;> cases b <;> rfl
  | _, _, .bl a, .non, h, _, _ => by cases h
  | _, _, .bl a, .int _, h, _, _ => by cases h
  | _, _, .bl a, .str _, h, _, _ => by cases h
  | _, _, .bl a, .tup _, h, _, _ => by cases h
  | _, _, .bl a, .lst _, h, _, _ => by cases h
  | _, _, .bl a, .dct _ _, h, _, _ => by cases h
  | _, _, .bl a, .st, h, _, _ => by cases h
  | _, _, .int a, e, h, _, _ => by
    cases e <;> first | cases h | skip
    rw [D.py, D.py]; exact itemLt_inl _ _
  | _, _, .str a, .non, h, _, _ => by cases h
  | _, _, .str a, .bl _, h, _, _ => by cases h
  | _, _, .str a, .int _, h, _, _ => by cases h
  | _, _, .str a, .tup _, h, _, _ => by cases h
  | _, _, .str a, .lst _, h, _, _ => by cases h
  | _, _, .str a, .dct _ _, h, _, _ => by cases h
  | _, _, .str a, .st, h, _, _ => by cases h
  | _, _, .str a, .str b, _, _, _ => by
    rw [D.py, D.py]
    show (PyProof.Rows.strKind.blt _ _ || (!PyProof.Rows.strKind.blt _ _ && false)) = natsLt a b
    rw [← natsLt_eq]
    simp
  | n + 1, m + 1, .tup a, e, h, h1, h2 => by
    cases e <;> first | cases h | skip
    rw [D.py, D.py]
    exact lts_py n m _ _ (by rw [D.alike] at h; exact h) (by rw [D.deep] at h1; exact h1) (by rw [D.deep] at h2; exact h2)
  | n + 1, m + 1, .lst a, e, h, h1, h2 => by
    cases e <;> first | cases h | skip
    rw [D.py, D.py]
    exact lts_py n m _ _ (by rw [D.alike] at h; exact h) (by rw [D.deep] at h1; exact h1) (by rw [D.deep] at h2; exact h2)
  | 0, _, .tup _, _, _, h, _ => by simp [D.deep] at h
  | 0, _, .lst _, _, _, h, _ => by simp [D.deep] at h
  | n + 1, 0, .tup _, e, h, _, h2 => by cases e <;> first | cases h | simp [D.deep] at h2
  | n + 1, 0, .lst _, e, h, _, h2 => by cases e <;> first | cases h | simp [D.deep] at h2
  | _, _, .non, e, h, _, _ => by cases e <;> cases h
  | _, _, .dct _ _, e, h, _, _ => by cases e <;> cases h
  | _, _, .st, e, h, _, _ => by cases e <;> cases h
theorem lts_py : ∀ (n m : Nat) (d e : List D), D.alikes d e = true → D.deeps n d = true → D.deeps m e = true → PyProof.Rows.lexLt PyProof.Rows.itemOrd (keyToksAll (D.pys d)) (keyToksAll (D.pys e)) = D.lts d e
  | _, _, [], [], _, _, _ => by rw [D.pys]; rfl
  | _, _, [], _ :: _, _, _, _ => by rw [D.pys, D.pys]; rfl
  | _, _, _ :: _, [], _, _, _ => by rw [D.pys, D.pys]; rfl
  | n, m, x :: xs, y :: ys, h, h1, h2 => by
    rw [D.alikes, Bool.and_eq_true] at h
    rw [D.deeps, Bool.and_eq_true] at h1 h2
    have ih := lts_py n m xs ys h.2 h1.2 h2.2
    have t := toks_eqv x.py y.py (alike_py x y h.1)
    have e := eqv_py n m x y h1.1 h2.1
    rw [D.pys, D.pys, keyToksAll, keyToksAll, PyProof.Rows.lex_self (O := PyProof.Rows.itemOrd), D.lts]
    by_cases c : D.eqv x y = true
    · rw [if_pos c, t.1 (by rw [e]; exact c), lex_pre]; exact ih
    · rw [if_neg c, t.2 (by rw [e]; simpa using c)]
      exact lt_py n m x y h.1 h1.1 h2.1
end
theorem alike_ne : ∀ d e : D, D.alike d e = true → d.py ≠ .none
  | .bl _, _, _ => by rw [D.py]; intro z; cases z
  | .int _, _, _ => by rw [D.py]; intro z; cases z
  | .str _, _, _ => by rw [D.py]; intro z; cases z
  | .tup _, _, _ => by rw [D.py]; intro z; cases z
  | .lst _, _, _ => by rw [D.py]; intro z; cases z
  | .non, e, h => by cases e <;> cases h
  | .dct _ _, e, h => by cases e <;> cases h
  | .st, e, h => by cases e <;> cases h
mutual
theorem alike_symm : ∀ d e : D, D.alike d e = true → D.alike e d = true
  | .bl _, e, h => by cases e <;> first | rfl | cases h
  | .int _, e, h => by cases e <;> first | rfl | cases h
  | .str _, e, h => by cases e <;> first | rfl | cases h
  | .tup a, e, h => by cases e <;> first | cases h | (rw [D.alike] at h ⊢; exact alikes_symm _ _ h)
  | .lst a, e, h => by cases e <;> first | cases h | (rw [D.alike] at h ⊢; exact alikes_symm _ _ h)
  | .non, e, h => by cases e <;> cases h
  | .dct _ _, e, h => by cases e <;> cases h
  | .st, e, h => by cases e <;> cases h
theorem alikes_symm : ∀ d e : List D, D.alikes d e = true → D.alikes e d = true
  | [], e, _ => by cases e <;> rfl
  | x :: xs, [], _ => rfl
  | x :: xs, y :: ys, h => by
    rw [D.alikes, Bool.and_eq_true] at h
    rw [D.alikes, alike_symm x y h.1, alikes_symm xs ys h.2]; rfl
end
end RS
end
section
set_option Elab.async false
set_option linter.all false
set_option maxRecDepth 100000
set_option maxHeartbeats 4000000
/-! RSTupMul: tuple * int, from 0 on. -/
namespace L2
open PySem PySem.Spec PyProof.Rows
theorem tuple_mulSame (l : Addr) (items : Array Value) (n : Nat) (dd : Option Addr) (sl : Array (Option Value)) (x : Int) (u : Tok) (c0 : (decide (x < -(2 ^ 63)) || decide (x ≥ 2 ^ 63)) = false) (c1 : (items.isEmpty || x == 1) = true) :
    Meets (Builtin.«tuple.__mul__» ⟨[.ref l, .int x u], []⟩) (fun _ R s => s.heap.get? l = some { cls := .type "tuple", dict := dd, data := .seq items n, slots := sl } ∧
      R (.ok (.ret (Value.ref l))) s) :=
  .of_wp fun prog w A R s h => by
    obtain ⟨hp, g, d, tk, os⟩ := s
    obtain ⟨hl, h⟩ := h
    have f1 := AutoSeq1.idx_int
    wp_walk using wpAny_loadPart' hl
    repeat (first
      | (refine wpAny_ite_false (decide_eq_false (by rw [c0]; exact Bool.false_ne_true)) ?_; wp_walk using wpAny_loadPart' hl)
      | (refine wpAny_ite_true (decide_eq_true c1) ?_; wp_walk using wpAny_loadPart' hl))
    exact ⟨_, rfl, h⟩
theorem tuple_mulNone (l : Addr) (items : Array Value) (n : Nat) (dd : Option Addr) (sl : Array (Option Value)) (x : Int) (u : Tok) (c0 : (decide (x < -(2 ^ 63)) || decide (x ≥ 2 ^ 63)) = false) (c1 : (items.isEmpty || x == 1) = false) (c2 : (decide (x ≤ 0) || items.isEmpty) = true) :
    Meets (Builtin.«tuple.__mul__» ⟨[.ref l, .int x u], []⟩) (fun _ R s => s.heap.get? l = some { cls := .type "tuple", dict := dd, data := .seq items n, slots := sl } ∧
      R (.ok (.ret (Value.ref s.heap.objs.size))) { s with heap := s.heap.push { cls := Value.type "tuple", data := Data.seq #[] }, toks := s.toks }) :=
  .of_wp fun prog w A R s h => by
    obtain ⟨hp, g, d, tk, os⟩ := s
    obtain ⟨hl, h⟩ := h
    have f1 := AutoSeq1.idx_int
    wp_walk using wpAny_loadPart' hl
    repeat (first
      | (refine wpAny_ite_false (decide_eq_false (by rw [c0]; exact Bool.false_ne_true)) ?_; wp_walk using wpAny_loadPart' hl)
      | (refine wpAny_ite_false (decide_eq_false (by rw [c1]; exact Bool.false_ne_true)) ?_; wp_walk using wpAny_loadPart' hl)
      | (refine wpAny_ite_true (decide_eq_true c2) ?_; wp_walk using wpAny_loadPart' hl))
    exact ⟨_, rfl, h⟩
def rRepTA (K : PySem.W.Frag) : R2 := fun x y H Q => ∃ l k xs, x = .ref l ∧ y = .int k ∧ SqT K H l xs ∧ 0 ≤ k ∧ k ≤ 1000 ∧ xs.length ≤ 1000 ∧
  ((xs = [] ∨ k = 1) → Q (.ref l) H) ∧ (¬ (xs = [] ∨ k = 1) → ∀ p, H p = none → Q (.ref p) (upd H p (.tup (List.replicate k.toNat xs).flatten)))
section
variable {X : Cx}
theorem op_repTA : OpR X (binaryOp .Mult) (rRepTA X.K) := by
  intro pins s σ H x y v u Q I rx ry h
  obtain ⟨l, k, xs, rfl, rfl, hT, h0, h2, hz, q1, q2⟩ := h
  by_cases hk : ¬ (xs = [] ∨ k = 1) ∧ 2 ≤ k
  · exact op_repT pins s σ H _ _ v u Q I rx ry ⟨l, k, xs, rfl, rfl, hT, fun e => hk.1 (Or.inl e), hk.2, h2, hz, q2 hk.1⟩
  cases rx
  obtain ⟨t, rfl⟩ := ry
  obtain ⟨its, r, ⟨⟨cls, dd, data, sl⟩, ho, hc, n, hd⟩, hs⟩ := I.tuple hT
  simp only at hc hd
  subst hc hd
  have hle : its.length = xs.length := r.length.symm
  have c0 : (decide (k < -(2 ^ 63)) || decide (k ≥ 2 ^ 63)) = false := by
    rw [decide_eq_false (by omega), decide_eq_false (by omega)] <;> rfl
  by_cases hsame : xs = [] ∨ k = 1
  · have c1 : (its.toArray.isEmpty || k == 1) = true := by
      rcases hsame with e | e
      · subst e
        have : its = [] := List.eq_nil_of_length_eq_zero hle
        subst this; rfl
      · subst e; simp
    exact wpAny_binaryOp_repeat_ref (T := "tuple") (U := "int") (by decide) ⟨_, ho, rfl⟩ (fun s' => typeIs_int s' k t) noFill_tuple_mul F.fills_int_mul F.slot_int_rmul repeat_tuple F.slot_int_index.lookup
      (call_meets F.slot_int_rmul (typeIs_int s k t) F.entry_int_rmul (F.args_int_rmul_2 _ _) (int_rmul_tuple k t l its.toArray n dd sl)
        ⟨ho, rfl, ⟨_, ho, rfl⟩, call_meets F.slot_tuple_mul ⟨_, ho, rfl⟩ F.entry_tuple_mul (F.args_tuple_mul_2 _ _) (tuple_mulSame l its.toArray n dd sl k t c0 c1) ⟨ho, ⟨.ref l, H, I, rfl, q1 hsame⟩⟩⟩)
  · have hk0 : k = 0 := by
      have : ¬ 2 ≤ k := fun e => hk ⟨hsame, e⟩
      have : k ≠ 1 := fun e => hsame (Or.inr e)
      omega
    subst hk0
    have hn : its ≠ [] := fun e => hsame (Or.inl (by
      rw [e] at hle
      exact List.eq_nil_of_length_eq_zero hle.symm))
    have hi : its.toArray.isEmpty = false := by
      cases its with
      | nil => exact absurd rfl hn
      | cons a b => rfl
    refine wpAny_binaryOp_repeat_ref (T := "tuple") (U := "int") (by decide) ⟨_, ho, rfl⟩ (fun s' => typeIs_int s' 0 t) noFill_tuple_mul F.fills_int_mul F.slot_int_rmul repeat_tuple F.slot_int_index.lookup
      (call_meets F.slot_int_rmul (typeIs_int s 0 t) F.entry_int_rmul (F.args_int_rmul_2 _ _) (int_rmul_tuple 0 t l its.toArray n dd sl)
        ⟨ho, rfl, ⟨_, ho, rfl⟩, call_meets F.slot_tuple_mul ⟨_, ho, rfl⟩ F.entry_tuple_mul (F.args_tuple_mul_2 _ _) (tuple_mulNone l its.toArray n dd sl 0 t c0 (by rw [hi]; rfl) (by rfl)) ⟨ho, ?_⟩⟩)
    refine ⟨.ref s.heap.objs.size, _, I.laid (t' := s.toks) (o := .tup []) (fun b ob q => Heap.get?_push_of_some _ q) (Nat.le_refl _) ?_, rfl, q2 hsame _ (I.hok.fresh (Nat.le_refl _))⟩
    exact ⟨by rw [sizeLine_eq]; exact Nat.zero_le _, _, .nil, IsTup.new _ _⟩
end
end L2
end
section
set_option Elab.async false
set_option linter.all false
set_option maxRecDepth 100000
set_option autoImplicit false
set_option maxHeartbeats 1000000
namespace RS
open PySem L2
/-- what an operator hands on -/
def Give (K : PySem.W.Frag) (aS : Addr) (O : Addr → Prop) (H : Hp) (r : Rs) (Q : VK) : Prop := match r with
  | .sh d => (∀ v, Rep K aS O H d v → Q v H) ∧ (∀ ds p xs, d = .tup ds → H p = none → Reps K aS O H ds xs → Q (.ref p) (upd H p (.tup xs)))
  | .fr d => ∀ ds p xs, d = .lst ds → H p = none → Reps K aS O H ds xs → Q (.ref p) (upd H p (.lst xs))
  | .bo _ _ => False
theorem lim_line : LIM ≤ sizeLine := by rw [sizeLine_eq]; decide
section
variable {K : PySem.W.Frag} {aS : Addr} {O : Addr → Prop} {H : Hp} {Q : VK}
theorem Give.int {i : Int} (g : Give K aS O H (.sh (.int i)) Q) : Q (.int i) H := g.1 _ Rep.int'
theorem Give.bl {b : Bool} (g : Give K aS O H (.sh (.bl b)) Q) : Q (.bl b) H := g.1 _ Rep.bl'
end

/-! ## binary operators -/
def bopOf : BOp → Operator
  | .add => .Add | .sub => .Sub | .mul => .Mult | .fdiv => .FloorDiv | .mod => .Mod | .pow => .Pow
def rBin (K : PySem.W.Frag) (o : BOp) : R2 := fun x y H Q => ∃ aS O d e r, Tv K aS O H d x ∧ Tv K aS O H e y ∧ binF o d e = some r ∧ Give K aS O H r Q
theorem log2_of_lt {n k : Nat} (hk : 0 < k) (h : n < 2 ^ k) : n.log2 < k := by
  by_cases h0 : n = 0
  · subst h0; simpa using hk
  · exact (Nat.log2_lt h0).mpr h
theorem fits_log {i : Int} (h : fitsI i = true) : i.natAbs.log2 < 8000 := log2_of_lt (by decide) (of_decide_eq_true h)
section
variable {X : Cx}
theorem op_fdivD : OpR X (binaryOp .FloorDiv) (rI (fun _ j => j ≠ 0 ∧ j.natAbs.log2 < 9000) fun i j => .int (i.fdiv j)) :=
  opI fun _ _ _ _ _ _ _ hc q => PyProof.Rows.floordiv_int hc.1 q (.inl (PyProof.noPylong_of_log2 hc.2))
theorem op_bin (o : BOp) : OpR X (binaryOp (bopOf o)) (rBin X.K o) := by
  intro pins s σ H x y v u Q I rx ry ⟨aS, O, d, e, r, hd, he, hb, g⟩
  cases o
  · cases d <;> cases e <;> simp [binF] at hb
    · subst hb
      rw [hd.int] at rx; rw [he.int] at ry
      exact op_add pins s σ H _ _ v u Q I rx ry ⟨_, _, rfl, rfl, g.int⟩
    · obtain ⟨hl, hb⟩ := hb
      subst hb
      obtain ⟨a, xs, rfl, ha, ta⟩ := hd.tup
      obtain ⟨b, ys, rfl, hb, tb⟩ := he.tup
      refine op_catA pins s σ H _ _ v u Q I rx ry ⟨a, b, xs, ys, rfl, rfl, ha, hb, ?_, fun e => ?_, fun _ e => ?_, fun _ _ p hp => g.2 _ p _ rfl hp (ta.append tb)⟩
      · rw [ta.length, tb.length]; exact Nat.le_trans hl lim_line
      · subst e
        have := ta.length
        have e2 := List.length_eq_zero_iff.mp this.symm
        subst e2
        exact g.1 _ (by simpa using (show Rep X.K aS O H (.tup _) _ from he))
      · subst e
        have := tb.length
        have e2 := List.length_eq_zero_iff.mp this.symm
        subst e2
        exact g.1 _ (by simpa using (show Rep X.K aS O H (.tup _) _ from hd))
    · obtain ⟨hl, hb⟩ := hb
      subst hb
      obtain ⟨a, xs, rfl, ha, ta⟩ := hd.lst
      obtain ⟨b, ys, rfl, hb, tb⟩ := he.lst
      refine op_cat pins s σ H _ _ v u Q I rx ry ⟨a, b, xs, ys, rfl, rfl, ha, hb, ?_, fun p hp => g _ p _ rfl hp (ta.append tb)⟩
      rw [ta.length, tb.length]; exact Nat.le_trans hl lim_line
  · cases d <;> cases e <;> simp [binF] at hb
    subst hb
    rw [hd.int] at rx; rw [he.int] at ry
    exact op_sub pins s σ H _ _ v u Q I rx ry ⟨_, _, rfl, rfl, g.int⟩
  · cases d <;> cases e <;> simp [binF] at hb
    · obtain ⟨⟨h1, h2⟩, hb⟩ := hb
      subst hb
      rw [hd.int] at rx; rw [he.int] at ry
      refine op_mulW pins s σ H _ _ v u Q I rx ry ⟨_, _, rfl, rfl, ?_, g.int⟩
      have := fits_log h1; have := fits_log h2
      unfold CMulW; omega
    · obtain ⟨⟨h1, h2, h3⟩, hb⟩ := hb
      subst hb
      obtain ⟨a, xs, rfl, ha, ta⟩ := hd.tup
      rw [he.int] at ry
      refine op_repTA pins s σ H _ _ v u Q I rx ry ⟨a, _, xs, rfl, rfl, ha, h1, h2, by rw [ta.length]; exact h3, fun e => ?_, fun _ p hp => g.2 _ p _ rfl hp (ta.replicate _)⟩
      rcases e with e | e
      · subst e
        have e2 := List.length_eq_zero_iff.mp ta.length.symm
        subst e2
        exact g.1 _ (by simpa using (show Rep X.K aS O H (.tup _) _ from hd))
      · subst e
        exact g.1 _ (by simpa using (show Rep X.K aS O H (.tup _) _ from hd))
    · obtain ⟨⟨h1, h2, h3⟩, hb⟩ := hb
      subst hb
      obtain ⟨a, xs, rfl, ha, ta⟩ := hd.lst
      rw [he.int] at ry
      refine op_rep pins s σ H _ _ v u Q I rx ry ⟨a, _, xs, rfl, rfl, ha, by omega, by omega, ?_, fun p hp => g _ p _ rfl hp (ta.replicate _)⟩
      rw [ta.length, sizeLine_eq]
      have h4 : (_ : Int).toNat ≤ 1000 := Int.toNat_le.mpr h2
      exact Nat.le_trans (Nat.mul_le_mul h3 h4) (by decide)
  · cases d <;> cases e <;> simp [binF] at hb
    obtain ⟨⟨h1, h2⟩, hb⟩ := hb
    subst hb
    rw [hd.int] at rx; rw [he.int] at ry
    exact op_fdivD pins s σ H _ _ v u Q I rx ry ⟨_, _, rfl, rfl, ⟨h1, Nat.lt_trans (fits_log h2) (by decide)⟩, g.int⟩
  · cases d <;> cases e <;> simp [binF] at hb
    obtain ⟨h1, hb⟩ := hb
    subst hb
    rw [hd.int] at rx; rw [he.int] at ry
    exact op_modN pins s σ H _ _ v u Q I rx ry ⟨_, _, rfl, rfl, h1, g.int⟩
  · cases d <;> cases e <;> simp [binF] at hb
    obtain ⟨⟨h1, h2, h3⟩, hb⟩ := hb
    subst hb
    rw [hd.int] at rx; rw [he.int] at ry
    exact op_pow pins s σ H _ _ v u Q I rx ry ⟨_, _, rfl, rfl, ⟨h1, by omega, h3⟩, g.int⟩

end

/-! ## comparisons -/
def copOf : COp → CmpOp
  | .eq => .Eq | .ne => .NotEq | .lt => .Lt | .le => .LtE | .gt => .Gt | .ge => .GtE | .is => .Is | .isnot => .IsNot | .inn => .In | .nin => .NotIn
def rCmp (K : PySem.W.Frag) (o : COp) : R2 := fun x y H Q => ∃ aS O d e b, Tv K aS O H d x ∧ Tv K aS O H e y ∧ cmpF o d e = some b ∧ Q (.bl b) H
theorem Tv.isNon {K : PySem.W.Frag} {aS : Addr} {O : Addr → Prop} {H : Hp} {d : D} {v : V} (h : Tv K aS O H d v) : decide (v = .non) = d.isNon := by
  cases d
  · rw [h.non]; rfl
  · rw [h.bl]; rfl
  · rw [h.int]; rfl
  · rw [h.str]; rfl
  · obtain ⟨a, xs, rfl, _⟩ := h.tup; rfl
  · obtain ⟨a, xs, rfl, _⟩ := h.lst; rfl
  · exact h.dct.elim
  · rw [h.st]; rfl
theorem any_eqv (n m : Nat) (l : List D) (a : D) (h1 : D.deeps n l = true) (h2 : D.deep m a = true) : ((D.pys l).any fun y => PyData.eqv y a.py) = l.any fun z => D.eqv z a := by
  induction l with
  | nil => rfl
  | cons x xs ih =>
    simp [D.deeps] at h1
    rw [D.pys, List.any_cons, List.any_cons, ih h1.2, eqv_py n m x a h1.1 h2]
theorem lst_deep {l : List D} (h : D.deeps DEEP l = true) : D.deep (DEEP + 1) (.lst l) = true := by rw [D.deep]; exact h
theorem tup_deep {l : List D} (h : D.deeps DEEP l = true) : D.deep (DEEP + 1) (.tup l) = true := by rw [D.deep]; exact h
theorem bothInt_some {d e : D} {p : Int × Int} (h : bothInt d e = some p) : d = .int p.1 ∧ e = .int p.2 := by
  unfold bothInt at h
  split at h
  · cases h; exact ⟨rfl, rfl⟩
  · cases h
theorem isNon_eq {d : D} (h : d.isNon = true) : d = .non := by cases d <;> first | rfl | cases h
theorem bl_some {d : D} {b : Bool} (h : d.bl? = some b) : d = .bl b := by cases d <;> first | (cases h; rfl) | cases h
theorem items_some {d : D} {l : List D} (h : d.items = some l) : d = .tup l ∨ d = .lst l := by
  cases d <;> first | (cases h; simp; done) | cases h
theorem b2 {a b : Bool} {x y : D} (h : (if (a && b) = true then some x else none) = some y) : a = true ∧ b = true ∧ x = y := by
  split at h
  · rename_i q; rw [Bool.and_eq_true] at q; exact ⟨q.1, q.2, Option.some.inj h⟩
  · cases h
section
variable {X : Cx}
theorem op_ord (hu : X.A.units + 64 < cLine) (o : COp) (f : Int → Int → Bool) (g : D → D → Bool) (hc : ∀ a b, cmpF o a b = ordF f g a b)
    (hi : OpR X (compareOp (copOf o)) (rI0 fun i j => .bl (f i j)))
    (hg : ∀ {s : Shared} {v u : Value} {d e : D} {as bs : List Addr} {Q : Value → Shared → Prop}, Reads s.heap v d.py as → Reads s.heap u e.py bs → D.alike d e = true → D.deep DEEP d = true → D.deep DEEP e = true →
      X.A.units + min d.py.depth e.py.depth < cLine → Q (.bool (g d e)) s → wpAny (model X.prog X.w) X.A (compareOp (copOf o) v u) Q X.xe s) : OpR X (compareOp (copOf o)) (rCmp X.K o) := by
  intro pins s σ H x y v u Q I rx ry ⟨aS, O, d, e, b, hd, he, hb, q⟩
  have hb0 := hb
  rw [hc] at hb
  unfold ordF at hb
  split at hb
  · rename_i i j hij
    obtain ⟨rfl, rfl⟩ := bothInt_some hij
    cases hb
    rw [hd.int] at rx; rw [he.int] at ry
    exact hi pins s σ H _ _ v u Q I rx ry ⟨_, _, rfl, rfl, q⟩
  · split at hb
    · rename_i h
      rw [Bool.and_eq_true, Bool.and_eq_true] at h
      cases hb
      obtain ⟨as, r1⟩ := Dp.reads I _ x v (hd.dp h.1.2) rx
      obtain ⟨bs, r2⟩ := Dp.reads I _ y u (he.dp h.2) ry
      have h3 := deep_depth _ _ h.1.2
      have : DEEP = 60 := rfl
      exact hg r1 r2 h.1.1 h.1.2 h.2 (by omega) ⟨.bl _, H, I, rfl, q⟩
    · cases hb
theorem op_cmp (hu : X.A.units + 64 < cLine) (o : COp) : OpR X (compareOp (copOf o)) (rCmp X.K o) := by
  have reads : ∀ {pins s σ H x y v u aS O} {d e : D}, Inv X pins σ H s → RelV x v → RelV y u → D.deep DEEP d = true → D.deep DEEP e = true → Tv X.K aS O H d x → Tv X.K aS O H e y → ∃ as bs, Reads s.heap v d.py as ∧ Reads s.heap u e.py bs ∧ X.A.units + min d.py.depth e.py.depth < cLine := by
    intro pins s σ H x y v u aS O d e I rx ry h1 h2 t1 t2
    obtain ⟨as, r1⟩ := Dp.reads I _ x v (t1.dp h1) rx
    obtain ⟨bs, r2⟩ := Dp.reads I _ y u (t2.dp h2) ry
    have h3 := deep_depth _ _ h1
    have : DEEP = 60 := rfl
    exact ⟨as, bs, r1, r2, by omega⟩
  have isC : ∀ (op : CmpOp) (neg : Bool), OpR X (compareOp op) (fun x y H Q => y = .non ∧ Q (.bl (if neg then !decide (x = .non) else decide (x = .non))) H) →
      OpR X (compareOp op) (fun x y H Q => ∃ a b : Bool, x = .bl a ∧ y = .bl b ∧ Q (.bl (if neg then !decide (a = b) else decide (a = b))) H) →
      OpR X (compareOp op) (fun x y H Q => ∃ aS O d e b, Tv X.K aS O H d x ∧ Tv X.K aS O H e y ∧ isF d e = some b ∧ Q (.bl (if neg then !b else b)) H) := by
    intro op neg h1 h2 pins s σ H x y v u Q I rx ry ⟨aS, O, d, e, b, hd, he, hb, q⟩
    unfold isF at hb
    split at hb
    · rename_i hn
      cases hb
      have e2 := isNon_eq hn
      subst e2
      have e3 := he.non
      refine h1 pins s σ H x y v u Q I rx ry ⟨e3, ?_⟩
      rw [hd.isNon]; exact q
    · split at hb
      · rename_i a b' ha hb'
        cases hb
        rw [bl_some ha] at hd
        rw [bl_some hb'] at he
        refine h2 pins s σ H x y v u Q I rx ry ⟨a, b', hd.bl, he.bl, ?_⟩
        rw [← Bool.beq_eq_decide_eq]; exact q
      · cases hb
  cases o
  · intro pins s σ H x y v u Q I rx ry ⟨aS, O, d, e, b, hd, he, hb, q⟩
    have hb : eqF d e = some b := hb
    unfold eqF at hb
    split at hb
    · rename_i h
      rw [Bool.and_eq_true] at h
      obtain ⟨as, bs, r1, r2, hz⟩ := reads I rx ry h.1 h.2 hd he
      refine SeqAt.eq_plain r1 r2 (deep_plain _ _ h.1) (deep_plain _ _ h.2) hz ⟨.bl b, H, I, ?_, q⟩
      rw [eqv_py _ _ _ _ h.1 h.2]; cases hb; rfl
    · cases hb
  · intro pins s σ H x y v u Q I rx ry ⟨aS, O, d, e, b, hd, he, hb, q⟩
    have hb : (eqF d e).map (!·) = some b := hb
    unfold eqF at hb
    split at hb
    · rename_i h
      rw [Bool.and_eq_true] at h
      obtain ⟨as, bs, r1, r2, hz⟩ := reads I rx ry h.1 h.2 hd he
      refine SeqAt.ne_plain r1 r2 (deep_plain _ _ h.1) (deep_plain _ _ h.2) hz ⟨.bl b, H, I, ?_, q⟩
      rw [eqv_py _ _ _ _ h.1 h.2]; cases hb; rfl
    · cases hb
  · exact op_ord hu .lt _ _ (fun _ _ => rfl) op_lt fun r1 r2 ha h1 h2 hz q => PySem.W.lt_data r1 r2 (alike_py _ _ ha) (alike_ne _ _ ha) hz (by rw [lt_py _ _ _ _ ha h1 h2]; exact q)
  · exact op_ord hu .le _ _ (fun _ _ => rfl) op_le fun r1 r2 ha h1 h2 hz q => PySem.W.le_data r1 r2 (alike_py _ _ ha) (alike_ne _ _ ha) hz (by rw [lt_py _ _ _ _ (alike_symm _ _ ha) h2 h1]; exact q)
  · exact op_ord hu .gt _ _ (fun _ _ => rfl) op_gt fun r1 r2 ha h1 h2 hz q => PySem.W.gt_data r1 r2 (alike_py _ _ ha) (alike_ne _ _ ha) hz (by rw [lt_py _ _ _ _ (alike_symm _ _ ha) h2 h1]; exact q)
  · exact op_ord hu .ge _ _ (fun _ _ => rfl) op_ge fun r1 r2 ha h1 h2 hz q => PySem.W.ge_data r1 r2 (alike_py _ _ ha) (alike_ne _ _ ha) hz (by rw [lt_py _ _ _ _ ha h1 h2]; exact q)
  · exact isC .Is false op_isN op_isBl
  · intro pins s σ H x y v u Q I rx ry ⟨aS, O, d, e, b, hd, he, hb, q⟩
    have hb : (isF d e).map (!·) = some b := hb
    cases hi : isF d e with
    | none => rw [hi] at hb; cases hb
    | some c =>
      rw [hi] at hb; cases hb
      exact isC .IsNot true op_notN op_notBl pins s σ H x y v u Q I rx ry ⟨aS, O, d, e, c, hd, he, hi, q⟩
  · intro pins s σ H x y v u Q I rx ry ⟨aS, O, d, e, b, hd, he, hb, q⟩
    have hb : inF d e = some b := hb
    unfold inF at hb
    split at hb
    · rename_i l hl
      split at hb
      · rename_i h
        rw [Bool.and_eq_true] at h
        cases hb
        have h3 := deep_depth _ _ h.1; have h4 : DEEP = 60 := rfl
        obtain ⟨as, r1⟩ := Dp.reads I _ x v (hd.dp h.1) rx
        rcases items_some hl with z | z <;> subst z
        · obtain ⟨bs, r2⟩ := Dp.reads I _ y u (he.dp (tup_deep h.2)) ry
          rw [D.py] at r2
          refine SeqAt.in_tuple_data r2 r1 (deeps_plain _ _ h.2) (deep_plain _ _ h.1) (by omega) ⟨.bl _, H, I, ?_, q⟩
          rw [any_eqv _ _ _ _ h.2 h.1]; rfl
        · obtain ⟨bs, r2⟩ := Dp.reads I _ y u (he.dp (lst_deep h.2)) ry
          rw [D.py] at r2
          refine SeqAt.in_list_data r2 r1 (deeps_plain _ _ h.2) (deep_plain _ _ h.1) (by omega) ⟨.bl _, H, I, ?_, q⟩
          rw [any_eqv _ _ _ _ h.2 h.1]; rfl
      · cases hb
    · cases hb
  · intro pins s σ H x y v u Q I rx ry ⟨aS, O, d, e, b, hd, he, hb, q⟩
    have hb : (inF d e).map (!·) = some b := hb
    unfold inF at hb
    split at hb
    · rename_i l hl
      split at hb
      · rename_i h
        rw [Bool.and_eq_true] at h
        cases hb
        have h3 := deep_depth _ _ h.1; have h4 : DEEP = 60 := rfl
        obtain ⟨as, r1⟩ := Dp.reads I _ x v (hd.dp h.1) rx
        rcases items_some hl with z | z <;> subst z
        · obtain ⟨bs, r2⟩ := Dp.reads I _ y u (he.dp (tup_deep h.2)) ry
          rw [D.py] at r2
          refine SeqAt.notIn_tuple_data r2 r1 (deeps_plain _ _ h.2) (deep_plain _ _ h.1) (by omega) ⟨.bl _, H, I, ?_, q⟩
          rw [any_eqv _ _ _ _ h.2 h.1]; rfl
        · obtain ⟨bs, r2⟩ := Dp.reads I _ y u (he.dp (lst_deep h.2)) ry
          rw [D.py] at r2
          refine SeqAt.notIn_list_data r2 r1 (deeps_plain _ _ h.2) (deep_plain _ _ h.1) (by omega) ⟨.bl _, H, I, ?_, q⟩
          rw [any_eqv _ _ _ _ h.2 h.1]; rfl
      · cases hb
    · cases hb
end
end RS
end
section
set_option Elab.async false
set_option linter.all false
set_option maxRecDepth 100000
set_option autoImplicit false
set_option maxHeartbeats 1000000
namespace RS
open PySem L2
open PyProof.Rows (IntsAre)
section
variable {K : PySem.W.Frag} {aS : Addr} {O : Addr → Prop} {H : Hp}
theorem intsOf_reps : ∀ {l : List D} {ns : List Int} {xs : List V}, intsOf l = some ns → Reps K aS O H l xs → xs = ns.map V.int
  | [], _, _, h, r => by rw [Reps] at r; cases h; exact r
  | d :: l, ns, xs, h, r => by
    rw [Reps] at r
    obtain ⟨v, vs, rfl, rv, t⟩ := r
    cases d <;> first | cases h | skip
    simp only [intsOf, Option.map_eq_some_iff] at h
    obtain ⟨ms, h1, rfl⟩ := h
    rw [Rep] at rv
    rw [rv, intsOf_reps h1 t]; rfl
end
section
variable (K : PySem.W.Frag) (aS : Addr) (O : Addr → Prop) (H : Hp)
def Tvs : List D → List V → Prop
  | [], vs => vs = []
  | d :: ds, vs => ∃ x xs, vs = x :: xs ∧ Tv K aS O H d x ∧ Tvs ds xs
end
theorem ints_read {h : Heap} : ∀ {its : List Value} {ns : List Int}, IntsAre its ns → ∃ as, ReadsAll h its (ns.map PyData.int) as
  | _, _, .nil => ⟨_, .nil⟩
  | _, _, .cons n t h => by
    obtain ⟨as, r⟩ := ints_read h
    exact ⟨_, .cons (.int n t) r⟩
theorem ints_alike (ns : List Int) : PySem.W.AlikeAll (ns.map PyData.int) :=
  ⟨fun x hx y hy => by
    obtain ⟨a, _, rfl⟩ := List.mem_map.mp hx
    obtain ⟨b, _, rfl⟩ := List.mem_map.mp hy
    rfl, fun x hx => by
    obtain ⟨a, _, rfl⟩ := List.mem_map.mp hx
    intro z; cases z⟩
theorem ints_depth : ∀ ns : List Int, PyData.depthAll (ns.map PyData.int) = 0
  | [] => by simp [PyData.depthAll]
  | n :: ns => by simp [PyData.depthAll, PyData.depth, ints_depth ns]
/-! ## subscripts -/
def rIdx (K : PySem.W.Frag) : R2 := fun x y H Q => ∃ aS O d e r, Tv K aS O H d x ∧ Tv K aS O H e y ∧ idxF d e = some r ∧ ∀ v, Rep K aS O H r v → Q v H
section
variable {X : Cx}
theorem ix_idx : IxR X (rIdx X.K) := by
  intro value slice pins s σ H x y v u Q I rx ry ⟨aS, O, d, e, r, hd, he, hb, q⟩ hs
  cases e <;> first | (cases d <;> cases hb; done) | skip
  rename_i i
  have e2 := he.int; subst e2
  have main : ∀ {l : List D} {xs : List V}, Reps X.K aS O H l xs → ((ixOf l.length i).bind fun j => l[j]?) = some r → ∃ w, atI xs i = some w ∧ Rep X.K aS O H r w := by
    intro l xs t h
    rw [Option.bind_eq_some_iff] at h
    obtain ⟨j, h1, h2⟩ := h
    obtain ⟨w, h3, h4⟩ := t.get h2
    refine ⟨w, ?_, h4⟩
    unfold atI
    rw [t.length]
    show (ixOf l.length i).bind _ = _
    rw [h1]; exact h3
  cases d <;> first | cases hb | skip
  · obtain ⟨a, xs, rfl, ha, t⟩ := hd.tup
    obtain ⟨w, h1, h2⟩ := main t hb
    exact ix_seq value slice pins s σ H _ _ v u Q I rx ry (.inr (.inl ⟨a, xs, i, w, rfl, rfl, ha, h1, q w h2⟩)) hs
  · obtain ⟨a, xs, rfl, ha, t⟩ := hd.lst
    obtain ⟨w, h1, h2⟩ := main t hb
    exact ix_seq value slice pins s σ H _ _ v u Q I rx ry (.inl ⟨a, xs, i, w, rfl, rfl, SqL.of ha, h1, q w h2⟩) hs
theorem sIx_end (n d : Nat) (o : Option Int) : HT.sIx n d o = endOf n d o := by
  cases o with
  | none => rfl
  | some v =>
    unfold HT.sIx endOf
    rfl
def rSlc (K : PySem.W.Frag) : V → Option Int → Option Int → Hp → VK → Prop := fun x lo hi H Q => ∃ aS O d r, Tv K aS O H d x ∧ slcF d lo hi = some r ∧ Give K aS O H r Q
theorem cut_reps {aS : Addr} {O : Addr → Prop} {H : Hp} {l : List D} {xs : List V} (t : Reps X.K aS O H l xs) (lo hi : Option Int) : Reps X.K aS O H (cut l lo hi) (cutV xs lo hi) := by
  unfold cut cutV
  rw [t.length, sIx_end, sIx_end]
  exact (t.drop _).take _
theorem sl_slc : SlR X (rSlc X.K) := by
  intro pins s σ H x v vl vu lo hi sl Q I rx hs pl pu ⟨aS, O, d, r, hd, hb, g⟩
  cases d <;> first | cases hb | skip
  · obtain ⟨a, xs, rfl, ha, t⟩ := hd.tup
    refine sl_tupA pins s σ H _ v vl vu lo hi sl Q I rx hs pl pu ⟨a, xs, rfl, ha, fun h => ?_, fun _ p hp => g.2 _ p _ rfl hp (cut_reps t lo hi)⟩
    refine g.1 _ ?_
    rw [t.length, sIx_end, sIx_end] at h
    unfold cut
    rw [h.1, h.2]
    simpa using (show Rep X.K aS O H (.tup _) _ from hd)
  · obtain ⟨a, xs, rfl, ha, t⟩ := hd.lst
    exact sl_list pins s σ H _ v vl vu lo hi sl Q I rx hs pl pu ⟨a, xs, rfl, SqL.of ha, fun p hp => g _ p _ rfl hp (cut_reps t lo hi)⟩

/-! ## built-ins -/
def rPrim (K : PySem.W.Frag) (p : Prim) : List V → Hp → VK → Prop := fun vs H Q => ∃ aS O ds r, Tvs K aS O H ds vs ∧ primF p ds = some r ∧ Give K aS O H r Q
theorem tvs1 {K : PySem.W.Frag} {aS : Addr} {O : Addr → Prop} {H : Hp} {d : D} {vs : List V} (h : Tvs K aS O H [d] vs) : ∃ x, vs = [x] ∧ Tv K aS O H d x := by
  obtain ⟨x, xs, rfl, h1, h2⟩ := h
  rw [show xs = [] from h2]
  exact ⟨x, rfl, h1⟩
theorem tvs2 {K : PySem.W.Frag} {aS : Addr} {O : Addr → Prop} {H : Hp} {d e : D} {vs : List V} (h : Tvs K aS O H [d, e] vs) : ∃ x y, vs = [x, y] ∧ Tv K aS O H d x ∧ Tv K aS O H e y := by
  obtain ⟨x, xs, rfl, h1, h2⟩ := h
  obtain ⟨y, rfl, h3⟩ := tvs1 h2
  exact ⟨x, y, rfl, h1, h3⟩
/-- a sequence at hand: a list or a tuple -/
theorem Tv.seq {K : PySem.W.Frag} {aS : Addr} {O : Addr → Prop} {H : Hp} {d : D} {l : List D} {x : V} (h : Tv K aS O H d x) (e : d.items = some l) : ∃ a xs, x = .ref a ∧ Reps K aS O H l xs ∧ ((d = .tup l ∧ SqT K H a xs) ∨ (d = .lst l ∧ H a = some (.lst xs))) := by
  rcases items_some e with z | z <;> subst z
  · obtain ⟨a, xs, e1, e2, t⟩ := h.tup
    exact ⟨a, xs, e1, t, .inl ⟨rfl, e2⟩⟩
  · obtain ⟨a, xs, e1, e2, t⟩ := h.lst
    exact ⟨a, xs, e1, t, .inr ⟨rfl, e2⟩⟩
theorem pr_len : CallR X (.builtin "len") (rPrim X.K .len) := by
  intro pins s σ H xs us Q I r ⟨aS, O, ds, rr, ht, hb, g⟩
  have hb : lenF ds = some rr := hb
  unfold lenF at hb
  split at hb <;> first | (cases hb; done) | skip
  · obtain ⟨x, rfl, t⟩ := tvs1 ht
    cases hb
    obtain ⟨a, ys, rfl, ha, t⟩ := t.tup
    have := g.int
    rw [← t.length] at this
    exact call_len_seq pins s σ H _ us Q I r ⟨a, ys, rfl, .inr ha, this⟩
  · obtain ⟨x, rfl, t⟩ := tvs1 ht
    cases hb
    obtain ⟨a, ys, rfl, ha, t⟩ := t.lst
    have := g.int
    rw [← t.length] at this
    exact call_len_seq pins s σ H _ us Q I r ⟨a, ys, rfl, .inl (SqL.of ha), this⟩
theorem pr_tuple : CallR X (.type "tuple") (rPrim X.K .tuple) := by
  intro pins s σ H xs us Q I r ⟨aS, O, ds, rr, ht, hb, g⟩
  have hb : tupleF ds = some rr := hb
  unfold tupleF at hb
  split at hb <;> first | (cases hb; done) | skip
  · obtain ⟨x, rfl, t⟩ := tvs1 ht
    cases hb
    have t0 := t
    obtain ⟨a, ys, rfl, ha, t⟩ := t.tup
    exact call_tuple_of pins s σ H _ us Q I r ⟨a, ys, rfl, .inr ⟨ha, g.1 _ t0⟩⟩
  · obtain ⟨x, rfl, t⟩ := tvs1 ht
    cases hb
    obtain ⟨a, ys, rfl, ha, t⟩ := t.lst
    exact call_tuple_of pins s σ H _ us Q I r ⟨a, ys, rfl, .inl ⟨SqL.of ha, fun p hp => g.2 _ p _ rfl hp t⟩⟩
theorem pr_list : CallR X (.type "list") (rPrim X.K .list) := by
  intro pins s σ H xs us Q I r ⟨aS, O, ds, rr, ht, hb, g⟩
  have hb : listF ds = some rr := hb
  unfold listF at hb
  split at hb <;> first | (cases hb; done) | skip
  · obtain ⟨x, rfl, t⟩ := tvs1 ht
    cases hb
    obtain ⟨a, ys, rfl, ha, t⟩ := t.tup
    exact call_list_of pins s σ H _ us Q I r ⟨a, ys, rfl, .inr ha, fun p hp => g _ p _ rfl hp t⟩
  · obtain ⟨x, rfl, t⟩ := tvs1 ht
    cases hb
    obtain ⟨a, ys, rfl, ha, t⟩ := t.lst
    exact call_list_of pins s σ H _ us Q I r ⟨a, ys, rfl, .inl (SqL.of ha), fun p hp => g _ p _ rfl hp t⟩
theorem preSum_take (ns : List Int) : ∀ n, n ≤ ns.length → PySem.preSum (fun i => ns.getD i 0) n = (ns.take n).sum
  | 0, _ => by simp [PySem.preSum]
  | n + 1, h => by
    have hn : n < ns.length := h
    rw [PySem.preSum, preSum_take ns n (by omega), List.take_succ_eq_append_getElem hn, List.getD_eq_getElem?_getD, List.getElem?_eq_getElem hn, List.sum_append, List.sum_cons, List.sum_nil]
    simp only [Option.getD_some, Int.add_zero]
theorem sum_tuple {prog : Program} {w : World} {A : Around} {E : Value → Shared → Prop} {s : Shared} {l : Addr} {its : List Value} {ns : List Int} {Q : Value → Shared → Prop} (hh : A.handled = none) (hl : s.heap.IsTuple l its.toArray) (hi : IntsAre its ns)
    (h : ∀ h' tk t', (∀ b o, s.heap.get? b = some o → h'.get? b = some o) → Q (.int ns.sum t') { s with heap := h', toks := tk }) : wpAny (model prog w) A (call (.builtin "sum") [.ref l]) Q E s := by
  have hlt : l < s.heap.objs.size := by obtain ⟨_, e, _⟩ := hl; exact Heap.lt_size e
  refine call_sum_walkG (wpAny_pyIter_tuple hl ?_)
  refine ⟨_, _, _, _, _, _, fun i => ns.getD i 0, rfl, Walks.tuple (A := A.in1) hh _ l (Nat.ne_of_lt hlt) its.toArray, ⟨⟨_, Heap.get?_push_size _ rfl, rfl, rfl⟩, hl.push _⟩, fun b hb => ?_, fun i v hv => ?_, fun h' tk t' hk => ?_⟩
  · show b < (s.heap.push _).objs.size
    rw [Heap.size_push]
    rcases List.mem_cons.mp hb with e | hb
    · subst e; exact Nat.lt_succ_self _
    · rw [List.mem_singleton.mp hb]; exact Nat.lt_succ_of_lt hlt
  · have hv : its[i]? = some v := by simpa using hv
    have : ∀ {its : List Value} {ns : List Int} {i : Nat} {v : Value}, IntsAre its ns → its[i]? = some v → ∃ t, v = .int (ns.getD i 0) t := by
      intro its ns i v hi
      induction hi generalizing i with
      | nil => intro e; simp at e
      | cons n t h ih =>
        intro e
        cases i with
        | zero => simp at e; exact ⟨_, by rw [← e]; rfl⟩
        | succ i => simp at e; simpa using ih e
    exact this hi hv
  · have h1 := hi.length
    have := h h' tk t' fun b o e => hk b o (by simp; exact Nat.ne_of_lt (Heap.lt_size e)) (Heap.get?_push_of_some _ e)
    rw [show its.toArray.size = ns.length by rw [List.size_toArray, h1], preSum_take ns _ (Nat.le_refl _), List.take_length]
    exact this
theorem pr_sum (hc : X.calm = true) : CallR X (.builtin "sum") (rPrim X.K .sum) := by
  intro pins s σ H xs us Q I r ⟨aS, O, ds, rr, ht, hb, g⟩
  have hb : seqInts (fun ns => some ns.sum) ds = some rr := hb
  unfold seqInts at hb
  split at hb <;> first | (cases hb; done) | skip
  · obtain ⟨x, rfl, t⟩ := tvs1 ht
    obtain ⟨a, ys, rfl, ha, t⟩ := t.tup
    rw [Option.map_eq_some_iff] at hb
    obtain ⟨n, hn, rfl⟩ := hb
    rw [Option.bind_eq_some_iff] at hn
    obtain ⟨ns, h1, h2⟩ := hn
    cases h2
    have e := intsOf_reps h1 t
    subst e
    obtain ⟨its, rv, ht, _⟩ := I.tuple ha
    rw [Vals.ref1 r]
    exact sum_tuple (I.ok.hd hc) (show s.heap.IsTuple a its.toArray from ht) rv.ints fun h' tk t' hk => ⟨.int _, H, I.kept hk, ⟨_, rfl⟩, g.int⟩
  · obtain ⟨x, rfl, t⟩ := tvs1 ht
    obtain ⟨a, ys, rfl, ha, t⟩ := t.lst
    rw [Option.map_eq_some_iff] at hb
    obtain ⟨n, hn, rfl⟩ := hb
    rw [Option.bind_eq_some_iff] at hn
    obtain ⟨ns, h1, h2⟩ := hn
    cases h2
    have e := intsOf_reps h1 t
    subst e
    exact cr_sum hc pins s σ H _ us Q I r ⟨a, ns, rfl, SqL.of ha, g.int⟩
theorem pr_abs : CallR X (.builtin "abs") (rPrim X.K .abs) := by
  intro pins s σ H xs us Q I r ⟨aS, O, ds, rr, ht, hb, g⟩
  have hb : int1 (fun i => if i < 0 then -i else i) ds = some rr := hb
  unfold int1 at hb
  split at hb <;> first | (cases hb; done) | skip
  obtain ⟨x, rfl, t⟩ := tvs1 ht
  cases hb
  rw [t.int] at r
  exact call_abs pins s σ H _ us Q I r ⟨_, rfl, g.int⟩
theorem pr_int : CallR X (.type "int") (rPrim X.K .int) := by
  intro pins s σ H xs us Q I r ⟨aS, O, ds, rr, ht, hb, g⟩
  have hb : int1 (fun i => i) ds = some rr := hb
  unfold int1 at hb
  split at hb <;> first | (cases hb; done) | skip
  obtain ⟨x, rfl, t⟩ := tvs1 ht
  cases hb
  rw [t.int] at r
  exact call_int1 pins s σ H _ us Q I r (.inl ⟨_, rfl, g.int⟩)
theorem pr_gcd : CallR X (.builtin "math.gcd") (rPrim X.K .gcd) := by
  intro pins s σ H xs us Q I r ⟨aS, O, ds, rr, ht, hb, g⟩
  have hb : gcdF ds = some rr := hb
  unfold gcdF at hb
  split at hb <;> first | (cases hb; done) | skip
  obtain ⟨x, y, rfl, t1, t2⟩ := tvs2 ht
  cases hb
  rw [t1.int, t2.int] at r
  exact cr_gcd pins s σ H _ us Q I r ⟨_, _, rfl, g.int⟩
def D.tyName : D → String
  | .non => "NoneType" | .bl _ => "bool" | .int _ => "int" | .str _ => "str" | .tup _ => "tuple" | .lst _ => "list" | _ => ""
/-- the type of a value at hand -/
theorem Tv.ty {aS : Addr} {O : Addr → Prop} {H : Hp} {d : D} {x : V} (h : Tv X.K aS O H d x) (hS : d ≠ .st) : ∃ T : String, TyX X.K H x (.type T) ∧ T = d.tyName := by
  cases d
  · rw [h.non]; exact ⟨_, .base .non, rfl⟩
  · rw [h.bl]; exact ⟨_, .base (.bl _), rfl⟩
  · rw [h.int]; exact ⟨_, .base (.int _), rfl⟩
  · rw [h.str]; exact ⟨_, .base (.str _), rfl⟩
  · obtain ⟨a, xs, rfl, ha, _⟩ := h.tup
    refine ⟨"tuple", ?_, rfl⟩
    rcases ha with (ha | ⟨o, ha⟩) | ⟨o, its, n, hk, hc, _⟩
    · exact .base (.tup ha)
    · exact .fTuple ha
    · exact .kTuple hk hc
  · obtain ⟨a, xs, rfl, ha, _⟩ := h.lst
    exact ⟨_, .base (.lst ha), rfl⟩
  · exact h.dct.elim
  · exact (hS rfl).elim
def rIs (K : PySem.W.Frag) (T : String) (f : D → Option Bool) : List V → Hp → VK → Prop := fun vs H Q => ∃ aS O d x b, vs = [x, .ty T] ∧ Tv K aS O H d x ∧ f d = some b ∧ Q (.bl b) H
theorem pr_is (T : String) (f : D → Option Bool) (hf : ∀ d b, f d = some b → d ≠ .st ∧ kitB d.tyName T = some b) :
    CallR X (.builtin "isinstance") (rIs X.K T f) := by
  intro pins s σ H xs us Q I r ⟨aS, O, d, x, b, ex, t, hb, q⟩
  subst ex
  obtain ⟨h1, h2⟩ := hf d b hb
  obtain ⟨T', ty, e⟩ := t.ty h1
  exact call_isi pins s σ H _ us Q I r ⟨x, .ty T, .type T', .type T, b, rfl, .ty T, ty, kit_ty (by rw [e]; exact h2), q⟩
theorem pr_isInt : CallR X (.builtin "isinstance") (rIs X.K "int" D.isInt) := pr_is _ _ fun d b h => by
  cases d <;> first | cases h | skip
  all_goals (refine ⟨(by intro z; cases z), ?_⟩; dsimp only [D.tyName]; decide +kernel)
theorem pr_isBool : CallR X (.builtin "isinstance") (rIs X.K "bool" D.isBool) := pr_is _ _ fun d b h => by
  cases d <;> first | cases h | skip
  all_goals (refine ⟨(by intro z; cases z), ?_⟩; dsimp only [D.tyName]; decide +kernel)
theorem pr_isTup : CallR X (.builtin "isinstance") (rIs X.K "tuple" D.isTup) := pr_is _ _ fun d b h => by
  cases d <;> first | cases h | skip
  all_goals (refine ⟨(by intro z; cases z), ?_⟩; dsimp only [D.tyName]; decide +kernel)
/-! ### the greatest, the least -/
theorem max_tuple {prog : Program} {w : World} {A : Around} {E : Value → Shared → Prop} {s : Shared} {l : Addr} {its : List Value} {n : Int} {ns : List Int} {Q : Value → Shared → Prop} (hh : A.handled = none) (hu : A.units + 64 < cLine) (hl : s.heap.IsTuple l its.toArray) (hi : IntsAre its (n :: ns))
    (h : ∀ h' tk t', (∀ b o, s.heap.get? b = some o → h'.get? b = some o) → Q (.int (ns.foldl max n) t') { s with heap := h', toks := tk }) : wpAny (model prog w) A (call (.builtin "max") [.ref l]) Q E s := by
  obtain ⟨as, hr⟩ := ints_read hi
  refine PySem.W.max_tuple_data hh hl (x := .int n) (xs := ns.map .int) (by simpa using hr) (ints_alike (n :: ns)) (by have := ints_depth (n :: ns); simp only [List.map_cons] at this; omega) fun i v h' tk bs _ r k => ?_
  rw [PySem.W.maxD_ints] at r
  cases r
  exact h h' tk _ k
theorem min_tuple {prog : Program} {w : World} {A : Around} {E : Value → Shared → Prop} {s : Shared} {l : Addr} {its : List Value} {n : Int} {ns : List Int} {Q : Value → Shared → Prop} (hh : A.handled = none) (hu : A.units + 64 < cLine) (hl : s.heap.IsTuple l its.toArray) (hi : IntsAre its (n :: ns))
    (h : ∀ h' tk t', (∀ b o, s.heap.get? b = some o → h'.get? b = some o) → Q (.int (ns.foldl min n) t') { s with heap := h', toks := tk }) : wpAny (model prog w) A (call (.builtin "min") [.ref l]) Q E s := by
  obtain ⟨as, hr⟩ := ints_read hi
  refine PySem.W.min_tuple_data hh hl (x := .int n) (xs := ns.map .int) (by simpa using hr) (ints_alike (n :: ns)) (by have := ints_depth (n :: ns); simp only [List.map_cons] at this; omega) fun i v h' tk bs _ r k => ?_
  rw [PySem.W.minD_ints] at r
  cases r
  exact h h' tk _ k
theorem foldl_max (n : Int) : ∀ ns : List Int, ns.foldl max n ∈ n :: ns ∧ ∀ y ∈ n :: ns, y ≤ ns.foldl max n := by
  intro ns
  induction ns generalizing n with
  | nil => simp
  | cons m ns ih =>
    obtain ⟨h1, h2⟩ := ih (max n m)
    refine ⟨?_, fun y hy => ?_⟩
    · rw [List.foldl_cons]
      rcases List.mem_cons.mp h1 with e | e
      · rw [e]
        rcases Int.le_total n m with h | h
        · rw [Int.max_eq_right h]; simp
        · rw [Int.max_eq_left h]; simp
      · simp [e]
    · rw [List.foldl_cons]
      have hm := h2 (max n m) (by simp)
      rcases List.mem_cons.mp hy with e | e
      · rw [e]; exact Int.le_trans (Int.le_max_left _ _) hm
      · rcases List.mem_cons.mp e with e | e
        · rw [e]; exact Int.le_trans (Int.le_max_right _ _) hm
        · exact h2 y (by simp [e])
theorem foldl_min (n : Int) : ∀ ns : List Int, ns.foldl min n ∈ n :: ns ∧ ∀ y ∈ n :: ns, ns.foldl min n ≤ y := by
  intro ns
  induction ns generalizing n with
  | nil => simp
  | cons m ns ih =>
    obtain ⟨h1, h2⟩ := ih (min n m)
    refine ⟨?_, fun y hy => ?_⟩
    · rw [List.foldl_cons]
      rcases List.mem_cons.mp h1 with e | e
      · rw [e]
        rcases Int.le_total n m with h | h
        · rw [Int.min_eq_left h]; simp
        · rw [Int.min_eq_right h]; simp
      · simp [e]
    · rw [List.foldl_cons]
      have hm := h2 (min n m) (by simp)
      rcases List.mem_cons.mp hy with e | e
      · rw [e]; exact Int.le_trans hm (Int.min_le_left _ _)
      · rcases List.mem_cons.mp e with e | e
        · rw [e]; exact Int.le_trans hm (Int.min_le_right _ _)
        · exact h2 y (by simp [e])
theorem pr_max (hc : X.calm = true) (hu : X.A.units + 64 < cLine) : CallR X (.builtin "max") (rPrim X.K .max) := by
  intro pins s σ H xs us Q I r ⟨aS, O, ds, rr, ht, hb, g⟩
  have hb : maxF ds = some rr := hb
  unfold maxF at hb
  split at hb
  · obtain ⟨x, y, rfl, t1, t2⟩ := tvs2 ht
    cases hb
    rw [t1.int, t2.int] at r
    exact call_max2 hc pins s σ H _ us Q I r ⟨_, _, rfl, g.int⟩
  · unfold seqInts at hb
    split at hb <;> first | (cases hb; done) | skip
    · obtain ⟨x, rfl, t⟩ := tvs1 ht
      obtain ⟨a, ys, rfl, ha, t⟩ := t.tup
      rw [Option.map_eq_some_iff] at hb
      obtain ⟨n, hn, rfl⟩ := hb
      rw [Option.bind_eq_some_iff] at hn
      obtain ⟨ns, h1, h2⟩ := hn
      cases ns <;> first | cases h2 | skip
      have e := intsOf_reps h1 t
      subst e
      obtain ⟨its, rv, ht, _⟩ := I.tuple ha
      rw [Vals.ref1 r]
      exact max_tuple (I.ok.hd hc) hu (show s.heap.IsTuple a its.toArray from ht) rv.ints fun h' tk t' hk => ⟨.int _, H, I.kept hk, ⟨_, rfl⟩, g.int⟩
    · obtain ⟨x, rfl, t⟩ := tvs1 ht
      obtain ⟨a, ys, rfl, ha, t⟩ := t.lst
      rw [Option.map_eq_some_iff] at hb
      obtain ⟨n, hn, rfl⟩ := hb
      rw [Option.bind_eq_some_iff] at hn
      obtain ⟨ns, h1, h2⟩ := hn
      cases ns <;> first | cases h2 | skip
      have e := intsOf_reps h1 t
      subst e
      rename_i k ks
      refine cr_max hc pins s σ H _ us Q I r ⟨a, k :: ks, rfl, SqL.of ha, by simp, fun m h3 h4 => ?_⟩
      obtain ⟨h5, h6⟩ := foldl_max k ks
      have : m = ks.foldl max k := Int.le_antisymm (h6 m h3) (h4 _ h5)
      rw [this]; exact g.int
theorem pr_min (hc : X.calm = true) (hu : X.A.units + 64 < cLine) : CallR X (.builtin "min") (rPrim X.K .min) := by
  intro pins s σ H xs us Q I r ⟨aS, O, ds, rr, ht, hb, g⟩
  have hb : minF ds = some rr := hb
  unfold minF at hb
  split at hb
  · obtain ⟨x, y, rfl, t1, t2⟩ := tvs2 ht
    cases hb
    rw [t1.int, t2.int] at r
    exact call_min2 hc pins s σ H _ us Q I r ⟨_, _, rfl, g.int⟩
  · unfold seqInts at hb
    split at hb <;> first | (cases hb; done) | skip
    · obtain ⟨x, rfl, t⟩ := tvs1 ht
      obtain ⟨a, ys, rfl, ha, t⟩ := t.tup
      rw [Option.map_eq_some_iff] at hb
      obtain ⟨n, hn, rfl⟩ := hb
      rw [Option.bind_eq_some_iff] at hn
      obtain ⟨ns, h1, h2⟩ := hn
      cases ns <;> first | cases h2 | skip
      have e := intsOf_reps h1 t
      subst e
      obtain ⟨its, rv, ht, _⟩ := I.tuple ha
      rw [Vals.ref1 r]
      exact min_tuple (I.ok.hd hc) hu (show s.heap.IsTuple a its.toArray from ht) rv.ints fun h' tk t' hk => ⟨.int _, H, I.kept hk, ⟨_, rfl⟩, g.int⟩
    · obtain ⟨x, rfl, t⟩ := tvs1 ht
      obtain ⟨a, ys, rfl, ha, t⟩ := t.lst
      rw [Option.map_eq_some_iff] at hb
      obtain ⟨n, hn, rfl⟩ := hb
      rw [Option.bind_eq_some_iff] at hn
      obtain ⟨ns, h1, h2⟩ := hn
      cases ns <;> first | cases h2 | skip
      have e := intsOf_reps h1 t
      subst e
      rename_i k ks
      refine cr_min hc pins s σ H _ us Q I r ⟨a, k :: ks, rfl, SqL.of ha, by simp, fun m h3 h4 => ?_⟩
      obtain ⟨h5, h6⟩ := foldl_min k ks
      have : m = ks.foldl min k := Int.le_antisymm (h4 _ h5) (h6 m h3)
      rw [this]; exact g.int
end
end RS
end
section
set_option Elab.async false
set_option linter.all false
set_option maxRecDepth 100000
set_option autoImplicit false
set_option maxHeartbeats 1000000
namespace RS
open PySem L2
theorem int_len {i : Int} (h : i.natAbs < SHOW) : (Str.ofString (toString i)).length ≤ 640 := by
  have h1 : i.natAbs < 10 ^ 600 := Nat.lt_of_lt_of_le h (by decide +kernel)
  have h2 := int_text_length_le10 (a := i) (k := 600) (by decide) h1
  have e : (Str.ofString (toString i)).length = (toString i).length := ofString_length _
  omega
theorem textFrom_le : ∀ (ts : List Str) (k : Nat) (acc : Str), (textFrom k acc ts).length ≤ acc.length + piled ts
  | [], _, _ => by show _ ≤ _ + piled []; rw [piled_nil]; exact Nat.le_refl _
  | t :: ts, k, acc => by
    have ih := textFrom_le ts (k + 1) (acc ++ (if k > 0 then ", " else "" : String) ++ t)
    have e : (acc ++ (if k > 0 then ", " else "" : String) ++ t).length ≤ acc.length + 2 + t.length := by
      rw [strLen_append, strLen_append]
      have : (Str.ofString (if k > 0 then ", " else "")).length ≤ 2 := by split <;> decide
      omega
    rw [piled_cons]
    show (textFrom (k + 1) _ ts).length ≤ _
    omega
theorem listText_le (ts : List Str) : (listText ts).length ≤ 3 + piled ts := by
  unfold listText
  rw [strLen_append]
  have h := textFrom_le ts 0 "["
  have h1 : (("[" : String) : Str).length = 1 := by decide
  have h2 : (("]" : String) : Str).length = 1 := by decide
  rw [h1] at h
  rw [h2]; omega
theorem tupleText_le (ts : List Str) : (tupleText ts).length ≤ 3 + piled ts := by
  unfold tupleText
  rw [strLen_append, strLen_append]
  have h1 : (("(" : String) : Str).length = 1 := by decide
  have h2 : (Str.ofString (if ts.length == 1 then ",)" else ")")).length ≤ 2 := by split <;> decide
  have h3 : (Str.join ", " ts).length ≤ piled ts := by
    by_cases h : ts = []
    · subst h; decide
    · have := join_length_add ts h; omega
  have h1' : ("(" : Str).length = 1 := by decide
  omega
mutual
theorem shown_le : ∀ d : D, D.showable d = true → d.py.shown.length ≤ d.rlen
  | .non, _ => by rw [D.py]; decide
  | .bl b, _ => by rw [D.py]; cases b <;> decide
  | .int i, h => by
    rw [D.py, D.rlen]
    exact int_len (of_decide_eq_true h)
  | .tup l, h => by
    rw [D.py, D.rlen]
    have := showns_le l (by rw [D.showable] at h; exact h)
    have q := tupleText_le (PyData.shownAll (D.pys l))
    simp only [PyData.shown]
    omega
  | .lst l, h => by
    rw [D.py, D.rlen]
    have := showns_le l (by rw [D.showable] at h; exact h)
    have q := listText_le (PyData.shownAll (D.pys l))
    simp only [PyData.shown]
    omega
  | .str _, h => by cases h
  | .dct _ _, h => by cases h
  | .st, h => by cases h
theorem showns_le : ∀ ds : List D, D.showables ds = true → piled (PyData.shownAll (D.pys ds)) ≤ D.rlens ds
  | [], _ => by rw [D.pys, D.rlens]; simp [PyData.shownAll, piled_nil]
  | d :: ds, h => by
    rw [D.showables, Bool.and_eq_true] at h
    have h1 := shown_le d h.1
    have h2 := showns_le ds h.2
    rw [D.pys, D.rlens, PyData.shownAll, piled_cons]
    omega
end
mutual
theorem showable_py : ∀ d : D, D.showable d = true → d.py.showable = true ∧ d.py.hasDict = false
  | .non, _ => by rw [D.py]; exact ⟨rfl, rfl⟩
  | .bl _, _ => by rw [D.py]; exact ⟨rfl, rfl⟩
  | .int i, h => by
    rw [D.py]
    refine ⟨?_, rfl⟩
    rw [PyData.showable]
    exact decide_eq_true (Nat.lt_of_lt_of_le (log2_of_lt (k := 1900) (by decide) (of_decide_eq_true h)) (by decide))
  | .tup l, h => by
    rw [D.py, PyData.showable, PyData.hasDict]
    exact showables_py l (by rw [D.showable] at h; exact h)
  | .lst l, h => by
    rw [D.py, PyData.showable, PyData.hasDict]
    exact showables_py l (by rw [D.showable] at h; exact h)
  | .str _, h => by cases h
  | .dct _ _, h => by cases h
  | .st, h => by cases h
theorem showables_py : ∀ ds : List D, D.showables ds = true → PyData.showableAll (D.pys ds) = true ∧ PyData.hasDictAll (D.pys ds) = false
  | [], _ => by rw [D.pys]; exact ⟨rfl, rfl⟩
  | d :: ds, h => by
    rw [D.showables, Bool.and_eq_true] at h
    have h1 := showable_py d h.1
    have h2 := showables_py ds h.2
    rw [D.pys, PyData.showableAll, PyData.hasDictAll, h1.1, h1.2, h2.1, h2.2]
    exact ⟨rfl, rfl⟩
end
def rRepr (K : PySem.W.Frag) : List V → Hp → VK → Prop := fun vs H Q => ∃ aS O d x, vs = [x] ∧ Tv K aS O H d x ∧ reprOk d = true ∧ Q (.str d.py.shown) H
theorem pr_repr {X : Cx} (hg : X.A.guards = some []) (hu : X.A.units + 70 < cLine) : CallR X (.builtin "repr") (rRepr X.K) := by
  intro pins s σ H xs us Q I r ⟨aS, O, d, x, ex, t, hb, q⟩
  subst ex
  obtain ⟨u, rfl, ru⟩ := vals1 r
  unfold reprOk at hb
  rw [Bool.and_eq_true, Bool.and_eq_true] at hb
  obtain ⟨⟨h1, h2⟩, h3⟩ := hb
  have h2 : d.rlen ≤ 16000000 := of_decide_eq_true h2
  have hs := showable_py d h1
  have hl : d.py.shown.length ≤ sizeLine := by
    have := shown_le d h1
    rw [sizeLine_eq]; omega
  obtain ⟨as, rd⟩ := Dp.reads I _ x u (t.dp h3) ru
  have hd := deep_depth _ _ h3
  have : DEEP = 60 := rfl
  have fin : ∀ h' tk, (∀ b o, s.heap.get? b = some o → h'.get? b = some o) → ∀ y, EP X pins σ Q (.str d.py.shown y) { s with heap := h', toks := tk } := fun h' tk k y => ⟨.str _, H, I.kept k, ⟨_, rfl⟩, q⟩
  have ref : ∀ a, u = .ref a → wpAny (model X.prog X.w) X.A (call (.builtin "repr") [u]) (EP X pins σ Q) X.xe s := by
    intro a e
    subst e
    exact repr_of_reads' rd hs.1 (PyData.noDict_hsm hs.2) hg (by omega) (fun _ _ e => e) (fun h' y tk k => fin h' tk k y) hl
  cases d with
  | non =>
    rw [t.non] at ru; cases ru
    have : (D.non).py.shown = "None" := by rw [D.py]; simp only [PyData.shown]
    refine PySem.P.repr_of_none ?_
    rw [← this]; exact fin s.heap _ (fun _ _ e => e) _
  | bl b =>
    rw [t.bl] at ru; cases ru
    have : (D.bl b).py.shown = (if b then Str.ofString "True" else Str.ofString "False") := by rw [D.py]; simp only [PyData.shown]
    refine PySem.P.repr_of_bool ?_
    rw [← this]; exact fin s.heap _ (fun _ _ e => e) _
  | int i =>
    rw [t.int] at ru; obtain ⟨tk, rfl⟩ := ru
    have e : (D.int i).py.shown = (toString i : String) := by rw [D.py]; simp only [PyData.shown]
    refine PySem.P.repr_of_int (Nat.lt_of_lt_of_le (log2_of_lt (k := 1900) (by decide) (of_decide_eq_true h1)) (by decide)) ?_
    rw [← e]; exact fin s.heap _ (fun _ _ e => e) _
  | tup l => obtain ⟨a, ys, rfl, _⟩ := t.tup; cases ru; exact ref _ rfl
  | lst l => obtain ⟨a, ys, rfl, _⟩ := t.lst; cases ru; exact ref _ rfl
  | str _ => cases h1
  | dct _ _ => cases h1
  | st => cases h1
end RS
end
section
set_option Elab.async false
set_option linter.all false
set_option maxRecDepth 100000
set_option autoImplicit false
set_option maxHeartbeats 1000000
/-! RSPt: what holds at a point of a def's run; readings of expressions by the evaluator. -/
namespace RS
open PySem L2
structure Sl (T : Shd) (F gF : Own) (σ : L2.St) (ρ : Env) : Prop where
  len : ρ.length = σ.length
  sh : ∀ (i : Nat) (d : D), ρ[i]? = some (.sh d) → ∃ v, σ[i]? = some (some v) ∧ (d, v) ∈ T
  ow : ∀ (i : Nat) (d : D), ρ[i]? = some (.ow d) → ∃ a, σ[i]? = some (some (.ref a)) ∧ (d, a) ∈ F ∧ a ∉ gF.map (·.2)
  inj : ∀ (i j : Nat) (d e : D) (a : Addr), ρ[i]? = some (.ow d) → ρ[j]? = some (.ow e) → σ[i]? = some (some (.ref a)) → σ[j]? = some (some (.ref a)) → i = j
structure Opn (K : PySem.W.Frag) (c : Cfg) (gT : Shd) (gF : Own) (σ : L2.St) (H : Hp) (ρ : Env) (s : OSt) (T : Shd) (F : Own) : Prop where
  B : Bs K c T F H s
  hT : ∀ p ∈ gT, p ∈ T
  hF : ∀ p ∈ gF, p ∈ F
  nd : (gF.map (·.2)).Nodup
  sl : Sl T F gF σ ρ
def Pt (K : PySem.W.Frag) (c : Cfg) (gT : Shd) (gF : Own) (σ : L2.St) (H : Hp) (ρ : Env) (s : OSt) : Prop := ∃ T F, Opn K c gT gF σ H ρ s T F
section
variable {K : PySem.W.Frag} {c : Cfg} {gT gT' : Shd} {gF gF' : Own} {σ : L2.St} {H H' : Hp} {ρ : Env} {s s' : OSt} {T : Shd} {F : Own}
theorem Sl.mono {T' : Shd} (sl : Sl T F gF σ ρ) (h : ∀ p ∈ T, p ∈ T') (hf : ∀ a, a ∈ gF'.map (·.2) → a ∈ gF.map (·.2)) : Sl T' F gF' σ ρ :=
  ⟨sl.len, fun i d e => let ⟨v, a, b⟩ := sl.sh i d e; ⟨v, a, h _ b⟩, fun i d e => let ⟨a, x, y, z⟩ := sl.ow i d e; ⟨a, x, y, fun q => z (hf a q)⟩, sl.inj⟩
theorem Opn.less (o : Opn K c gT gF σ H ρ s T F) (h : ∀ p ∈ gT', p ∈ gT) (hf : List.Sublist gF' gF) : Opn K c gT' gF' σ H ρ s T F :=
  ⟨o.B, fun p hp => o.hT p (h p hp), fun p hp => o.hF p (hf.subset hp), (hf.map (·.2)).nodup o.nd, o.sl.mono (fun _ q => q) fun a q => (hf.map (·.2)).subset q⟩
theorem Pt.less (P : Pt K c gT gF σ H ρ s) (h : ∀ p ∈ gT', p ∈ gT) (hf : List.Sublist gF' gF) : Pt K c gT' gF' σ H ρ s :=
  let ⟨T, F, o⟩ := P; ⟨T, F, o.less h hf⟩
theorem Opn.step {T' : Shd} (o : Opn K c gT gF σ H ρ s T F) (h1 : ∀ p ∈ T, p ∈ T') (h2 : ∀ p ∈ gT', p ∈ T') (B : Bs K c T' F H' s') : Opn K c gT' gF σ H' ρ s' T' F :=
  ⟨B, h2, o.hF, o.nd, o.sl.mono h1 fun _ q => q⟩
theorem Opn.addT (o : Opn K c gT gF σ H ρ s T F) {d : D} {v : V} (r : Rep K c.aS (c.Ow F) H d v) : Opn K c ((d, v) :: gT) gF σ H ρ s ((d, v) :: T) F :=
  o.step (fun p q => List.mem_cons_of_mem _ q) (fun p q => by
    rcases List.mem_cons.mp q with e | q
    · rw [e]; exact List.mem_cons_self
    · exact List.mem_cons_of_mem _ (o.hT p q)) (o.B.addT r)
theorem Opn.fresh (o : Opn K c gT gF σ H ρ s T F) {d : D} {p : Addr} (B : Bs K c T ((d, p) :: F) H' s') : Opn K c gT ((d, p) :: gF) σ H' ρ s' T ((d, p) :: F) := by
  have nd := B.nd
  rw [List.map_cons, List.nodup_cons] at nd
  refine ⟨B, o.hT, fun q hq => ?_, ?_, ⟨o.sl.len, o.sl.sh, fun i e h => ?_, o.sl.inj⟩⟩
  · rcases List.mem_cons.mp hq with e | hq
    · rw [e]; exact List.mem_cons_self
    · exact List.mem_cons_of_mem _ (o.hF q hq)
  · rw [List.map_cons, List.nodup_cons]
    refine ⟨fun z => nd.1 ?_, o.nd⟩
    obtain ⟨q, hq, e⟩ := List.mem_map.mp z
    exact List.mem_map.mpr ⟨q, o.hF q hq, e⟩
  · obtain ⟨a, h1, h2, h3⟩ := o.sl.ow i e h
    refine ⟨a, h1, List.mem_cons_of_mem _ h2, fun z => ?_⟩
    rw [List.map_cons] at z
    rcases List.mem_cons.mp z with z | z
    · exact nd.1 (List.mem_map.mpr ⟨_, h2, z⟩)
    · exact h3 z
theorem Pt.forget {d : D} {a : Addr} (P : Pt K c gT ((d, a) :: gF) σ H ρ s) : Pt K c ((d, .ref a) :: gT) gF σ H ρ s := by
  obtain ⟨T, F, o⟩ := P
  have nd := o.nd
  rw [List.map_cons, List.nodup_cons] at nd
  refine ⟨(d, .ref a) :: T, F.filter fun p => decide (p.2 ≠ a), o.B.share (o.hF _ List.mem_cons_self), fun p q => ?_, fun p q => ?_, nd.2, o.sl.len, fun i e h => ?_, fun i e h => ?_, o.sl.inj⟩
  · rcases List.mem_cons.mp q with e | q
    · rw [e]; exact List.mem_cons_self
    · exact List.mem_cons_of_mem _ (o.hT p q)
  · exact List.mem_filter.mpr ⟨o.hF p (List.mem_cons_of_mem _ q), decide_eq_true fun e => nd.1 (List.mem_map.mpr ⟨p, q, e⟩)⟩
  · obtain ⟨v, h1, h2⟩ := o.sl.sh i e h
    exact ⟨v, h1, List.mem_cons_of_mem _ h2⟩
  · obtain ⟨b, h1, h2, h3⟩ := o.sl.ow i e h
    rw [List.map_cons] at h3
    exact ⟨b, h1, List.mem_filter.mpr ⟨h2, decide_eq_true fun z => h3 (z ▸ List.mem_cons_self)⟩, fun z => h3 (List.mem_cons_of_mem _ z)⟩
end
/-! ## results -/
def Rs.exT : Rs → V → Shd → Shd
  | .sh d, v, T => (d, v) :: T
  | _, _, T => T
def Rs.exF : Rs → V → Own → Own
  | .fr d, .ref a, F => (d, a) :: F
  | _, _, F => F
def Vw (σ : L2.St) (ρ : Env) : Rs → V → Prop
  | .sh _, _ => True
  | .fr _, v => ∃ a, v = .ref a
  | .bo i d, v => ∃ a, v = .ref a ∧ σ[i]? = some (some (.ref a)) ∧ ρ[i]? = some (.ow d)
def Hd (gT : Shd) (gF : Own) (σ : L2.St) (ρ : Env) : Rs → V → Prop
  | .sh d, v => (d, v) ∈ gT
  | .fr d, v => ∃ a, v = .ref a ∧ (d, a) ∈ gF
  | .bo i d, v => ∃ a, v = .ref a ∧ σ[i]? = some (some (.ref a)) ∧ ρ[i]? = some (.ow d)
section
variable {K : PySem.W.Frag} {c : Cfg} {gT gT' gT0 : Shd} {gF gF' gF0 : Own} {σ : L2.St} {H H' : Hp} {ρ : Env} {s s' : OSt} {T : Shd} {F : Own} {r : Rs} {v : V}
theorem Vw.hd (h : Vw σ ρ r v) : Hd (r.exT v gT) (r.exF v gF) σ ρ r v := by
  cases r with
  | sh d => exact List.mem_cons_self
  | fr d => obtain ⟨a, rfl⟩ := h; exact ⟨a, rfl, List.mem_cons_self⟩
  | bo i d => exact h
theorem Rs.subT (r : Rs) (v : V) (gT : Shd) : ∀ p ∈ gT, p ∈ r.exT v gT := by
  intro p hp
  cases r <;> first | exact List.mem_cons_of_mem _ hp | exact hp
theorem Rs.subF (r : Rs) (v : V) (gF : Own) : List.Sublist gF (r.exF v gF) := by
  cases r <;> (try exact List.Sublist.refl _)
  cases v <;> first | exact List.Sublist.refl _ | exact List.sublist_cons_self _ _
theorem Hd.mono (h : Hd gT gF σ ρ r v) (h1 : ∀ p ∈ gT, p ∈ gT') (h2 : ∀ p ∈ gF, p ∈ gF') : Hd gT' gF' σ ρ r v := by
  cases r with
  | sh d => exact h1 _ h
  | fr d => obtain ⟨a, e, q⟩ := h; exact ⟨a, e, h2 _ q⟩
  | bo i d => exact h
theorem Hd.ext (h : Hd gT gF σ ρ r v) (q : Rs) (u : V) : Hd (q.exT u gT) (q.exF u gF) σ ρ r v := h.mono (q.subT u gT) fun p hp => (q.subF u gF).subset hp
theorem top_tv {aS : Addr} {O : Addr → Prop} {d : D} {a : Addr} (h : Top K aS O H d a) : Tv K aS O H d (.ref a) := by
  cases d <;> first | exact h.elim | skip
  obtain ⟨xs, e, t⟩ := h
  exact ⟨a, xs, rfl, e, t⟩
theorem Opn.tv (o : Opn K c gT gF σ H ρ s T F) (h : Hd gT gF σ ρ r v) : Tv K c.aS (c.Ow F) H r.d v := by
  cases r with
  | sh d => exact (o.B.tT _ (o.hT _ h)).tv
  | fr d => obtain ⟨a, rfl, q⟩ := h; exact top_tv (o.B.tF _ (o.hF _ q)).1
  | bo i d =>
    obtain ⟨a, rfl, h1, h2⟩ := h
    obtain ⟨b, h3, h4, _⟩ := o.sl.ow i d h2
    rw [h1] at h3; cases h3
    exact top_tv (o.B.tF _ h4).1
/-- what is wanted behind an expression -/
def Post (K : PySem.W.Frag) (c : Cfg) (gT : Shd) (gF : Own) (σ : L2.St) (ρ : Env) (s : OSt) (r : Rs) (Q : VK) : Prop := ∀ v H', Pt K c (r.exT v gT) (r.exF v gF) σ H' ρ s → Vw σ ρ r v → Q v H'
theorem Post.sh {d : D} {Q : VK} (p : Post K c gT0 gF0 σ ρ s (.sh d) Q) (o : Opn K c gT gF σ H ρ s T F) (h1 : ∀ p ∈ gT0, p ∈ gT) (h2 : List.Sublist gF0 gF) (h : Rep K c.aS (c.Ow F) H d v) : Q v H :=
  p v H ⟨_, _, (o.addT h).less (fun q hq => by
    rcases List.mem_cons.mp hq with e | hq
    · rw [e]; exact List.mem_cons_self
    · exact List.mem_cons_of_mem _ (h1 q hq)) h2⟩ trivial
theorem Give.of {Q : VK} (o : Opn K c gT gF σ H ρ s T F) (h1 : ∀ p ∈ gT0, p ∈ gT) (h2 : List.Sublist gF0 gF) (p : Post K c gT0 gF0 σ ρ s r Q) (hb : r.isBo = false) : Give K c.aS (c.Ow F) H r Q := by
  cases r with
  | sh d =>
    refine ⟨fun v hv => p.sh o h1 h2 hv, fun ds q xs e hq t => ?_⟩
    subst e
    refine p _ _ ⟨_, _, (o.step (T' := (.tup ds, .ref q) :: T) (gT' := (.tup ds, .ref q) :: gT) (fun _ z => List.mem_cons_of_mem _ z) (fun z hz => ?_) (o.B.tup hq t)).less (fun z hz => ?_) h2⟩ trivial
    · rcases List.mem_cons.mp hz with e | hz
      · rw [e]; exact List.mem_cons_self
      · exact List.mem_cons_of_mem _ (o.hT z hz)
    · rcases List.mem_cons.mp hz with e | hz
      · rw [e]; exact List.mem_cons_self
      · exact List.mem_cons_of_mem _ (h1 z hz)
  | fr d =>
    intro ds q xs e hq t
    subst e
    exact p _ _ ⟨_, _, (o.fresh (o.B.lst hq t)).less h1 (h2.cons_cons _)⟩ ⟨q, rfl⟩
  | bo i d => cases hb
/-- a reading -/
def rd (K : PySem.W.Frag) (f : Env → OSt → R Rs) : TE := fun σ H Q => ∃ c gT gF ρ s r s', Pt K c gT gF σ H ρ s ∧ f ρ s = .ok r s' ∧ Post K c gT gF σ ρ s' r Q
def rdT (K : PySem.W.Frag) (f : Env → OSt → R Rs) : TT := fun σ H Q => ∃ c gT gF ρ s b s', Pt K c gT gF σ H ρ s ∧ f ρ s = .ok (.sh (.bl b)) s' ∧ ∀ H', Pt K c gT gF σ H' ρ s' → Q b H'
end
def exTs : List Rs → List V → Shd → Shd
  | r :: rs, v :: vs, T => exTs rs vs (r.exT v T)
  | _, _, T => T
def exFs : List Rs → List V → Own → Own
  | r :: rs, v :: vs, F => exFs rs vs (r.exF v F)
  | _, _, F => F
def Hds (gT : Shd) (gF : Own) (σ : L2.St) (ρ : Env) : List Rs → List V → Prop
  | [], vs => vs = []
  | r :: rs, vs => ∃ x xs, vs = x :: xs ∧ Hd gT gF σ ρ r x ∧ Hds gT gF σ ρ rs xs
def rdA (K : PySem.W.Frag) (f : Env → OSt → R (List Rs)) : TA := fun σ H Q => ∃ c gT gF ρ s rs s', Pt K c gT gF σ H ρ s ∧ f ρ s = .ok rs s' ∧ ∀ vs H', Pt K c (exTs rs vs gT) (exFs rs vs gF) σ H' ρ s' → Hds (exTs rs vs gT) (exFs rs vs gF) σ ρ rs vs → Q vs H'
section
variable {K : PySem.W.Frag} {c : Cfg} {gT gT' gT0 : Shd} {gF gF' gF0 : Own} {σ : L2.St} {H H' : Hp} {ρ : Env} {s s' : OSt} {T : Shd} {F : Own} {rs : List Rs} {vs : List V}
theorem subTs : ∀ (rs : List Rs) (vs : List V) (gT : Shd), ∀ p ∈ gT, p ∈ exTs rs vs gT
  | [], _, _, _, h => h
  | _ :: _, [], _, _, h => h
  | r :: rs, v :: vs, gT, p, h => subTs rs vs _ p (r.subT v gT p h)
theorem subFs : ∀ (rs : List Rs) (vs : List V) (gF : Own), List.Sublist gF (exFs rs vs gF)
  | [], _, _ => List.Sublist.refl _
  | _ :: _, [], _ => List.Sublist.refl _
  | r :: rs, v :: vs, gF => (r.subF v gF).trans (subFs rs vs _)
theorem Opn.tvs (o : Opn K c gT gF σ H ρ s T F) : ∀ {rs : List Rs} {vs : List V}, Hds gT gF σ ρ rs vs → Tvs K c.aS (c.Ow F) H (rs.map Rs.d) vs
  | [], _, h => h
  | _ :: _, _, h => by
    obtain ⟨x, xs, rfl, h1, h2⟩ := h
    exact ⟨x, xs, rfl, o.tv h1, Opn.tvs o h2⟩
theorem Hds.length : ∀ {rs : List Rs} {vs : List V}, Hds gT gF σ ρ rs vs → vs.length = rs.length
  | [], _, h => by rw [show _ = [] from h]; rfl
  | _ :: _, _, h => by
    obtain ⟨x, xs, rfl, _, h2⟩ := h
    simp [Hds.length h2]
/-- fresh things given away: all are shared then -/
theorem Pt.share1 {r : Rs} {v : V} (P : Pt K c (r.exT v gT) (r.exF v gF) σ H ρ s) (h : Vw σ ρ r v) (hb : r.isBo = false) : Pt K c ((r.d, v) :: gT) gF σ H ρ s := by
  cases r with
  | sh d => exact P
  | fr d => obtain ⟨a, rfl⟩ := h; exact P.forget
  | bo i d => cases hb
end
theorem _root_.L2.PE.via {X : Cx} {e : Expr} {t t' : TE} (h : PE X e t) (i : ∀ σ H Q, t' σ H Q → t σ H Q) : PE X e t' := ⟨fun pins s σ H Q I q => h.run pins s σ H Q I (i σ H Q q)⟩
theorem _root_.L2.PT.via {X : Cx} {e : Expr} {t t' : TT} (h : PT X e t) (i : ∀ σ H Q, t' σ H Q → t σ H Q) : PT X e t' := ⟨fun pins s σ H Q I q => h.run pins s σ H Q I (i σ H Q q)⟩
theorem _root_.L2.PW.via {X : Cx} {e : Expr} {t t' : TT} (h : PW X e t) (i : ∀ σ H Q, t' σ H Q → t σ H Q) : PW X e t' := ⟨fun wh pins s σ H Q I q => h.run wh pins s σ H Q I (i σ H Q q)⟩
theorem _root_.L2.PA.via {X : Cx} {es : List Expr} {t t' : TA} (h : PA X es t) (i : ∀ σ H Q, t' σ H Q → t σ H Q) : PA X es t' := ⟨fun pos pins s σ H Q I q => h.run pos pins s σ H Q I (i σ H Q q)⟩
theorem _root_.L2.PS.via {X : Cx} {st : Stmt} {t t' : TS} (h : PS X st t) (i : ∀ D σ H, t' D σ H → t D σ H) : PS X st t' := ⟨fun pins s σ H D I q => h.run pins s σ H D I (i D σ H q)⟩
theorem _root_.L2.PSs.via {X : Cx} {st : List Stmt} {t t' : TS} (h : PSs X st t) (i : ∀ D σ H, t' D σ H → t D σ H) : PSs X st t' := ⟨fun pins s σ H D I q => h.run pins s σ H D I (i D σ H q)⟩
theorem bind_ok {α β : Type} {x : R α} {f : α → OSt → R β} {b : β} {s : OSt} (h : x.bind f = .ok b s) : ∃ a s1, x = .ok a s1 ∧ f a s1 = .ok b s := by
  cases x with
  | ok a s1 => exact ⟨a, s1, rfl, h⟩
  | exc => cases h
  | no => cases h
theorem lift_ok {α : Type} {o : Option α} {a : α} {s s' : OSt} (h : lift o s = .ok a s') : o = some a ∧ s' = s := by
  cases o with
  | none => cases h
  | some b => cases h; exact ⟨rfl, rfl⟩
end RS
end
section
set_option Elab.async false
set_option linter.all false
set_option maxRecDepth 100000
set_option autoImplicit false
set_option maxHeartbeats 1000000
/-! RSMatch: whether the model's trees are the small ones; what a def's surroundings must give; calls. -/
namespace RS
open PySem L2
structure MC where
  N : List Str
  sc : Scope
  st : Str → Bool
def strIs (x : String) (y : Str) : Bool := decide (Str.ofString x = y)
def visB (sc : Scope) (x : Str) : Bool := match sc.names.lookup x with
  | some .local => true
  | some .cell => true
  | some .free => true
  | _ => false
def glB (sc : Scope) (x : Str) : Bool := match sc.names.lookup x with
  | some .globalImplicit => true
  | _ => false
def locB (mc : MC) (x : Str) : Bool := match mc.sc.names.lookup x with
  | some .local => true
  | some .cell => mc.st x
  | _ => false
def dbgB (x : Str) : Bool := !(x == ("__debug__" : Str)) && !(x == ("__classdict__" : Str))
def conB : D → Const → Bool
  | .non, .none => true
  | .bl a, .bool b => a == b
  | .int a, .int b => a == b
  | .str l, .str s => l == s.cps.toList
  | _, _ => false
def plainE : Expr → Bool
  | .Set _ _ _ => false
  | .Starred _ _ => false
  | .Slice _ _ _ _ => false
  | _ => true
def bltNames : List String := ["len", "tuple", "list", "sum", "max", "min", "abs", "int", "sorted", "set", "isinstance", "repr", "range", "zip", "enumerate", "bool", "dict", "reversed"]
def primNm : Prim → String
  | .len => "len" | .tuple => "tuple" | .list => "list" | .sum => "sum" | .max => "max" | .min => "min" | .abs => "abs" | .int => "int" | .sorted => "sorted"
  | .gcd => "gcd" | .comb => "comb" | _ => ""
def primPlain : Prim → Bool
  | .len => true | .tuple => true | .list => true | .sum => true | .max => true | .min => true | .abs => true | .int => true | .gcd => true
  | _ => false
def isTy : Prim → Option String
  | .isInt => some "int" | .isBool => some "bool" | .isTup => some "tuple" | _ => none
mutual
def mtTg (mc : MC) : Tg → Expr → Bool
  | .nm i, .Name x _ => decide (mc.N[i]? = some x) && locB mc x
  | .tup t, .Tuple es _ _ => mtTgs mc t es
  | _, _ => false
def mtTgs (mc : MC) : Tg → List Expr → Bool
  | .nil, [] => true
  | .cons a b, e :: es => plainE e && mtTg mc a e && mtTgs mc b es
  | _, _ => false
end
def tgSlots : Tg → List Nat
  | .nm i => [i]
  | .tup t => tgSlots t
  | .cons a b => tgSlots a ++ tgSlots b
  | .nil => []
def ownOf (N : List Str) (vs : List Nat) : List (Str × Nat) := vs.map fun i => ((N[i]?).getD ⟨#[]⟩, i)
def isTup : Expr → Bool
  | .Tuple _ _ _ => true
  | _ => false
def callB (mc : MC) (x : String) (y : Str) : Bool := strIs x y && glB mc.sc y && dbgB y
def elen : E → Nat
  | .cons _ b => elen b + 1
  | _ => 0
def nmB (mc : MC) (i : Nat) : Expr → Bool
  | .Name x _ => decide (mc.N[i]? = some x) && visB mc.sc x && dbgB x
  | _ => false
mutual
def mtE : E → MC → Expr → Bool
  | .var i, mc, .Name x _ => decide (mc.N[i]? = some x) && visB mc.sc x && dbgB x
  | .con d, _, .Constant k _ _ => conB d k
  | .glob x _, mc, .Name y _ => strIs x y && glB mc.sc y && dbgB y
  | .tup es, mc, .Tuple l _ _ => decide (elen es ≤ 1000) && mtEs es mc l
  | .lst es, mc, .List l _ => decide (elen es ≤ 1000) && mtEs es mc l
  | .bin o a b, mc, .BinOp x op y _ => decide (op = bopOf o) && mtE a mc x && mtE b mc y
  | .neg a, mc, .UnaryOp op x _ => decide (op = .USub) && mtE a mc x
  | .cmp o a b, mc, .Compare x [op] [y] _ => decide (op = copOf o) && plainE y && mtE a mc x && mtE b mc y
  | .chain o1 o2 a b c, mc, .Compare x [p, q] [y, z] _ => decide (p = copOf o1) && decide (q = copOf o2) && plainE y && plainE z && mtE a mc x && mtE b mc y && mtE c mc z
  | .and a b, mc, .BoolOp op (x :: y :: r) pos => decide (op = .And) && mtE a mc x && (match r with | [] => mtE b mc y | _ => mtE b mc (.BoolOp .And (y :: r) pos))
  | .or a b, mc, .BoolOp op (x :: y :: r) pos => decide (op = .Or) && mtE a mc x && (match r with | [] => mtE b mc y | _ => mtE b mc (.BoolOp .Or (y :: r) pos))
  | .not a, mc, .UnaryOp op x _ => decide (op = .Not) && mtE a mc x
  | .ife c a b, mc, .IfExp t x y _ => mtE c mc t && mtE a mc x && mtE b mc y
  | .slc a lo hi, mc, .Subscript x (.Slice l h none _) _ => mtE a mc x && (match l with | none => (match lo with | .omit => true | _ => false) | some l => mtE lo mc l) && (match h with | none => (match hi with | .omit => true | _ => false) | some h => mtE hi mc h)
  | .rev a, mc, .Subscript x (.Slice none none (some (.UnaryOp op (.Constant (.int 1) _ _) _)) _) _ => decide (op = .USub) && mtE a mc x
  | .idx a i, mc, .Subscript x y _ => plainE y && mtE a mc x && mtE i mc y
  | .call x _ es, mc, .Call (.Name y _) l [] _ => callB mc x y && mtEs es mc l && !l.isEmpty
  | .callK x _ .nil ks kes _, mc, .Call (.Name y _) [] kws _ => callB mc x y && decide (kws.map (·.arg) = ks.map fun k => some (Str.ofString k)) && mtEs kes mc (kws.map (·.value))
  | .prim p es, mc, .Call (.Name y _) l [] _ => if primPlain p then callB mc (primNm p) y && mtEs es mc l && !l.isEmpty
      else if p = .sortedSet then (match es, l with
        | .cons a .nil, [.Call (.Name z _) [x] [] _] => callB mc "sorted" y && callB mc "set" z && plainE x && mtE a mc x
        | _, _ => false)
      else match isTy p, es, l with
        | some t, .cons a .nil, [x, .Name z _] => callB mc "isinstance" y && callB mc t z && plainE x && mtE a mc x
        | _, _, _ => false
  | .reprEq a b, mc, .Compare (.Call (.Name x _) [u] [] _) [op] [.Call (.Name y _) [v] [] _] _ => decide (op = .Eq) && callB mc "repr" x && callB mc "repr" y && plainE u && plainE v && mtE a mc u && mtE b mc v
  | .comp vs tg it cnd elt, mc, .ListComp x [⟨t, i, ifs, as⟩] scope _ => decide (as = 0) && plainE i && mtI it mc t i && blkC mc.N mc.sc scope (ownOf mc.N vs) &&
      (let mc' : MC := ⟨mc.N, relS scope mc.sc, fun y => scope.names.lookup y == some .cell⟩
       mtTg mc' tg t && (tgSlots tg).all (fun i => vs.contains i) && mtE elt mc' x && (match ifs with | [] => (match cnd with | .omit => true | _ => false) | [c] => mtE cnd mc' c | _ => false))
  | .stAt i, mc, .Subscript (.Name x p) (.Constant (.str y) _ _) _ => nmB mc i (.Name x p) && strIs "at" y
  | .stLen i, mc, .Call (.Name f _) [.Subscript (.Name x p) (.Constant (.str y) _ _) _] [] _ => callB mc "len" f && nmB mc i (.Name x p) && strIs "cells" y
  | .stCell i k, mc, .Subscript (.Subscript (.Name x p) (.Constant (.str y) _ _) _) e _ => nmB mc i (.Name x p) && strIs "cells" y && plainE e && mtE k mc e
  | .stLeft i k, mc, .Subscript (.Subscript (.Name x p) (.Constant (.str y) _ _) _) e _ => nmB mc i (.Name x p) && strIs "lefts" y && plainE e && mtE k mc e
  | _, _, _ => false
def mtEs : E → MC → List Expr → Bool
  | .nil, _, [] => true
  | .cons a b, mc, x :: r => plainE x && mtE a mc x && mtEs b mc r
  | _, _, _ => false
def mtI : E → MC → Expr → Expr → Bool
  | .itE a, mc, _, x => plainE x && mtE a mc x
  | .itRange es, mc, _, .Call (.Name y _) l [] _ => callB mc "range" y && mtEs es mc l && (match l with | [_] => true | [_, _] => true | _ => false)
  | .itEnum a, mc, t, .Call (.Name y _) [u] [] _ => isTup t && callB mc "enumerate" y && plainE u && mtE a mc u
  | .itZip a b, mc, t, .Call (.Name y _) [u, v] [] _ => isTup t && callB mc "zip" y && plainE u && plainE v && mtE a mc u && mtE b mc v
  | _, _, _, _ => false
end

/-! ## calls of defs: a promise by an evaluator's function -/
structure Lv where
  prog : Program
  w : World
  K : PySem.W.Frag
  mg : Str → Option Value
  base : Heap
  A : Around
def lvOf (X : Cx) : Lv := ⟨X.prog, X.w, X.K, X.mg, X.base, X.A⟩
structure Pre (K : PySem.W.Frag) (c : Cfg) (H : Hp) (s : OSt) : Prop where
  st : StOk c H s
  oS : c.O c.aS ∧ c.O c.aL ∧ c.O c.aC
  trk : ∀ a, c.O a → ∃ o, H a = some o ∧ Solid o
def SpEnd (K : PySem.W.Frag) (c : Cfg) (H : Hp) (s' : OSt) (Q : VK) : Rs → Prop
  | .sh d => ∀ v H', Keeps c H H' → StOk c H' s' → Rep K c.aS c.O H' d v → Q v H'
  | .fr d => ∀ a H', Keeps c H H' → StOk c H' s' → H a = none → Top K c.aS (fun b => c.O b ∨ b = a) H' d a → Q (.ref a) H'
  | .bo _ _ => False
def spF (K : PySem.W.Frag) (fn : Fn) (n : Nat) : List V → Hp → VK → Prop := fun vs H Q =>
  ∃ c ds st r st', vs.length = n ∧ Reps K c.aS c.O H ds vs ∧ Pre K c H st ∧ fn ds st = .ok r st' ∧ SpEnd K c H st' Q r
/-- the def at f, called where nothing is being shown, does what fn says -/
structure FnG (P : Program) (w : World) (K : PySem.W.Frag) (mg : Str → Option Value) (base : Heap) (k : Nat) (f : Addr) (fd : FuncData) (ps : List Str) (fn : Fn) : Prop where
  go : ∀ (A : Around) (outer : List PySem.Env) (s : Shared) (H : Hp) (args : Args) (us : List Value) (vs : List V) (Q : VK), Room k A → A.guards = some [] → Env0 P w K mg base A outer s H →
    BindsTo s fd args (ps.zip us) → Vals vs us → spF K fn ps.length vs H Q → codeAny (model P w) A (.call (.ref f) args) (CR CX0 outer P w H s Q E0) s
theorem FnG.up {P : Program} {w : World} {K : PySem.W.Frag} {mg : Str → Option Value} {base : Heap} {j k : Nat} {f : Addr} {fd : FuncData} {ps : List Str} {fn : Fn} (F : FnG P w K mg base j f fd ps fn) (h : j ≤ k) : FnG P w K mg base k f fd ps fn :=
  ⟨fun A outer s H args us vs Q hr => F.go A outer s H args us vs Q (hr.mono h)⟩
def CallOk (L : Lv) (nm : String) (fn : Fn) : Prop := ∃ k ad fd ps, L.mg (Str.ofString nm) = some (.ref ad) ∧ PySem.W.keepIn L.K (.ref ad) = true ∧ Binds L.K fd ps [] ∧ FnG L.prog L.w L.K L.mg L.base k ad fd ps fn ∧ Room k L.A ∧ ∀ ds s r s', fn ds s = .ok r s' → ds.length = ps.length
/-- a call with keywords alone: the i-th parameter gets the perm i-th of them -/
def CallKOk (L : Lv) (nm : String) (fn : Fn) (ks : List String) (perm : List Nat) : Prop := ∃ k ad fd ps, L.mg (Str.ofString nm) = some (.ref ad) ∧ PySem.W.keepIn L.K (.ref ad) = true ∧
  (∀ (s : Shared) (ws : List Value), L.K.In s.heap → ws.length = ks.length → BindsTo s fd ⟨[], (ks.map Str.ofString).zip ws⟩ (ps.zip (perm.map fun i => ws.getD i .none))) ∧ (∀ i ∈ perm, i < ks.length) ∧
  FnG L.prog L.w L.K L.mg L.base k ad fd ps fn ∧ Room k L.A ∧ ∀ ds s r s', fn ds s = .ok r s' → ds.length = ps.length
def GlobOk (L : Lv) (nm : String) (d : D) : Prop := ∃ v u, L.mg (Str.ofString nm) = some u ∧ RelV v u ∧ ∀ aS O H, Rep L.K aS O H d v
def okE (L : Lv) : E → Prop
  | .var _ => True
  | .con _ => True
  | .glob x d => GlobOk L x d
  | .nil => True
  | .cons a b => okE L a ∧ okE L b
  | .omit => True
  | .tup es => okE L es
  | .lst es => okE L es
  | .bin _ a b => okE L a ∧ okE L b
  | .neg a => okE L a
  | .cmp _ a b => okE L a ∧ okE L b
  | .chain _ _ a b c => okE L a ∧ okE L b ∧ okE L c
  | .and a b => okE L a ∧ okE L b
  | .or a b => okE L a ∧ okE L b
  | .not a => okE L a
  | .ife c a b => okE L c ∧ okE L a ∧ okE L b
  | .idx a i => okE L a ∧ okE L i
  | .slc a l h => okE L a ∧ okE L l ∧ okE L h
  | .rev a => okE L a
  | .call x f es => CallOk L x f ∧ okE L es
  | .callK x f _ ks kes perm => CallKOk L x f ks perm ∧ okE L kes
  | .prim p es => (p = .gcd → L.mg "gcd" = some (.builtin "math.gcd")) ∧ okE L es
  | .reprEq a b => okE L a ∧ okE L b
  | .comp _ _ it c e => okE L it ∧ okE L c ∧ okE L e
  | .itE a => okE L a
  | .itRange es => okE L es
  | .itZip a b => okE L a ∧ okE L b
  | .itEnum a => okE L a
  | .stAt _ => True
  | .stLen _ => True
  | .stCell _ k => okE L k
  | .stLeft _ k => okE L k
structure CtxOk (X : Cx) (mc : MC) : Prop where
  nd : X.N.Nodup
  calm : X.calm = true
  blt : ∀ x ∈ bltNames, X.mg (Str.ofString x) = none
  gd : X.A.guards = some []
  un : X.A.units + 100 < cLine
  N : mc.N = X.N
  sc : mc.sc = X.env.scope
  st : ∀ x, mc.st x = true → X.fn x = true
  kind : X.env.scope.kind = .function
section
variable {X : Cx} {mc : MC}
theorem CtxOk.vis (ok : CtxOk X mc) {x : Str} (h : visB mc.sc x = true) : Vis X.env.scope x := by
  rw [ok.sc] at h
  unfold visB at h
  unfold Vis
  split at h <;> first | cases h | skip
  · rename_i e; exact .inl e
  · rename_i e; exact .inr (.inl e)
  · rename_i e; exact .inr (.inr e)
theorem CtxOk.gl (ok : CtxOk X mc) {x : Str} (h : glB mc.sc x = true) : Gl X x := by
  rw [ok.sc] at h
  unfold glB at h
  show X.env.scope.names.lookup x = _
  split at h <;> first | cases h | skip
  rename_i e; exact e
theorem CtxOk.loc (ok : CtxOk X mc) {x : Str} (h : locB mc x = true) : L2.Loc X.env.scope x ∧ (X.fn x = true ∨ X.env.scope.names.lookup x = some .local) := by
  unfold locB at h
  rw [ok.sc] at h
  unfold L2.Loc
  split at h <;> first | cases h | skip
  · rename_i e; exact ⟨.inl e, .inr e⟩
  · rename_i e; exact ⟨.inr e, .inl (ok.st x h)⟩
theorem dbg1 {x : Str} (h : dbgB x = true) : (x == ("__debug__" : Str)) = false := by
  unfold dbgB at h
  rw [Bool.and_eq_true] at h
  simpa using h.1
theorem dbg2 {x : Str} (h : dbgB x = true) : (x == ("__classdict__" : Str)) = false := by
  unfold dbgB at h
  rw [Bool.and_eq_true] at h
  simpa using h.2
theorem strIs_eq {x : String} {y : Str} (h : strIs x y = true) : y = Str.ofString x := (of_decide_eq_true h).symm
theorem callB_of (ok : CtxOk X mc) {x : String} {y : Str} (h : callB mc x y = true) : y = Str.ofString x ∧ Gl X y ∧ (y == ("__debug__" : Str)) = false := by
  unfold callB at h
  rw [Bool.and_eq_true, Bool.and_eq_true] at h
  exact ⟨strIs_eq h.1.1, ok.gl h.1.2, dbg1 h.2⟩
end
/-- a call runs the def -/
theorem run_g {X : Cx} {k : Nat} {f : Addr} {fd : FuncData} {ps : List Str} {fn : Fn} {pins : List (Addr × Obj)} {σ : L2.St} {H : Hp} {s : Shared} {Q : VK} {us : List Value} {vs : List V}
    (F : FnG X.prog X.w X.K X.mg X.base k f fd ps fn) (hr : Room k X.A) (hg : X.A.guards = some []) (hb : Binds X.K fd ps []) (I : Inv X pins σ H s) (r : Vals vs us) (h : spF X.K fn ps.length vs H Q) :
    wpAny (model X.prog X.w) X.A (call (.ref f) us) (EP X pins σ Q) X.xe s := by
  have hl : us.length = ps.length := by
    obtain ⟨_, _, _, _, _, h1, _⟩ := h
    rw [← r.length]; exact h1
  have hb' : BindsTo s fd ⟨us, []⟩ (ps.zip us) := by
    have := hb s us I.kIn (by simpa using hl)
    simpa using this
  refine wpAny_call (codeAny_mono (F.go X.A X.stack s H ⟨us, []⟩ us vs Q hr hg I.env0 hb' r h) fun res s' hq => ?_)
  cases res with
  | error e => exact False.elim hq
  | ok fl =>
    cases fl with
    | ret u => exact I.after hq
    | next => exact False.elim hq
    | brk => exact False.elim hq
    | cont => exact False.elim hq
/-- a call's reading -/
def tCallG (K : PySem.W.Frag) (fn : Fn) (n : Nat) (t : TA) : TE := fun σ H Q => t σ H fun vs H1 => spF K fn n vs H1 Q
theorem pe_g {X : Cx} {k : Nat} {f : Addr} {fd : FuncData} {ps : List Str} {fn : Fn} {x : Str} {p pos : Pos} {e : Expr} {es : List Expr} {t : TA}
    (F : FnG X.prog X.w X.K X.mg X.base k f fd ps fn) (hr : Room k X.A) (hgd : X.A.guards = some []) (hg : Gl X x) (hm : X.mg x = some (.ref f)) (hk : PySem.W.keepIn X.K (.ref f) = true) (hb : Binds X.K fd ps [])
    (ha : PA X (e :: es) t) (hdb : (x == ("__debug__" : Str)) = false) (he : starEach (e :: es) X.env = (false, eval e X.env) :: starEach es X.env) (hpl : (backTo pos (starEach es X.env)).any (·.1) = false) :
    PE X (.Call (.Name x p) (e :: es) [] pos) (tCallG X.K fn ps.length t) := by
  refine ⟨fun pins s σ H Q I h => wpAny_Call_Name_kw (ld_glob I hg hm ?_ hdb)⟩
  refine PySem.W.callWith_K (h₀ := X.base) I.ok.mod.kin hk (thn (ha.run pos pins s σ H _ I h) fun us s1 ⟨vs, H1, I1, r, q⟩ => ⟨I1.kIn, ?_⟩) he hpl
  exact run_g F hr hgd hb I1 r q
end RS
end
section
set_option Elab.async false
set_option linter.all false
set_option maxRecDepth 100000
set_option autoImplicit false
set_option maxHeartbeats 2000000
/-! RSExpr: every expression that matches does what the evaluator says. -/
namespace RS
open PySem L2
structure Snd (X : Cx) (e : Expr) (f : Env → OSt → R Rs) : Prop where
  pe : PE X e (rd X.K f)
  pt : PT X e (rdT X.K f)
  pw : ∀ op vs pos, e = .BoolOp op vs pos → PW X e (rdT X.K f)
section
variable {X : Cx} {mc : MC}
theorem rdT_of {f : Env → OSt → R Rs} {σ : L2.St} {H : Hp} {Q : Bool → Hp → Prop} (h : rdT X.K f σ H Q) : tB (rd X.K f) σ H Q := by
  obtain ⟨c, gT, gF, ρ, s, b, s', P, e, q⟩ := h
  refine ⟨c, gT, gF, ρ, s, _, s', P, e, fun v H' P' _ => ?_⟩
  obtain ⟨T, F, o⟩ := P'
  have := o.B.tT _ (o.hT _ List.mem_cons_self)
  rw [Rep] at this
  exact ⟨b, this, q H' ⟨T, F, o.less (fun _ z => List.mem_cons_of_mem _ z) (List.Sublist.refl _)⟩⟩
theorem Snd.of_pe {e : Expr} {f : Env → OSt → R Rs} (h : PE X e (rd X.K f)) (he : ∀ whole, isTrue e X.env whole = (do let v ← whole; standAt e.pos; holding [v] (truthy v))) (hb : ∀ op vs pos, e ≠ .BoolOp op vs pos) : Snd X e f :=
  ⟨h, (pt_val h he).via fun σ H Q q => rdT_of q, fun op vs pos z => (hb op vs pos z).elim⟩
/-! ### names, constants -/
theorem snd_var (ok : CtxOk X mc) {i : Nat} {x : Str} {pos : Pos} (hN : mc.N[i]? = some x) (hv : visB mc.sc x = true) (hd : dbgB x = true) : PE X (.Name x pos) (rd X.K (ev (.var i))) := by
  refine (pe_var (i := i) (by rw [← ok.N]; exact hN) (ok.vis hv) (dbg1 hd) (dbg2 hd)).via fun σ H Q h => ?_
  obtain ⟨c, gT, gF, ρ, s, r, s', P, e, q⟩ := h
  rw [ev] at e
  obtain ⟨e, rfl⟩ := lift_ok e
  obtain ⟨T, F, o⟩ := P
  cases hs : ρ.getD i .no with
  | no => rw [hs] at e; cases e
  | sh d =>
    rw [hs] at e; cases e
    have hs' : ρ[i]? = some (.sh d) := by
      rw [List.getD_eq_getElem?_getD] at hs
      cases q : ρ[i]? with
      | none => rw [q] at hs; cases hs
      | some y => rw [q] at hs; rw [show y = .sh d from hs]
    obtain ⟨v, h1, h2⟩ := o.sl.sh i d hs'
    exact ⟨v, h1, q v H ⟨T, F, o.B, fun p hp => by
      rcases List.mem_cons.mp hp with e | hp
      · rw [e]; exact h2
      · exact o.hT p hp, o.hF, o.nd, o.sl⟩ trivial⟩
  | ow d =>
    rw [hs] at e; cases e
    have hs' : ρ[i]? = some (.ow d) := by
      rw [List.getD_eq_getElem?_getD] at hs
      cases q : ρ[i]? with
      | none => rw [q] at hs; cases hs
      | some y => rw [q] at hs; rw [show y = .ow d from hs]
    obtain ⟨a, h1, h2, _⟩ := o.sl.ow i d hs'
    exact ⟨.ref a, h1, q _ H ⟨T, F, o⟩ ⟨a, rfl, h1, hs'⟩⟩
theorem rd_const {d : D} {v : V} {σ : L2.St} {H : Hp} {Q : VK} {f : Env → OSt → R Rs} (hf : ∀ ρ s, f ρ s = .ok (.sh d) s) (hr : ∀ aS O H, Rep X.K aS O H d v) (h : rd X.K f σ H Q) : Q v H := by
  obtain ⟨c, gT, gF, ρ, s, r, s', ⟨T, F, o⟩, e, q⟩ := h
  rw [hf] at e
  cases e
  exact q v H ⟨_, _, o.addT (hr _ _ _)⟩ trivial
theorem snd_con {d : D} {k : Const} {n : Nat} {pos : Pos} (h : conB d k = true) : PE X (.Constant k n pos) (rd X.K (ev (.con d))) := by
  have hf : ∀ ρ s, ev (.con d) ρ s = .ok (.sh d) s := fun ρ s => by rw [ev]
  cases d <;> cases k <;> first | cases h | skip
  · exact pe_non.via fun σ H Q q => rd_const hf (fun _ _ _ => Rep.non') q
  · have := beq_iff_eq.mp h; subst this
    exact pe_bl.via fun σ H Q q => rd_const hf (fun _ _ _ => Rep.bl') q
  · have := beq_iff_eq.mp h; subst this
    exact pe_int.via fun σ H Q q => rd_const hf (fun _ _ _ => Rep.int') q
  · rename_i l x
    have hl : l = x.cps.toList := by simpa [conB] using h
    refine pe_str.via fun σ H Q q => rd_const (v := .str x) hf (fun _ _ _ => ?_) q
    rw [Rep, hl]
theorem snd_glob (ok : CtxOk X mc) {x : String} {y : Str} {d : D} {pos : Pos} (h : GlobOk (lvOf X) x d) (hb : callB mc x y = true) : PE X (.Name y pos) (rd X.K (ev (.glob x d))) := by
  obtain ⟨v, u, hm, r, rep⟩ := h
  obtain ⟨rfl, hg, hd⟩ := callB_of ok hb
  exact (pe_glob hg hm r hd).via fun σ H Q q => rd_const (fun ρ s => by rw [ev]) rep q
/-! ### two in a row -/
theorem rd_two {fa fb : Env → OSt → R Rs} {g : Rs → Rs → Option Rs} {σ : L2.St} {H : Hp} {Q : VK} {W : V → V → Hp → Prop}
    (h : rd X.K (fun ρ s => (fa ρ s).bind fun x s1 => (fb ρ s1).bind fun y s2 => lift (g x y) s2) σ H Q)
    (k : ∀ c gT gF gT0 gF0 ρ s rx ry r T F x y H2, Opn X.K c gT gF σ H2 ρ s T F → (∀ p ∈ gT0, p ∈ gT) → List.Sublist gF0 gF → Hd gT gF σ ρ rx x → Hd gT gF σ ρ ry y → g rx ry = some r → Post X.K c gT0 gF0 σ ρ s r Q → W x y H2) :
    rd X.K fa σ H fun x H1 => rd X.K fb σ H1 fun y H2 => W x y H2 := by
  obtain ⟨c, gT, gF, ρ, s, r, s', P, e, q⟩ := h
  obtain ⟨rx, s1, e1, e⟩ := bind_ok e
  obtain ⟨ry, s2, e2, e⟩ := bind_ok e
  obtain ⟨e3, rfl⟩ := lift_ok e
  refine ⟨c, gT, gF, ρ, s, rx, s1, P, e1, fun x H1 P1 V1 => ⟨c, _, _, ρ, s1, ry, _, P1, e2, fun y H2 P2 V2 => ?_⟩⟩
  obtain ⟨T, F, o⟩ := P2
  exact k c _ _ gT gF ρ _ rx ry r T F x y H2 o (fun p hp => ry.subT y _ p (rx.subT x gT p hp)) ((rx.subF x gF).trans (ry.subF y _)) (V1.hd.ext ry y) V2.hd e3 q
theorem rd_one {fa : Env → OSt → R Rs} {g : Rs → Option Rs} {σ : L2.St} {H : Hp} {Q : VK} {W : V → Hp → Prop}
    (h : rd X.K (fun ρ s => (fa ρ s).bind fun x s1 => lift (g x) s1) σ H Q)
    (k : ∀ c gT gF gT0 gF0 ρ s rx r T F x H2, Opn X.K c gT gF σ H2 ρ s T F → (∀ p ∈ gT0, p ∈ gT) → List.Sublist gF0 gF → Hd gT gF σ ρ rx x → g rx = some r → Post X.K c gT0 gF0 σ ρ s r Q → W x H2) :
    rd X.K fa σ H fun x H1 => W x H1 := by
  obtain ⟨c, gT, gF, ρ, s, r, s', P, e, q⟩ := h
  obtain ⟨rx, s1, e1, e⟩ := bind_ok e
  obtain ⟨e3, rfl⟩ := lift_ok e
  refine ⟨c, gT, gF, ρ, s, rx, _, P, e1, fun x H1 P1 V1 => ?_⟩
  obtain ⟨T, F, o⟩ := P1
  exact k c _ _ gT gF ρ _ rx r T F x H1 o (fun p hp => rx.subT x gT p hp) (rx.subF x gF) V1.hd e3 q
theorem binF_bo {o : BOp} {d e : D} {r : Rs} (h : binF o d e = some r) : r.isBo = false := by
  cases o <;> cases d <;> cases e <;> simp [binF] at h <;> first | (obtain ⟨_, h⟩ := h; subst h; rfl) | (subst h; rfl)
theorem snd_bin {o : BOp} {a b : Expr} {ea eb : E} {pos : Pos} (ha : PE X a (rd X.K (ev ea))) (hb : PE X b (rd X.K (ev eb))) : PE X (.BinOp a (bopOf o) b pos) (rd X.K (ev (.bin o ea eb))) := by
  refine (pe_op (op_bin o) ha hb).via fun σ H Q h => ?_
  refine rd_two (g := fun x y => binF o x.d y.d) (by simpa only [ev] using h) ?_
  intro c gT gF gT0 gF0 ρ s rx ry r T F x y H2 op h1 h2 hx hy e q
  exact ⟨c.aS, c.Ow F, rx.d, ry.d, r, op.tv hx, op.tv hy, e, Give.of op h1 h2 q (binF_bo e)⟩
theorem snd_cmp (ok : CtxOk X mc) {o : COp} {a b : Expr} {ea eb : E} {pos : Pos} (hp : plainE b = true) (ha : PE X a (rd X.K (ev ea))) (hb : PE X b (rd X.K (ev eb))) : PE X (.Compare a [copOf o] [b] pos) (rd X.K (ev (.cmp o ea eb))) := by
  have hm : behindInMarks (copOf o) b = false := by cases b <;> first | rfl | cases hp
  refine (pe_cmpR (op_cmp (by have := ok.un; omega) o) ha hb hm).via fun σ H Q h => ?_
  refine rd_two (g := fun x y => (cmpF o x.d y.d).map fun b => .sh (.bl b)) (by simpa only [ev] using h) ?_
  intro c gT gF gT0 gF0 ρ s rx ry r T F x y H2 op h1 h2 hx hy e q
  rw [Option.map_eq_some_iff] at e
  obtain ⟨b', e, rfl⟩ := e
  exact ⟨c.aS, c.Ow F, rx.d, ry.d, b', op.tv hx, op.tv hy, e, q.sh op h1 h2 Rep.bl'⟩
theorem tst_cmp (ok : CtxOk X mc) {o : COp} {a b : Expr} {ea eb : E} {pos : Pos} (hp : plainE b = true) (ha : PE X a (rd X.K (ev ea))) (hb : PE X b (rd X.K (ev eb))) : PT X (.Compare a [copOf o] [b] pos) (rdT X.K (ev (.cmp o ea eb))) := by
  have hm : behindInMarks (copOf o) b = false := by cases b <;> first | rfl | cases hp
  refine (pt_cmpR (op_cmp (by have := ok.un; omega) o) ha hb hm).via fun σ H Q h => ?_
  refine rd_two (g := fun x y => (cmpF o x.d y.d).map fun b => .sh (.bl b)) (W := fun x y H => rCmp X.K o x y H fun x H' => ∃ k, x = .bl k ∧ Q k H') (Q := fun x H' => ∃ k, x = .bl k ∧ Q k H') (by have h2 := rdT_of h; unfold tB at h2; simpa only [ev] using h2) ?_
  intro c gT gF gT0 gF0 ρ s rx ry r T F x y H2 op h1 h2 hx hy e q
  rw [Option.map_eq_some_iff] at e
  obtain ⟨b', e, rfl⟩ := e
  exact ⟨c.aS, c.Ow F, rx.d, ry.d, b', op.tv hx, op.tv hy, e, q.sh op h1 h2 Rep.bl'⟩
theorem negF_some {d : D} {r : Rs} (h : negF d = some r) : ∃ i, d = .int i ∧ r = .sh (.int (-i)) := by
  cases d <;> first | (cases h; exact ⟨_, rfl, rfl⟩) | cases h
theorem snd_neg {a : Expr} {ea : E} {pos : Pos} (ha : PE X a (rd X.K (ev ea))) : PE X (.UnaryOp .USub a pos) (rd X.K (ev (.neg ea))) := by
  refine (pe_un un_neg ha).via fun σ H Q h => ?_
  refine rd_one (g := fun x => negF x.d) (by simpa only [ev] using h) ?_
  intro c gT gF gT0 gF0 ρ s rx r T F x H2 op h1 h2 hx e q
  obtain ⟨i, hd, rfl⟩ := negF_some e
  have t := op.tv hx
  rw [hd] at t
  exact ⟨i, t.int, q.sh op h1 h2 Rep.int'⟩
theorem snd_idx {a b : Expr} {ea eb : E} {pos : Pos} (hp : plainE b = true) (ha : PE X a (rd X.K (ev ea))) (hb : PE X b (rd X.K (ev eb))) : PE X (.Subscript a b pos) (rd X.K (ev (.idx ea eb))) := by
  have hs : PlainIx b := fun o i => by cases b <;> first | rfl | cases hp
  refine (pe_ix ix_idx ha hb hs).via fun σ H Q h => ?_
  refine rd_two (g := fun x y => (idxF x.d y.d).map .sh) (by simpa only [ev] using h) ?_
  intro c gT gF gT0 gF0 ρ s rx ry r T F x y H2 op h1 h2 hx hy e q
  rw [Option.map_eq_some_iff] at e
  obtain ⟨d, e, rfl⟩ := e
  exact ⟨c.aS, c.Ow F, rx.d, ry.d, d, op.tv hx, op.tv hy, e, fun v hv => q.sh op h1 h2 hv⟩
end
end RS
end
section
set_option Elab.async false
set_option linter.all false
set_option maxRecDepth 100000
set_option autoImplicit false
set_option maxHeartbeats 2000000
/-! RSRev0: t[::-1] of a tuple. -/
namespace RS
open PySem PySem.Spec PyProof.Rows L2 HT
section
variable {prog : Program} {w : World} {A : Around} {E : Value → Shared → Prop} {s : Shared}
theorem adjust_back (n : Nat) : Builtin.Slice.sliceAdjust none none (-1) (n : Int) = ((n : Int) - 1, -1) := by
  unfold Builtin.Slice.sliceAdjust
  rfl
theorem places_back (n : Nat) : Builtin.Slice.slicePlaces ((n : Int) - 1) (-1) (-1) = n := by
  unfold Builtin.Slice.slicePlaces
  simp
  omega
theorem fm_some {α β : Type} {f : α → Option β} {g : α → β} : ∀ l : List α, (∀ m ∈ l, f m = some (g m)) → l.filterMap f = l.map g
  | [], _ => rfl
  | m :: l, h => by rw [List.filterMap_cons, h m List.mem_cons_self, List.map_cons, fm_some l fun x hx => h x (List.mem_cons_of_mem _ hx)]
theorem pick_back (xs : Array Value) : ((List.range xs.size).filterMap fun (m : Nat) => xs[(((xs.size : Int) - 1) + (m : Int) * (-1)).toNat]?).toArray = xs.toList.reverse.toArray := by
  congr 1
  apply List.ext_getElem?
  intro i
  have e : ((List.range xs.size).filterMap fun (m : Nat) => xs[(((xs.size : Int) - 1) + (m : Int) * (-1)).toNat]?) = (List.range xs.size).map fun m => xs.toList.reverse.getD m .none := by
    refine fm_some _ fun m hm => ?_
    have hm := List.mem_range.mp hm
    have q : (((xs.size : Int) - 1) + (m : Int) * (-1)).toNat = xs.size - 1 - m := by omega
    rw [q]
    have : xs.size - 1 - m < xs.size := by omega
    have g : xs.toList.reverse[m]? = some xs[xs.size - 1 - m] := by
      rw [List.getElem?_reverse (by simpa using hm)]
      simp [this]
    simp [List.getD_eq_getElem?_getD, this, g]
  rw [e, List.getElem?_map]
  by_cases hi : i < xs.size
  · rw [List.getElem?_range hi]
    have : i < xs.toList.reverse.length := by simpa using hi
    simp [List.getD_eq_getElem?_getD, List.getElem?_eq_getElem this]
  · rw [List.getElem?_eq_none (by simpa using hi), List.getElem?_eq_none (by simpa using hi)]
    rfl
theorem sliceApplied_back {sl : Addr} {vl vu vs : Value} {n : Nat} {Q : Int × Int × Nat → Shared → Prop} (hs : s.heap.IsSliceOf sl vl vu vs) (pl : IsPart vl none) (pu : IsPart vu none) (ps : IsPart vs (some (-1)))
    (h : Q ((n : Int) - 1, -1, n) s) : wpAny (model prog w) A (Builtin.Slice.sliceApplied (.ref sl) (pure (n : Int))) Q E s := by
  obtain ⟨os, hos, hcs, hds⟩ := id hs
  unfold Builtin.Slice.sliceApplied Builtin.Slice.sliceFields
  refine wpAny_bind (wpAny_bind (wpAny_field hos hds (x := vl) rfl (wpAny_bind (wpAny_field hos hds (x := vu) rfl (wpAny_bind (wpAny_field hos hds (x := vs) rfl (wpAny_pure ?_)))))))
  refine wpAny_bind (slicePart_ ps ?_)
  show wpAny _ _ (if ((-1 : Int) == 0) = true then _ else _) _ _ s
  rw [if_neg (by decide)]
  refine wpAny_bind (slicePart_ pl (wpAny_bind (slicePart_ pu (wpAny_bind (wpAny_pure ?_)))))
  show wpAny _ _ (match Builtin.Slice.sliceAdjust none none (-1) (n : Int) with | (lo, hi) => pure (lo, (-1 : Int), Builtin.Slice.slicePlaces lo hi (-1))) _ _ s
  rw [adjust_back n]
  show wpAny _ _ (pure ((n : Int) - 1, (-1 : Int), Builtin.Slice.slicePlaces ((n : Int) - 1) (-1) (-1))) _ _ s
  rw [places_back]
  exact wpAny_pure h
theorem getItem_tuple_back {t sl : Addr} {items : Array Value} {vl vu vs : Value} {Q : Value → Shared → Prop} (ht : IsTup s.heap t items) (hs : s.heap.IsSliceOf sl vl vu vs) (pl : IsPart vl none) (pu : IsPart vu none) (ps : IsPart vs (some (-1)))
    (h : Q (.ref s.heap.objs.size) { s with heap := s.heap.push { cls := .type "tuple", data := .seq items.toList.reverse.toArray } })
    (hsz : items.size ≤ sizeLine) : wpAny (model prog w) A (getItem (.ref t) (.ref sl)) Q E s := by
  have hok : sizeOk (.seq items.toList.reverse.toArray) := by
    show items.toList.reverse.toArray.size ≤ sizeLine
    rw [List.size_toArray, List.length_reverse, Array.length_toList]; exact hsz
  obtain ⟨os, hos, hcs, hds⟩ := id hs
  have hTs : s.TypeIs (.ref sl) "slice" := ⟨os, hos, hcs⟩
  unfold getItem
  try with_reducible refine wpAny_holding ?_
  first | refine wpAny_bind (wpAny_pure ?_) | skip
  refine wpAny_bind (wpAny_sequenceKey ht.typeIs (by decide) ?_)
  refine wpAny_bind (wpAny_callSpecial?_slot (name := Str.ofString "__getitem__") ht.typeIs PyProof.Rows.slot_tuple_getitem
    (wpAny_call_entry PyProof.Rows.slot_tuple_getitem ht.typeIs entry_tuple_getitem ?_ (args_tuple_getitem _ _)))
  show wpAny _ _ (Builtin.Tuple.tupleItemsOf (.ref t) >>= _) _ _ s
  refine wpAny_bind (tupleItemsOf_ ht ?_)
  refine wpAny_bind (wpAny_typeOf hTs ?_)
  rw [if_pos (by decide)]
  refine wpAny_bind (sliceApplied_back hs pl pu ps ?_)
  have hno : ¬ ((((items.size : Int) - 1) == 0 && (-1 : Int) == 1 && items.size == items.size) = true) := by
    intro q
    rw [Bool.and_eq_true, Bool.and_eq_true] at q
    exact absurd q.1.2 (by decide)
  show wpAny _ _ (if (((items.size : Int) - 1) == 0 && (-1 : Int) == 1 && items.size == items.size) = true then _ else _) _ _ s
  rw [if_neg hno, pick_back]
  first
    | exact wpAny_bind (m := Builtin.Tuple.tupleExact _) (wpAny_newObj_type (wpAny_pure ⟨_, rfl, wpAny_pure h⟩) hok)
    | exact wpAny_bind (m := Builtin.Tuple.tupleExact _) (wpAny_newObj_type (wpAny_bind (wpAny_pure (wpAny_pure ⟨_, rfl, wpAny_pure h⟩))) hok)
    | exact wpAny_bind (wpAny_bind (m := Builtin.Tuple.tupleExact _) (wpAny_newObj_type (wpAny_pure (wpAny_pure ⟨_, rfl, wpAny_pure h⟩)) hok))
    | exact wpAny_bind (wpAny_bind (m := Builtin.Tuple.tupleExact _) (wpAny_newObj_type (wpAny_pure ⟨_, rfl, wpAny_pure h⟩) hok))
end
/-- x[::-1], a list or a tuple -/
def tRevA (K : PySem.W.Frag) (te : TE) : TE := fun σ H Q => te σ H fun x H1 => ∃ a xs, x = .ref a ∧ ((SqL K H1 a xs ∧ ∀ p, H1 p = none → Q (.ref p) (upd H1 p (.lst xs.reverse))) ∨ (SqT K H1 a xs ∧ ∀ p, H1 p = none → Q (.ref p) (upd H1 p (.tup xs.reverse))))
theorem pe_revA {X : Cx} {e : Expr} {te : TE} {k : Nat} {p1 p2 p3 pos : Pos} (he : PE X e te) : PE X (.Subscript e (.Slice none none (some (.UnaryOp .USub (.Constant (.int 1) k p1) p2)) p3) pos) (tRevA X.K te) := by
  refine ⟨fun pins s σ H Q I h => ?_⟩
  refine Subscript_ (thn (he.run pins s σ H _ I h) fun v s1 ⟨x, H1, I1, r1, q1⟩ => ?_)
  obtain ⟨a, xs, ex, q⟩ := q1
  subst ex
  cases r1
  have hst : PO X (some (.UnaryOp .USub (.Constant (.int 1) k p1) p2)) (tPart (tUn (rU fun i => .int (-i)) (tC (.int 1)))) := po_some (pe_un un_neg pe_int)
  refine wpAny_Slice (thn (po_none.run pins s1 σ H1 (fun o H2 => o = none ∧ H2 = H1) I1 ⟨rfl, rfl⟩) fun vl s2 ⟨l, H2, I2, pl, el, e2⟩ => ?_)
  subst el e2
  refine thn (po_none.run pins s2 σ H2 (fun o H3 => o = none ∧ H3 = H2) I2 ⟨rfl, rfl⟩) fun vu s3 ⟨u, H3, I3, pu, eu, e3⟩ => ?_
  subst eu e3
  refine thn (hst.run pins s3 σ H3 (fun o H4 => o = some (-1) ∧ H4 = H3) I3 ⟨1, rfl, -1, rfl, rfl, rfl⟩) fun vs s4 ⟨o, H4, I4, ps, eo, e4⟩ => ?_
  subst eo e4
  have I5 : Inv X pins σ H4 { s4 with heap := s4.heap.push { cls := .type "slice", data := .fields #[vl, vu, vs] } } := I4.kept (t' := s4.toks) fun b ob q => Heap.get?_push_of_some _ q
  show wpAny (model X.prog X.w) X.A (subscriptTail e (.Slice none none (some (.UnaryOp .USub (.Constant (.int 1) k p1) p2)) p3) (.ref a) (.ref s4.heap.objs.size)) (EP X pins σ Q) X.xe { s4 with heap := s4.heap.push { cls := .type "slice", data := .fields #[vl, vu, vs] } }
  rcases q with ⟨hx, q⟩ | ⟨hx, q⟩
  · obtain ⟨its, r, ht, hz⟩ := I5.list hx
    have hlen := r.length
    refine tail_any (ops := [.ref a, .ref s4.heap.objs.size]) ht.isList.typeIs (PySem.slot_list_getitem.lookup) ?_ (by with_unfolding_all rfl)
    refine wpAny_getItem_list_slice ht.isList (Heap.IsSliceOf.new _ vl vu vs) pl pu ps (by decide) ?_ (by rw [List.size_toArray]; omega)
    rw [PySem.W.krv_pick]
    refine ⟨.ref _, _, I5.laid (t' := s4.toks) (o := .lst xs.reverse) (fun b ob q => Heap.get?_push_of_some _ q) (Nat.le_refl _) ?_, rfl, q _ (I5.hok.fresh (Nat.le_refl _))⟩
    exact ⟨by rw [List.length_reverse]; exact hz, _, 0, r.reverse, Heap.get?_push_size _ rfl⟩
  · obtain ⟨its, r, ht, hz⟩ := I5.tuple hx
    have hlen := r.length
    refine tail_any (ops := [.ref a, .ref s4.heap.objs.size]) ht.typeIs (PyProof.Rows.slot_tuple_getitem.lookup) ?_ (by with_unfolding_all rfl)
    refine getItem_tuple_back ht (Heap.IsSliceOf.new _ vl vu vs) pl pu ps ?_ (by rw [List.size_toArray]; omega)
    refine ⟨.ref _, _, I5.laid (t' := s4.toks) (o := .tup xs.reverse) (fun b ob q => Heap.get?_push_of_some _ q) (Nat.le_refl _) ?_, rfl, q _ (I5.hok.fresh (Nat.le_refl _))⟩
    exact ⟨by rw [List.length_reverse]; exact hz, _, by simpa using r.reverse, IsTup.new _ _⟩
end RS
end
section
set_option Elab.async false
set_option linter.all false
set_option maxRecDepth 100000
set_option autoImplicit false
set_option maxHeartbeats 2000000
namespace RS
open PySem L2
section
variable {X : Cx} {mc : MC}
theorem Post.up {K : PySem.W.Frag} {c : Cfg} {gT gT' : Shd} {gF gF' : Own} {σ : L2.St} {ρ : Env} {s : OSt} {r : Rs} {Q : VK} (p : Post K c gT gF σ ρ s r Q) (h1 : ∀ p ∈ gT, p ∈ gT') (h2 : List.Sublist gF gF') : Post K c gT' gF' σ ρ s r Q := by
  intro v H' P V
  refine p v H' (P.less (fun q hq => ?_) ?_) V
  · cases r <;> first
      | (rcases List.mem_cons.mp hq with e | hq
         · rw [e]; exact List.mem_cons_self
         · exact List.mem_cons_of_mem _ (h1 q hq))
      | exact h1 q hq
  · cases r <;> (try exact h2)
    cases v <;> first | exact h2 | exact h2.cons_cons _
/-! ### and, or, not, if-else -/
theorem bool_of {r : Rs} {f : Bool → R Rs} {y : Rs} {s : OSt} (h : (match r with | .sh (.bl true) => f true | .sh (.bl false) => f false | _ => .no) = .ok y s) : ∃ b, r = .sh (.bl b) ∧ f b = .ok y s := by
  split at h
  · exact ⟨true, rfl, h⟩
  · exact ⟨false, rfl, h⟩
  · cases h
theorem rep_bl {K : PySem.W.Frag} {c : Cfg} {gT : Shd} {gF : Own} {σ : L2.St} {H : Hp} {ρ : Env} {s : OSt} {b : Bool} {v : V} (P : Pt K c ((.bl b, v) :: gT) gF σ H ρ s) : v = .bl b ∧ Pt K c gT gF σ H ρ s := by
  refine ⟨?_, P.less (fun _ z => List.mem_cons_of_mem _ z) (List.Sublist.refl _)⟩
  obtain ⟨T, F, o⟩ := P
  have := o.B.tT _ (o.hT _ List.mem_cons_self)
  rw [Rep] at this
  exact this
theorem Pt.bl {K : PySem.W.Frag} {c : Cfg} {gT : Shd} {gF : Own} {σ : L2.St} {H : Hp} {ρ : Env} {s : OSt} (b : Bool) (P : Pt K c gT gF σ H ρ s) : Pt K c ((.bl b, .bl b) :: gT) gF σ H ρ s := by
  obtain ⟨T, F, o⟩ := P
  exact ⟨_, _, o.addT Rep.bl'⟩
theorem sel_ok {x : R Rs} {f g : OSt → R Rs} {y : Rs} {s : OSt} (h : (x.bind fun r s1 => match r with | .sh (.bl true) => f s1 | .sh (.bl false) => g s1 | _ => .no) = .ok y s) : ∃ b s1, x = .ok (.sh (.bl b)) s1 ∧ (if b = true then f s1 else g s1) = .ok y s := by
  obtain ⟨r, s1, h1, h⟩ := bind_ok h
  split at h
  · exact ⟨true, s1, h1, h⟩
  · exact ⟨false, s1, h1, h⟩
  · cases h
theorem sel_ok' {x : R Rs} {f g : OSt → R Rs} {y : Rs} {s : OSt} (h : (x.bind fun r s1 => match r with | .sh (.bl false) => f s1 | .sh (.bl true) => g s1 | _ => .no) = .ok y s) : ∃ b s1, x = .ok (.sh (.bl b)) s1 ∧ (if b = true then g s1 else f s1) = .ok y s := by
  obtain ⟨r, s1, h1, h⟩ := bind_ok h
  split at h
  · exact ⟨false, s1, h1, h⟩
  · exact ⟨true, s1, h1, h⟩
  · cases h
theorem snd_and {a b : Expr} {r : List Expr} {ea eb : E} {pos : Pos} (ha : Snd X a (ev ea)) (hb : PE X (.BoolOp .And (b :: r) pos) (rd X.K (ev eb))) (hw : PW X (.BoolOp .And (b :: r) pos) (rdT X.K (ev eb))) : Snd X (.BoolOp .And (a :: b :: r) pos) (ev (.and ea eb)) := by
  have w : PW X (.BoolOp .And (a :: b :: r) pos) (rdT X.K (ev (.and ea eb))) := by
    refine (pw_and ha.pt hw).via fun σ H Q h => ?_
    obtain ⟨c, gT, gF, ρ, s, k, s', P, e, q⟩ := h
    rw [ev] at e
    obtain ⟨d, s1, e1, e⟩ := sel_ok e
    refine ⟨c, gT, gF, ρ, s, d, s1, P, e1, fun H' P' => ?_⟩
    cases d with
    | true => exact ⟨c, gT, gF, ρ, s1, k, s', P', e, q⟩
    | false => cases e; exact q H' P'
  refine ⟨(pe_and ha.pe hb).via fun σ H Q h => ?_, w.pt, fun _ _ _ _ => w⟩
  obtain ⟨c, gT, gF, ρ, s, y, s', P, e, q⟩ := h
  rw [ev] at e
  obtain ⟨d, s1, e1, e⟩ := sel_ok e
  refine ⟨c, gT, gF, ρ, s, _, s1, P, e1, fun v H' P' _ => ?_⟩
  obtain ⟨rfl, P'⟩ := rep_bl P'
  refine ⟨d, rfl, ?_⟩
  cases d with
  | true => exact ⟨c, gT, gF, ρ, s1, y, s', P', e, q⟩
  | false => cases e; exact q _ H' (P'.bl false) trivial
theorem snd_or {a b : Expr} {r : List Expr} {ea eb : E} {pos : Pos} (ha : Snd X a (ev ea)) (hb : PE X (.BoolOp .Or (b :: r) pos) (rd X.K (ev eb))) (hw : PW X (.BoolOp .Or (b :: r) pos) (rdT X.K (ev eb))) : Snd X (.BoolOp .Or (a :: b :: r) pos) (ev (.or ea eb)) := by
  have w : PW X (.BoolOp .Or (a :: b :: r) pos) (rdT X.K (ev (.or ea eb))) := by
    refine (pw_or ha.pt hw).via fun σ H Q h => ?_
    obtain ⟨c, gT, gF, ρ, s, k, s', P, e, q⟩ := h
    rw [ev] at e
    obtain ⟨d, s1, e1, e⟩ := sel_ok' e
    refine ⟨c, gT, gF, ρ, s, d, s1, P, e1, fun H' P' => ?_⟩
    cases d with
    | false => exact ⟨c, gT, gF, ρ, s1, k, s', P', e, q⟩
    | true => cases e; exact q H' P'
  refine ⟨(pe_or ha.pe hb).via fun σ H Q h => ?_, w.pt, fun _ _ _ _ => w⟩
  obtain ⟨c, gT, gF, ρ, s, y, s', P, e, q⟩ := h
  rw [ev] at e
  obtain ⟨d, s1, e1, e⟩ := sel_ok' e
  refine ⟨c, gT, gF, ρ, s, _, s1, P, e1, fun v H' P' _ => ?_⟩
  obtain ⟨rfl, P'⟩ := rep_bl P'
  refine ⟨d, rfl, ?_⟩
  cases d with
  | false => exact ⟨c, gT, gF, ρ, s1, y, s', P', e, q⟩
  | true => cases e; exact q _ H' (P'.bl true) trivial
theorem not_ok {x : R Rs} {y : Rs} {s : OSt} (h : (x.bind fun r s1 => match r with | .sh (.bl b) => .ok (.sh (.bl !b)) s1 | _ => .no) = .ok y s) : ∃ b, x = .ok (.sh (.bl b)) s ∧ y = .sh (.bl !b) := by
  obtain ⟨r, s1, h1, h⟩ := bind_ok h
  split at h
  · cases h; exact ⟨_, h1, rfl⟩
  · cases h
theorem snd_not {a : Expr} {ea : E} {pos : Pos} (ha : Snd X a (ev ea)) : Snd X (.UnaryOp .Not a pos) (ev (.not ea)) := by
  refine ⟨(pe_not ha.pe).via fun σ H Q h => ?_, (pt_not ha.pt).via fun σ H Q h => ?_, fun _ _ _ z => by cases z⟩
  · obtain ⟨c, gT, gF, ρ, s, y, s', P, e, q⟩ := h
    rw [ev] at e
    obtain ⟨b, e1, rfl⟩ := not_ok e
    refine ⟨c, gT, gF, ρ, s, _, _, P, e1, fun v H' P' _ => ?_⟩
    obtain ⟨rfl, P'⟩ := rep_bl P'
    exact ⟨b, rfl, q _ H' (P'.bl _) trivial⟩
  · obtain ⟨c, gT, gF, ρ, s, k, s', P, e, q⟩ := h
    rw [ev] at e
    obtain ⟨b, e1, e2⟩ := not_ok e
    cases e2
    exact ⟨c, gT, gF, ρ, s, b, _, P, e1, q⟩
theorem pt_ife {t a b : Expr} {tt ta tb : TT} {pos : Pos} (ht : PT X t tt) (ha : PT X a ta) (hb : PT X b tb) : PT X (.IfExp t a b pos) (fun σ H Q => tt σ H fun c H1 => if c = true then ta σ H1 Q else tb σ H1 Q) := by
  refine ⟨fun pins s σ H Q I h => ?_⟩
  show wpAny _ _ (isTrue t X.env (eval t X.env) >>= fun d => if d = true then isTrue a X.env (eval a X.env) else isTrue b X.env (eval b X.env)) _ _ s
  refine wpAny_bind (thn (ht.run pins s σ H _ I h) fun d s1 ⟨H1, I1, q1⟩ => ?_)
  cases d with
  | true => exact ha.run pins s1 σ H1 Q I1 q1
  | false => exact hb.run pins s1 σ H1 Q I1 q1
theorem snd_ife {t a b : Expr} {et ea eb : E} {pos : Pos} (ht : Snd X t (ev et)) (ha : Snd X a (ev ea)) (hb : Snd X b (ev eb)) : Snd X (.IfExp t a b pos) (ev (.ife et ea eb)) := by
  refine ⟨(pe_ifExp ht.pt ha.pe hb.pe).via fun σ H Q h => ?_, (pt_ife ht.pt ha.pt hb.pt).via fun σ H Q h => ?_, fun _ _ _ z => by cases z⟩
  · obtain ⟨c, gT, gF, ρ, s, y, s', P, e, q⟩ := h
    rw [ev] at e
    obtain ⟨d, s1, e1, e⟩ := sel_ok e
    refine ⟨c, gT, gF, ρ, s, d, s1, P, e1, fun H' P' => ?_⟩
    cases d with
    | true => exact ⟨c, gT, gF, ρ, s1, y, s', P', e, q⟩
    | false => exact ⟨c, gT, gF, ρ, s1, y, s', P', e, q⟩
  · obtain ⟨c, gT, gF, ρ, s, k, s', P, e, q⟩ := h
    rw [ev] at e
    obtain ⟨d, s1, e1, e⟩ := sel_ok e
    refine ⟨c, gT, gF, ρ, s, d, s1, P, e1, fun H' P' => ?_⟩
    cases d with
    | true => exact ⟨c, gT, gF, ρ, s1, k, s', P', e, q⟩
    | false => exact ⟨c, gT, gF, ρ, s1, k, s', P', e, q⟩
/-! ### a chain of two comparisons -/
theorem chain_ok {ea eb ec : E} {o1 o2 : COp} {ρ : Env} {s s' : OSt} {r : Rs} (e : ev (.chain o1 o2 ea eb ec) ρ s = .ok r s') : ∃ rx s1 ry s2 k, ev ea ρ s = .ok rx s1 ∧ ev eb ρ s1 = .ok ry s2 ∧ cmpF o1 rx.d ry.d = some k ∧
    (if k = true then ∃ rz b, ev ec ρ s2 = .ok rz s' ∧ cmpF o2 ry.d rz.d = some b ∧ r = .sh (.bl b) else s' = s2 ∧ r = .sh (.bl false)) := by
  rw [ev] at e
  obtain ⟨rx, s1, e1, e⟩ := bind_ok e
  obtain ⟨ry, s2, e2, e⟩ := bind_ok e
  refine ⟨rx, s1, ry, s2, ?_⟩
  split at e
  · rename_i hk
    obtain ⟨rz, s3, e3, e⟩ := bind_ok e
    obtain ⟨e4, rfl⟩ := lift_ok e
    rw [Option.map_eq_some_iff] at e4
    obtain ⟨b, hb, rfl⟩ := e4
    exact ⟨true, e1, e2, hk, rz, b, e3, hb, rfl⟩
  · rename_i hk
    cases e
    exact ⟨false, e1, e2, hk, rfl, rfl⟩
  · cases e
theorem chain_rd (ok : CtxOk X mc) {ea eb ec : E} {o1 o2 : COp} {σ : L2.St} {H : Hp} {Q : VK} (h : rd X.K (ev (.chain o1 o2 ea eb ec)) σ H Q) : tChain (rCmp X.K o1) (rCmp X.K o2) (rd X.K (ev ea)) (rd X.K (ev eb)) (rd X.K (ev ec)) σ H Q := by
  obtain ⟨c, gT, gF, ρ, s, r, s', P, e, q⟩ := h
  obtain ⟨rx, s1, ry, s2, k, e1, e2, hk, e3⟩ := chain_ok e
  refine ⟨c, gT, gF, ρ, s, rx, s1, P, e1, fun x H1 P1 V1 => ⟨c, _, _, ρ, s1, ry, s2, P1, e2, fun y H2 P2 V2 => ?_⟩⟩
  have P2' := P2
  obtain ⟨T, F, o⟩ := P2
  refine ⟨c.aS, c.Ow F, rx.d, ry.d, k, o.tv (V1.hd.ext ry y), o.tv V2.hd, hk, k, rfl, ?_⟩
  cases k with
  | true =>
    obtain ⟨rz, b, e3, e4, rfl⟩ := e3
    refine ⟨c, _, _, ρ, s2, rz, s', P2', e3, fun z H3 P3 V3 => ?_⟩
    obtain ⟨T', F', o'⟩ := P3
    refine ⟨c.aS, c.Ow F', ry.d, rz.d, b, o'.tv (V2.hd.ext rz z), o'.tv V3.hd, e4, q.sh o' (fun p hp => rz.subT z _ p (ry.subT y _ p (rx.subT x gT p hp))) ((rx.subF x gF).trans ((ry.subF y _).trans (rz.subF z _))) Rep.bl'⟩
  | false =>
    obtain ⟨rfl, rfl⟩ := e3
    exact q.sh o (fun p hp => ry.subT y _ p (rx.subT x gT p hp)) ((rx.subF x gF).trans (ry.subF y _)) Rep.bl'
theorem snd_chain (ok : CtxOk X mc) {o1 o2 : COp} {a b d : Expr} {ea eb ed : E} {pos : Pos} (hp : plainE d = true) (ha : PE X a (rd X.K (ev ea))) (hb : PE X b (rd X.K (ev eb))) (hd : PE X d (rd X.K (ev ed))) : Snd X (.Compare a [copOf o1, copOf o2] [b, d] pos) (ev (.chain o1 o2 ea eb ed)) := by
  have hm : lastMarks [copOf o1, copOf o2] [b, d] = false := by
    show behindInMarks (copOf o2) d = false
    cases d <;> first | rfl | cases hp
  have hu : X.A.units + 64 < cLine := by have := ok.un; omega
  refine ⟨(pe_chain (op_cmp hu o1) (op_cmp hu o2) ha hb hd hm).via fun σ H Q h => chain_rd ok h, (pt_chain (op_cmp hu o1) (op_cmp hu o2) ha hb hd hm).via fun σ H Q h => ?_, fun _ _ _ z => by cases z⟩
  exact chain_rd ok (rdT_of h)
/-! ### slices -/
theorem partOf_some {e : E} {r : Rs} {o : Option Int} (h : partOf e r = some o) : (e = .omit ∧ o = none) ∨ ∃ i, e ≠ .omit ∧ r = .sh (.int i) ∧ o = some i := by
  unfold partOf at h
  split at h
  · cases h; exact .inl ⟨rfl, rfl⟩
  · rename_i ne
    split at h
    · cases h; exact .inr ⟨_, ne, rfl, rfl⟩
    · cases h
/-- a slice's part: left out, or an int -/
def rdO (K : PySem.W.Frag) (e : E) : TO := fun σ H Q => ∃ c gT gF ρ s r s' o, Pt K c gT gF σ H ρ s ∧ ev e ρ s = .ok r s' ∧ partOf e r = some o ∧ ∀ H', Pt K c gT gF σ H' ρ s' → Q o H'
theorem po_omit : PO X none (rdO X.K .omit) := by
  have := po_none (X := X)
  refine ⟨fun pins s σ H Q I h => this.run pins s σ H Q I ?_⟩
  obtain ⟨c, gT, gF, ρ, st, r, s', o, P, e, p, q⟩ := h
  rw [ev] at e
  cases e
  cases p
  exact q H P
theorem po_int {e : E} {x : Expr} (hx : PE X x (rd X.K (ev e))) (hne : e ≠ .omit) : PO X (some x) (rdO X.K e) := by
  have := po_some hx
  refine ⟨fun pins s σ H Q I h => this.run pins s σ H Q I ?_⟩
  obtain ⟨c, gT, gF, ρ, st, r, s', o, P, e1, p, q⟩ := h
  rcases partOf_some p with ⟨z, _⟩ | ⟨i, _, rfl, rfl⟩
  · exact (hne z).elim
  · refine ⟨c, gT, gF, ρ, st, _, s', P, e1, fun v H' P' _ => ?_⟩
    have P0 := P'
    obtain ⟨T, F, o⟩ := P'
    have := o.B.tT _ (o.hT _ List.mem_cons_self)
    rw [Rep] at this
    exact ⟨i, this, q H' (P0.less (fun _ z => List.mem_cons_of_mem _ z) (List.Sublist.refl _))⟩
theorem slcF_bo {d : D} {l h : Option Int} {r : Rs} (e : slcF d l h = some r) : r.isBo = false := by
  cases d <;> first | (cases e; rfl) | cases e
theorem snd_slc {a : Expr} {ea el eh : E} {lo hi : Option Expr} {p2 pos : Pos} (ha : PE X a (rd X.K (ev ea))) (hl : PO X lo (rdO X.K el)) (hh : PO X hi (rdO X.K eh)) : PE X (.Subscript a (.Slice lo hi none p2) pos) (rd X.K (ev (.slc ea el eh))) := by
  refine (pe_slice sl_slc ha hl hh).via fun σ H Q h => ?_
  obtain ⟨c, gT, gF, ρ, s, r, s', P, e, q⟩ := h
  rw [ev] at e
  obtain ⟨rx, s1, e1, e⟩ := bind_ok e
  obtain ⟨ry, s2, e2, e⟩ := bind_ok e
  obtain ⟨rz, s3, e3, e⟩ := bind_ok e
  split at e
  · rename_i l u hl hu
    obtain ⟨e4, rfl⟩ := lift_ok e
    refine ⟨c, gT, gF, ρ, s, rx, s1, P, e1, fun x H1 P1 V1 => ⟨c, _, _, ρ, s1, ry, s2, l, P1, e2, hl, fun H2 P2 => ⟨c, _, _, ρ, s2, rz, _, u, P2, e3, hu, fun H3 P3 => ?_⟩⟩⟩
    obtain ⟨T, F, o⟩ := P3
    exact ⟨c.aS, c.Ow F, rx.d, r, o.tv V1.hd, e4, Give.of o (rx.subT x gT) (rx.subF x gF) q (slcF_bo e4)⟩
  · cases e
theorem snd_rev {a : Expr} {ea : E} {k : Nat} {p1 p2 p3 pos : Pos} (ha : PE X a (rd X.K (ev ea))) : PE X (.Subscript a (.Slice none none (some (.UnaryOp .USub (.Constant (.int 1) k p1) p2)) p3) pos) (rd X.K (ev (.rev ea))) := by
  refine (pe_revA ha).via fun σ H Q h => ?_
  refine rd_one (g := fun x => revF x.d) (by simpa only [ev] using h) ?_
  intro c gT gF gT0 gF0 ρ s rx r T F x H2 op h1 h2 hx e q
  have t := op.tv hx
  have hb : r.isBo = false := by cases hd : rx.d <;> rw [hd] at e <;> first | (cases e; rfl) | cases e
  have g := Give.of op h1 h2 q hb
  cases hd : rx.d <;> rw [hd] at e t <;> first | (cases e; done) | skip
  · cases e
    obtain ⟨b, xs, rfl, hb, tt⟩ := t.tup
    exact ⟨b, xs, rfl, .inr ⟨hb, fun p hp => g.2 _ p _ rfl hp tt.reverse⟩⟩
  · cases e
    obtain ⟨b, xs, rfl, hb, tt⟩ := t.lst
    exact ⟨b, xs, rfl, .inl ⟨SqL.of hb, fun p hp => g _ p _ rfl hp tt.reverse⟩⟩
end
end RS
end
section
set_option Elab.async false
set_option linter.all false
set_option maxRecDepth 100000
set_option autoImplicit false
set_option maxHeartbeats 2000000
namespace RS
open PySem L2
theorem star_cons {e : Expr} {es : List Expr} {env : PySem.Env} (h : plainE e = true) : starEach (e :: es) env = (false, eval e env) :: starEach es env := by
  cases e <;> first | rfl | cases h
/-- all argument trees without a star -/
def plainEs : List Expr → Bool
  | [] => true
  | e :: es => plainE e && plainEs es
theorem mtEs_plain (mc : MC) : ∀ (e : E) (es : List Expr), mtEs e mc es = true → plainEs es = true
  | .nil, [], _ => rfl
  | .cons a b, x :: r, h => by
    rw [mtEs, Bool.and_eq_true, Bool.and_eq_true] at h
    rw [plainEs, h.1.1, mtEs_plain mc b r h.2]; rfl
  | .cons a b, [], h => by simp [mtEs] at h
  | .nil, _ :: _, h => by simp [mtEs] at h
  | .var _, _, h => by simp [mtEs] at h
  | .con _, _, h => by simp [mtEs] at h
  | .glob _ _, _, h => by simp [mtEs] at h
  | .omit, _, h => by simp [mtEs] at h
  | .tup _, _, h => by simp [mtEs] at h
  | .lst _, _, h => by simp [mtEs] at h
  | .bin _ _ _, _, h => by simp [mtEs] at h
  | .neg _, _, h => by simp [mtEs] at h
  | .cmp _ _ _, _, h => by simp [mtEs] at h
  | .chain _ _ _ _ _, _, h => by simp [mtEs] at h
  | .and _ _, _, h => by simp [mtEs] at h
  | .or _ _, _, h => by simp [mtEs] at h
  | .not _, _, h => by simp [mtEs] at h
  | .ife _ _ _, _, h => by simp [mtEs] at h
  | .idx _ _, _, h => by simp [mtEs] at h
  | .slc _ _ _, _, h => by simp [mtEs] at h
  | .rev _, _, h => by simp [mtEs] at h
  | .call _ _ _, _, h => by simp [mtEs] at h
  | .callK _ _ _ _ _ _, _, h => by simp [mtEs] at h
  | .prim _ _, _, h => by simp [mtEs] at h
  | .reprEq _ _, _, h => by simp [mtEs] at h
  | .comp _ _ _ _ _, _, h => by simp [mtEs] at h
  | .itE _, _, h => by simp [mtEs] at h
  | .itRange _, _, h => by simp [mtEs] at h
  | .itZip _ _, _, h => by simp [mtEs] at h
  | .itEnum _, _, h => by simp [mtEs] at h
theorem star_plain (env : PySem.Env) (pos : Pos) : ∀ es : List Expr, plainEs es = true → (backTo pos (starEach es env)).any (·.1) = false
  | [], _ => rfl
  | e :: es, h => by
    rw [plainEs, Bool.and_eq_true] at h
    rw [star_cons h.1]
    show (false || (backTo pos (starEach es env)).any (·.1)) = false
    rw [star_plain env pos es h.2]; rfl
section
variable {X : Cx} {mc : MC}
/-! ### argument lists -/
theorem args_nil : PA X [] (rdA X.K (evs .nil)) := pa_nil.via fun σ H Q h => by
  obtain ⟨c, gT, gF, ρ, s, rs, s', P, e, q⟩ := h
  rw [evs] at e
  cases e
  exact q [] H P rfl
theorem args_cons {e : Expr} {es : List Expr} {ea eb : E} (hp : plainE e = true) (ha : PE X e (rd X.K (ev ea))) (hb : PA X es (rdA X.K (evs eb))) : PA X (e :: es) (rdA X.K (evs (.cons ea eb))) := by
  refine (pa_cons ha hb (star_cons hp)).via fun σ H Q h => ?_
  obtain ⟨c, gT, gF, ρ, s, rs, s', P, e, q⟩ := h
  rw [evs] at e
  obtain ⟨rx, s1, e1, e⟩ := bind_ok e
  obtain ⟨ry, s2, e2, e⟩ := bind_ok e
  cases e
  refine ⟨c, gT, gF, ρ, s, rx, s1, P, e1, fun x H1 P1 V1 => ⟨c, _, _, ρ, s1, ry, _, P1, e2, fun vs H2 P2 V2 => ?_⟩⟩
  exact q (x :: vs) H2 P2 ⟨x, vs, rfl, V1.hd.mono (subTs ry vs _) fun p hp => (subFs ry vs _).subset hp, V2⟩
/-- what was fresh is shared -/
theorem Pt.shares {K : PySem.W.Frag} {c : Cfg} {σ : L2.St} {H : Hp} {ρ : Env} {s : OSt} : ∀ (rs : List Rs) (vs : List V) (gT : Shd) (gF : Own), vs.length = rs.length → (∀ (i : Nat) (d : D) (v : V), rs[i]? = some (.fr d) → vs[i]? = some v → ∃ a, v = .ref a) → Pt K c (exTs rs vs gT) (exFs rs vs gF) σ H ρ s →
    ∃ gT', Pt K c gT' gF σ H ρ s ∧ (∀ p ∈ gT, p ∈ gT') ∧ ∀ (i : Nat) (r : Rs) (v : V), rs[i]? = some r → vs[i]? = some v → r.isBo = false → (r.d, v) ∈ gT'
  | [], [], gT, gF, _, _, P => ⟨gT, P, fun _ h => h, fun i r v h => by simp at h⟩
  | [], _ :: _, _, _, hl, _, _ => by simp at hl
  | _ :: _, [], _, _, hl, _, _ => by simp at hl
  | r :: rs, v :: vs, gT, gF, hl, hv, P => by
    obtain ⟨gT', P', h1, h2⟩ := Pt.shares rs vs (r.exT v gT) (r.exF v gF) (by simpa using hl) (fun i d w a b => hv (i + 1) d w (by simpa using a) (by simpa using b)) P
    have fin : ∀ gT'', Pt K c gT'' gF σ H ρ s → (∀ p ∈ gT', p ∈ gT'') → (r.isBo = false → (r.d, v) ∈ gT'') → ∃ gT', Pt K c gT' gF σ H ρ s ∧ (∀ p ∈ gT, p ∈ gT') ∧ ∀ (i : Nat) (q : Rs) (w : V), (r :: rs)[i]? = some q → (v :: vs)[i]? = some w → q.isBo = false → (q.d, w) ∈ gT' := fun gT'' P'' k1 k2 =>
      ⟨gT'', P'', fun p hp => k1 p (h1 p (r.subT v gT p hp)), fun i q w a b nb => by
        cases i with
        | zero => simp at a b; subst a b; exact k2 nb
        | succ i => exact k1 _ (h2 i q w (by simpa using a) (by simpa using b) nb)⟩
    cases r with
    | sh d => exact fin gT' P' (fun _ h => h) fun _ => h1 _ List.mem_cons_self
    | bo i d => exact fin gT' P' (fun _ h => h) fun z => by cases z
    | fr d =>
      obtain ⟨a, rfl⟩ := hv 0 d v rfl rfl
      exact fin _ (Pt.forget (gF := gF) P') (fun p hp => List.mem_cons_of_mem _ hp) fun _ => List.mem_cons_self
theorem Hds.refs {gT : Shd} {gF : Own} {σ : L2.St} {ρ : Env} : ∀ {rs : List Rs} {vs : List V}, Hds gT gF σ ρ rs vs → ∀ (i : Nat) (d : D) (v : V), rs[i]? = some (.fr d) → vs[i]? = some v → ∃ a, v = .ref a
  | [], _, _, i, d, v, h, _ => by simp at h
  | r :: rs, _, h, 0, d, v, h1, h2 => by
    obtain ⟨x, xs, rfl, q, _⟩ := h
    simp at h1 h2
    subst h1 h2
    obtain ⟨a, e, _⟩ := q
    exact ⟨a, e⟩
  | r :: rs, _, h, i + 1, d, v, h1, h2 => by
    obtain ⟨x, xs, rfl, _, q⟩ := h
    exact Hds.refs q i d v (by simpa using h1) (by simpa using h2)
theorem freeze_get : ∀ {rs : List Rs}, freeze rs = true → ∀ (i : Nat) (r : Rs), rs[i]? = some r → r.isBo = false
  | [], _, i, r, h => by simp at h
  | r :: rs, hf, 0, q, h => by
    rw [freeze, Bool.and_eq_true] at hf
    simp at h; subst h
    simpa using hf.1
  | r :: rs, hf, i + 1, q, h => by
    rw [freeze, Bool.and_eq_true] at hf
    exact freeze_get hf.2 i q (by simpa using h)
/-- a frozen argument list: its data at hand, all shared -/
theorem args_share {K : PySem.W.Frag} {c : Cfg} {gT : Shd} {gF : Own} {σ : L2.St} {H : Hp} {ρ : Env} {s : OSt} {rs : List Rs} {vs : List V} (P : Pt K c (exTs rs vs gT) (exFs rs vs gF) σ H ρ s) (h : Hds (exTs rs vs gT) (exFs rs vs gF) σ ρ rs vs) (hf : freeze rs = true) :
    ∃ gT' T F, Opn K c gT' gF σ H ρ s T F ∧ (∀ p ∈ gT, p ∈ gT') ∧ Reps K c.aS (c.Ow F) H (rs.map Rs.d) vs := by
  obtain ⟨gT', ⟨T, F, o⟩, h1, h2⟩ := Pt.shares rs vs gT gF h.length h.refs P
  refine ⟨gT', T, F, o, h1, Reps.of_get (by simpa using h.length) fun i d v e1 e2 => ?_⟩
  rw [List.getElem?_map] at e1
  cases hr : rs[i]? with
  | none => rw [hr] at e1; cases e1
  | some r =>
    rw [hr] at e1; cases e1
    exact o.B.tT _ (o.hT _ (h2 i r v hr e2 (freeze_get hf i r hr)))
theorem evs_len : ∀ (e : E) {ρ : Env} {s s' : OSt} {rs : List Rs}, evs e ρ s = .ok rs s' → rs.length = elen e := by
  intro e
  induction e with
  | cons a b _ ih =>
    intro ρ s s' rs h
    rw [evs] at h
    obtain ⟨rx, s1, _, h⟩ := bind_ok h
    obtain ⟨ry, s2, h2, h⟩ := bind_ok h
    cases h
    rw [elen, List.length_cons, ih h2]
  | nil => intro ρ s s' rs h; rw [evs] at h; cases h; rfl
  | _ => intro ρ s s' rs h; simp [evs] at h
theorem len_line {n : Nat} (h : n ≤ 1000) : n ≤ sizeLine := by rw [sizeLine_eq]; omega
theorem snd_tup {es : List Expr} {e : E} {k : Nat} {pos : Pos} (hl : elen e ≤ 1000) (h : PA X es (rdA X.K (evs e))) : PE X (.Tuple es k pos) (rd X.K (ev (.tup e))) := by
  refine (pe_tup h).via fun σ H Q h => ?_
  obtain ⟨c, gT, gF, ρ, s, r, s', P, e, q⟩ := h
  rw [ev] at e
  obtain ⟨rs, s1, e1, e⟩ := bind_ok e
  split at e <;> first | (cases e; done) | skip
  rename_i hf
  cases e
  refine ⟨c, gT, gF, ρ, s, rs, _, P, e1, fun vs H1 P1 V1 => ?_⟩
  obtain ⟨gT', T, F, o, h1, t⟩ := args_share P1 V1 hf
  refine ⟨by rw [V1.length, evs_len _ e1]; exact len_line hl, fun p hp => ?_⟩
  exact (Give.of o h1 (List.Sublist.refl _) q rfl).2 _ p vs rfl hp t
theorem snd_lst {es : List Expr} {e : E} {pos : Pos} (hl : elen e ≤ 1000) (h : PA X es (rdA X.K (evs e))) : PE X (.List es pos) (rd X.K (ev (.lst e))) := by
  refine (pe_lst h).via fun σ H Q h => ?_
  obtain ⟨c, gT, gF, ρ, s, r, s', P, e, q⟩ := h
  rw [ev] at e
  obtain ⟨rs, s1, e1, e⟩ := bind_ok e
  split at e <;> first | (cases e; done) | skip
  rename_i hf
  cases e
  refine ⟨c, gT, gF, ρ, s, rs, _, P, e1, fun vs H1 P1 V1 => ?_⟩
  obtain ⟨gT', T, F, o, h1, t⟩ := args_share P1 V1 hf
  refine ⟨by rw [V1.length, evs_len _ e1]; exact len_line hl, fun p hp => ?_⟩
  exact Give.of o h1 (List.Sublist.refl _) q rfl _ p vs rfl hp t
/-! ### calls of defs -/
def boAddr : List Rs → List V → List Addr
  | .bo _ _ :: rs, .ref a :: vs => a :: boAddr rs vs
  | _ :: rs, _ :: vs => boAddr rs vs
  | _, _ => []
theorem boAddr_freeze : ∀ {rs : List Rs} {vs : List V}, freeze rs = true → boAddr rs vs = []
  | [], _, _ => by simp [boAddr]
  | r :: rs, [], _ => by cases r <;> simp [boAddr]
  | r :: rs, v :: vs, h => by
    rw [freeze, Bool.and_eq_true] at h
    cases r <;> first | (simp [Rs.isBo] at h; done) | (simp [boAddr, boAddr_freeze h.2])
theorem mem_boAddr : ∀ {rs : List Rs} {vs : List V} {i k : Nat} {d : D} {a : Addr}, rs[i]? = some (.bo k d) → vs[i]? = some (.ref a) → a ∈ boAddr rs vs
  | [], _, _, _, _, _, h, _ => by simp at h
  | _ :: _, [], _, _, _, _, _, h => by simp at h
  | r :: rs, v :: vs, 0, k, d, a, h1, h2 => by
    simp at h1 h2; subst h1 h2
    simp [boAddr]
  | r :: rs, v :: vs, i + 1, k, d, a, h1, h2 => by
    have := mem_boAddr (rs := rs) (vs := vs) (i := i) (by simpa using h1) (by simpa using h2)
    cases r <;> first
      | (simpa [boAddr] using this)
      | (cases v <;> simp [boAddr, this])
theorem of_boAddr : ∀ {rs : List Rs} {vs : List V} {a : Addr}, a ∈ boAddr rs vs → ∃ (i k : Nat) (d : D), rs[i]? = some (.bo k d) ∧ vs[i]? = some (.ref a)
  | [], _, _, h => by simp [boAddr] at h
  | r :: rs, [], _, h => by cases r <;> simp [boAddr] at h
  | r :: rs, v :: vs, a, h => by
    have step : a ∈ boAddr rs vs → ∃ (i k : Nat) (d : D), (r :: rs)[i]? = some (.bo k d) ∧ (v :: vs)[i]? = some (.ref a) := fun h => by
      obtain ⟨i, k, d, h1, h2⟩ := of_boAddr h
      exact ⟨i + 1, k, d, by simpa using h1, by simpa using h2⟩
    cases r with
    | bo k d =>
      cases v with
      | ref b =>
        simp only [boAddr, List.mem_cons] at h
        rcases h with h | h
        · subst h; exact ⟨0, k, d, rfl, rfl⟩
        · exact step h
      | _ => exact step (by simpa [boAddr] using h)
    | sh d => exact step (by simpa [boAddr] using h)
    | fr d => exact step (by simpa [boAddr] using h)
theorem Hds.get {gT : Shd} {gF : Own} {σ : L2.St} {ρ : Env} : ∀ {rs : List Rs} {vs : List V}, Hds gT gF σ ρ rs vs → ∀ (i : Nat) (r : Rs) (v : V), rs[i]? = some r → vs[i]? = some v → Hd gT gF σ ρ r v
  | [], _, _, i, d, v, h, _ => by simp at h
  | r :: rs, _, h, 0, d, v, h1, h2 => by
    obtain ⟨x, xs, rfl, q, _⟩ := h
    simp at h1 h2
    subst h1 h2
    exact q
  | r :: rs, _, h, i + 1, d, v, h1, h2 => by
    obtain ⟨x, xs, rfl, _, q⟩ := h
    exact Hds.get q i d v (by simpa using h1) (by simpa using h2)
/-- behind a call that hands back a fresh thing -/
theorem Bs.callFresh {K : PySem.W.Frag} {c : Cfg} {T : Shd} {F : Own} {H H' : Hp} {s s' : OSt} (B : Bs K c T F H s) (k : Keeps c H H') (st : StOk c H' s') {a : Addr} {d : D} (ha : H a = none) (t : Top K c.aS (c.Ow ((d, a) :: F)) H' d a) : Bs K c T ((d, a) :: F) H' s' := by
  have B' := B.call k st
  have nO : ¬ c.O a := fun z => by obtain ⟨o, q, _⟩ := B.trk a z; rw [ha] at q; cases q
  have nF : a ∉ F.map (·.2) := fun z => by
    obtain ⟨q, hq, e⟩ := List.mem_map.mp z
    obtain ⟨l, ys, _, e2, _⟩ := B.top_at (d := q.1) (a := q.2) hq
    rw [e, ha] at e2; cases e2
  have nS : ∀ b, ¬ c.O b → b ≠ c.aS ∧ b ≠ c.aL := fun b n => ⟨fun e => n (e ▸ B.oS.1), fun e => n (e ▸ B.oS.2.1)⟩
  have g : Go K (c.Ow F) (c.Ow ((d, a) :: F)) H H' := by
    refine ⟨fun b z => ?_, fun b xs q => ?_, fun b xs n q => ?_⟩
    · rcases z with z | z
      · exact .inl (.inl z)
      · rw [List.map_cons] at z
        rcases List.mem_cons.mp z with z | z
        · exact .inr (by rw [z]; exact ha)
        · exact .inl (.inr z)
    · have neS : ∀ o, H b = some o → (∀ kvs, o ≠ .dK kvs) → b ≠ c.aS := fun o e n z => by rw [z, B.st.dict] at e; exact n _ (Option.some.inj e).symm
      have neL : ∀ o, H b = some o → (∀ ys, o ≠ .lst ys) → b ≠ c.aL := fun o e n z => by rw [z, B.st.lefts] at e; exact n _ (Option.some.inj e).symm
      rcases q with (q | ⟨ob, q⟩) | q
      · exact .inl (.inl (k.obj b _ q trivial (neS _ q fun _ z => by cases z) (neL _ q fun _ z => by cases z)))
      · exact .inl (.inr ⟨ob, k.obj b _ q trivial (neS _ q fun _ z => by cases z) (neL _ q fun _ z => by cases z)⟩)
      · exact .inr q
    · have n' : ¬ c.O b := fun z => n (.inl z)
      exact k.obj b _ q trivial (nS b n').1 (nS b n').2
  refine B'.adopt nO (B.kp.there a ha) nF t (fun q hq => Rep.go g _ _ (B.tT q hq)) fun q hq => ?_
  obtain ⟨t1, n1, _⟩ := B.tF q hq
  exact t1.go g fun xs e => k.obj _ _ e trivial (nS _ n1).1 (nS _ n1).2
theorem call_rd {fn : Fn} {n : Nat} {fa : Env → OSt → R (List Rs)} {σ : L2.St} {H : Hp} {Q : VK} (hn : ∀ ds s r s', fn ds s = .ok r s' → ds.length = n) (h : rd X.K (fun ρ s => (fa ρ s).bind fun rs s' => callR fn rs s') σ H Q) : tCallG X.K fn n (rdA X.K fa) σ H Q := by
  obtain ⟨c, gT, gF, ρ, s, r, s', P, e, q⟩ := h
  obtain ⟨rs, s1, e1, e⟩ := bind_ok e
  unfold callR at e
  obtain ⟨r', s2, e2, e⟩ := bind_ok e
  split at e <;> first | (cases e; done) | skip
  rename_i hbo
  split at e <;> first | (cases e; done) | skip
  rename_i hcl
  cases e
  refine ⟨c, gT, gF, ρ, s, rs, s1, P, e1, fun vs H1 P1 V1 => ?_⟩
  obtain ⟨gT', ⟨T, F, o⟩, h1, h2⟩ := Pt.shares rs vs gT gF V1.length V1.refs P1
  have hl := V1.length
  have inF : ∀ (i k : Nat) (d : D) (a : Addr), rs[i]? = some (.bo k d) → vs[i]? = some (.ref a) → (d, a) ∈ F := fun i k d a e1 e2 => by
    obtain ⟨b, eb, h3, h4⟩ := V1.get i _ _ e1 e2
    cases eb
    obtain ⟨b, h5, h6, _⟩ := o.sl.ow k d h4
    rw [h3] at h5; cases h5; exact h6
  have boF : ∀ a, a ∈ boAddr rs vs → ∃ d, (d, a) ∈ F := fun a ha => by
    obtain ⟨i, k, d, e1, e2⟩ := of_boAddr ha
    exact ⟨d, inF i k d a e1 e2⟩
  have nbo : ∀ a, c.O a → a ∉ boAddr rs vs := fun a ha z => by
    obtain ⟨d, hd⟩ := boF a z
    exact (o.B.tF _ hd).2.1 ha
  have less : ∀ a, (c.Ow F a ∧ a ∉ boAddr rs vs) → c.Ow F a := fun _ z => z.1
  refine ⟨⟨fun a => c.Ow F a ∧ a ∉ boAddr rs vs, H1, c.aS, c.aL, c.aC⟩, rs.map Rs.d, s1, r, s', ?_, ?_, ⟨?_, ?_, ?_⟩, e2, ?_⟩
  · rw [hl, ← List.length_map (f := Rs.d)]; exact hn _ _ _ _ e2
  · refine Reps.of_get (by simpa using hl) fun i d v k1 k2 => ?_
    rw [List.getElem?_map] at k1
    cases hr : rs[i]? with
    | none => rw [hr] at k1; cases k1
    | some r =>
      rw [hr] at k1; cases k1
      by_cases hb : r.isBo = true
      · cases r <;> first | (cases hb; done) | skip
        rename_i k d
        obtain ⟨a, rfl, _, _⟩ := V1.get i _ _ hr k2
        have t := (o.B.tF _ (inF i k d a hr k2)).1
        exact (t.go (Go.less less) fun _ e => e).rep fun z => z.2 (mem_boAddr hr k2)
      · exact Rep.go (Go.less less) _ _ (o.B.tT _ (o.hT _ (h2 i r v hr k2 (by simpa using hb))))
  · exact ⟨o.B.st.dict, o.B.st.cells, o.B.st.lefts, o.B.st.ne, o.B.st.len, o.B.st.pos, o.B.st.most⟩
  · exact ⟨⟨.inl o.B.oS.1, nbo _ o.B.oS.1⟩, ⟨.inl o.B.oS.2.1, nbo _ o.B.oS.2.1⟩, ⟨.inl o.B.oS.2.2, nbo _ o.B.oS.2.2⟩⟩
  · intro a ha
    rcases ha.1 with z | z
    · exact o.B.trk a z
    · obtain ⟨p, hp, e⟩ := List.mem_map.mp z
      obtain ⟨l, xs, _, e2, _⟩ := o.B.top_at (d := p.1) (a := p.2) hp
      exact ⟨.lst xs, by rw [← e]; exact e2, trivial⟩
  · cases r with
    | bo k d => exact (hbo rfl).elim
    | sh d =>
      intro v H' k st rep
      have k' : Keeps c H1 H' := ⟨k.obj, k.there⟩
      have st' : StOk c H' s' := ⟨st.dict, st.cells, st.lefts, st.ne, st.len, st.pos, st.most⟩
      have rep' : Rep X.K c.aS (c.Ow F) H' d v := by
        rw [Bool.or_eq_true] at hcl
        rcases hcl with z | z
        · exact Rep.go (Go.less fun a ha => ⟨ha, by rw [boAddr_freeze z]; simp⟩) _ _ rep
        · exact imm_rep d v z rep
      refine q v H' ⟨_, _, (Opn.addT ⟨o.B.call k' st', o.hT, o.hF, o.nd, o.sl⟩ rep').less (fun p hp => ?_) (List.Sublist.refl _)⟩ trivial
      rcases List.mem_cons.mp hp with e | hp
      · rw [e]; exact List.mem_cons_self
      · exact List.mem_cons_of_mem _ (h1 p hp)
    | fr d =>
      intro a H' k st ha t
      have k' : Keeps c H1 H' := ⟨k.obj, k.there⟩
      have st' : StOk c H' s' := ⟨st.dict, st.cells, st.lefts, st.ne, st.len, st.pos, st.most⟩
      have t' : Top X.K c.aS (c.Ow ((d, a) :: F)) H' d a := by
        have up : ∀ b, c.Ow ((d, a) :: F) b → c.Ow F b ∨ b = a := fun b z => by
          rcases z with z | z
          · exact .inl (.inl z)
          · rw [List.map_cons] at z
            rcases List.mem_cons.mp z with z | z
            · exact .inr z
            · exact .inl (.inr z)
        rw [Bool.or_eq_true] at hcl
        rcases hcl with z | z
        · refine t.go (Go.less fun b hb => ?_) fun _ e => e
          rcases up b hb with w | w
          · exact .inl ⟨w, by rw [boAddr_freeze z]; simp⟩
          · exact .inr w
        · cases d <;> first | exact t.elim | skip
          obtain ⟨xs, e, tt⟩ := t
          exact ⟨xs, e, imms_reps _ _ z tt⟩
      have B := Bs.callFresh o.B k' st' ha t'
      refine q _ H' ⟨T, (d, a) :: F, (Opn.fresh (gF := gF) ⟨o.B, o.hT, o.hF, o.nd, o.sl⟩ B).less h1 (List.Sublist.refl _)⟩ ⟨a, rfl⟩
theorem exTs_sh : ∀ (ds : List D) (vs : List V) (gT gT' : Shd), (∀ p ∈ gT, p ∈ gT') → (∀ p ∈ ds.zip vs, p ∈ gT') → ∀ p ∈ exTs (ds.map Rs.sh) vs gT, p ∈ gT'
  | [], _, _, _, h, _ => h
  | _ :: _, [], _, _, h, _ => h
  | d :: ds, v :: vs, gT, gT', h, h2 => by
    rw [List.map_cons, exTs]
    refine exTs_sh ds vs _ gT' (fun p hp => ?_) fun p hp => h2 p (by rw [List.zip_cons_cons]; exact List.mem_cons_of_mem _ hp)
    rcases List.mem_cons.mp hp with e | hp
    · rw [e]; exact h2 _ (by rw [List.zip_cons_cons]; exact List.mem_cons_self)
    · exact h p hp
theorem exFs_sh : ∀ (ds : List D) (vs : List V) (gF : Own), exFs (ds.map Rs.sh) vs gF = gF
  | [], _, _ => by simp [exFs]
  | _ :: _, [], _ => by simp [exFs]
  | d :: ds, v :: vs, gF => by rw [List.map_cons, exFs]; exact exFs_sh ds vs gF
theorem hds_sh {gF : Own} {σ : L2.St} {ρ : Env} : ∀ (ds : List D) (vs : List V) (gT : Shd), vs.length = ds.length → (∀ p ∈ ds.zip vs, p ∈ gT) → Hds gT gF σ ρ (ds.map Rs.sh) vs
  | [], [], _, _, _ => rfl
  | [], _ :: _, _, h, _ => by simp at h
  | _ :: _, [], _, h, _ => by simp at h
  | d :: ds, v :: vs, gT, h, h2 => ⟨v, vs, rfl, h2 _ (by rw [List.zip_cons_cons]; exact List.mem_cons_self), hds_sh ds vs gT (by simpa using h) fun p hp => h2 p (by rw [List.zip_cons_cons]; exact List.mem_cons_of_mem _ hp)⟩
theorem zip_sub : ∀ (ds : List D) (vs : List V) (gT : Shd), ∀ p ∈ ds.zip vs, p ∈ exTs (ds.map Rs.sh) vs gT
  | [], _, _, p, h => by simp at h
  | _ :: _, [], _, p, h => by simp at h
  | d :: ds, v :: vs, gT, p, h => by
    rw [List.map_cons, exTs]
    rw [List.zip_cons_cons] at h
    rcases List.mem_cons.mp h with e | h
    · rw [e]; exact subTs _ _ _ _ List.mem_cons_self
    · exact zip_sub ds vs _ p h
/-- the keywords' values put in the parameters' order -/
theorem perm_rd {perm : List Nat} {es : E} {n : Nat} {σ : L2.St} {H : Hp} {Q : List V → Hp → Prop} (hn : elen es = n) (hp : ∀ i ∈ perm, i < n)
    (h : rdA X.K (fun ρ s => (evs es ρ s).bind fun rs s1 => if freeze rs then .ok (permR perm rs) s1 else .no) σ H Q) : rdA X.K (evs es) σ H fun ws H1 => Q (perm.map fun i => ws.getD i .non) H1 := by
  obtain ⟨c, gT, gF, ρ, s, rs', s', P, e, q⟩ := h
  obtain ⟨rs, s1, e1, e⟩ := bind_ok e
  split at e <;> first | (cases e; done) | skip
  rename_i hf
  cases e
  refine ⟨c, gT, gF, ρ, s, rs, _, P, e1, fun ws H1 P1 V1 => ?_⟩
  obtain ⟨gT', P', h1, h2⟩ := Pt.shares rs ws gT gF V1.length V1.refs P1
  have hl : rs.length = n := by rw [← hn]; exact evs_len es e1
  have hlw := V1.length
  have ep : permR perm rs = (perm.map fun i => (rs.getD i (.sh .non)).d).map Rs.sh := by unfold permR; rw [List.map_map]; rfl
  have mem : ∀ p ∈ (perm.map fun i => (rs.getD i (.sh .non)).d).zip (perm.map fun i => ws.getD i .non), p ∈ gT' := fun p hp' => by
    rw [List.zip_map'] at hp'
    obtain ⟨i, hi, rfl⟩ := List.mem_map.mp hp'
    have hi1 := hp i hi
    have e1 : rs[i]? = some rs[i] := List.getElem?_eq_getElem (by omega)
    have e2 : ws[i]? = some (ws[i]'(by omega)) := List.getElem?_eq_getElem (by omega)
    rw [List.getD_eq_getElem?_getD, List.getD_eq_getElem?_getD, e1, e2]
    exact h2 i _ _ e1 e2 (freeze_get hf i _ e1)
  rw [ep] at q
  refine q _ H1 ?_ (hds_sh _ _ _ (by simp) (zip_sub _ _ _))
  rw [exFs_sh]
  exact P'.less (exTs_sh _ _ _ _ h1 mem) (List.Sublist.refl _)
end
end RS
end
section
set_option Elab.async false
set_option linter.all false
set_option maxRecDepth 100000
set_option autoImplicit false
set_option maxHeartbeats 2000000
namespace RS
open PySem L2
theorem map_bo {α : Type} {o : Option α} {f : α → Rs} {r : Rs} (hf : ∀ a, (f a).isBo = false) (h : o.map f = some r) : r.isBo = false := by
  rw [Option.map_eq_some_iff] at h
  obtain ⟨a, _, rfl⟩ := h
  exact hf a
theorem seqInts_bo {f : List Int → Option Int} {ds : List D} {r : Rs} (h : seqInts f ds = some r) : r.isBo = false := by
  unfold seqInts at h
  split at h <;> first | exact map_bo (fun _ => rfl) h | cases h
theorem primF_bo {p : Prim} (hp : primPlain p = true) {ds : List D} {r : Rs} (h : primF p ds = some r) : r.isBo = false := by
  cases p <;> first | (cases hp; done) | skip
  · have h : lenF ds = some r := h
    unfold lenF at h
    split at h <;> first | (cases h; rfl) | cases h
  · have h : tupleF ds = some r := h
    unfold tupleF at h
    split at h <;> first | (cases h; rfl) | cases h
  · have h : listF ds = some r := h
    unfold listF at h
    split at h <;> first | (cases h; rfl) | cases h
  · exact seqInts_bo (show seqInts _ ds = some r from h)
  · have h : maxF ds = some r := h
    unfold maxF at h
    split at h
    · cases h; rfl
    · exact seqInts_bo h
  · have h : minF ds = some r := h
    unfold minF at h
    split at h
    · cases h; rfl
    · exact seqInts_bo h
  · have h : int1 _ ds = some r := h
    unfold int1 at h
    split at h <;> first | (cases h; rfl) | cases h
  · have h : int1 _ ds = some r := h
    unfold int1 at h
    split at h <;> first | (cases h; rfl) | cases h
  · have h : gcdF ds = some r := h
    unfold gcdF at h
    split at h <;> first | (cases h; rfl) | cases h
section
variable {X : Cx} {mc : MC}
theorem prim_rd {p : Prim} {es : E} (hp : primPlain p = true) {σ : L2.St} {H : Hp} {Q : VK} (h : rd X.K (ev (.prim p es)) σ H Q) : tCB (rPrim X.K p) (rdA X.K (evs es)) σ H Q := by
  obtain ⟨c, gT, gF, ρ, s, r, s', P, e, q⟩ := h
  rw [ev] at e
  obtain ⟨rs, s1, e1, e⟩ := bind_ok e
  obtain ⟨e2, rfl⟩ := lift_ok e
  refine ⟨c, gT, gF, ρ, s, rs, _, P, e1, fun vs H1 P1 V1 => ?_⟩
  obtain ⟨T, F, o⟩ := P1
  exact ⟨c.aS, c.Ow F, rs.map Rs.d, r, o.tvs V1, e2, Give.of o (subTs rs vs gT) (subFs rs vs gF) q (primF_bo hp e2)⟩
theorem blt_at (ok : CtxOk X mc) {x : String} (h : x ∈ bltNames) : X.mg (Str.ofString x) = none := ok.blt x h
theorem snd_prim (ok : CtxOk X mc) {p : Prim} {es : E} {y : Str} {l : List Expr} {k pos : Pos} (hp : primPlain p = true) (hy : callB mc (primNm p) y = true) (hl : plainEs l = true) (hne : l ≠ []) (ha : PA X l (rdA X.K (evs es)))
    (hgcd : p = .gcd → X.mg "gcd" = some (.builtin "math.gcd")) : PE X (.Call (.Name y k) l [] pos) (rd X.K (ev (.prim p es))) := by
  obtain ⟨rfl, hg, hd⟩ := callB_of ok hy
  cases l with
  | nil => exact (hne rfl).elim
  | cons e l =>
    rw [plainEs, Bool.and_eq_true] at hl
    have st := star_cons (env := X.env) (es := l) hl.1
    have sp := star_plain X.env pos l hl.2
    have hu : X.A.units + 64 < cLine := by have := ok.un; omega
    have b : ∀ x : String, x ∈ bltNames → X.mg (Str.ofString x) = none := ok.blt
    cases p <;> first | (cases hp; done) | skip
    · exact (pe_callB pr_len hg (b _ (by decide)) (by decide +kernel) ha (by decide +kernel) hd st sp).via fun σ H Q h => prim_rd hp h
    · exact (pe_callTy pr_tuple hg (b _ (by decide)) (by decide +kernel) ha (by decide +kernel) hd st sp).via fun σ H Q h => prim_rd hp h
    · exact (pe_callTy pr_list hg (b _ (by decide)) (by decide +kernel) ha (by decide +kernel) hd st sp).via fun σ H Q h => prim_rd hp h
    · exact (pe_callB (pr_sum ok.calm) hg (b _ (by decide)) (by decide +kernel) ha (by decide +kernel) hd st sp).via fun σ H Q h => prim_rd hp h
    · exact (pe_callB (pr_max ok.calm hu) hg (b _ (by decide)) (by decide +kernel) ha (by decide +kernel) hd st sp).via fun σ H Q h => prim_rd hp h
    · exact (pe_callB (pr_min ok.calm hu) hg (b _ (by decide)) (by decide +kernel) ha (by decide +kernel) hd st sp).via fun σ H Q h => prim_rd hp h
    · exact (pe_callB pr_abs hg (b _ (by decide)) (by decide +kernel) ha (by decide +kernel) hd st sp).via fun σ H Q h => prim_rd hp h
    · exact (pe_callTy pr_int hg (b _ (by decide)) (by decide +kernel) ha (by decide +kernel) hd st sp).via fun σ H Q h => prim_rd hp h
    · exact (pe_callBfun pr_gcd hg (hgcd rfl) ha hd st sp).via fun σ H Q h => prim_rd hp h
theorem is_rd {T : String} {f : D → Option Bool} {p : Prim} (hp : primF p = isOf f) {a : E} {σ : L2.St} {H : Hp} {Q : VK} (h : rd X.K (ev (.prim p (.cons a .nil))) σ H Q) : tCB (rIs X.K T f) (tCons (rd X.K (ev a)) (tCons (tC (.ty T)) tNil)) σ H Q := by
  obtain ⟨c, gT, gF, ρ, s, r, s', P, e, q⟩ := h
  rw [ev] at e
  obtain ⟨rs, s1, e1, e⟩ := bind_ok e
  obtain ⟨e2, rfl⟩ := lift_ok e
  rw [evs] at e1
  obtain ⟨rx, s2, e3, e1⟩ := bind_ok e1
  obtain ⟨ry, s3, e4, e1⟩ := bind_ok e1
  rw [evs] at e4
  cases e4
  cases e1
  rw [hp] at e2
  unfold isOf at e2
  simp only [List.map_cons, List.map_nil] at e2
  rw [Option.map_eq_some_iff] at e2
  obtain ⟨b, hb, rfl⟩ := e2
  refine ⟨c, gT, gF, ρ, s, rx, _, P, e3, fun x H1 P1 V1 => ?_⟩
  obtain ⟨T', F, o⟩ := P1
  exact ⟨c.aS, c.Ow F, rx.d, x, b, rfl, o.tv V1.hd, hb, q.sh o (rx.subT x gT) (rx.subF x gF) Rep.bl'⟩
theorem snd_is (ok : CtxOk X mc) {p : Prim} {T : String} {a : E} {x : Expr} {y z : Str} {k k2 pos : Pos} (ht : isTy p = some T) (hy : callB mc "isinstance" y = true) (hz : callB mc T z = true) (hx : plainE x = true) (ha : PE X x (rd X.K (ev a))) :
    PE X (.Call (.Name y k) [x, .Name z k2] [] pos) (rd X.K (ev (.prim p (.cons a .nil)))) := by
  obtain ⟨rfl, hg, hd⟩ := callB_of ok hy
  obtain ⟨rfl, hg2, hd2⟩ := callB_of ok hz
  have b : ∀ x : String, x ∈ bltNames → X.mg (Str.ofString x) = none := ok.blt
  have st := star_cons (env := X.env) (es := [.Name (Str.ofString T) k2]) hx
  cases p <;> first | (cases ht; done) | skip
  all_goals cases ht
  · have hT : PE X (.Name "int" k2) (tC (.ty "int")) := pe_bltn hg2 (b "int" (by decide)) (u := .type "int") (by decide +kernel) rfl
    exact (pe_callB pr_isInt hg (b "isinstance" (by decide)) (by decide +kernel) (pa_cons ha (pa_cons hT pa_nil) st) (by decide +kernel) hd st rfl).via fun σ H Q h => is_rd rfl h
  · have hT : PE X (.Name "bool" k2) (tC (.ty "bool")) := pe_bltn hg2 (b "bool" (by decide)) (u := .type "bool") (by decide +kernel) rfl
    exact (pe_callB pr_isBool hg (b "isinstance" (by decide)) (by decide +kernel) (pa_cons ha (pa_cons hT pa_nil) st) (by decide +kernel) hd st rfl).via fun σ H Q h => is_rd rfl h
  · have hT : PE X (.Name "tuple" k2) (tC (.ty "tuple")) := pe_bltn hg2 (b "tuple" (by decide)) (u := .type "tuple") (by decide +kernel) rfl
    exact (pe_callB pr_isTup hg (b "isinstance" (by decide)) (by decide +kernel) (pa_cons ha (pa_cons hT pa_nil) st) (by decide +kernel) hd st rfl).via fun σ H Q h => is_rd rfl h
/-! ### repr(a) == repr(b) -/
theorem reprEq_rd {ea eb : E} {σ : L2.St} {H : Hp} {Q : VK} (h : rd X.K (ev (.reprEq ea eb)) σ H Q) :
    tOp rEq (tCB (rRepr X.K) (tCons (rd X.K (ev ea)) tNil)) (tCB (rRepr X.K) (tCons (rd X.K (ev eb)) tNil)) σ H Q := by
  obtain ⟨c, gT, gF, ρ, s, r, s', P, e, q⟩ := h
  rw [ev] at e
  obtain ⟨rx, s1, e1, e⟩ := bind_ok e
  obtain ⟨ry, s2, e2, e⟩ := bind_ok e
  split at e <;> first | (cases e; done) | skip
  rename_i hd
  cases e
  obtain ⟨hd, hr⟩ := hd
  refine ⟨c, gT, gF, ρ, s, rx, s1, P, e1, fun x H1 P1 V1 => ?_⟩
  have P1' := P1
  obtain ⟨T, F, o⟩ := P1
  refine ⟨c.aS, c.Ow F, rx.d, x, rfl, o.tv V1.hd, hr, ?_⟩
  refine ⟨c, _, _, ρ, s1, ry, _, P1', e2, fun y H2 P2 V2 => ?_⟩
  obtain ⟨T', F', o'⟩ := P2
  refine ⟨c.aS, c.Ow F', ry.d, y, rfl, o'.tv V2.hd, by rw [← hd]; exact hr, rfl, ?_⟩
  rw [hd, decide_eq_true rfl]
  exact q.sh o' (fun p hp => ry.subT y _ p (rx.subT x gT p hp)) ((rx.subF x gF).trans (ry.subF y _)) Rep.bl'
theorem snd_reprEq (ok : CtxOk X mc) {u v : Expr} {x y : Str} {ea eb : E} {k k2 pos pos2 pos3 : Pos} (hx : callB mc "repr" x = true) (hy : callB mc "repr" y = true) (hu : plainE u = true) (hv : plainE v = true) (ha : PE X u (rd X.K (ev ea))) (hb : PE X v (rd X.K (ev eb))) :
    Snd X (.Compare (.Call (.Name x k) [u] [] pos) [.Eq] [.Call (.Name y k2) [v] [] pos2] pos3) (ev (.reprEq ea eb)) := by
  obtain ⟨rfl, hg, hd⟩ := callB_of ok hx
  obtain ⟨rfl, hg2, hd2⟩ := callB_of ok hy
  have b := ok.blt "repr" (by decide)
  have un : X.A.units + 70 < cLine := by have := ok.un; omega
  have s1 := star_cons (env := X.env) (es := []) hu
  have s2 := star_cons (env := X.env) (es := []) hv
  have p1 := pe_callB (p := k) (pos := pos) (pr_repr ok.gd un) hg b (by decide +kernel) (pa_cons ha pa_nil s1) (by decide +kernel) hd s1 rfl
  have p2 := pe_callB (p := k2) (pos := pos2) (pr_repr ok.gd un) hg2 b (by decide +kernel) (pa_cons hb pa_nil s2) (by decide +kernel) hd2 s2 rfl
  exact ⟨(pe_cmpR op_eq p1 p2 rfl).via fun σ H Q h => reprEq_rd h, (pt_cmpR op_eq p1 p2 rfl).via fun σ H Q h => reprEq_rd (by have := rdT_of h; exact this), fun _ _ _ z => by cases z⟩
end
end RS
end
section
set_option Elab.async false
set_option linter.all false
set_option maxRecDepth 100000
set_option autoImplicit false
set_option maxHeartbeats 3200000
/-! RSSet0: the set of a tuple of tuples of ints. -/
namespace RS
open PySem PySem.Spec PyProof.Rows L2
section
variable {P : Program} {w : World} {A : Around} {E : Value → Shared → Prop} {s : Shared}
/-- an empty set as it is made -/
abbrev set0 (w : World) : Obj := { cls := .type "set", dict := none, data := .set #[] 0 (.fresh 0 0 (!w.params.followText "set-order")) }
theorem set_init_tuple {l : Addr} {items : Array Value} (ks : List (Addr × List Int)) {R : Result → Shared → Prop} (hh : A.handled = none) (hl : s.heap.IsTuple l items) (hit : items.toList = ks.map fun p => Value.ref p.1)
    (hk : ∀ p ∈ ks, IsT P w s.heap p.2 p.1) (hfew : ks.length < 64) (hu : A.units + 3 < cLine)
    (h : ∀ (h' : Heap) (tk : Nat) L es ep t, SetTR P w h' s.heap.objs.size L es ep t → Got ks ks.length L → (∀ b o, s.heap.get? b = some o → h'.get? b = some o) → R (.ok (.ret .none)) { s with heap := h', toks := tk }) :
    codeAny (model P w) A (.call (.builtin "set.__init__") ⟨[.ref s.heap.objs.size, .ref l], []⟩) R { s with heap := s.heap.push (set0 w) } := by
  have hisz : items.size = ks.length := by
    have q := congrArg List.length hit
    rwa [Array.length_toList, List.length_map] at q
  have gS : (s.heap.push (set0 w)).get? s.heap.objs.size = some (set0 w) := Heap.get?_push_size _ rfl
  refine codeAny_call_builtin F.called_set.init.plain F.entry_set_init (check_set_init_1 ⟨_, gS, rfl⟩ ?_)
  obtain ⟨⟨c, dd, dt, sl⟩, hol, hcl, nl, hdl⟩ := id hl
  dsimp only at hcl hdl
  subst hcl hdl
  have hol' : (s.heap.push (set0 w)).get? l = some { cls := .type "tuple", dict := dd, data := .seq items nl, slots := sl } := Heap.get?_push_of_some _ hol
  have hsls := F.sub_tuple_set
  have hslf := F.sub_tuple_frozenset
  have hne : (Value.type "tuple" == Value.type "dict") = false := by decide
  have hl1 : (s.heap.push (set0 w)).IsTuple l items := ⟨_, hol', rfl, nl, rfl⟩
  have hlS : l < s.heap.objs.size := Heap.lt_size hol
  have hz1 : (s.heap.push (set0 w)).objs.size = s.heap.objs.size + 1 := Heap.size_push ..
  have older : ∀ b, s.heap.objs.size ≤ b → s.heap.get? b = none := fun b hb => by
    cases q : s.heap.get? b with
    | none => rfl
    | some o => exact absurd (Nat.lt_of_lt_of_le (Heap.lt_size q) hb) (Nat.lt_irrefl _)
  have val : ∀ (i : Nat) (v : Value), items[i]? = some v → ∃ p, ks[i]? = some p ∧ v = .ref p.1 := fun i v hv => by
    rw [← Array.getElem?_toList, hit, List.getElem?_map] at hv
    cases hq : ks[i]? with
    | none => rw [hq] at hv; cases hv
    | some p => rw [hq] at hv; exact ⟨p, rfl, (Option.some.inj hv).symm⟩
  unfold Builtin.«set.__init__» noKeywords Builtin.Frozenset.updateFrom
  generalize hPI : pyIter = PI
  wp_walk
  subst hPI
  refine wpAny_pyIter_tuple hl1 (wpAny_bind (wpAny_runValue ?_))
  have neI : l ≠ (s.heap.push (set0 w)).objs.size := by rw [hz1]; exact Nat.ne_of_lt (Nat.lt_succ_of_lt hlS)
  have W := (Walks.tuple (prog := P) (w := w) (A := A.in1.in1) (by simp [hh]) _ l neI items).toS
  refine set_update_tups W s.heap.objs.size (by rw [hz1]; simp only [List.mem_cons, List.not_mem_nil, or_false, not_or]; exact ⟨Nat.ne_of_lt (Nat.lt_succ_self _), Nat.ne_of_gt hlS⟩) ks hisz hfew val s.heap hk (older _ (Nat.le_refl _))
    (fun b hb => older b (by rw [List.mem_singleton.mp hb, hz1]; exact Nat.le_succ _)) (by show A.units + 2 < cLine; omega) (items.size - 0) 0 _ (by omega) (Nat.zero_le _) ⟨⟨_, Heap.get?_push_size _ rfl, rfl, rfl⟩, hl1.push _⟩
    (fun b o e => Heap.get?_push_of_some _ (Heap.get?_push_of_some _ e)) ?hS0 ?hR
  case hS0 => exact ⟨[], #[], 0, _, setTR_fresh (Heap.get?_push_of_some _ gS), Got.zero ks⟩
  intro s' L es ep t hm hS' g' hkp
  obtain ⟨h', g2, d', tk', os'⟩ := s'
  have eg : g2 = s.gens := hm.gens
  have ed : d' = s.drawn := hm.drawn
  have eo : os' = s.os := hm.os
  subst eg ed eo
  show wpAny _ _ _ _ _ _
  refine wpAny_pure ?_
  show wpAny _ _ (ret Value.none) _ _ _
  rw [hisz] at g'
  exact wpAny_pure (h h' tk' L es ep t hS' g' hkp)
theorem call_set_tupT {l : Addr} {items : Array Value} (ks : List (Addr × List Int)) {Q : Value → Shared → Prop} (hh : A.handled = none) (hl : s.heap.IsTuple l items) (hit : items.toList = ks.map fun p => Value.ref p.1)
    (hk : ∀ p ∈ ks, IsT P w s.heap p.2 p.1) (hfew : ks.length < 64) (hu : A.units + 4 < cLine)
    (h : ∀ (h' : Heap) (tk : Nat) L es ep t, SetTR P w h' s.heap.objs.size L es ep t → Got ks ks.length L → (∀ b o, s.heap.get? b = some o → h'.get? b = some o) → Q (.ref s.heap.objs.size) { s with heap := h', toks := tk }) :
    wpAny (model P w) A (call (.type "set") [.ref l]) Q E s := by
  obtain ⟨c, tl, hmro⟩ := F.called_set.mro
  have hmade := F.called_set.made
  have hsub := F.called_set.sub
  have h1 := F.called_set.notType
  have h2 := F.called_set.canCreate
  have hct := F.typeCall_set_1 (.ref l)
  refine wpAny_call (codeAny_of_tree ?_)
  show wpAny _ _ (callAny (.type "set") _) _ _ _
  refine wpAny_pure ⟨Code.quiet_builtin _ (by decide +kernel), codeAny_builtin F.entry_type_call ?_⟩
  rw [Around.under_plain (weight_type_call_type "set" [.ref l] []) rfl]
  repeat (any_goals (first | assumption | wp_step))
  refine codeAny_mono (code_set_led1 (.ref l) (E := E) (Q₁ := fun obj s₁ => obj = .ref s.heap.objs.size ∧ s₁ = { s with heap := s.heap.push (set0 w) }) ⟨rfl, rfl⟩) fun r s₁ hr => ?_
  match r, hr with
  | .ok (.ret obj), hr =>
    obtain ⟨rfl, rfl⟩ := hr
    have hT : Shared.TypeIs { s with heap := s.heap.push (set0 w) } (.ref s.heap.objs.size) "set" := ⟨_, Heap.get?_push_size _ rfl, rfl⟩
    have hli := F.called_set.init.lookup
    have hbi := F.called_set.init.bind (.ref s.heap.objs.size)
    repeat (any_goals (first | assumption | wp_step))
    refine codeAny_mono (set_init_tuple (R := wants (fun r s₂ => r = .none ∧ ∃ h' tk L es ep t, s₂ = { s with heap := h', toks := tk } ∧ SetTR P w h' s.heap.objs.size L es ep t ∧ Got ks ks.length L ∧ (∀ b o, s.heap.get? b = some o → h'.get? b = some o)) E) ks (by simp [hh]) hl hit hk hfew ?_
      fun h' tk L es ep t a b c => ⟨rfl, h', tk, L, es, ep, t, rfl, a, b, c⟩) fun r₂ s₂ hr₂ => ?_
    · have := hu
      first | exact hu | (show _ + 3 < _; simp; omega) | omega
    · match r₂, hr₂ with
      | .ok (.ret r), hr₂ =>
        obtain ⟨rfl, h', tk, L, es, ep, t, rfl, hS', g', hk'⟩ := hr₂
        repeat (any_goals (first | assumption | wp_step))
        exact h _ _ _ _ _ _ hS' g' hk'
      | .error e, hr₂ => exact hr₂
  | .error e, hr => exact hr
end
section
variable {X : Cx}
/-- set(xs), xs a list or a tuple of tuples of ints -/
def rSetA (K : PySem.W.Frag) (P : Program) (w : World) : List V → Hp → VK → Prop := fun xs H Q => ∃ (l : Addr) (ks : List (Addr × List Int)), xs = [V.ref l] ∧ (SqL K H l (ks.map fun p => V.ref p.1) ∨ SqT K H l (ks.map fun p => V.ref p.1)) ∧ (∀ p ∈ ks, SqT K H p.1 (p.2.map V.int)) ∧ ks.length < 64 ∧
  ∀ a L, H a = none → (∀ p ∈ L, p ∈ ks) → (∀ p ∈ ks, p.2 ∈ L.map (·.2)) → Q (.ref a) (upd H a (SetTO P w a L))
theorem cr_setA (hc : X.calm = true) (hu : X.A.units + 64 < cLine) : CallR X (.type "set") (rSetA X.K X.prog X.w) := by
  intro pins s σ H xs us Q I r h
  obtain ⟨l, ks, rfl, hl, hk, hf, q⟩ := h
  rcases hl with hl | hl
  · exact cr_setOfT hc hu pins s σ H [.ref l] us Q I r ⟨l, ks, rfl, hl, hk, hf, q⟩
  · rw [Vals.ref1 r]
    obtain ⟨its, rv, pt, hz⟩ := I.tuple hl
    have hn : H s.heap.objs.size = none := I.hok.fresh (Nat.le_refl _)
    refine call_set_tupT (P := X.prog) (w := X.w) ks (I.ok.hd hc) pt (by simpa using refs_of_vals rv) (fun p hp => I.isT (hk p hp)) hf (by omega) fun h' tk L es ep t R g k => ?_
    refine ⟨.ref s.heap.objs.size, upd H s.heap.objs.size (SetTO X.prog X.w s.heap.objs.size L), I.laid (t' := tk) k (Nat.le_refl _) (setTO_new R.t0), rfl, q _ L hn (fun p hp => List.mem_of_mem_take (g.sub p hp)) fun p hp => g.all p (by rw [List.take_length]; exact hp)⟩
end
end RS
end
section
set_option Elab.async false
set_option linter.all false
set_option maxRecDepth 100000
set_option autoImplicit false
set_option maxHeartbeats 2000000
/-! RSSet1: sorted(set(rows)). -/
namespace RS
open PySem L2
/-! ### the order -/
theorem code_eq : ∀ k : List Int, TS.code 1048576 k = codeK k
  | [] => rfl
  | d :: r => by
    show d * 1048576 ^ r.length + TS.code 1048576 r = _
    rw [code_eq r]; rfl
theorem code_inj {k q : List Int} (hl : k.length = q.length) (h1 : TS.Bd 1048576 k) (h2 : TS.Bd 1048576 q) (h : codeK k = codeK q) : k = q := by
  rw [← code_eq, ← code_eq] at h
  induction k generalizing q with
  | nil => cases q with
    | nil => rfl
    | cons => simp at hl
  | cons d r ih =>
    cases q with
    | nil => simp at hl
    | cons e q =>
      have hl' : r.length = q.length := by simpa using hl
      rcases Int.lt_trichotomy d e with z | z | z
      · have := TS.code_lt hl' h1.tail h2.tail z; omega
      · subst z
        have c1 := TS.code_same (B := 1048576) (d := d) hl'
        have c2 := TS.code_same (B := 1048576) (d := d) hl'.symm
        have : TS.code 1048576 r = TS.code 1048576 q := by
          rcases Int.lt_trichotomy (TS.code 1048576 r) (TS.code 1048576 q) with z | z | z
          · have := c1.mpr z; omega
          · exact z
          · have := c2.mpr z; omega
        rw [ih hl' h1.tail h2.tail this]
      · have := TS.code_lt hl'.symm h2.tail h1.tail z; omega
abbrev Up (l : List (List Int)) : Prop := l.Pairwise fun a b => codeK a < codeK b
theorem insK_mem {n : Nat} {k : List Int} (hk : k.length = n ∧ TS.Bd 1048576 k) : ∀ (l : List (List Int)), (∀ q ∈ l, q.length = n ∧ TS.Bd 1048576 q) → Up l → Up (insK k l) ∧ ∀ x, x ∈ insK k l ↔ x = k ∨ x ∈ l
  | [], _, _ => by simp [insK, Up]
  | y :: r, h, up => by
    have hy := h y List.mem_cons_self
    have up := List.pairwise_cons.mp up
    obtain ⟨i1, i2⟩ := insK_mem hk r (fun q hq => h q (List.mem_cons_of_mem _ hq)) up.2
    rw [insK]
    by_cases c1 : codeK k < codeK y
    · rw [if_pos c1]
      refine ⟨List.pairwise_cons.mpr ⟨fun x hx => ?_, List.pairwise_cons.mpr up⟩, fun x => by simp⟩
      rcases List.mem_cons.mp hx with e | hx
      · rw [e]; exact c1
      · have := up.1 x hx; omega
    · rw [if_neg c1]
      by_cases c2 : codeK k = codeK y
      · rw [if_pos c2]
        have : k = y := code_inj (by rw [hk.1, hy.1]) hk.2 hy.2 c2
        subst this
        exact ⟨List.pairwise_cons.mpr up, fun x => by simp⟩
      · rw [if_neg c2]
        refine ⟨List.pairwise_cons.mpr ⟨fun x hx => ?_, i1⟩, fun x => ?_⟩
        · rcases (i2 x).mp hx with e | hx
          · rw [e]; omega
          · exact up.1 x hx
        · rw [List.mem_cons, i2 x, List.mem_cons]
          constructor <;> (rintro (h | h | h) <;> simp [h])
theorem sortK_mem {n : Nat} : ∀ (l : List (List Int)), (∀ q ∈ l, q.length = n ∧ TS.Bd 1048576 q) → Up (sortK l) ∧ ∀ x, x ∈ sortK l ↔ x ∈ l
  | [], _ => by simp [sortK, Up]
  | k :: l, h => by
    obtain ⟨i1, i2⟩ := sortK_mem l fun q hq => h q (List.mem_cons_of_mem _ hq)
    obtain ⟨j1, j2⟩ := insK_mem (h k List.mem_cons_self) (sortK l) (fun q hq => h q (List.mem_cons_of_mem _ ((i2 q).mp hq))) i1
    exact ⟨j1, fun x => by rw [sortK, j2, i2, List.mem_cons]⟩
theorem up_uniq : ∀ {a b : List (List Int)}, Up a → Up b → (∀ x, x ∈ a ↔ x ∈ b) → a = b
  | [], [], _, _, _ => rfl
  | [], y :: b, _, _, h => by have := (h y).mpr List.mem_cons_self; cases this
  | x :: a, [], _, _, h => by have := (h x).mp List.mem_cons_self; cases this
  | x :: a, y :: b, ha, hb, h => by
    have ha := List.pairwise_cons.mp ha
    have hb := List.pairwise_cons.mp hb
    have e : x = y := by
      rcases List.mem_cons.mp ((h x).mp List.mem_cons_self) with e | e
      · exact e
      · rcases List.mem_cons.mp ((h y).mpr List.mem_cons_self) with e2 | e2
        · exact e2.symm
        · have := hb.1 x e; have := ha.1 y e2; omega
    subst e
    have t : a = b := up_uniq ha.2 hb.2 fun z => by
      constructor
      · intro hz
        rcases List.mem_cons.mp ((h z).mp (List.mem_cons_of_mem _ hz)) with e | e
        · have := ha.1 z hz; rw [e] at this; omega
        · exact e
      · intro hz
        rcases List.mem_cons.mp ((h z).mpr (List.mem_cons_of_mem _ hz)) with e | e
        · have := hb.1 z hz; rw [e] at this; omega
        · exact e
    rw [t]
/-! ### data -/
section
variable {K : PySem.W.Frag} {aS : Addr} {O : Addr → Prop} {H : Hp}
theorem reps_ofInts : ∀ {l : List D} {k : List Int} {xs : List V}, intsOf l = some k → Reps K aS O H l xs → l = k.map D.int ∧ xs = k.map V.int
  | [], k, xs, h, r => by
    rw [Reps] at r
    cases h
    exact ⟨rfl, r⟩
  | d :: l, k, xs, h, r => by
    rw [Reps] at r
    obtain ⟨v, vs, rfl, rv, t⟩ := r
    cases d <;> first | (simp [intsOf] at h; done) | skip
    rw [intsOf, Option.map_eq_some_iff] at h
    obtain ⟨k', h1, rfl⟩ := h
    obtain ⟨e1, e2⟩ := reps_ofInts h1 t
    rw [Rep] at rv
    subst rv
    rw [e1, e2]
    exact ⟨rfl, rfl⟩
theorem reps_rows : ∀ {l : List D} {ks : List (List Int)} {xs : List V}, rowsOf l = some ks → Reps K aS O H l xs → ∃ ps : List (Addr × List Int), xs = ps.map (fun p => V.ref p.1) ∧ ps.map (·.2) = ks ∧ ∀ p ∈ ps, SqT K H p.1 (p.2.map V.int)
  | [], ks, xs, h, r => by
    rw [Reps] at r
    cases h
    exact ⟨[], r, rfl, by simp⟩
  | d :: l, ks, xs, h, r => by
    rw [Reps] at r
    obtain ⟨v, vs, rfl, rv, t⟩ := r
    rw [rowsOf, Option.bind_eq_some_iff] at h
    obtain ⟨k, h1, h⟩ := h
    rw [Option.map_eq_some_iff] at h
    obtain ⟨ks', h2, rfl⟩ := h
    obtain ⟨ps, e1, e2, e3⟩ := reps_rows h2 t
    cases d <;> first | (simp [D.row?] at h1; done) | skip
    rename_i dl
    rw [Rep] at rv
    obtain ⟨a, ys, rfl, q, tt⟩ := rv
    obtain ⟨_, ey⟩ := reps_ofInts h1 tt
    refine ⟨(a, k) :: ps, by rw [e1]; rfl, by rw [List.map_cons, e2], fun p hp => ?_⟩
    rcases List.mem_cons.mp hp with e | hp
    · rw [e, ← ey]; exact q
    · exact e3 p hp
theorem rep_row {p : Addr × List Int} (h : SqT K H p.1 (p.2.map V.int)) : Rep K aS O H (.tup (p.2.map .int)) (.ref p.1) := by
  rw [Rep]
  refine ⟨p.1, _, rfl, h, ?_⟩
  generalize p.2 = k
  induction k with
  | nil => exact Reps.nil
  | cons x k ih => exact Reps.cons Rep.int' ih
theorem reps_of_rows : ∀ {ps : List (Addr × List Int)}, (∀ p ∈ ps, SqT K H p.1 (p.2.map V.int)) → Reps K aS O H ((ps.map (·.2)).map fun k => .tup (k.map .int)) (ps.map fun p => V.ref p.1)
  | [], _ => Reps.nil
  | p :: ps, h => Reps.cons (rep_row (h p List.mem_cons_self)) (reps_of_rows fun q hq => h q (List.mem_cons_of_mem _ hq))
end
section
variable {X : Cx} {mc : MC}
theorem rowsIn_of {ks : List (List Int)} (h : rowsIn ks = true) : ks.length < 64 ∧ ∃ n, 1 ≤ n ∧ ∀ k ∈ ks, k.length = n ∧ TS.Bd 1048576 k := by
  cases ks with
  | nil => exact ⟨by simp, 1, Nat.le_refl _, by simp⟩
  | cons k ks =>
    rw [rowsIn, Bool.and_eq_true] at h
    obtain ⟨h1, h2⟩ := h
    have h1 := of_decide_eq_true h1
    refine ⟨by rw [List.length_cons]; omega, k.length, h1.1, fun q hq => ?_⟩
    have := List.all_eq_true.mp h2 q hq
    rw [rowIn, Bool.and_eq_true, beq_iff_eq] at this
    exact ⟨this.1, fun m hm => of_decide_eq_true (List.all_eq_true.mp this.2 m hm)⟩
theorem set_rows {d : D} {ks : List (List Int)} {O : Addr → Prop} {aS : Addr} {H : Hp} {l : List D} {x : V} (hd : d = .tup l ∨ d = .lst l) (hr : rowsOf l = some ks) (t : Tv X.K aS O H d x) :
    ∃ (q : Addr) (ps : List (Addr × List Int)), x = .ref q ∧ (SqL X.K H q (ps.map fun p => V.ref p.1) ∨ SqT X.K H q (ps.map fun p => V.ref p.1)) ∧ ps.map (·.2) = ks ∧ ∀ p ∈ ps, SqT X.K H p.1 (p.2.map V.int) := by
  rcases hd with rfl | rfl
  · obtain ⟨q, xs, rfl, hq, r⟩ := t.tup
    obtain ⟨ps, rfl, e2, e3⟩ := reps_rows hr r
    exact ⟨q, ps, rfl, .inr hq, e2, e3⟩
  · obtain ⟨q, xs, rfl, hq, r⟩ := t.lst
    obtain ⟨ps, rfl, e2, e3⟩ := reps_rows hr r
    exact ⟨q, ps, rfl, .inl (SqL.of hq), e2, e3⟩
theorem sortSet_rd {a : E} {σ : L2.St} {H : Hp} {Q : VK} (h : rd X.K (ev (.prim .sortedSet (.cons a .nil))) σ H Q) : tCB (rSortedT X.K X.prog X.w) (tCons (tCB (rSetA X.K X.prog X.w) (tCons (rd X.K (ev a)) tNil)) tNil) σ H Q := by
  obtain ⟨c, gT, gF, ρ, s, r, s', P, e, q⟩ := h
  rw [ev] at e
  obtain ⟨rs, s1, e1, e⟩ := bind_ok e
  obtain ⟨e2, rfl⟩ := lift_ok e
  rw [evs] at e1
  obtain ⟨rx, s2, e3, e1⟩ := bind_ok e1
  obtain ⟨ry, s3, e4, e1⟩ := bind_ok e1
  rw [evs] at e4
  cases e4
  cases e1
  have e2 : sortSetF [rx.d] = some r := e2
  have key : ∃ l ks, (rx.d = .tup l ∨ rx.d = .lst l) ∧ rowsOf l = some ks ∧ setF ks = some r := by
    unfold sortSetF at e2
    split at e2 <;> first | (cases e2; done) | skip
    all_goals
      rename_i l heq
      rw [Option.bind_eq_some_iff] at e2
      obtain ⟨ks, h1, h2⟩ := e2
      injection heq with heq _
    · exact ⟨l, ks, .inl heq, h1, h2⟩
    · exact ⟨l, ks, .inr heq, h1, h2⟩
  obtain ⟨l, ks, hd, hr, hs⟩ := key
  unfold setF at hs
  split at hs <;> first | (cases hs; done) | skip
  rename_i hin
  cases hs
  obtain ⟨h64, n, n1, hks⟩ := rowsIn_of hin
  refine ⟨c, gT, gF, ρ, s, rx, _, P, e3, fun x H1 P1 V1 => ?_⟩
  obtain ⟨T, F, o⟩ := P1
  obtain ⟨l', ps, rfl, hq, hps, hT⟩ := set_rows (X := X) hd hr (o.tv V1.hd)
  refine ⟨l', ps, rfl, hq, hT, by rw [← hps, List.length_map] at h64; exact h64, fun A L hA hL1 hL2 => ?_⟩
  have oA := o.step (T' := T) (fun _ h => h) o.hT (o.B.alloc (p := A) (o := SetTO X.prog X.w A L) hA)
  have gA : ∀ p xs, SqT X.K H1 p xs → SqT X.K (upd H1 A (SetTO X.prog X.w A L)) p xs := fun p xs h => sqT_upd hA h
  refine ⟨A, L, n, 1048576, rfl, upd_same, fun p hp => gA _ _ (hT p (hL1 p hp)), n1, fun p hp => ?_, fun L' B pm nd hlen pw hB => ?_⟩
  · exact hks p.2 (by rw [← hps]; exact List.mem_map.mpr ⟨p, hL1 p hp, rfl⟩)
  · have inL : ∀ p ∈ L', p ∈ ps := fun p hp => hL1 p (pm.mem_iff.mp hp)
    have srt : L'.map (·.2) = sortK ks := by
      obtain ⟨u1, u2⟩ := sortK_mem (n := n) ks hks
      refine up_uniq ?_ u1 fun k => ?_
      · have pw2 : (L'.map (·.2)).Pairwise fun a b => TS.code 1048576 a ≤ TS.code 1048576 b := List.pairwise_map.mpr pw
        have bd : ∀ k ∈ L'.map (·.2), k.length = n ∧ TS.Bd 1048576 k := fun k hk => by
          obtain ⟨p, hp, rfl⟩ := List.mem_map.mp hk
          exact hks p.2 (by rw [← hps]; exact List.mem_map.mpr ⟨p, inL p hp, rfl⟩)
        generalize L'.map (·.2) = ws at pw2 nd bd
        clear pw pm
        induction ws with
        | nil => exact List.Pairwise.nil
        | cons w ws ih =>
          rw [List.pairwise_cons] at pw2
          rw [List.nodup_cons] at nd
          refine List.pairwise_cons.mpr ⟨fun b hb => ?_, ih pw2.2 nd.2 fun k hk => bd k (List.mem_cons_of_mem _ hk)⟩
          have le := pw2.1 b hb
          rw [code_eq, code_eq] at le
          have b1 := bd w List.mem_cons_self
          have b2 := bd b (List.mem_cons_of_mem _ hb)
          rcases Int.lt_or_eq_of_le le with z | z
          · exact z
          · exact absurd (code_inj (by rw [b1.1, b2.1]) b1.2 b2.2 z ▸ hb) nd.1
      · rw [u2]
        constructor
        · intro hk
          obtain ⟨p, hp, rfl⟩ := List.mem_map.mp hk
          rw [← hps]; exact List.mem_map.mpr ⟨p, inL p hp, rfl⟩
        · intro hk
          rw [← hps] at hk
          obtain ⟨p, hp, rfl⟩ := List.mem_map.mp hk
          obtain ⟨p2, hp2, e⟩ := List.mem_map.mp (hL2 p hp)
          rw [← e]; exact List.mem_map.mpr ⟨p2, pm.mem_iff.mpr hp2, rfl⟩
    have rr : Reps X.K c.aS (c.Ow F) (upd H1 A (SetTO X.prog X.w A L)) ((sortK ks).map fun k => .tup (k.map .int)) (L'.map fun q => V.ref q.1) := by
      rw [← srt]
      exact reps_of_rows fun p hp => gA _ _ (hT p (inL p hp))
    exact q _ _ ⟨_, _, (oA.fresh (oA.B.lst hB rr)).less (rx.subT _ gT) ((rx.subF _ gF).cons_cons _)⟩ ⟨B, rfl⟩
theorem snd_sortSet (ok : CtxOk X mc) {a : E} {x : Expr} {y z : Str} {k k2 p2 pos : Pos} (hy : callB mc "sorted" y = true) (hz : callB mc "set" z = true) (hx : plainE x = true) (ha : PE X x (rd X.K (ev a))) :
    PE X (.Call (.Name y k) [.Call (.Name z k2) [x] [] p2] [] pos) (rd X.K (ev (.prim .sortedSet (.cons a .nil)))) := by
  obtain ⟨rfl, hg, hd⟩ := callB_of ok hy
  obtain ⟨rfl, hg2, hd2⟩ := callB_of ok hz
  have hu : X.A.units + 64 < cLine := by have := ok.un; omega
  have st := star_cons (env := X.env) (es := []) hx
  have inner := pe_callTy (p := k2) (pos := p2) (cr_setA ok.calm hu) hg2 (ok.blt "set" (by decide)) (by decide +kernel) (pa_cons ha pa_nil st) (by decide +kernel) hd2 st rfl
  exact (pe_callB (cr_sortedT ok.calm) hg (ok.blt "sorted" (by decide)) (by decide +kernel) (pa_cons inner pa_nil rfl) (by decide +kernel) hd rfl rfl).via fun σ H Q h => sortSet_rd h
end
end RS
end
section
set_option Elab.async false
set_option linter.all false
set_option maxRecDepth 100000
set_option autoImplicit false
set_option maxHeartbeats 2000000
/-! RSState: the draws' state, read and written. -/
namespace RS
open PySem L2
section
variable {K : PySem.W.Frag} {c : Cfg} {T : Shd} {F gF : Own} {gT : Shd} {H : Hp} {s : OSt} {σ : L2.St} {ρ : Env}
theorem isSt_get {i : Nat} (h : isSt ρ i = true) : ρ[i]? = some (.sh .st) := by
  unfold isSt at h
  rw [List.getD_eq_getElem?_getD] at h
  cases q : ρ[i]? with
  | none => rw [q] at h; cases h
  | some y =>
    rw [q] at h
    dsimp only [Option.getD_some] at h
    split at h <;> first | rfl | cases h
theorem Bs.neF (B : Bs K c T F H s) {a : Addr} (ha : c.O a) : ∀ q ∈ F, q.2 ≠ a := fun q hq e => (B.tF q hq).2.1 (e ▸ ha)
theorem Bs.putState (B : Bs K c T F H s) {n : Nat} : Bs K c T F (upd H c.aS (.dK [(.inr "cells", .ref c.aC), (.inr "lefts", .ref c.aL), (.inr "at", .int n)])) ⟨s.cells, s.lefts, n⟩ := by
  have g : Go K (c.Ow F) (c.Ow F) H (upd H c.aS (.dK [(.inr "cells", .ref c.aC), (.inr "lefts", .ref c.aL), (.inr "at", .int n)])) := by
    refine ⟨fun a z => .inl z, fun a xs q => ?_, fun a xs n q => ?_⟩
    · have ne : ∀ o, H a = some o → (∀ kvs, o ≠ .dK kvs) → a ≠ c.aS := fun o e d z => by rw [z, B.st.dict] at e; exact d _ (Option.some.inj e).symm
      rcases q with (q | ⟨ob, q⟩) | q
      · exact .inl (.inl (by rw [upd_ne (ne _ q fun _ z => by cases z)]; exact q))
      · exact .inl (.inr ⟨ob, by rw [upd_ne (ne _ q fun _ z => by cases z)]; exact q⟩)
      · exact .inr q
    · have : a ≠ c.aS := fun z => n (.inl (z ▸ B.oS.1))
      rw [upd_ne this]; exact q
  have n1 : c.aC ≠ c.aS := fun z => by have := B.st.cells; rw [z, B.st.dict] at this; cases this
  have n2 : c.aL ≠ c.aS := fun z => by have := B.st.lefts; rw [z, B.st.dict] at this; cases this
  refine ⟨fun q hq => Rep.go g _ _ (B.tT q hq), fun q hq => ?_, B.nd, ⟨upd_same, by rw [upd_ne n1]; exact B.st.cells, by rw [upd_ne n2]; exact B.st.lefts, B.st.ne, B.st.len, B.st.pos, B.st.most⟩, B.oS, fun a ha => ?_, fun a o e n h1 h2 => ?_, fun a e => ?_⟩
  · obtain ⟨t, n, z⟩ := B.tF q hq
    exact ⟨t.go g fun xs e => by rw [upd_ne (B.neF B.oS.1 q hq)]; exact e, n, z⟩
  · by_cases h : a = c.aS
    · exact ⟨.dK _, by rw [h, upd_same], trivial⟩
    · rw [upd_ne h]; exact B.trk a ha
  · rw [upd_ne h1]; exact B.kp.obj a o e n h1 h2
  · by_cases h : a = c.aS
    · rw [h, upd_same] at e; cases e
    · rw [upd_ne h] at e; exact B.kp.there a e
theorem Bs.putLefts (B : Bs K c T F H s) {ls : List Int} (hl : ls.length = s.lefts.length) : Bs K c T F (upd H c.aL (.lst (ls.map V.int))) ⟨s.cells, ls, s.pos⟩ := by
  have g : Go K (c.Ow F) (c.Ow F) H (upd H c.aL (.lst (ls.map V.int))) := Go.write (.inl B.oS.2.1) B.st.lefts fun _ z => z
  have n2 : c.aS ≠ c.aL := fun z => by have := B.st.lefts; rw [← z, B.st.dict] at this; cases this
  refine ⟨fun q hq => Rep.go g _ _ (B.tT q hq), fun q hq => ?_, B.nd, ⟨by rw [upd_ne n2]; exact B.st.dict, by rw [upd_ne B.st.ne]; exact B.st.cells, upd_same, B.st.ne, hl.trans B.st.len, B.st.pos, B.st.most⟩, B.oS, fun a ha => ?_, fun a o e n h1 h2 => ?_, fun a e => ?_⟩
  · obtain ⟨t, n, z⟩ := B.tF q hq
    exact ⟨t.go g fun xs e => by rw [upd_ne (B.neF B.oS.2.1 q hq)]; exact e, n, z⟩
  · by_cases h : a = c.aL
    · exact ⟨.lst _, by rw [h, upd_same], trivial⟩
    · rw [upd_ne h]; exact B.trk a ha
  · rw [upd_ne h2]; exact B.kp.obj a o e n h1 h2
  · by_cases h : a = c.aL
    · rw [h, upd_same] at e; cases e
    · rw [upd_ne h] at e; exact B.kp.there a e
theorem Opn.state {s' : OSt} {H' : Hp} (o : Opn K c gT gF σ H ρ s T F) (B : Bs K c T F H' s') : Pt K c gT gF σ H' ρ s' := ⟨T, F, B, o.hT, o.hF, o.nd, o.sl⟩
theorem Opn.st_at {i : Nat} (o : Opn K c gT gF σ H ρ s T F) (h : isSt ρ i = true) : σ[i]? = some (some (.ref c.aS)) := by
  obtain ⟨v, h1, h2⟩ := o.sl.sh i _ (isSt_get h)
  have r : Rep K c.aS (c.Ow F) H .st v := o.B.tT _ h2
  rw [Rep] at r
  rw [h1, r]
end
section
variable {X : Cx} {mc : MC}
theorem nm_eq (ok : CtxOk X mc) {i : Nat} {x : Str} {p : Pos} (h : nmB mc i (.Name x p) = true) : PE X (.Name x p) (tVar i) := by
  simp only [nmB, Bool.and_eq_true] at h
  exact pe_var (by rw [← ok.N]; exact of_decide_eq_true h.1.1) (ok.vis h.1.2) (dbg1 h.2) (dbg2 h.2)
/-- state[key] -/
theorem pe_st (ok : CtxOk X mc) {i : Nat} {x y : Str} {p p2 pos : Pos} {n : Nat} (h : nmB mc i (.Name x p) = true) : PE X (.Subscript (.Name x p) (.Constant (.str y) n p2) pos) (tDGet (tVar i) (tC (.str y))) :=
  pe_dget (by have := ok.un; omega) (nm_eq ok h) pe_str (fun _ _ => rfl)
theorem reps_ints {K : PySem.W.Frag} {aS : Addr} {O : Addr → Prop} {H : Hp} : ∀ ns : List Int, Reps K aS O H (ns.map D.int) (ns.map V.int)
  | [] => by rw [List.map_nil, List.map_nil]; exact Reps.nil
  | n :: ns => by rw [List.map_cons, List.map_cons]; exact Reps.cons Rep.int' (reps_ints ns)
theorem rd_st {i : Nat} {y : Str} {f : OSt → Cfg → V} {σ : L2.St} {H : Hp} {Q : VK} (hy : ∀ (c : Cfg) (s : OSt), valV [(.inr "cells", .ref c.aC), (.inr "lefts", .ref c.aL), (.inr "at", .int s.pos)] (.inr y : Key) = some (f s c))
    (h : ∃ c gT gF ρ s, Pt X.K c gT gF σ H ρ s ∧ isSt ρ i = true ∧ Q (f s c) H) : tDGet (tVar i) (tC (.str y)) σ H Q := by
  obtain ⟨c, gT, gF, ρ, s, ⟨T, F, o⟩, hs, q⟩ := h
  refine ⟨.ref c.aS, o.st_at hs, c.aS, f s c, rfl, ?_, q⟩
  have := DGet.k (k := (.inr y : Key)) o.B.st.dict
  rw [hy c s] at this
  exact this
theorem snd_stAt (ok : CtxOk X mc) {i : Nat} {x : Str} {p p2 pos : Pos} {n : Nat} (h : nmB mc i (.Name x p) = true) : PE X (.Subscript (.Name x p) (.Constant (.str "at") n p2) pos) (rd X.K (ev (.stAt i))) := by
  refine (pe_st ok h).via fun σ H Q h => ?_
  obtain ⟨c, gT, gF, ρ, s, r, s', P, e, q⟩ := h
  rw [ev] at e
  split at e <;> first | (cases e; done) | skip
  rename_i hs
  cases e
  refine rd_st (f := fun s _ => .int s.pos) (fun _ _ => rfl) ⟨c, gT, gF, ρ, s, P, hs, ?_⟩
  obtain ⟨T, F, o⟩ := P
  exact q.sh o (fun _ h => h) (List.Sublist.refl _) Rep.int'
theorem snd_stLen (ok : CtxOk X mc) {i : Nat} {x f : Str} {p p2 p3 p4 pos : Pos} {n : Nat} (hf : callB mc "len" f = true) (h : nmB mc i (.Name x p) = true) :
    PE X (.Call (.Name f p4) [.Subscript (.Name x p) (.Constant (.str "cells") n p2) p3] [] pos) (rd X.K (ev (.stLen i))) := by
  obtain ⟨rfl, hg, hd⟩ := callB_of ok hf
  refine (pe_callB pr_len hg (ok.blt "len" (by decide)) (by decide +kernel) (pa_cons (pe_st ok h) pa_nil rfl) (by decide +kernel) hd rfl rfl).via fun σ H Q h => ?_
  obtain ⟨c, gT, gF, ρ, s, r, s', P, e, q⟩ := h
  rw [ev] at e
  split at e <;> first | (cases e; done) | skip
  rename_i hs
  cases e
  refine rd_st (f := fun _ c => .ref c.aC) (fun _ _ => rfl) ⟨c, gT, gF, ρ, s, P, hs, ?_⟩
  obtain ⟨T, F, o⟩ := P
  refine ⟨c.aS, c.Ow F, [.lst (s.cells.map D.int)], _, ⟨_, _, rfl, ⟨_, _, rfl, o.B.st.cells, reps_ints _⟩, rfl⟩, rfl, Give.of o (fun _ h => h) (List.Sublist.refl _) ?_ rfl⟩
  rw [List.length_map]
  exact q
theorem cellF_some {l : List Int} {d : D} {r : Rs} (h : cellF l d = some r) : ∃ n x, d = .int n ∧ atI (l.map V.int) n = some (.int x) ∧ r = .sh (.int x) := by
  unfold cellF at h
  split at h <;> first | (cases h; done) | skip
  rename_i n
  rw [Option.bind_eq_some_iff] at h
  obtain ⟨j, h1, h2⟩ := h
  rw [Option.map_eq_some_iff] at h2
  obtain ⟨x, h2, rfl⟩ := h2
  refine ⟨n, x, rfl, ?_, rfl⟩
  unfold atI
  rw [List.length_map]
  show (ixOf l.length n).bind _ = _
  rw [h1]
  show (l.map V.int)[j]? = _
  rw [List.getElem?_map, h2]; rfl
theorem snd_stIx (ok : CtxOk X mc) {i : Nat} {x y : Str} {p p2 p3 pos : Pos} {n : Nat} {k : E} {e : Expr} {l : OSt → List Int} {a : Cfg → Addr} {g : E} (hev : ∀ ρ s, ev g ρ s = if isSt ρ i then (ev k ρ s).bind fun y s1 => lift (cellF (l s1) y.d) s1 else .no)
    (hy : ∀ (c : Cfg) (s : OSt), valV [(.inr "cells", .ref c.aC), (.inr "lefts", .ref c.aL), (.inr "at", .int s.pos)] (.inr y : Key) = some (.ref (a c))) (ha : ∀ c H s, StOk c H s → H (a c) = some (.lst ((l s).map V.int)))
    (h : nmB mc i (.Name x p) = true) (hp : plainE e = true) (hk : PE X e (rd X.K (ev k))) : PE X (.Subscript (.Subscript (.Name x p) (.Constant (.str y) n p2) p3) e pos) (rd X.K (ev g)) := by
  have hs : PlainIx e := fun o i => by cases e <;> first | rfl | cases hp
  refine (pe_ix ix_list (pe_st ok h) hk hs).via fun σ H Q h => ?_
  obtain ⟨c, gT, gF, ρ, s, r, s', P, e, q⟩ := h
  rw [hev] at e
  split at e <;> first | (cases e; done) | skip
  rename_i hs
  obtain ⟨ry, s1, e1, e⟩ := bind_ok e
  obtain ⟨e2, rfl⟩ := lift_ok e
  obtain ⟨m, z, hd, hz, rfl⟩ := cellF_some e2
  refine rd_st (f := fun _ c => .ref (a c)) hy ⟨c, gT, gF, ρ, s, P, hs, ?_⟩
  refine ⟨c, gT, gF, ρ, s, ry, _, P, e1, fun v H1 P1 V1 => ?_⟩
  obtain ⟨T, F, o⟩ := P1
  have t := o.tv V1.hd
  rw [hd] at t
  refine ⟨a c, _, m, _, rfl, t.int, SqL.of (ha c _ _ o.B.st), hz, ?_⟩
  exact q.sh o (ry.subT v gT) (ry.subF v gF) Rep.int'
/-! ### written -/
theorem Pt.isSt {K : PySem.W.Frag} {c : Cfg} {gT : Shd} {gF : Own} {σ : L2.St} {H : Hp} {ρ : Env} {s : OSt} (P : Pt K c gT gF σ H ρ s) {i : Nat} (h : isSt ρ i = true) : σ[i]? = some (some (.ref c.aS)) := by
  obtain ⟨T, F, o⟩ := P
  exact o.st_at h
end
end RS
end
section
set_option Elab.async false
set_option linter.all false
set_option maxRecDepth 100000
set_option autoImplicit false
set_option maxHeartbeats 2000000
/-! RSLoop: targets, what is walked, comprehensions. -/
namespace RS
open PySem L2
/-! ## targets -/
def Like (σ σ' : L2.St) (vs : List Nat) : Prop := σ'.length = σ.length ∧ ∀ i, i ∉ vs → σ'[i]? = σ[i]?
def LikeE (ρ ρ' : Env) (vs : List Nat) : Prop := ρ'.length = ρ.length ∧ ∀ i, i ∉ vs → ρ'[i]? = ρ[i]?
def rdG (K : PySem.W.Frag) (tg : Tg) : TG := fun v σ H Q => ∃ c gT gF ρ s d ρ', Pt K c gT gF σ H ρ s ∧ (d, v) ∈ gT ∧ bindTg tg d ρ = some ρ' ∧ ∀ σ', Pt K c gT gF σ' H ρ' s → Like σ σ' (tgSlots tg) → Q σ' H
def PairsIn (gT : Shd) : List D → List V → Prop
  | [], vs => vs = []
  | d :: ds, vs => ∃ x xs, vs = x :: xs ∧ (d, x) ∈ gT ∧ PairsIn gT ds xs
def rdGs (K : PySem.W.Frag) (tg : Tg) : TGs := fun vs σ H Q => ∃ c gT gF ρ s ds ρ', Pt K c gT gF σ H ρ s ∧ PairsIn gT ds vs ∧ bindTgs tg ds ρ = some ρ' ∧ ∀ σ', Pt K c gT gF σ' H ρ' s → Like σ σ' (tgSlots tg) → Q σ' H
section
variable {K : PySem.W.Frag} {c : Cfg} {gT gT' : Shd} {gF gF' : Own} {σ σ' : L2.St} {H H' : Hp} {ρ : Env} {s s' : OSt} {T : Shd} {F : Own}
theorem Sl.setSh (sl : Sl T F gF σ ρ) {i : Nat} {d : D} {v : V} (hi : i < ρ.length) (h : (d, v) ∈ T) : Sl T F gF (σ.set i (some v)) (ρ.set i (.sh d)) := by
  have hi' : i < σ.length := by rw [← sl.len]; exact hi
  refine ⟨by simp [sl.len], fun j e hj => ?_, fun j e hj => ?_, fun j k e f a hj hk sj sk => ?_⟩
  · by_cases h1 : j = i
    · subst h1
      rw [List.getElem?_set_self hi] at hj
      cases hj
      exact ⟨v, by rw [List.getElem?_set_self hi'], h⟩
    · rw [List.getElem?_set_ne (Ne.symm h1)] at hj ⊢
      exact sl.sh j e hj
  · by_cases h1 : j = i
    · subst h1
      rw [List.getElem?_set_self hi] at hj
      cases hj
    · rw [List.getElem?_set_ne (Ne.symm h1)] at hj ⊢
      exact sl.ow j e hj
  · have nj : j ≠ i := fun z => by subst z; rw [List.getElem?_set_self hi] at hj; cases hj
    have nk : k ≠ i := fun z => by subst z; rw [List.getElem?_set_self hi] at hk; cases hk
    rw [List.getElem?_set_ne (Ne.symm nj)] at hj sj
    rw [List.getElem?_set_ne (Ne.symm nk)] at hk sk
    exact sl.inj j k e f a hj hk sj sk
theorem Pt.setSh (P : Pt K c gT gF σ H ρ s) {i : Nat} {d : D} {v : V} (hi : i < ρ.length) (h : (d, v) ∈ gT) : Pt K c gT gF (σ.set i (some v)) H (ρ.set i (.sh d)) s := by
  obtain ⟨T, F, o⟩ := P
  exact ⟨T, F, o.B, o.hT, o.hF, o.nd, o.sl.setSh hi (o.hT _ h)⟩
theorem Like.refl (σ : L2.St) (vs : List Nat) : Like σ σ vs := ⟨rfl, fun _ _ => rfl⟩
theorem Like.trans {σ1 : L2.St} {vs ws : List Nat} (a : Like σ σ1 vs) (b : Like σ1 σ' ws) : Like σ σ' (vs ++ ws) :=
  ⟨b.1.trans a.1, fun i hi => (b.2 i fun z => hi (List.mem_append_right _ z)).trans (a.2 i fun z => hi (List.mem_append_left _ z))⟩
theorem Opn.addAll (o : Opn K c gT gF σ H ρ s T F) : ∀ {ds : List D} {xs : List V}, Reps K c.aS (c.Ow F) H ds xs → ∃ gT' T', Opn K c gT' gF σ H ρ s T' F ∧ (∀ p ∈ gT, p ∈ gT') ∧ PairsIn gT' ds xs
  | [], xs, h => by rw [Reps] at h; exact ⟨gT, T, o, fun _ h => h, h⟩
  | d :: ds, xs, h => by
    rw [Reps] at h
    obtain ⟨v, vs, rfl, r, t⟩ := h
    obtain ⟨gT', T', o', h1, h2⟩ := Opn.addAll o t
    refine ⟨_, _, o'.addT r, fun p hp => List.mem_cons_of_mem _ (h1 p hp), v, vs, rfl, List.mem_cons_self, ?_⟩
    clear o' t o
    induction ds generalizing vs with
    | nil => exact h2
    | cons e es ih =>
      obtain ⟨x, xs, rfl, h3, h4⟩ := h2
      exact ⟨x, xs, rfl, List.mem_cons_of_mem _ h3, ih _ h4⟩
theorem PairsIn.mono : ∀ {ds : List D} {vs : List V}, PairsIn gT ds vs → (∀ p ∈ gT, p ∈ gT') → PairsIn gT' ds vs
  | [], _, h, _ => h
  | _ :: _, _, h, m => by
    obtain ⟨x, xs, e, h1, h2⟩ := h
    exact ⟨x, xs, e, m _ h1, PairsIn.mono h2 m⟩
theorem PairsIn.length : ∀ {ds : List D} {vs : List V}, PairsIn gT ds vs → vs.length = ds.length
  | [], _, h => by rw [show _ = [] from h]; rfl
  | _ :: _, _, h => by
    obtain ⟨x, xs, rfl, h1, h2⟩ := h
    simp [PairsIn.length h2]
end
theorem assign_len {env : PySem.Env} : ∀ {es : List Expr}, plainEs es = true → (assignEach es env).length = es.length ∧ (assignEach es env).findIdx? (·.1) = none ∧ ∀ e r, es = e :: r → (assignEach es env).map (·.2) = assign e env :: (assignEach r env).map (·.2)
  | [], _ => ⟨rfl, rfl, fun _ _ h => by cases h⟩
  | e :: es, h => by
    rw [plainEs, Bool.and_eq_true] at h
    obtain ⟨h1, h2, _⟩ := assign_len (env := env) h.2
    have e1 : assignEach (e :: es) env = (false, assign e env) :: assignEach es env := by cases e <;> first | rfl | cases h.1
    rw [e1]
    refine ⟨by simp [h1], ?_, fun e' r z => by cases z; rfl⟩
    rw [List.findIdx?_cons]
    simp [h2]
theorem mtTgs_plain (mc : MC) : ∀ (t : Tg) (es : List Expr), mtTgs mc t es = true → plainEs es = true
  | .nil, [], _ => rfl
  | .cons a b, e :: es, h => by
    rw [mtTgs, Bool.and_eq_true, Bool.and_eq_true] at h
    rw [plainEs, h.1.1, mtTgs_plain mc b es h.2]; rfl
  | .nil, _ :: _, h => by simp [mtTgs] at h
  | .cons _ _, [], h => by simp [mtTgs] at h
  | .nm _, _, h => by simp [mtTgs] at h
  | .tup _, _, h => by simp [mtTgs] at h
theorem bindTgs_len : ∀ (t : Tg) (ds : List D) (ρ ρ' : Env) (mc : MC) (es : List Expr), bindTgs t ds ρ = some ρ' → mtTgs mc t es = true → ds.length = es.length
  | .nil, [], _, _, _, [], _, _ => rfl
  | .cons a b, d :: ds, ρ, ρ', mc, e :: es, h, m => by
    rw [bindTgs, Option.bind_eq_some_iff] at h
    obtain ⟨ρ1, _, h2⟩ := h
    rw [mtTgs, Bool.and_eq_true] at m
    simp [bindTgs_len b ds ρ1 ρ' mc es h2 m.2]
  | .nil, [], _, _, _, _ :: _, _, m => by simp [mtTgs] at m
  | .nil, _ :: _, _, _, _, _, h, _ => by simp [bindTgs] at h
  | .cons _ _, [], _, _, _, _, h, _ => by simp [bindTgs] at h
  | .cons _ _, _ :: _, _, _, _, [], _, m => by simp [mtTgs] at m
  | .nm _, _, _, _, _, _, h, _ => by simp [bindTgs] at h
  | .tup _, _, _, _, _, _, h, _ => by simp [bindTgs] at h
section
variable {X : Cx} {mc : MC}
theorem tg_ok (ok : CtxOk X mc) : ∀ (t : Tg), (∀ e, mtTg mc t e = true → PG X e (rdG X.K t)) ∧ (∀ es, mtTgs mc t es = true → PGs X es (rdGs X.K t)) := by
  intro t
  induction t with
  | nm i =>
    refine ⟨fun e h => ?_, fun es h => by simp [mtTgs] at h⟩
    cases e <;> first | (simp [mtTg] at h; done) | skip
    rename_i x pos
    rw [mtTg, Bool.and_eq_true] at h
    have hN := of_decide_eq_true h.1
    obtain ⟨hl, hf⟩ := ok.loc h.2
    have g := pg_name (X := X) (pos := pos) ok.nd (by rw [← ok.N]; exact hN) hl hf
    refine ⟨fun pins s σ H v u Q I r q => g.run pins s σ H v u Q I r ?_⟩
    obtain ⟨c, gT, gF, ρ, st, d, ρ', P, hm, hb, k⟩ := q
    rw [bindTg] at hb
    split at hb <;> first | (cases hb; done) | skip
    rename_i hi
    cases hb
    exact k _ (P.setSh hi hm) ⟨by simp, fun j hj => by rw [List.getElem?_set_ne]; intro z; exact hj (by simp [tgSlots, z])⟩
  | nil =>
    refine ⟨fun e h => by simp [mtTg] at h, fun es h => ?_⟩
    cases es <;> first | (simp [mtTgs] at h; done) | skip
    refine ⟨fun pins s σ H vs us Q I r q => pgs_nil.run pins s σ H vs us Q I r ?_⟩
    obtain ⟨c, gT, gF, ρ, st, ds, ρ', P, hm, hb, k⟩ := q
    cases ds <;> first | (simp [bindTgs] at hb; done) | skip
    rw [bindTgs] at hb
    cases hb
    exact ⟨hm, k σ P (Like.refl _ _)⟩
  | tup t ih =>
    refine ⟨fun e h => ?_, fun es h => by simp [mtTgs] at h⟩
    cases e <;> first | (simp [mtTg] at h; done) | skip
    rename_i es kk pos
    rw [mtTg] at h
    have pl := mtTgs_plain mc t es h
    obtain ⟨l1, l2, _⟩ := assign_len (env := X.env) pl
    have g := pg_tup (pos := pos) (k := kk) ok.calm (ih.2 es h) l1 l2
    refine ⟨fun pins s σ H v u Q I r q => g.run pins s σ H v u Q I r ?_⟩
    obtain ⟨c, gT, gF, ρ, st, d, ρ', ⟨T, F, o⟩, hm, hb, k⟩ := q
    cases d <;> first | (simp [bindTg] at hb; done) | skip
    rename_i ds
    rw [bindTg] at hb
    have rep := o.B.tT _ (o.hT _ hm)
    rw [Rep] at rep
    obtain ⟨a, xs, e1, hs, t'⟩ := rep
    obtain ⟨gT', T', o', h1, h2⟩ := o.addAll t'
    refine ⟨a, xs, e1, hs, by rw [t'.length]; exact bindTgs_len t ds ρ ρ' mc es hb h, c, gT', gF, ρ, st, ds, ρ', ⟨T', F, o'⟩, h2, hb, fun σ' P' L => k σ' (P'.less h1 (List.Sublist.refl _)) L⟩
  | cons a b iha ihb =>
    refine ⟨fun e h => by simp [mtTg] at h, fun es h => ?_⟩
    cases es with
    | nil => simp [mtTgs] at h
    | cons e es =>
      have pl := mtTgs_plain mc _ _ h
      rw [mtTgs, Bool.and_eq_true, Bool.and_eq_true] at h
      have g := pgs_cons (iha.1 e h.1.2) (ihb.2 es h.2) ((assign_len (env := X.env) pl).2.2 e es rfl)
      refine ⟨fun pins s σ H vs us Q I r q => g.run pins s σ H vs us Q I r ?_⟩
      obtain ⟨c, gT, gF, ρ, st, ds, ρ', P, hm, hb, k⟩ := q
      cases ds <;> first | (simp [bindTgs] at hb; done) | skip
      rename_i d ds
      rw [bindTgs, Option.bind_eq_some_iff] at hb
      obtain ⟨ρ1, hb1, hb2⟩ := hb
      obtain ⟨x, xs, rfl, m1, m2⟩ := hm
      exact ⟨x, xs, rfl, c, gT, gF, ρ, st, d, ρ1, P, m1, hb1, fun σ1 P1 L1 => ⟨c, gT, gF, ρ1, st, ds, ρ', P1, m2, hb2, fun σ2 P2 L2 => k σ2 P2 (L1.trans L2)⟩⟩
end
theorem bindTg_like : ∀ (t : Tg), (∀ d ρ ρ', bindTg t d ρ = some ρ' → LikeE ρ ρ' (tgSlots t)) ∧ (∀ ds ρ ρ', bindTgs t ds ρ = some ρ' → LikeE ρ ρ' (tgSlots t)) := by
  intro t
  induction t with
  | nm i =>
    refine ⟨fun d ρ ρ' h => ?_, fun ds ρ ρ' h => by simp [bindTgs] at h⟩
    rw [bindTg] at h
    split at h <;> cases h
    exact ⟨by simp, fun j hj => by rw [List.getElem?_set_ne]; intro z; exact hj (by simp [tgSlots, z])⟩
  | nil =>
    refine ⟨fun d ρ ρ' h => by simp [bindTg] at h, fun ds ρ ρ' h => ?_⟩
    cases ds <;> simp [bindTgs] at h
    subst h
    exact ⟨rfl, fun _ _ => rfl⟩
  | tup t ih =>
    refine ⟨fun d ρ ρ' h => ?_, fun ds ρ ρ' h => by simp [bindTgs] at h⟩
    cases d <;> first | (simp [bindTg] at h; done) | skip
    rw [bindTg] at h
    exact ih.2 _ _ _ h
  | cons a b iha ihb =>
    refine ⟨fun d ρ ρ' h => by simp [bindTg] at h, fun ds ρ ρ' h => ?_⟩
    cases ds <;> first | (simp [bindTgs] at h; done) | skip
    rw [bindTgs, Option.bind_eq_some_iff] at h
    obtain ⟨ρ1, h1, h2⟩ := h
    obtain ⟨a1, a2⟩ := iha.1 _ _ _ h1
    obtain ⟨b1, b2⟩ := ihb.2 _ _ _ h2
    exact ⟨b1.trans a1, fun i hi => (b2 i fun z => hi (by simp [tgSlots, z])).trans (a2 i fun z => hi (by simp [tgSlots, z]))⟩
/-! ## what is walked -/
structure Wk (K : PySem.W.Frag) (J : It) (c : Cfg) (gT : Shd) (gF : Own) (items : List D) : Prop where
  goes : ∀ (i : Nat), i < items.length → ∀ gT' gF' σ H ρ s, (∀ p ∈ gT, p ∈ gT') → (∀ p ∈ gF, p ∈ gF') → Pt K c gT' gF' σ H ρ s → J.go i H
  stops : ∀ gT' gF' σ H ρ s, (∀ p ∈ gT, p ∈ gT') → (∀ p ∈ gF, p ∈ gF') → Pt K c gT' gF' σ H ρ s → J.stop items.length H
  yields : ∀ (i : Nat) (d : D), items[i]? = some d → ∀ gT' gF' σ H ρ s x H', (∀ p ∈ gT, p ∈ gT') → (∀ p ∈ gF, p ∈ gF') → Pt K c gT' gF' σ H ρ s → J.yld i H x H' → Pt K c ((d, x) :: gT') gF' σ H' ρ s
def rdI (K : PySem.W.Frag) (f : Env → OSt → R (List D × Option Nat)) : TI := fun σ H R => ∃ c gT gF ρ s items b s', Pt K c gT gF σ H ρ s ∧ f ρ s = .ok (items, b) s' ∧
  ∀ J H' gT' gF' ρ', (b = none → ρ' = ρ ∧ gF' = gF) → (∀ i, b = some i → ρ' = ρ.set i .no ∧ ∃ a, gF' = (.lst items, a) :: gF ∧ σ[i]? = some (some (.ref a)) ∧ ρ[i]? = some (.ow (.lst items))) →
    (∀ p ∈ gT, p ∈ gT') → Pt K c gT' gF' σ H' ρ' s' → Wk K J c gT' gF' items → R J H'
section
variable {K : PySem.W.Frag} {c : Cfg} {gT : Shd} {gF : Own} {items : List D} {a b : Addr}
theorem wk_list (h : (.lst items, .ref a) ∈ gT) : Wk K (Itl K a) c gT gF items := by
  have at_ : ∀ gT' gF' σ H ρ s, (∀ p ∈ gT, p ∈ gT') → Pt K c gT' gF' σ H ρ s → ∃ T F xs, Opn K c gT' gF' σ H ρ s T F ∧ H a = some (.lst xs) ∧ Reps K c.aS (c.Ow F) H items xs := by
    rintro gT' gF' σ H ρ s h1 ⟨T, F, o⟩
    have r := o.B.tT _ (o.hT _ (h1 _ h))
    rw [Rep] at r
    obtain ⟨b, xs, e, _, q, t⟩ := r
    cases e
    exact ⟨T, F, xs, o, q, t⟩
  refine ⟨fun i hi gT' gF' σ H ρ s h1 h2 P => ?_, fun gT' gF' σ H ρ s h1 h2 P => ?_, fun i d hd gT' gF' σ H ρ s x H' h1 h2 P y => ?_⟩
  · obtain ⟨T, F, xs, o, q, t⟩ := at_ _ _ _ _ _ _ h1 P
    have hl := t.length
    exact ⟨xs, xs[i]'(by omega), SqL.of q, by simp [show i < xs.length by omega]⟩
  · obtain ⟨T, F, xs, o, q, t⟩ := at_ _ _ _ _ _ _ h1 P
    exact ⟨xs, SqL.of q, by rw [t.length]; exact Nat.le_refl _⟩
  · obtain ⟨T, F, xs, o, q, t⟩ := at_ _ _ _ _ _ _ h1 P
    obtain ⟨rfl, y⟩ := y
    obtain ⟨v, hv, rv⟩ := t.get hd
    have := y xs (SqL.of q)
    rw [hv] at this; cases this
    exact ⟨_, _, o.addT rv⟩
theorem wk_own (h : (.lst items, a) ∈ gF) : Wk K (Itl K a) c gT gF items := by
  have at_ : ∀ gT' gF' σ H ρ s, (∀ p ∈ gF, p ∈ gF') → Pt K c gT' gF' σ H ρ s → ∃ T F xs, Opn K c gT' gF' σ H ρ s T F ∧ H a = some (.lst xs) ∧ Reps K c.aS (c.Ow F) H items xs := by
    rintro gT' gF' σ H ρ s h1 ⟨T, F, o⟩
    obtain ⟨l, xs, e, q, t⟩ := o.B.top_at (o.hF _ (h1 _ h))
    cases e
    exact ⟨T, F, xs, o, q, t⟩
  refine ⟨fun i hi gT' gF' σ H ρ s h1 h2 P => ?_, fun gT' gF' σ H ρ s h1 h2 P => ?_, fun i d hd gT' gF' σ H ρ s x H' h1 h2 P y => ?_⟩
  · obtain ⟨T, F, xs, o, q, t⟩ := at_ _ _ _ _ _ _ h2 P
    have hl := t.length
    exact ⟨xs, xs[i]'(by omega), SqL.of q, by simp [show i < xs.length by omega]⟩
  · obtain ⟨T, F, xs, o, q, t⟩ := at_ _ _ _ _ _ _ h2 P
    exact ⟨xs, SqL.of q, by rw [t.length]; exact Nat.le_refl _⟩
  · obtain ⟨T, F, xs, o, q, t⟩ := at_ _ _ _ _ _ _ h2 P
    obtain ⟨rfl, y⟩ := y
    obtain ⟨v, hv, rv⟩ := t.get hd
    have := y xs (SqL.of q)
    rw [hv] at this; cases this
    exact ⟨_, _, o.addT rv⟩
theorem tup_at {gT' : Shd} {gF' : Own} {σ : L2.St} {H : Hp} {ρ : Env} {s : OSt} (h : (.tup items, .ref a) ∈ gT') (P : Pt K c gT' gF' σ H ρ s) : ∃ T F xs, Opn K c gT' gF' σ H ρ s T F ∧ SqT K H a xs ∧ Reps K c.aS (c.Ow F) H items xs := by
  obtain ⟨T, F, o⟩ := P
  have r := o.B.tT _ (o.hT _ h)
  rw [Rep] at r
  obtain ⟨b, xs, e, q, t⟩ := r
  cases e
  exact ⟨T, F, xs, o, q, t⟩
theorem lst_at {gT' : Shd} {gF' : Own} {σ : L2.St} {H : Hp} {ρ : Env} {s : OSt} (h : (.lst items, .ref a) ∈ gT') (P : Pt K c gT' gF' σ H ρ s) : ∃ T F xs, Opn K c gT' gF' σ H ρ s T F ∧ H a = some (.lst xs) ∧ Reps K c.aS (c.Ow F) H items xs := by
  obtain ⟨T, F, o⟩ := P
  have r := o.B.tT _ (o.hT _ h)
  rw [Rep] at r
  obtain ⟨b, xs, e, _, q, t⟩ := r
  cases e
  exact ⟨T, F, xs, o, q, t⟩
theorem wk_tup (h : (.tup items, .ref a) ∈ gT) : Wk K (Itt K a) c gT gF items := by
  refine ⟨fun i hi gT' gF' σ H ρ s h1 h2 P => ?_, fun gT' gF' σ H ρ s h1 h2 P => ?_, fun i d hd gT' gF' σ H ρ s x H' h1 h2 P y => ?_⟩
  · obtain ⟨T, F, xs, o, q, t⟩ := tup_at (h1 _ h) P
    have hl := t.length
    exact ⟨xs, xs[i]'(by omega), q, by simp [show i < xs.length by omega]⟩
  · obtain ⟨T, F, xs, o, q, t⟩ := tup_at (h1 _ h) P
    exact ⟨xs, q, by rw [t.length]; exact Nat.le_refl _⟩
  · obtain ⟨T, F, xs, o, q, t⟩ := tup_at (h1 _ h) P
    obtain ⟨rfl, y⟩ := y
    obtain ⟨v, hv, rv⟩ := t.get hd
    have := y xs q
    rw [hv] at this; cases this
    exact ⟨_, _, o.addT rv⟩
theorem wk_range (lo : Int) (n : Nat) : Wk K (Itr lo n) c gT gF (fromInts lo n) := by
  refine ⟨fun i hi gT' gF' σ H ρ s h1 h2 P => by show i < n; simpa [fromInts] using hi, fun gT' gF' σ H ρ s h1 h2 P => by simp [fromInts, Itr], fun i d hd gT' gF' σ H ρ s x H' h1 h2 P y => ?_⟩
  obtain ⟨rfl, rfl⟩ := y
  obtain ⟨T, F, o⟩ := P
  have : d = .int (lo + i) := by
    unfold fromInts at hd
    rw [List.getElem?_map] at hd
    cases hr : (List.range n)[i]? with
    | none => rw [hr] at hd; cases hd
    | some k =>
      rw [hr] at hd; cases hd
      rw [List.getElem?_range] at hr
      · cases hr; rfl
      · by_cases h : i < n
        · exact h
        · rw [List.getElem?_eq_none (by simp; omega)] at hr; cases hr
  subst this
  exact ⟨_, _, o.addT Rep.int'⟩
theorem zipD_get : ∀ {xs ys : List D} {i : Nat} {d : D}, (zipD xs ys)[i]? = some d → ∃ x y, xs[i]? = some x ∧ ys[i]? = some y ∧ d = .tup [x, y]
  | [], _, _, _, h => by simp [zipD] at h
  | _ :: _, [], _, _, h => by simp [zipD] at h
  | x :: xs, y :: ys, 0, _, h => by simp [zipD] at h; exact ⟨x, y, rfl, rfl, h.symm⟩
  | x :: xs, y :: ys, i + 1, _, h => by
    simp [zipD] at h
    obtain ⟨a, b, h1, h2, h3⟩ := zipD_get h
    exact ⟨a, b, by simpa using h1, by simpa using h2, h3⟩
theorem zipD_len : ∀ (xs ys : List D), (zipD xs ys).length = min xs.length ys.length
  | [], _ => by simp [zipD]
  | _ :: _, [] => by simp [zipD]
  | x :: xs, y :: ys => by simp [zipD, zipD_len xs ys]
theorem wk_zipT {xs ys : List D} (ha : (.tup xs, .ref a) ∈ gT) (hb : (.tup ys, .ref b) ∈ gT) : Wk K (RZ.ItzT K a b) c gT gF (zipD xs ys) := by
  refine ⟨fun i hi gT' gF' σ H ρ s h1 h2 P => ?_, fun gT' gF' σ H ρ s h1 h2 P => ?_, fun i d hd gT' gF' σ H ρ s x H' h1 h2 P y => ?_⟩
  · obtain ⟨T, F, us, o, q, t⟩ := tup_at (h1 _ ha) P
    obtain ⟨T2, F2, ws, o2, q2, t2⟩ := tup_at (h1 _ hb) P
    have l1 := t.length; have l2 := t2.length
    rw [zipD_len] at hi
    exact ⟨us, ws, us[i]'(by omega), ws[i]'(by omega), q, q2, by simp [show i < us.length by omega], by simp [show i < ws.length by omega]⟩
  · obtain ⟨T, F, us, o, q, t⟩ := tup_at (h1 _ ha) P
    obtain ⟨T2, F2, ws, o2, q2, t2⟩ := tup_at (h1 _ hb) P
    have l1 := t.length; have l2 := t2.length
    exact ⟨us, ws, q, q2, by rw [zipD_len]; omega⟩
  · obtain ⟨T, F, o⟩ := P
    have r1 := o.B.tT _ (o.hT _ (h1 _ ha))
    have r2 := o.B.tT _ (o.hT _ (h1 _ hb))
    rw [Rep] at r1 r2
    obtain ⟨_, us, e1, q1, t1⟩ := r1
    obtain ⟨_, ws, e2, q2, t2⟩ := r2
    cases e1; cases e2
    obtain ⟨dx, dy, g1, g2, rfl⟩ := zipD_get hd
    obtain ⟨v1, hv1, rv1⟩ := t1.get g1
    obtain ⟨v2, hv2, rv2⟩ := t2.get g2
    obtain ⟨Tp, x1, y1, rfl, hT, rfl, f1, f2⟩ := y
    have z1 := f1 us q1; have z2 := f2 ws q2
    rw [hv1] at z1; cases z1
    rw [hv2] at z2; cases z2
    exact ⟨_, _, o.step (fun p hp => List.mem_cons_of_mem _ hp) (fun p hp => by
      rcases List.mem_cons.mp hp with e | hp
      · rw [e]; exact List.mem_cons_self
      · exact List.mem_cons_of_mem _ (o.hT p hp)) (o.B.tup hT (Reps.cons rv1 (Reps.cons rv2 Reps.nil)))⟩
theorem wk_zipL {xs ys : List D} (ha : (.lst xs, .ref a) ∈ gT) (hb : (.lst ys, .ref b) ∈ gT) : Wk K (Itz K a b) c gT gF (zipD xs ys) := by
  refine ⟨fun i hi gT' gF' σ H ρ s h1 h2 P => ?_, fun gT' gF' σ H ρ s h1 h2 P => ?_, fun i d hd gT' gF' σ H ρ s x H' h1 h2 P y => ?_⟩
  · obtain ⟨T, F, us, o, q, t⟩ := lst_at (h1 _ ha) P
    obtain ⟨T2, F2, ws, o2, q2, t2⟩ := lst_at (h1 _ hb) P
    have l1 := t.length; have l2 := t2.length
    rw [zipD_len] at hi
    exact ⟨us, ws, us[i]'(by omega), ws[i]'(by omega), SqL.of q, SqL.of q2, by simp [show i < us.length by omega], by simp [show i < ws.length by omega]⟩
  · obtain ⟨T, F, us, o, q, t⟩ := lst_at (h1 _ ha) P
    obtain ⟨T2, F2, ws, o2, q2, t2⟩ := lst_at (h1 _ hb) P
    have l1 := t.length; have l2 := t2.length
    exact ⟨us, ws, SqL.of q, SqL.of q2, by rw [zipD_len]; omega⟩
  · obtain ⟨T, F, o⟩ := P
    have r1 := o.B.tT _ (o.hT _ (h1 _ ha))
    have r2 := o.B.tT _ (o.hT _ (h1 _ hb))
    rw [Rep] at r1 r2
    obtain ⟨_, us, e1, _, q1, t1⟩ := r1
    obtain ⟨_, ws, e2, _, q2, t2⟩ := r2
    cases e1; cases e2
    obtain ⟨dx, dy, g1, g2, rfl⟩ := zipD_get hd
    obtain ⟨v1, hv1, rv1⟩ := t1.get g1
    obtain ⟨v2, hv2, rv2⟩ := t2.get g2
    obtain ⟨Tp, x1, y1, rfl, hT, rfl, f1, f2⟩ := y
    have z1 := f1 us (SqL.of q1); have z2 := f2 ws (SqL.of q2)
    rw [hv1] at z1; cases z1
    rw [hv2] at z2; cases z2
    exact ⟨_, _, o.step (fun p hp => List.mem_cons_of_mem _ hp) (fun p hp => by
      rcases List.mem_cons.mp hp with e | hp
      · rw [e]; exact List.mem_cons_self
      · exact List.mem_cons_of_mem _ (o.hT p hp)) (o.B.tup hT (Reps.cons rv1 (Reps.cons rv2 Reps.nil)))⟩
end
end RS
end
section
set_option Elab.async false
set_option linter.all false
set_option maxRecDepth 100000
set_option autoImplicit false
set_option maxHeartbeats 2000000
/-! RSComp: what is walked, by the evaluator; comprehensions. -/
namespace RS
open PySem L2
theorem _root_.L2.PI.via {X : Cx} {tg e : Expr} {t t' : TI} (h : PI X tg e t) (i : ∀ σ H R, t' σ H R → t σ H R) : PI X tg e t' := ⟨fun pins s σ H R I q => h.run pins s σ H R I (i σ H R q)⟩
section
variable {K : PySem.W.Frag} {c : Cfg} {gT gT' : Shd} {gF gF' : Own} {σ σ' : L2.St} {H H' : Hp} {ρ ρ' : Env} {s s' : OSt} {T : Shd} {F : Own}
/-- a slot's own thing lent: the slot is wiped -/
theorem Pt.lend (P : Pt K c gT gF σ H ρ s) {i : Nat} {d : D} {a : Addr} (h1 : ρ[i]? = some (.ow d)) (h2 : σ[i]? = some (some (.ref a))) : Pt K c gT ((d, a) :: gF) σ H (ρ.set i .no) s := by
  obtain ⟨T, F, o⟩ := P
  obtain ⟨b, e, hF, n⟩ := o.sl.ow i d h1
  rw [h2] at e; cases e
  have hi : i < ρ.length := by
    rcases Nat.lt_or_ge i ρ.length with h | h
    · exact h
    · rw [List.getElem?_eq_none h] at h1; cases h1
  refine ⟨T, F, o.B, o.hT, fun p hp => ?_, ?_, by simp [o.sl.len], fun j e hj => ?_, fun j e hj => ?_, fun j k e f b hj hk sj sk => ?_⟩
  · rcases List.mem_cons.mp hp with e | hp
    · rw [e]; exact hF
    · exact o.hF p hp
  · rw [List.map_cons, List.nodup_cons]
    exact ⟨n, o.nd⟩
  · by_cases hij : j = i
    · subst hij; rw [List.getElem?_set_self hi] at hj; cases hj
    · rw [List.getElem?_set_ne (Ne.symm hij)] at hj
      exact o.sl.sh j e hj
  · by_cases hij : j = i
    · subst hij; rw [List.getElem?_set_self hi] at hj; cases hj
    · rw [List.getElem?_set_ne (Ne.symm hij)] at hj
      obtain ⟨b, k1, k2, k3⟩ := o.sl.ow j e hj
      refine ⟨b, k1, k2, fun z => ?_⟩
      rw [List.map_cons] at z
      rcases List.mem_cons.mp z with z | z
      · subst z; exact hij (o.sl.inj j i e d _ hj h1 k1 h2)
      · exact k3 z
  · have nj : j ≠ i := fun z => by subst z; rw [List.getElem?_set_self hi] at hj; cases hj
    have nk : k ≠ i := fun z => by subst z; rw [List.getElem?_set_self hi] at hk; cases hk
    rw [List.getElem?_set_ne (Ne.symm nj)] at hj
    rw [List.getElem?_set_ne (Ne.symm nk)] at hk
    exact o.sl.inj j k e f b hj hk sj sk
/-- and given back -/
theorem Pt.unlend {i : Nat} (P : Pt K c gT gF' σ H (ρ.set i .no) s) {d : D} {a : Addr} (hF : (d, a) ∈ gF') (hs : List.Sublist gF gF') (hn : a ∉ gF.map (·.2)) (h1 : ρ[i]? = some (.ow d)) (h2 : σ[i]? = some (some (.ref a))) : Pt K c gT gF σ H ρ s := by
  obtain ⟨T, F, o⟩ := P
  have o' := o.less (fun _ h => h) hs
  have hi : i < ρ.length := by
    rcases Nat.lt_or_ge i ρ.length with h | h
    · exact h
    · rw [List.getElem?_eq_none h] at h1; cases h1
  have aw : ∀ (j : Nat) (e : D) (b : Addr), j ≠ i → ρ[j]? = some (.ow e) → σ[j]? = some (some (.ref b)) → b ≠ a := fun j e b hij hj sj z => by
    obtain ⟨b', k1, _, k3⟩ := o.sl.ow j e (by rw [List.getElem?_set_ne (Ne.symm hij)]; exact hj)
    rw [sj] at k1; cases k1
    exact k3 (z ▸ List.mem_map.mpr ⟨_, hF, rfl⟩)
  refine ⟨T, F, o.B, o'.hT, o'.hF, o'.nd, by have := o.sl.len; simpa using this, fun j e hj => ?_, fun j e hj => ?_, fun j k e f b hj hk sj sk => ?_⟩
  · have hij : j ≠ i := fun z => by subst z; rw [h1] at hj; cases hj
    exact o.sl.sh j e (by rw [List.getElem?_set_ne (Ne.symm hij)]; exact hj)
  · by_cases hij : j = i
    · subst hij
      rw [h1] at hj; cases hj
      exact ⟨a, h2, o.hF _ hF, hn⟩
    · exact o'.sl.ow j e (by rw [List.getElem?_set_ne (Ne.symm hij)]; exact hj)
  · by_cases hji : j = i
    · by_cases hki : k = i
      · rw [hji, hki]
      · subst hji
        rw [h2] at sj; cases sj
        exact (aw k f _ hki hk sk rfl).elim
    · by_cases hki : k = i
      · subst hki
        rw [h2] at sk; cases sk
        exact (aw j e _ hji hj sj rfl).elim
      · exact o.sl.inj j k e f b (by rw [List.getElem?_set_ne (Ne.symm hji)]; exact hj) (by rw [List.getElem?_set_ne (Ne.symm hki)]; exact hk) sj sk
theorem wipeE_length (ρ : Env) : ∀ vs : List Nat, (wipeE ρ vs).length = ρ.length
  | [] => rfl
  | v :: vs => by unfold wipeE; rw [List.length_set, wipeE_length ρ vs]
theorem wipeE_in {ρ : Env} {i : Nat} {x : Slot} : ∀ {vs : List Nat}, (wipeE ρ vs)[i]? = some x → x ≠ .no → i ∉ vs
  | [], _, _ => by simp
  | v :: vs, h, n => by
    unfold wipeE at h
    intro hm
    by_cases e : v = i
    · subst e
      rw [List.getElem?_set] at h
      simp only [if_true] at h
      split at h
      · cases h; exact n rfl
      · cases h
    · rw [List.getElem?_set_ne e] at h
      rcases List.mem_cons.mp hm with z | z
      · exact e z.symm
      · exact wipeE_in h n z
theorem wipeE_out {ρ : Env} {i : Nat} : ∀ {vs : List Nat}, i ∉ vs → (wipeE ρ vs)[i]? = ρ[i]?
  | [], _ => rfl
  | v :: vs, h => by
    have h1 : v ≠ i := fun e => h (by rw [e]; exact List.mem_cons_self)
    unfold wipeE
    rw [List.getElem?_set_ne h1]
    exact wipeE_out fun m => h (List.mem_cons_of_mem _ m)
theorem wipeE_inside {ρ : Env} {i : Nat} : ∀ {vs : List Nat}, i ∈ vs → i < ρ.length → (wipeE ρ vs)[i]? = some .no
  | [], h, _ => by simp at h
  | v :: vs, h, hl => by
    unfold wipeE
    by_cases e : v = i
    · subst e
      rw [List.getElem?_set_self (by rw [wipeE_length]; exact hl)]
    · rw [List.getElem?_set_ne e]
      rcases List.mem_cons.mp h with z | z
      · exact (e z.symm).elim
      · exact wipeE_inside z hl
theorem wipeE_like {vs : List Nat} (h : LikeE ρ ρ' vs) : wipeE ρ' vs = wipeE ρ vs := by
  apply List.ext_getElem?
  intro i
  by_cases hi : i ∈ vs
  · by_cases hl : i < ρ.length
    · rw [wipeE_inside hi hl, wipeE_inside hi (by rw [h.1]; exact hl)]
    · rw [List.getElem?_eq_none (by rw [wipeE_length, h.1]; omega), List.getElem?_eq_none (by rw [wipeE_length]; omega)]
  · rw [wipeE_out hi, wipeE_out hi, h.2 i hi]
theorem wipe_inside {σ : L2.St} {i : Nat} : ∀ {vs : List Nat}, i ∈ vs → i < σ.length → (wipe σ vs)[i]? = some none
  | [], h, _ => by simp at h
  | v :: vs, h, hl => by
    unfold wipe
    by_cases e : v = i
    · subst e
      rw [List.getElem?_set_self (by rw [wipe_length]; exact hl)]
    · rw [List.getElem?_set_ne e]
      rcases List.mem_cons.mp h with z | z
      · exact (e z.symm).elim
      · exact wipe_inside z hl
theorem wipe_like {vs : List Nat} (h : Like σ σ' vs) : wipe σ' vs = wipe σ vs := by
  apply List.ext_getElem?
  intro i
  by_cases hi : i ∈ vs
  · by_cases hl : i < σ.length
    · rw [wipe_inside hi hl, wipe_inside hi (by rw [h.1]; exact hl)]
    · rw [List.getElem?_eq_none (by rw [wipe_length, h.1]; omega), List.getElem?_eq_none (by rw [wipe_length]; omega)]
  · rw [wipe_out hi, wipe_out hi, h.2 i hi]
theorem wipe_wipe (σ : L2.St) (vs : List Nat) : wipe (wipe σ vs) vs = wipe σ vs := wipe_like ⟨wipe_length _ _, fun i hi => wipe_out hi⟩
theorem wipeE_wipeE (ρ : Env) (vs : List Nat) : wipeE (wipeE ρ vs) vs = wipeE ρ vs := wipeE_like ⟨wipeE_length _ _, fun i hi => wipeE_out hi⟩
theorem Opn.wiped (o : Opn K c gT gF σ H ρ s T F) (vs : List Nat) : Opn K c T gF (wipe σ vs) H (wipeE ρ vs) s T F := by
  refine ⟨o.B, fun _ h => h, o.hF, o.nd, by rw [wipeE_length, wipe_length]; exact o.sl.len, fun i d h => ?_, fun i d h => ?_, fun i j d e a hi hj si sj => ?_⟩
  · have n := wipeE_in h (by intro z; cases z)
    rw [wipeE_out n] at h
    rw [wipe_out n]
    exact o.sl.sh i d h
  · have n := wipeE_in h (by intro z; cases z)
    rw [wipeE_out n] at h
    rw [wipe_out n]
    exact o.sl.ow i d h
  · have n := wipeE_in hi (by intro z; cases z)
    have m := wipeE_in hj (by intro z; cases z)
    rw [wipeE_out n] at hi
    rw [wipeE_out m] at hj
    rw [wipe_out n] at si
    rw [wipe_out m] at sj
    exact o.sl.inj i j d e a hi hj si sj
theorem noOw_not {ρ : Env} {vs : List Nat} (h : noOw ρ vs = true) {i : Nat} {d : D} (hi : i ∈ vs) : ρ[i]? ≠ some (.ow d) := by
  intro z
  have := List.all_eq_true.mp h i hi
  rw [List.getD_eq_getElem?_getD, z] at this
  cases this
theorem Pt.unwiped {vs : List Nat} (P : Pt K c gT gF (wipe σ vs) H (wipeE ρ vs) s) (hl : ρ.length = σ.length) (hn : ∀ i ∈ vs, ∀ d, ρ[i]? ≠ some (.ow d)) (hs : ∀ (i : Nat) (d : D), ρ[i]? = some (.sh d) → ∃ v, σ[i]? = some (some v) ∧ (d, v) ∈ gT) : Pt K c gT gF σ H ρ s := by
  obtain ⟨T, F, o⟩ := P
  have nv : ∀ i d, ρ[i]? = some (.ow d) → i ∉ vs := fun i d h z => hn i z d h
  refine ⟨T, F, o.B, o.hT, o.hF, o.nd, hl, fun i d h => ?_, fun i d h => ?_, fun i j d e a hi hj si sj => ?_⟩
  · obtain ⟨v, h1, h2⟩ := hs i d h
    exact ⟨v, h1, o.hT _ h2⟩
  · have n := nv i d h
    have := o.sl.ow i d (by rw [wipeE_out n]; exact h)
    rw [wipe_out n] at this
    exact this
  · have n := nv i d hi
    have m := nv j e hj
    exact o.sl.inj i j d e a (by rw [wipeE_out n]; exact hi) (by rw [wipeE_out m]; exact hj) (by rw [wipe_out n]; exact si) (by rw [wipe_out m]; exact sj)
/-- a guarded own list changed -/
theorem Pt.put {d : D} {a : Addr} (P : Pt K c gT ((d, a) :: gF) σ H ρ s) {ds : List D} {ys : List V} (r : ∀ F, (∀ T, Opn K c gT ((d, a) :: gF) σ H ρ s T F → Reps K c.aS (c.Ow F) H ds ys)) : Pt K c gT ((.lst ds, a) :: gF) σ (upd H a (.lst ys)) ρ s := by
  obtain ⟨T, F, o⟩ := P
  have hF := o.hF _ List.mem_cons_self
  have nd := o.nd
  rw [List.map_cons, List.nodup_cons] at nd
  refine ⟨T, putO F a (.lst ds), o.B.mut hF (r F T o), o.hT, fun p hp => ?_, ?_, o.sl.len, o.sl.sh, fun i e h => ?_, o.sl.inj⟩
  · rcases List.mem_cons.mp hp with e | hp
    · rw [e]; exact mem_putO hF
    · exact mem_putO_ne (o.hF p (List.mem_cons_of_mem _ hp)) fun e => nd.1 (List.mem_map.mpr ⟨p, hp, e⟩)
  · rw [List.map_cons, List.nodup_cons]; exact nd
  · obtain ⟨b, h1, h2, h3⟩ := o.sl.ow i e h
    refine ⟨b, h1, mem_putO_ne h2 fun z => h3 ?_, h3⟩
    rw [z]; exact List.mem_cons_self
end
section
variable {X : Cx} {mc : MC}
/-! ### what is walked -/
theorem snd_itE {a : E} {x tg : Expr} (ha : PE X x (rd X.K (ev a))) : PI X tg x (rdI X.K (evI (.itE a))) := by
  refine ⟨fun pins s σ H R I h => ?_⟩
  obtain ⟨c, gT, gF, ρ, st, items, b, s', P, e, q⟩ := h
  rw [evI] at e
  obtain ⟨rx, s1, e1, e⟩ := bind_ok e
  cases rx with
  | bo i d =>
    cases d <;> first | (cases e; done) | skip
    rename_i l
    cases e
    refine (pi_list ha).run pins s σ H R I ⟨c, gT, gF, ρ, st, _, _, P, e1, fun v H1 P1 V1 => ?_⟩
    obtain ⟨a, rfl, h1, h2⟩ := V1
    have P2 := Pt.lend P1 h2 h1
    have sq : ∃ xs, SqL X.K H1 a xs := by
      obtain ⟨T, F, o⟩ := P1
      obtain ⟨b, h3, h4, _⟩ := o.sl.ow i _ h2
      rw [h1] at h3; cases h3
      obtain ⟨_, xs, _, q1, _⟩ := o.B.top_at h4
      exact ⟨xs, SqL.of q1⟩
    exact ⟨a, rfl, sq, q _ _ gT _ (ρ.set i .no) (fun z => by cases z) (fun j z => by cases z; exact ⟨rfl, a, rfl, h1, h2⟩) (fun _ h => h) P2 (wk_own List.mem_cons_self)⟩
  | sh d =>
    obtain ⟨e3, rfl⟩ := lift_ok (show lift _ _ = _ from e)
    rw [Option.map_eq_some_iff] at e3
    obtain ⟨l, e4, e'⟩ := e3
    cases e'
    have e := e4
    clear e4
    cases d <;> first | (cases e; done) | skip
    · cases e
      refine (pi_tup ha).run pins s σ H R I ⟨c, gT, gF, ρ, st, _, _, P, e1, fun v H1 P1 V1 => ?_⟩
      obtain ⟨T, F, o⟩ := id P1
      have r := o.B.tT _ (o.hT _ List.mem_cons_self)
      rw [Rep] at r
      obtain ⟨a, xs, rfl, q1, t⟩ := r
      exact ⟨a, rfl, ⟨xs, q1⟩, q _ _ _ gF ρ (fun _ => ⟨rfl, rfl⟩) (fun j z => by cases z) (fun p h => List.mem_cons_of_mem _ h) P1 (wk_tup List.mem_cons_self)⟩
    · cases e
      refine (pi_list ha).run pins s σ H R I ⟨c, gT, gF, ρ, st, _, _, P, e1, fun v H1 P1 V1 => ?_⟩
      obtain ⟨T, F, o⟩ := id P1
      have r := o.B.tT _ (o.hT _ List.mem_cons_self)
      rw [Rep] at r
      obtain ⟨a, xs, rfl, _, q1, t⟩ := r
      exact ⟨a, rfl, ⟨xs, SqL.of q1⟩, q _ _ _ gF ρ (fun _ => ⟨rfl, rfl⟩) (fun j z => by cases z) (fun p h => List.mem_cons_of_mem _ h) P1 (wk_list List.mem_cons_self)⟩
  | fr d =>
    obtain ⟨e3, rfl⟩ := lift_ok (show lift _ _ = _ from e)
    rw [Option.map_eq_some_iff] at e3
    obtain ⟨l, e4, e'⟩ := e3
    cases e'
    have e := e4
    clear e4
    cases d <;> first | (cases e; done) | skip
    · refine (pi_tup ha).run pins s σ H R I ⟨c, gT, gF, ρ, st, _, _, P, e1, fun v H1 P1 V1 => ?_⟩
      obtain ⟨a, rfl⟩ := V1
      obtain ⟨T, F, o⟩ := P1
      obtain ⟨_, xs, z, q1, _⟩ := o.B.top_at (o.hF _ List.mem_cons_self)
      cases z
    · cases e
      refine (pi_list ha).run pins s σ H R I ⟨c, gT, gF, ρ, st, _, _, P, e1, fun v H1 P1 V1 => ?_⟩
      obtain ⟨a, rfl⟩ := V1
      have P2 := Pt.forget (gF := gF) P1
      obtain ⟨T, F, o⟩ := P1
      obtain ⟨_, xs, z, q1, _⟩ := o.B.top_at (o.hF _ List.mem_cons_self)
      exact ⟨a, rfl, ⟨xs, SqL.of q1⟩, q _ _ _ gF ρ (fun _ => ⟨rfl, rfl⟩) (fun j z => by cases z) (fun p h => List.mem_cons_of_mem _ h) P2 (wk_list List.mem_cons_self)⟩
theorem smallR_of {i : Int} (h : smallR i = true) : -(2 ^ 62) ≤ i ∧ i < 2 ^ 62 := by
  have h := of_decide_eq_true h
  omega
theorem snd_itRange (ok : CtxOk X mc) {es : E} {y : Str} {l : List Expr} {tg : Expr} {k pos : Pos} (hy : callB mc "range" y = true) (h2 : (match l with | [_] => true | [_, _] => true | _ => false) = true) (hl : plainEs l = true) (hn : elen es = l.length) (ha : PA X l (rdA X.K (evs es))) :
    PI X tg (.Call (.Name y k) l [] pos) (rdI X.K (evI (.itRange es))) := by
  obtain ⟨rfl, hg, hd⟩ := callB_of ok hy
  have b := ok.blt "range" (by decide)
  have core : ∀ (σ : L2.St) (H : Hp) (R : It → Hp → Prop), rdI X.K (evI (.itRange es)) σ H R → (∃ n : Int, l.length = 1 ∧ iRng1 (rdA X.K (evs es)) σ H R) ∨ (l.length = 2 ∧ iRng2 (rdA X.K (evs es)) σ H R) := by
    intro σ H R h
    obtain ⟨c, gT, gF, ρ, st, items, bb, s', P, e, q⟩ := h
    rw [evI] at e
    obtain ⟨rs, s1, e1, e⟩ := bind_ok e
    obtain ⟨e3, rfl⟩ := lift_ok e
    rw [Option.map_eq_some_iff] at e3
    obtain ⟨l', e4, e'⟩ := e3
    cases e'
    have e := e4
    clear e4
    have hrs : rs.length = l.length := by rw [← hn]; exact evs_len es e1
    have hm : (rs.map Rs.d).length = rs.length := by simp
    unfold rangeF at e
    split at e
    · rename_i n hds
      refine .inl ⟨n, by rw [← hrs, ← hm, hds]; rfl, c, gT, gF, ρ, st, rs, _, P, e1, fun vs H1 P1 V1 => ?_⟩
      split at e <;> first | (cases e; done) | skip
      rename_i hb
      cases e
      obtain ⟨T, F, o⟩ := id P1
      have t := o.tvs V1
      rw [hds] at t
      obtain ⟨x, rfl, tx⟩ := tvs1 t
      refine ⟨n, by rw [tx.int], (smallR_of hb).1, (smallR_of hb).2, q _ _ _ gF ρ (fun _ => ⟨rfl, rfl⟩) (fun j z => by cases z) (subTs _ _ _) (P1.less (fun _ h => h) (subFs _ _ _)) (wk_range 0 _)⟩
    · rename_i n m hds
      refine .inr ⟨by rw [← hrs, ← hm, hds]; rfl, c, gT, gF, ρ, st, rs, _, P, e1, fun vs H1 P1 V1 => ?_⟩
      split at e <;> first | (cases e; done) | skip
      rename_i hb
      cases e
      obtain ⟨T, F, o⟩ := id P1
      have t := o.tvs V1
      rw [hds] at t
      obtain ⟨x, y, rfl, tx, ty⟩ := tvs2 t
      refine ⟨n, m, by rw [tx.int, ty.int], ⟨(smallR_of hb.1).1, (smallR_of hb.1).2, (smallR_of hb.2).1, (smallR_of hb.2).2⟩, q _ _ _ gF ρ (fun _ => ⟨rfl, rfl⟩) (fun j z => by cases z) (subTs _ _ _) (P1.less (fun _ h => h) (subFs _ _ _)) (wk_range n _)⟩
    · cases e
  match l, h2, hl, core, ha with
  | [x], _, hl, core, ha =>
    rw [plainEs, Bool.and_eq_true] at hl
    refine (pi_range1 hg b ha (star_cons hl.1)).via fun σ H R h => ?_
    rcases core _ _ _ h with ⟨_, _, h⟩ | ⟨z, h⟩
    · exact h
    · cases z
  | [x, y], _, hl, core, ha =>
    rw [plainEs, plainEs, Bool.and_eq_true, Bool.and_eq_true] at hl
    refine (pi_range2 hg b ha ((star_cons hl.1).trans (by rw [star_cons hl.2.1]; rfl)) (star_cons hl.2.1)).via fun σ H R h => ?_
    rcases core _ _ _ h with ⟨_, z, h⟩ | ⟨z, h⟩
    · cases z
    · exact h
theorem Pt.hdsh {K : PySem.W.Frag} {c : Cfg} {gT : Shd} {gF : Own} {σ : L2.St} {H : Hp} {ρ : Env} {s : OSt} {r : Rs} {v : V} (P : Pt K c gT (r.exF v gF) σ H ρ s) (h : Hd gT (r.exF v gF) σ ρ r v) (hb : r.isBo = false) : ∃ gT', Pt K c gT' gF σ H ρ s ∧ (∀ p ∈ gT, p ∈ gT') ∧ (r.d, v) ∈ gT' := by
  cases r with
  | sh d => exact ⟨gT, P, fun _ h => h, h⟩
  | fr d =>
    obtain ⟨a, rfl, _⟩ := h
    exact ⟨_, Pt.forget (gF := gF) P, fun _ h => List.mem_cons_of_mem _ h, List.mem_cons_self⟩
  | bo i d => cases hb
theorem snd_itZip (ok : CtxOk X mc) {ea eb : E} {y : Str} {u v : Expr} {tg : Expr} {k pos : Pos} (ht : isTup tg = true) (hy : callB mc "zip" y = true) (hu : plainE u = true) (hv : plainE v = true) (ha : PE X u (rd X.K (ev ea))) (hb : PE X v (rd X.K (ev eb))) :
    PI X tg (.Call (.Name y k) [u, v] [] pos) (rdI X.K (evI (.itZip ea eb))) := by
  obtain ⟨rfl, hg, hd⟩ := callB_of ok hy
  have b := ok.blt "zip" (by decide)
  cases tg <;> first | (cases ht; done) | skip
  have s1 := star_cons (env := X.env) (es := [v]) hu
  have s2 := star_cons (env := X.env) (es := []) hv
  refine (RZ.pi_zipA hg b (pa_cons ha (pa_cons hb pa_nil s2) s1) s1 (by rw [s2]; rfl)).via fun σ H R h => ?_
  obtain ⟨c, gT, gF, ρ, st, items, bb, s', P, e, q⟩ := h
  rw [evI] at e
  obtain ⟨rx, sx, e1, e⟩ := bind_ok e
  obtain ⟨ry, sy, e2, e⟩ := bind_ok e
  split at e <;> first | (cases e; done) | skip
  rename_i hbo
  obtain ⟨e3, rfl⟩ := lift_ok e
  rw [Option.map_eq_some_iff] at e3
  obtain ⟨l', e4, e'⟩ := e3
  cases e'
  have e := e4
  clear e4
  have hx : rx.isBo = false := by cases hh : rx.isBo <;> simp_all
  have hy' : ry.isBo = false := by cases hh : ry.isBo <;> simp_all
  refine ⟨c, gT, gF, ρ, st, rx, sx, P, e1, fun x H1 P1 V1 => ⟨c, _, _, ρ, sx, ry, _, P1, e2, fun z H2 P2 V2 => ?_⟩⟩
  obtain ⟨gT1, P3, k1, k2⟩ := Pt.hdsh P2 V2.hd hy'
  have h1 : Hd gT1 (rx.exF x gF) σ ρ rx x := V1.hd.mono (fun p hp => k1 p (ry.subT z _ p hp)) fun _ h => h
  obtain ⟨gT2, P4, k3, k4⟩ := Pt.hdsh P3 h1 hx
  have sub : ∀ p ∈ gT, p ∈ gT2 := fun p hp => k3 p (k1 p (ry.subT z _ p (rx.subT x _ p hp)))
  obtain ⟨T, F, o⟩ := id P4
  have r1 := (o.B.tT _ (o.hT _ k4))
  have r2 := (o.B.tT _ (o.hT _ (k3 _ k2)))
  have m2 := k3 _ k2
  unfold zipF at e
  split at e <;> first | (cases e; done) | skip
  · rename_i xs ys dx dy
    cases e
    rw [dx] at r1 k4
    rw [dy] at r2 m2
    rw [Rep] at r1 r2
    obtain ⟨a, us, rfl, _, q1, t1⟩ := r1
    obtain ⟨a2, ws, rfl, _, q2, t2⟩ := r2
    exact ⟨a, a2, us, ws, rfl, .inl ⟨SqL.of q1, SqL.of q2, q _ _ gT2 gF ρ (fun _ => ⟨rfl, rfl⟩) (fun j z => by cases z) sub P4 (wk_zipL k4 m2)⟩⟩
  · rename_i xs ys dx dy
    cases e
    rw [dx] at r1 k4
    rw [dy] at r2 m2
    rw [Rep] at r1 r2
    obtain ⟨a, us, rfl, q1, t1⟩ := r1
    obtain ⟨a2, ws, rfl, q2, t2⟩ := r2
    exact ⟨a, a2, us, ws, rfl, .inr ⟨q1, q2, q _ _ gT2 gF ρ (fun _ => ⟨rfl, rfl⟩) (fun j z => by cases z) sub P4 (wk_zipT k4 m2)⟩⟩
end
end RS
end
section
set_option Elab.async false
set_option linter.all false
set_option maxRecDepth 100000
set_option autoImplicit false
set_option maxHeartbeats 2000000
/-! RSComp2: comprehensions. -/
namespace RS
open PySem L2
def isOmit : E → Bool
  | .omit => true
  | _ => false
def rdC (K : PySem.W.Frag) (cnd : E) : TT := match cnd with
  | .omit => tYes
  | _ => rdT K (ev cnd)
theorem rdC_of {K : PySem.W.Frag} {cnd : E} {c : Cfg} {gT : Shd} {gF : Own} {σ : L2.St} {H : Hp} {ρ : Env} {s s' : OSt} {b : Bool} {Q : Bool → Hp → Prop} (P : Pt K c gT gF σ H ρ s) (e : ev cnd ρ s = .ok (.sh (.bl b)) s')
    (q : ∀ H', Pt K c gT gF σ H' ρ s' → Q b H') : rdC K cnd σ H Q := by
  unfold rdC
  split
  · rw [ev] at e; cases e
    exact q H P
  · exact ⟨c, gT, gF, ρ, s, b, s', P, e, q⟩
/-- the evaluator's turn of a comprehension -/
def stepC (ρw : Env) (tg : Tg) (cnd elt : E) (d : D) (s : OSt) : R (Option D) := match bindTg tg d ρw with
  | some ρ1 => (ev cnd ρ1 s).bind fun c s2 => match c with
    | .sh (.bl true) => (ev elt ρ1 s2).bind fun y s3 => if y.isBo then .no else .ok (some y.d) s3
    | .sh (.bl false) => .ok none s2
    | _ => .no
  | none => .no
theorem compL_cons {step : D → OSt → R (Option D)} {d : D} {ds acc l : List D} {s s2 : OSt} (h : compL step (d :: ds) acc s = .ok l s2) :
    (∃ s1, step d s = .ok none s1 ∧ compL step ds acc s1 = .ok l s2) ∨ ∃ y s1, step d s = .ok (some y) s1 ∧ acc.length < LIM ∧ compL step ds (acc ++ [y]) s1 = .ok l s2 := by
  rw [compL] at h
  split at h
  · rename_i s1 e
    exact .inl ⟨s1, e, h⟩
  · rename_i y s1 e
    split at h
    · rename_i hl
      exact .inr ⟨y, s1, e, hl, h⟩
    · cases h
  · cases h
theorem stepC_some {ρw : Env} {tg : Tg} {cnd elt : E} {d : D} {s s' : OSt} {r : Option D} (h : stepC ρw tg cnd elt d s = .ok r s') :
    ∃ ρ1 b s2, bindTg tg d ρw = some ρ1 ∧ ev cnd ρ1 s = .ok (.sh (.bl b)) s2 ∧ (if b = true then ∃ y, ev elt ρ1 s2 = .ok y s' ∧ y.isBo = false ∧ r = some y.d else r = none ∧ s' = s2) := by
  unfold stepC at h
  split at h <;> first | (cases h; done) | skip
  rename_i ρ1 e
  obtain ⟨c, s2, e2, h⟩ := bind_ok h
  split at h <;> first | (cases h; done) | skip
  · obtain ⟨y, s3, e3, h⟩ := bind_ok h
    split at h <;> first | (cases h; done) | skip
    rename_i hb
    cases h
    exact ⟨ρ1, true, s2, e, e2, by rw [if_pos rfl]; exact ⟨y, e3, by simpa using hb, rfl⟩⟩
  · cases h
    exact ⟨ρ1, false, _, e, e2, by rw [if_neg (by simp)]; exact ⟨rfl, rfl⟩⟩
theorem LIM_line {n : Nat} (h : n < LIM) : n < sizeLine := by rw [sizeLine_eq]; unfold LIM at h; omega
theorem tgSub {tg : Tg} {vs : List Nat} (h : (tgSlots tg).all (fun i => vs.contains i) = true) : ∀ i ∈ tgSlots tg, i ∈ vs := fun i hi => by
  have := List.all_eq_true.mp h i hi
  simpa using this
/-- the invariant of a comprehension's loop -/
structure CW (K : PySem.W.Frag) (c : Cfg) (gT : Shd) (gF : Own) (σ : L2.St) (ρ : Env) (vs : List Nat) (tg : Tg) (cnd elt : E) (L : Addr) (items l : List D) (s2 : OSt) (i m : Nat) (H : Hp) : Prop where
  hm : m = items.length - i
  hi : i ≤ items.length
  at_ : ∃ gT' acc s, (∀ p ∈ gT, p ∈ gT') ∧ (∀ (i : Nat) (d : D), ρ[i]? = some (.sh d) → ∃ v, σ[i]? = some (some v) ∧ (d, v) ∈ gT') ∧
    Pt K c gT' ((.lst acc, L) :: gF) (wipe σ vs) H (wipeE ρ vs) s ∧ compL (stepC (wipeE ρ vs) tg cnd elt) (items.drop i) acc s = .ok l s2
section
variable {K : PySem.W.Frag}
theorem comp_walk {c : Cfg} {gT : Shd} {gF : Own} {σ : L2.St} {H1 : Hp} {ρ : Env} {vs : List Nat} {tg : Tg} {cnd elt : E} {items l : List D} {s1 s2 : OSt} {J : It} {Q : VK}
    (hs : ∀ i ∈ tgSlots tg, i ∈ vs) (P : Pt K c gT gF σ H1 ρ s1) (wk : Wk K J c gT gF items) (hn : ∀ i ∈ vs, ∀ d, ρ[i]? ≠ some (.ow d)) (e : compL (stepC (wipeE ρ vs) tg cnd elt) items [] s1 = .ok l s2)
    (q : ∀ gT' L H', (∀ p ∈ gT, p ∈ gT') → Pt K c gT' ((.lst l, L) :: gF) σ H' ρ s2 → Q (.ref L) H') :
    ∀ D, H1 D = none → ∃ W : Nat → Nat → Hp → Prop, (∃ m, W 0 m (upd H1 D (.lst []))) ∧ ∀ i m H, W i m H →
      (J.stop i H ∧ Q (.ref D) H) ∨ (J.go i H ∧ ∃ Nx : Hp → Prop, (∀ H', Nx H' → ∃ m', m' < m ∧ W (i + 1) m' H') ∧ ∀ x H', J.yld i H x H' → rdG K tg x (wipe σ vs) H' fun σ2 H2 => wipe σ2 vs = wipe σ vs ∧ rdC K cnd σ2 H2 fun b H3 =>
        if b = true then rd K (ev elt) σ2 H3 fun y H4 => ∃ acc, H4 D = some (.lst acc) ∧ acc.length < sizeLine ∧ Nx (upd H4 D (.lst (acc ++ [y]))) else Nx H3) := by
  intro L hL
  refine ⟨CW K c gT gF σ ρ vs tg cnd elt L items l s2, ⟨items.length, rfl, Nat.zero_le _, ?_⟩, ?_⟩
  · obtain ⟨T, F, o⟩ := P
    have o2 : Opn K c gT ((.lst [], L) :: gF) σ (upd H1 L (.lst [])) ρ s1 T ((.lst [], L) :: F) := o.fresh (o.B.lst hL Reps.nil)
    exact ⟨T, [], s1, o.hT, o.sl.sh, ⟨_, _, o2.wiped vs⟩, e⟩
  · rintro i m H ⟨rfl, hi, gT', acc, s, h1, h2, P', e'⟩
    by_cases hlt : i < items.length
    · refine .inr ⟨wk.goes i hlt _ _ _ _ _ _ h1 (fun p hp => List.mem_cons_of_mem _ hp) P', CW K c gT gF σ ρ vs tg cnd elt L items l s2 (i + 1) (items.length - (i + 1)), fun H' w => ⟨_, by omega, w⟩, fun x H' y => ?_⟩
      have hd : items[i]? = some items[i] := List.getElem?_eq_getElem hlt
      have P2 := wk.yields i _ hd _ _ _ _ _ _ x H' h1 (fun p hp => List.mem_cons_of_mem _ hp) P' y
      rw [List.drop_eq_getElem_cons hlt] at e'
      have st : ∃ r s3, stepC (wipeE ρ vs) tg cnd elt items[i] s = .ok r s3 ∧ (match r with | none => compL (stepC (wipeE ρ vs) tg cnd elt) (items.drop (i + 1)) acc s3 = .ok l s2 | some y => acc.length < LIM ∧ compL (stepC (wipeE ρ vs) tg cnd elt) (items.drop (i + 1)) (acc ++ [y]) s3 = .ok l s2) := by
        rcases compL_cons e' with ⟨s3, a, b⟩ | ⟨y, s3, a, b⟩
        · exact ⟨none, s3, a, b⟩
        · exact ⟨some y, s3, a, b⟩
      obtain ⟨r, s3, e1, e2⟩ := st
      obtain ⟨ρ1, b, s4, hb, ec, ee⟩ := stepC_some e1
      refine ⟨c, _, _, _, s, _, ρ1, P2, List.mem_cons_self, hb, fun σ' P3 lk => ?_⟩
      have lk' : Like (wipe σ vs) σ' vs := ⟨lk.1, fun i hi => lk.2 i fun z => hi (hs i z)⟩
      have lkE : LikeE (wipeE ρ vs) ρ1 vs := by
        obtain ⟨a, b⟩ := (bindTg_like tg).1 _ _ _ hb
        exact ⟨a, fun i hi => b i fun z => hi (hs i z)⟩
      have w1 : wipe σ' vs = wipe σ vs := (wipe_like lk').trans (wipe_wipe σ vs)
      have w2 : wipeE ρ1 vs = wipeE ρ vs := (wipeE_like lkE).trans (wipeE_wipeE ρ vs)
      refine ⟨w1, rdC_of P3 ec fun H3 P4 => ?_⟩
      have back : ∀ {gT2 : Shd} {acc2 : List D} {H5 : Hp} {s5 : OSt}, (∀ p ∈ gT', p ∈ gT2) → Pt K c gT2 ((.lst acc2, L) :: gF) σ' H5 ρ1 s5 → compL (stepC (wipeE ρ vs) tg cnd elt) (items.drop (i + 1)) acc2 s5 = .ok l s2 → CW K c gT gF σ ρ vs tg cnd elt L items l s2 (i + 1) (items.length - (i + 1)) H5 := fun k P5 e5 => by
        obtain ⟨T, F, o⟩ := P5
        refine ⟨rfl, hlt, T, _, _, fun p hp => o.hT p (k p (h1 p hp)), fun j d hj => ?_, ?_, e5⟩
        · obtain ⟨v, a, b⟩ := h2 j d hj
          exact ⟨v, a, o.hT _ (k _ b)⟩
        · have o2 := o.wiped vs
          rw [w1, w2] at o2
          exact ⟨_, _, o2⟩
      cases b with
      | false =>
        rw [if_neg (by simp)] at ee ⊢
        obtain ⟨rfl, rfl⟩ := ee
        exact back (fun p hp => List.mem_cons_of_mem _ hp) P4 e2
      | true =>
        rw [if_pos rfl] at ee ⊢
        obtain ⟨ye, ee, hbo, rfl⟩ := ee
        refine ⟨c, _, _, ρ1, s4, ye, s3, P4, ee, fun v H4 P5 V5 => ?_⟩
        have P6 := Pt.share1 P5 V5 hbo
        have ok : ∃ xs, H4 L = some (.lst xs) ∧ xs.length = acc.length := by
          obtain ⟨T, F, o⟩ := P6
          obtain ⟨_, xs, z, a, t⟩ := o.B.top_at (o.hF _ List.mem_cons_self)
          cases z
          exact ⟨xs, a, t.length⟩
        obtain ⟨xs, hx, hlx⟩ := ok
        refine ⟨xs, hx, by rw [hlx]; exact LIM_line e2.1, ?_⟩
        have P7 := Pt.put (ds := acc ++ [ye.d]) (ys := xs ++ [v]) P6 fun F T o => by
          obtain ⟨_, xs', z, a, t⟩ := o.B.top_at (o.hF _ List.mem_cons_self)
          cases z
          rw [hx] at a; cases a
          exact t.append (Reps.cons (o.B.tT _ (o.hT _ List.mem_cons_self)) Reps.nil)
        exact back (fun p hp => List.mem_cons_of_mem _ (List.mem_cons_of_mem _ hp)) P7 e2.2
    · have hi' : i = items.length := by omega
      subst hi'
      rw [List.drop_length] at e'
      cases e'
      have st := wk.stops _ _ _ _ _ _ h1 (fun p hp => List.mem_cons_of_mem _ hp) P'
      obtain ⟨T, F, o⟩ := P
      exact .inl ⟨st, q gT' L H h1 (P'.unwiped o.sl.len hn h2)⟩
theorem comp_tlc {vs : List Nat} {tg : Tg} {it cnd elt : E} (hs : ∀ i ∈ tgSlots tg, i ∈ vs) {σ : L2.St} {H : Hp} {Q : VK} (h : rd K (ev (.comp vs tg it cnd elt)) σ H Q) : tLc (rdI K (evI it)) (rdG K tg) (rdC K cnd) (rd K (ev elt)) vs σ H Q := by
  obtain ⟨c, gT, gF, ρ, s, r, s', P, e, q⟩ := h
  rw [ev] at e
  obtain ⟨⟨items, b⟩, s1, e1, e⟩ := bind_ok e
  dsimp only at e
  split at e <;> first | (cases e; done) | skip
  rename_i hno
  obtain ⟨l, s2, e2, e⟩ := bind_ok e
  cases e
  refine ⟨c, gT, gF, ρ, s, items, b, s1, P, e1, fun J H1 gT' gF' ρ' hb1 hb2 hsub P' wk => ?_⟩
  have e2 : compL (stepC (wipeE ρ' vs) tg cnd elt) items [] s1 = .ok l s' := by
    cases b with
    | none => rw [(hb1 rfl).1]; exact e2
    | some i => rw [(hb2 i rfl).1]; exact e2
  have hn : ∀ i ∈ vs, ∀ d, ρ'[i]? ≠ some (.ow d) := fun i hi d z => by
    cases b with
    | none => rw [(hb1 rfl).1] at z; exact noOw_not hno hi z
    | some k =>
      rw [(hb2 k rfl).1] at z
      by_cases hk : k = i
      · subst hk
        rw [List.getElem?_set] at z
        simp only [if_true] at z
        split at z <;> cases z
      · rw [List.getElem?_set_ne hk] at z
        exact noOw_not hno hi z
  refine comp_walk hs P' wk hn e2 fun gT2 L H2 k P2 => ?_
  refine q (.ref L) H2 ?_ ⟨L, rfl⟩
  cases b with
  | none =>
    obtain ⟨rfl, rfl⟩ := hb1 rfl
    exact P2.less (fun p hp => k p (hsub p hp)) (List.Sublist.refl _)
  | some i =>
    obtain ⟨rfl, a, rfl, h1, h2⟩ := hb2 i rfl
    have nd : (((D.lst l, L) :: (D.lst items, a) :: gF).map (·.2)).Nodup := by
      obtain ⟨T, F, o⟩ := P2
      exact o.nd
    simp only [List.map_cons, List.nodup_cons, List.mem_cons, not_or] at nd
    refine Pt.less (Pt.unlend (gF := (D.lst l, L) :: gF) P2 (List.mem_cons_of_mem _ List.mem_cons_self) ((List.sublist_cons_self _ _).cons_cons _) ?_ h2 h1) (fun p hp => k p (hsub p hp)) (List.Sublist.refl _)
    simp only [List.map_cons, List.mem_cons, not_or]
    exact ⟨fun z => nd.1.1 z.symm, nd.2.1⟩
end
end RS
end
section
set_option Elab.async false
set_option linter.all false
set_option maxRecDepth 100000
set_option autoImplicit false
set_option maxHeartbeats 2000000
/-! RSEnum0: enumerate over a tuple. -/
namespace RS
open PySem PySem.Spec PyProof.Rows L2
theorem meets_enum1 {v : Value} {o : Obj} {Hh : Heap → Prop} (B : Begins v o Hh) :
    Meets (Builtin.«enumerate.__new__» ⟨[.type "enumerate", v], []⟩) (fun _ R s => Hh s.heap ∧
      R (.ok (.ret (.ref (s.heap.push o).objs.size))) { s with heap := (s.heap.push o).push { cls := .type "enumerate", data := .fields #[.none, .bool false, .ref s.heap.objs.size, rawInt 0, .none, .none] } }) :=
  .of_wp fun prog w A R s h => by
    obtain ⟨hp, g, d, tk, os⟩ := s; obtain ⟨h1, h⟩ := h
    have hsub := sub_enumerate
    have q1 : ∀ {A' : Around} {E : Value → Shared → Prop} {Q : Value → Shared → Prop}, Q (.ref hp.objs.size) ⟨hp.push o, g, d, tk, os⟩ → wpAny (model prog w) A' (pyIter v) Q E ⟨hp, g, d, tk, os⟩ :=
      fun q => B.iter prog w _ _ ⟨hp, g, d, tk, os⟩ _ h1 q
    wp_walk using q1
    refine wpAny_stack_any fun st => wpAny_pure ?_
    split
    · rename_i c _ _ _ _ _
      cases (c == Value.type "enumerate")
      · wp_walk using q1
        exact ⟨_, rfl, h⟩
      · wp_walk using q1
        exact ⟨_, rfl, h⟩
    · wp_walk using q1
      exact ⟨_, rfl, h⟩
section
variable {prog : Program} {w : World} {A : Around} {E : Value → Shared → Prop} {s : Shared}
theorem call_enum1 {v : Value} {o : Obj} {Hh : Heap → Prop} {Q : Value → Shared → Prop} (B : Begins v o Hh) (h1 : Hh s.heap)
    (h : ∀ h', IsEnum h' (s.heap.objs.size + 1) s.heap.objs.size 0 .none → h'.get? s.heap.objs.size = some o → h'.objs.size = s.heap.objs.size + 2 →
      (∀ b o, s.heap.get? b = some o → h'.get? b = some o) → Q (.ref (s.heap.objs.size + 1)) { s with heap := h' }) :
    wpAny (model prog w) A (call (.type "enumerate") [v]) Q E s := by
  refine callType_new F.called_enumerate (by decide) (F.typeCall_enumerate_1 _) (F.newCall_enumerate_1 _) (fun obj => F.args_object_init_2 obj _) F.entry_enumerate_new (meets_enum1 B) ⟨h1, ?_⟩
  have hz : (s.heap.push o).objs.size = s.heap.objs.size + 1 := Heap.size_push ..
  show _ ∧ _
  rw [hz]
  have he : IsEnum ((s.heap.push o).push { cls := .type "enumerate", data := .fields #[.none, .bool false, .ref s.heap.objs.size, rawInt 0, .none, .none] }) (s.heap.objs.size + 1) s.heap.objs.size 0 .none := by
    have := Heap.get?_push_size (s.heap.push o) (o := { cls := .type "enumerate", data := .fields #[.none, .bool false, .ref s.heap.objs.size, rawInt 0, .none, .none] }) rfl
    rw [hz] at this; exact this
  refine ⟨⟨_, he, rfl⟩, h _ he (Heap.get?_push_of_some _ (Heap.get?_push_size _ B.free)) (by rw [Heap.size_push, hz]) fun b o x => Heap.get?_push_of_some _ (Heap.get?_push_of_some _ x)⟩
end
/-- the tuple at a, each item in a new pair -/
def IteT (K : PySem.W.Frag) (a : Addr) : It :=
  ⟨fun i H => ∃ (xs : List V) (x : V), SqT K H a xs ∧ xs[i]? = some x, fun i H v H' => ∃ T x, v = .ref T ∧ H T = none ∧ H' = upd H T (.tup [.int (i : Nat), x]) ∧ ∀ xs, SqT K H a xs → xs[i]? = some x, fun i H => ∃ xs : List V, SqT K H a xs ∧ xs.length ≤ i⟩
theorem turn_enumT {P : Program} {w : World} {K : PySem.W.Frag} {elts : List Expr} {kk : Nat} {tpos : Pos} (a e it : Addr) :
    Turn P w K (.Tuple elts kk tpos) (IteT K a) [e, it] e (fun i h => (∃ old, IsEnum h e it ((i : Nat) : Int) old) ∧ h.IsTupleIter it a i ∧ e ≠ it ∧ a ≠ it ∧ e ≠ a) where
  mem := by simp
  obj := fun i h st b hb => by
    obtain ⟨⟨old, he⟩, ⟨o, ho, hc, hd⟩, _⟩ := st
    have e' : b = e ∨ b = it := by simpa using hb
    rcases e' with z | z
    · rw [z]; exact ⟨_, he, fun v q => nomatch q⟩
    · rw [z]; exact ⟨o, ho, fun v q => by rw [hd] at q; cases q⟩
  keep := fun i h h' st k => let ⟨⟨old, he⟩, hi, hne⟩ := st; ⟨⟨old, k e (by simp) _ he⟩, hi.at fun o q => k it (by simp) o q, hne⟩
  item := by
    intro X hP hw hK hc i pins s σ H E I hf st hg
    subst hP hw hK
    obtain ⟨⟨old, he⟩, hit, hne, hai, hea⟩ := st
    obtain ⟨xs, x, hq, hx⟩ := hg
    obtain ⟨its, rv, p, hz⟩ := I.tuple hq
    obtain ⟨u, hu, ru⟩ := rv.get hx
    have hel : e < s.heap.objs.size := Heap.lt_size he
    have hil : it < s.heap.objs.size := by obtain ⟨_, q, _⟩ := hit; exact Heap.lt_size q
    have hlt : i < its.toArray.size := by
      have := (List.getElem?_eq_some_iff.mp hu).1
      simpa using this
    have D := Draws.tuple (prog := X.prog) (w := X.w) (A := X.A.in1) (by have := I.ok.hd hc; simp [this]) it a hai its.toArray
    refine wpAny_pyNext_enum_itemD D he ⟨hit, p⟩ hlt hne (by simp; exact ⟨hne, hea⟩) fun y h' tk hy ho hit' hT hsz hk => ?_
    have hy2 : its[i]? = some y := by simpa using hy
    rw [hu] at hy2; cases hy2
    refine ⟨_, rfl, wpAny_letOwnedTupleGo_enum (s := { s with heap := h', toks := tk + 1 }) ho fun h'' he' sb => ?_⟩
    have hT2 : h''.get? s.heap.objs.size = some { cls := .type "tuple", data := .seq #[.int i tk, u] } := (sb.2 _ (Nat.ne_of_gt hel)).trans hT
    have new : ObjOk X.prog X.w (upd H s.heap.objs.size (.tup [.int (i : Nat), x])) h'' s.heap.objs.size (.tup [.int (i : Nat), x]) :=
      ⟨by show 2 ≤ sizeLine; decide, [.int i tk, u], .cons ⟨_, rfl⟩ (.cons ru .nil), ⟨_, hT2, rfl, _, rfl⟩⟩
    have I1 : Inv X pins σ (upd H s.heap.objs.size (.tup [.int (i : Nat), x])) { s with heap := h'', toks := tk + 1 } :=
      I.turnedNew (ch := [e, it]) (fun b ob hb q => (sb.2 b (fun z => hb (by simp [z]))).trans (hk b ob (fun z => hb (by simp [z])) (fun z => hb (by simp [z])) q)) hf (Nat.le_refl _) new
    refine ⟨.ref s.heap.objs.size, _, I1, rfl, ⟨_, x, rfl, I.hok.fresh (Nat.le_refl _), rfl, fun ys hy => by rw [I.tuple_inj hy hq]; exact hx⟩, ⟨⟨u, ?_⟩, hit'.1.at fun o q => (sb.2 it (Ne.symm hne)).trans q, hne, hai, hea⟩, fun b hb => ?_⟩
    · have e1 : ((i + 1 : Nat) : Int) = (i : Int) + 1 := by omega
      rw [e1]; exact he'
    · have hb' : b < s.heap.objs.size := by
        have e' : b = e ∨ b = it := by simpa using hb
        rcases e' with z | z
        · rw [z]; exact hel
        · rw [z]; exact hil
      rw [upd_ne (Nat.ne_of_lt hb')]
      exact (hf b hb).1
  done := by
    intro X hP hw hK hc i pins s σ H E I hf st hg
    subst hP hw hK
    obtain ⟨⟨old, he⟩, hit, hne, hai, hea⟩ := st
    obtain ⟨xs, hq, hx⟩ := hg
    obtain ⟨its, rv, p, hz⟩ := I.tuple hq
    obtain ⟨f0, f1, f2, f3, f4, f5⟩ := hf it (by simp)
    have hl := rv.length
    obtain ⟨o, ho, hcl, hdt⟩ := id hit
    unfold pyNext
    refine wpAny_bind (wpAny_attempt (wpAny_callSpecial?_slot (name := Str.ofString "__next__") (show s.TypeIs (.ref e) "enumerate" from ⟨_, he, rfl⟩) F.slot_enumerate_next
      (wpAny_call_entry F.slot_enumerate_next ⟨_, he, rfl⟩ F.entry_enumerate_next ?_ (F.args_enumerate_next_1 _))))
    show wpAny _ _ (field (.ref e) 2 >>= _) _ _ _
    refine wpAny_bind (wpAny_field he rfl (x := .ref it) rfl ?_)
    refine wpAny_bind (wpAny_nextOf_tuple_end (by have := I.ok.hd hc; simp [this]) hit p (by simp; omega) fun h' x he' hx' => ?_)
    obtain ⟨o, ho, hc⟩ := hx'
    refine wpAny_bind (wpAny_isInstance (T := "StopIteration") (b := true) ⟨o, ho, hc⟩ isSubtype_stop ?_)
    exact wpAny_pure ⟨rfl, I.turned (t' := s.toks) (fun b o hb q => he' b o hb q) f0 f1 f3 f4 f5⟩
  self := fun A i s Q E st h => let ⟨⟨_, he⟩, _⟩ := st; wpAny_pyIter_enum he h
def iEnumA (K : PySem.W.Frag) (ta : TA) : TI := fun σ H R => ta σ H fun vs H1 => ∃ a xs, vs = [.ref a] ∧ ((SqL K H1 a xs ∧ R (Ite K a) H1) ∨ (SqT K H1 a xs ∧ R (IteT K a) H1))
theorem pi_enumA {X : Cx} {e : Expr} {ta : TA} {p pos tpos : Pos} {elts : List Expr} {kk : Nat} (hg : Gl X "enumerate") (hm : X.mg "enumerate" = none) (ha : PA X [e] ta) (hs : starEach [e] X.env = [(false, eval e X.env)] := by rfl) :
    PI X (.Tuple elts kk tpos) (.Call (.Name "enumerate" p) [e] [] pos) (iEnumA X.K ta) := by
  refine ⟨fun pins s σ H R I h => ?_⟩
  refine Call_ (ld_blt I hg hm PyProof.Rows.boot_enumerate (PyProof.Rows.callWith_type1 (thn (ha.run pos pins s σ H _ I h) fun us s1 ⟨vs, H1, I1, r1, q1⟩ => ?_) hs rfl))
  obtain ⟨a, xs, ex, q1⟩ := q1
  subst ex
  cases r1 with
  | cons r rr =>
    cases rr
    cases r
    have fresh2 : ∀ b, b ∈ [s1.heap.objs.size + 1, s1.heap.objs.size] → FpOk X pins H1 b := fun b hb => by
      have e' : b = s1.heap.objs.size + 1 ∨ b = s1.heap.objs.size := by simpa using hb
      have hle : s1.heap.objs.size ≤ b := by
        rcases e' with z | z
        · rw [z]; exact Nat.le_add_right _ _
        · rw [z]; exact Nat.le_refl _
      exact I1.fpOk hle (I1.hok.fresh hle)
    rcases q1 with ⟨hq, q⟩ | ⟨hq, q⟩
    · obtain ⟨its, rv, p', hz⟩ := I1.list hq
      refine call_enumerate_list p'.isList fun h' he hit hsz hk => wpAny_pyIter_enum he ?_
      have I2 : Inv X pins σ H1 { s1 with heap := h' } := I1.kept (t' := s1.toks) hk
      exact ⟨s1.heap.objs.size + 1, [s1.heap.objs.size + 1, s1.heap.objs.size], _, _, H1, rfl, I2, turn_enum a (s1.heap.objs.size + 1) s1.heap.objs.size, ⟨⟨.none, he⟩, hit, Nat.succ_ne_self _⟩, fresh2, q⟩
    · obtain ⟨its, rv, p', hz⟩ := I1.tuple hq
      obtain ⟨ot, hot, _⟩ := id p'
      have hlt := Heap.lt_size hot
      refine call_enum1 (begins_tuple a its.toArray) p' fun h' he hit hsz hk => wpAny_pyIter_enum he ?_
      have I2 : Inv X pins σ H1 { s1 with heap := h' } := I1.kept (t' := s1.toks) hk
      exact ⟨s1.heap.objs.size + 1, [s1.heap.objs.size + 1, s1.heap.objs.size], _, _, H1, rfl, I2, turn_enumT a (s1.heap.objs.size + 1) s1.heap.objs.size, ⟨⟨.none, he⟩, ⟨_, hit, rfl, rfl⟩, Nat.succ_ne_self _, Nat.ne_of_lt hlt, (Nat.ne_of_lt (Nat.lt_succ_of_lt hlt)).symm⟩, fresh2, q⟩
end RS
end
section
set_option Elab.async false
set_option linter.all false
set_option maxRecDepth 100000
set_option autoImplicit false
set_option maxHeartbeats 2000000
/-! RSEnum1: enumerate walked. -/
namespace RS
open PySem L2
theorem enumD_get : ∀ {xs : List D} {n i : Nat} {d : D}, (enumD n xs)[i]? = some d → ∃ x, xs[i]? = some x ∧ d = .tup [.int ((n + i : Nat) : Int), x]
  | [], _, _, _, h => by simp [enumD] at h
  | x :: xs, n, 0, _, h => by simp [enumD] at h; exact ⟨x, rfl, by rw [← h]; rfl⟩
  | x :: xs, n, i + 1, _, h => by
    simp [enumD] at h
    obtain ⟨y, h1, h2⟩ := enumD_get h
    exact ⟨y, by simpa using h1, by rw [h2, show n + 1 + i = n + (i + 1) by omega]⟩
theorem enumD_len : ∀ (n : Nat) (xs : List D), (enumD n xs).length = xs.length
  | _, [] => rfl
  | n, x :: xs => by simp [enumD, enumD_len (n + 1) xs]
section
variable {K : PySem.W.Frag} {c : Cfg} {gT : Shd} {gF : Own} {a : Addr}
theorem wk_enumT {xs : List D} (ha : (.tup xs, .ref a) ∈ gT) : Wk K (IteT K a) c gT gF (enumD 0 xs) := by
  refine ⟨fun i hi gT' gF' σ H ρ s h1 h2 P => ?_, fun gT' gF' σ H ρ s h1 h2 P => ?_, fun i d hd gT' gF' σ H ρ s x H' h1 h2 P y => ?_⟩
  · obtain ⟨T, F, us, o, q, t⟩ := tup_at (h1 _ ha) P
    have l1 := t.length
    rw [enumD_len] at hi
    exact ⟨us, us[i]'(by omega), q, by simp [show i < us.length by omega]⟩
  · obtain ⟨T, F, us, o, q, t⟩ := tup_at (h1 _ ha) P
    exact ⟨us, q, by rw [enumD_len, t.length]; exact Nat.le_refl _⟩
  · obtain ⟨T, F, o⟩ := P
    have r1 := o.B.tT _ (o.hT _ (h1 _ ha))
    rw [Rep] at r1
    obtain ⟨_, us, e1, q1, t1⟩ := r1
    cases e1
    obtain ⟨dx, g1, rfl⟩ := enumD_get hd
    obtain ⟨v1, hv1, rv1⟩ := t1.get g1
    obtain ⟨Tp, x1, rfl, hT, rfl, f1⟩ := y
    have z1 := f1 us q1
    rw [hv1] at z1; cases z1
    rw [Nat.zero_add]
    exact ⟨_, _, o.step (fun p hp => List.mem_cons_of_mem _ hp) (fun p hp => by
      rcases List.mem_cons.mp hp with e | hp
      · rw [e]; exact List.mem_cons_self
      · exact List.mem_cons_of_mem _ (o.hT p hp)) (o.B.tup hT (Reps.cons Rep.int' (Reps.cons rv1 Reps.nil)))⟩
theorem wk_enumL {xs : List D} (ha : (.lst xs, .ref a) ∈ gT) : Wk K (Ite K a) c gT gF (enumD 0 xs) := by
  refine ⟨fun i hi gT' gF' σ H ρ s h1 h2 P => ?_, fun gT' gF' σ H ρ s h1 h2 P => ?_, fun i d hd gT' gF' σ H ρ s x H' h1 h2 P y => ?_⟩
  · obtain ⟨T, F, us, o, q, t⟩ := lst_at (h1 _ ha) P
    have l1 := t.length
    rw [enumD_len] at hi
    exact ⟨us, us[i]'(by omega), SqL.of q, by simp [show i < us.length by omega]⟩
  · obtain ⟨T, F, us, o, q, t⟩ := lst_at (h1 _ ha) P
    exact ⟨us, SqL.of q, by rw [enumD_len, t.length]; exact Nat.le_refl _⟩
  · obtain ⟨T, F, o⟩ := P
    have r1 := o.B.tT _ (o.hT _ (h1 _ ha))
    rw [Rep] at r1
    obtain ⟨_, us, e1, _, q1, t1⟩ := r1
    cases e1
    obtain ⟨dx, g1, rfl⟩ := enumD_get hd
    obtain ⟨v1, hv1, rv1⟩ := t1.get g1
    obtain ⟨Tp, x1, rfl, hT, rfl, f1⟩ := y
    have z1 := f1 us (SqL.of q1)
    rw [hv1] at z1; cases z1
    rw [Nat.zero_add]
    exact ⟨_, _, o.step (fun p hp => List.mem_cons_of_mem _ hp) (fun p hp => by
      rcases List.mem_cons.mp hp with e | hp
      · rw [e]; exact List.mem_cons_self
      · exact List.mem_cons_of_mem _ (o.hT p hp)) (o.B.tup hT (Reps.cons Rep.int' (Reps.cons rv1 Reps.nil)))⟩
end
section
variable {X : Cx} {mc : MC}
theorem snd_itEnum (ok : CtxOk X mc) {ea : E} {y : Str} {u : Expr} {tg : Expr} {k pos : Pos} (ht : isTup tg = true) (hy : callB mc "enumerate" y = true) (hu : plainE u = true) (ha : PE X u (rd X.K (ev ea))) :
    PI X tg (.Call (.Name y k) [u] [] pos) (rdI X.K (evI (.itEnum ea))) := by
  obtain ⟨rfl, hg, hd⟩ := callB_of ok hy
  have b := ok.blt "enumerate" (by decide)
  cases tg <;> first | (cases ht; done) | skip
  have s1 := star_cons (env := X.env) (es := []) hu
  refine (pi_enumA hg b (pa_cons ha pa_nil s1) s1).via fun σ H R h => ?_
  obtain ⟨c, gT, gF, ρ, st, items, bb, s', P, e, q⟩ := h
  rw [evI] at e
  obtain ⟨rx, sx, e1, e⟩ := bind_ok e
  split at e <;> first | (cases e; done) | skip
  rename_i hbo
  obtain ⟨e3, rfl⟩ := lift_ok e
  rw [Option.map_eq_some_iff] at e3
  obtain ⟨l', e4, e'⟩ := e3
  cases e'
  have hx : rx.isBo = false := by simpa using hbo
  refine ⟨c, gT, gF, ρ, st, rx, _, P, e1, fun x H1 P1 V1 => ?_⟩
  obtain ⟨gT2, P4, k3, k4⟩ := Pt.hdsh P1 V1.hd hx
  have sub : ∀ p ∈ gT, p ∈ gT2 := fun p hp => k3 p (rx.subT x _ p hp)
  obtain ⟨T, F, o⟩ := id P4
  have r1 := (o.B.tT _ (o.hT _ k4))
  generalize hdx : rx.d = dx at e4 r1 k4
  cases dx <;> first | (cases e4; done) | skip
  · cases e4
    rw [Rep] at r1
    obtain ⟨a, us, rfl, q1, t1⟩ := r1
    exact ⟨a, us, rfl, .inr ⟨q1, q _ _ gT2 gF ρ (fun _ => ⟨rfl, rfl⟩) (fun j z => by cases z) sub P4 (wk_enumT k4)⟩⟩
  · cases e4
    rw [Rep] at r1
    obtain ⟨a, us, rfl, _, q1, t1⟩ := r1
    exact ⟨a, us, rfl, .inl ⟨SqL.of q1, q _ _ gT2 gF ρ (fun _ => ⟨rfl, rfl⟩) (fun j z => by cases z) sub P4 (wk_enumL k4)⟩⟩
end
end RS
end
section
set_option Elab.async false
set_option linter.all false
set_option maxRecDepth 100000
set_option autoImplicit false
set_option maxHeartbeats 4000000
/-! RSSnd: every expression that matches does what the evaluator says. -/
namespace RS
open PySem L2
theorem fold_plain {x : Expr} (h : plainE x = true) (env : PySem.Env) : ∀ v, foldedSetIterable x env v = pure v := by
  intro v
  cases x <;> first | rfl | cases h
theorem mtEs_len (mc : MC) : ∀ (e : E) (l : List Expr), mtEs e mc l = true → elen e = l.length := by
  intro e
  induction e with
  | nil => intro l h; cases l <;> simp [mtEs, elen] at h ⊢
  | cons a b _ ih =>
    intro l h
    cases l with
    | nil => simp [mtEs] at h
    | cons x r =>
      rw [mtEs, Bool.and_eq_true] at h
      simp [elen, ih r h.2]
  | _ => intro l h; simp [mtEs] at h
def SndAll (e : E) : Prop := ∀ (X : Cx) (mc : MC), CtxOk X mc → okE (lvOf X) e →
  (∀ x, mtE e mc x = true → Snd X x (ev e)) ∧ (∀ l, mtEs e mc l = true → PA X l (rdA X.K (evs e))) ∧ (∀ tg x, mtI e mc tg x = true → PI X tg x (rdI X.K (evI e)) ∧ ∀ v, foldedSetIterable x X.env v = pure v)
theorem SndAll.of {e : E} (h : ∀ (X : Cx) (mc : MC), CtxOk X mc → okE (lvOf X) e → ∀ x, mtE e mc x = true → Snd X x (ev e)) (h1 : ∀ mc l, mtEs e mc l = false) (h2 : ∀ mc tg x, mtI e mc tg x = false) : SndAll e :=
  fun X mc ok hk => ⟨h X mc ok hk, ⟨fun l z => absurd z (by rw [h1]; simp), fun tg x z => absurd z (by rw [h2]; simp)⟩⟩
theorem SndAll.ofA {e : E} (h : ∀ (X : Cx) (mc : MC), CtxOk X mc → okE (lvOf X) e → ∀ l, mtEs e mc l = true → PA X l (rdA X.K (evs e))) (h1 : ∀ mc l, mtE e mc l = false) (h2 : ∀ mc tg x, mtI e mc tg x = false) : SndAll e :=
  fun X mc ok hk => ⟨fun l z => absurd z (by rw [h1]; simp), ⟨h X mc ok hk, fun tg x z => absurd z (by rw [h2]; simp)⟩⟩
theorem SndAll.ofI {e : E} (h : ∀ (X : Cx) (mc : MC), CtxOk X mc → okE (lvOf X) e → ∀ tg x, mtI e mc tg x = true → PI X tg x (rdI X.K (evI e)) ∧ ∀ v, foldedSetIterable x X.env v = pure v) (h1 : ∀ mc l, mtE e mc l = false) (h2 : ∀ mc l, mtEs e mc l = false) : SndAll e :=
  fun X mc ok hk => ⟨fun l z => absurd z (by rw [h1]; simp), ⟨fun l z => absurd z (by rw [h2]; simp), h X mc ok hk⟩⟩
theorem blk_ok {X : Cx} {mc : MC} (ok : CtxOk X mc) {scope : Scope} {own : List (Str × Nat)} (h : blkC mc.N mc.sc scope own = true) (s : Shared) (H : Hp) (C : Addr) (cl : List (Str × Addr)) (fp : List Addr) :
    CtxOk (X.blk s H scope (compEnvC scope cl C X.env) fp) ⟨mc.N, relS scope mc.sc, fun y => scope.names.lookup y == some .cell⟩ :=
  ⟨ok.nd, ok.calm, ok.blt, ok.gd, ok.un, ok.N, by rw [ok.sc]; rfl, fun x h => h, (blkOk_by h).kind⟩
def SndK (e : E) : Prop := ∀ (X : Cx) (mc : MC), CtxOk X mc → okE (lvOf X) e → ∀ kws : List Keyword, mtEs e mc (kws.map (·.value)) = true → PK X kws (rdA X.K (evs e))
theorem _root_.L2.PK.via {X : Cx} {ks : List Keyword} {t t' : TA} (h : PK X ks t) (i : ∀ σ H Q, t' σ H Q → t σ H Q) : PK X ks t' := ⟨fun pos pins s σ H Q I q => h.run pos pins s σ H Q I (i σ H Q q)⟩
theorem kws_nil {X : Cx} : PK X [] (rdA X.K (evs .nil)) := pk_nil.via fun σ H Q h => by
  obtain ⟨c, gT, gF, ρ, s, rs, s', P, e, q⟩ := h
  rw [evs] at e
  cases e
  exact q [] H P rfl
theorem kws_cons {X : Cx} {nm : Option Str} {kpos : Pos} {e : Expr} {es : List Keyword} {ea eb : E} (ha : PE X e (rd X.K (ev ea))) (hb : PK X es (rdA X.K (evs eb))) : PK X (⟨nm, e, kpos⟩ :: es) (rdA X.K (evs (.cons ea eb))) := by
  refine (pk_cons ha hb).via fun σ H Q h => ?_
  obtain ⟨c, gT, gF, ρ, s, rs, s', P, e, q⟩ := h
  rw [evs] at e
  obtain ⟨rx, s1, e1, e⟩ := bind_ok e
  obtain ⟨ry, s2, e2, e⟩ := bind_ok e
  cases e
  refine ⟨c, gT, gF, ρ, s, rx, s1, P, e1, fun x H1 P1 V1 => ⟨c, _, _, ρ, s1, ry, _, P1, e2, fun vs H2 P2 V2 => ?_⟩⟩
  exact q (x :: vs) H2 P2 ⟨x, vs, rfl, V1.hd.mono (subTs ry vs _) fun p hp => (subFs ry vs _).subset hp, V2⟩
theorem kw_all {pos : Pos} {env : PySem.Env} : ∀ {kws : List Keyword} {ks : List String}, kws.map (·.arg) = (ks.map fun k => some (Str.ofString k)) →
    (backToKw pos (keywordEach kws env)).all (·.1.isSome) = true ∧ (backToKw pos (keywordEach kws env)).filterMap (·.1) = ks.map Str.ofString ∧ (backToKw pos (keywordEach kws env)).any (·.1.isNone) = false
  | [], [], _ => ⟨rfl, rfl, rfl⟩
  | [], _ :: _, h => by cases h
  | _ :: _, [], h => by cases h
  | ⟨nm, e, p⟩ :: r, y :: ys, h => by
    rw [List.map_cons, List.map_cons, List.cons.injEq] at h
    obtain ⟨h1, h2⟩ := h
    obtain ⟨a, b, c⟩ := kw_all h2
    have h1 : nm = some (Str.ofString y) := h1
    subst h1
    refine ⟨?_, ?_, ?_⟩
    · show (true && (backToKw pos (keywordEach r env)).all (·.1.isSome)) = true
      rw [a]; rfl
    · show Str.ofString y :: (backToKw pos (keywordEach r env)).filterMap (·.1) = _
      rw [b]; rfl
    · show (false || (backToKw pos (keywordEach r env)).any (·.1.isNone)) = false
      rw [c]; rfl
theorem vals_get : ∀ {vs : List V} {us : List Value}, Vals vs us → ∀ i, i < vs.length → RelV (vs.getD i .non) (us.getD i .none)
  | _, _, .nil, i, h => by simp at h
  | _, _, .cons r rr, 0, h => r
  | _, _, .cons r rr, i + 1, h => by
    have := vals_get rr i (by simpa using h)
    simpa using this
theorem vals_map {perm : List Nat} {f : Nat → V} {g : Nat → Value} : (∀ i ∈ perm, RelV (f i) (g i)) → Vals (perm.map f) (perm.map g) := by
  intro h
  induction perm with
  | nil => exact .nil
  | cons i r ih => exact .cons (h i List.mem_cons_self) (ih fun j hj => h j (List.mem_cons_of_mem _ hj))
theorem pe_gK {X : Cx} {k : Nat} {f : Addr} {fd : FuncData} {ps : List Str} {fn : Fn} {x : Str} {p pos : Pos} {kws : List Keyword} {ks : List String} {perm : List Nat} {tk : TA}
    (F : FnG X.prog X.w X.K X.mg X.base k f fd ps fn) (hr : Room k X.A) (hgd : X.A.guards = some []) (hg : Gl X x) (hm : X.mg x = some (.ref f)) (hk : PySem.W.keepIn X.K (.ref f) = true)
    (hb : ∀ (s : Shared) (ws : List Value), X.K.In s.heap → ws.length = ks.length → BindsTo s fd ⟨[], (ks.map Str.ofString).zip ws⟩ (ps.zip (perm.map fun i => ws.getD i .none))) (hp : ∀ i ∈ perm, i < ks.length)
    (hkw : PK X kws tk) (hn : kws.map (·.arg) = (ks.map fun k => some (Str.ofString k))) (hl : ∀ σ H Q, tk σ H Q → tk σ H fun vs H1 => vs.length = ks.length ∧ Q vs H1) (hdb : (x == ("__debug__" : Str)) = false) :
    PE X (.Call (.Name x p) [] kws pos) (tCallG X.K fn ps.length (fun σ H Q => tk σ H fun ws H1 => Q (perm.map fun i => ws.getD i .non) H1)) := by
  obtain ⟨h1, h2, h3⟩ := kw_all (pos := pos) (env := X.env) hn
  refine ⟨fun pins s σ H Q I h => wpAny_Call_Name_kw (ld_glob I hg hm ?_ hdb)⟩
  have h : tk σ H fun ws H1 => spF X.K fn ps.length (perm.map fun i => ws.getD i .non) H1 Q := h
  refine PySem.W.callWith_KW0 (h₀ := X.base) I.ok.mod.kin hk h1 (thn (hkw.run pos pins s σ H _ I (hl _ _ _ h)) fun us s1 ⟨vs, H1, I1, r, q1, q⟩ => ⟨I1.kIn, ?_⟩) (by rw [h3]; rfl)
  rw [h2]
  have hlu : us.length = ks.length := by rw [← r.length]; exact q1
  have rel : Vals (perm.map fun i => vs.getD i .non) (perm.map fun i => us.getD i .none) := vals_map fun i hi => vals_get r i (by rw [q1]; exact hp i hi)
  refine wpAny_call (codeAny_mono (F.go X.A X.stack s1 H1 ⟨[], (ks.map Str.ofString).zip us⟩ _ _ Q hr hgd I1.env0 (hb s1 us I1.kIn hlu) rel q) fun res s' hq => ?_)
  cases res with
  | error e => exact False.elim hq
  | ok fl =>
    cases fl with
    | ret u => exact I1.after hq
    | next => exact False.elim hq
    | brk => exact False.elim hq
    | cont => exact False.elim hq
theorem snd_all (e : E) : SndAll e ∧ (∀ a b, e = .cons a b → SndAll a) ∧ SndK e := by

  induction e with
  | var i =>
    refine ⟨?_, (fun _ _ z => by cases z), fun X mc ok hk kws z => by simp [mtEs] at z⟩
    refine .of (fun X mc ok hk x h => ?_) (by intro mc l; simp [mtEs]) (by intro mc tg x; simp [mtI])
    cases x <;> first | (simp [mtE] at h; done) | skip
    rename_i x pos
    rw [mtE, Bool.and_eq_true, Bool.and_eq_true] at h
    exact .of_pe (snd_var ok (of_decide_eq_true h.1.1) h.1.2 h.2) (fun _ => rfl) (fun _ _ _ z => by cases z)
  | con d =>
    refine ⟨?_, (fun _ _ z => by cases z), fun X mc ok hk kws z => by simp [mtEs] at z⟩
    refine .of (fun X mc ok hk x h => ?_) (by intro mc l; simp [mtEs]) (by intro mc tg x; simp [mtI])
    cases x <;> first | (simp [mtE] at h; done) | skip
    rw [mtE] at h
    exact .of_pe (snd_con h) (fun _ => rfl) (fun _ _ _ z => by cases z)
  | glob y d =>
    refine ⟨?_, (fun _ _ z => by cases z), fun X mc ok hk kws z => by simp [mtEs] at z⟩
    refine .of (fun X mc ok hk x h => ?_) (by intro mc l; simp [mtEs]) (by intro mc tg x; simp [mtI])
    cases x <;> first | (simp [mtE] at h; done) | skip
    rw [mtE] at h
    exact .of_pe (snd_glob ok hk h) (fun _ => rfl) (fun _ _ _ z => by cases z)
  | nil =>
    refine ⟨?_, (fun _ _ z => by cases z), fun X mc ok hk kws z => by
      first | (cases kws <;> first | (simp [mtEs] at z; done) | exact kws_nil)⟩
    refine .ofA (fun X mc ok hk l h => ?_) (by intro mc l; simp [mtE]) (by intro mc tg x; simp [mtI])
    cases l <;> first | (simp [mtEs] at h; done) | skip
    exact args_nil
  | cons a b iha ihb =>
    have iha := iha.1
    have ihk := ihb
    have ihb := ihb.1
    have ihk := ihk.2.2
    refine ⟨?_, (fun _ _ z => by cases z; exact iha), fun X mc ok hk kws z => by
      cases kws <;> first | (simp [mtEs] at z; done) | skip
      rename_i kw _
      obtain ⟨_, _, _⟩ := kw
      rw [List.map_cons, mtEs, Bool.and_eq_true, Bool.and_eq_true] at z
      exact kws_cons ((iha X mc ok hk.1).1 _ z.1.2).pe (ihk X mc ok hk.2 _ z.2)⟩
    refine .ofA (fun X mc ok hk l h => ?_) (by intro mc l; simp [mtE]) (by intro mc tg x; simp [mtI])
    cases l <;> first | (simp [mtEs] at h; done) | skip
    rw [mtEs, Bool.and_eq_true, Bool.and_eq_true] at h
    exact args_cons h.1.1 ((iha X mc ok hk.1).1 _ h.1.2).pe ((ihb X mc ok hk.2).2.1 _ h.2)
  | «omit» =>
    refine ⟨?_, (fun _ _ z => by cases z), fun X mc ok hk kws z => by simp [mtEs] at z⟩
    refine .of (fun X mc ok hk x h => ?_) (by intro mc l; simp [mtEs]) (by intro mc tg x; simp [mtI])
    simp [mtE] at h
  | tup es ih =>
    have ih := ih.1
    refine ⟨?_, (fun _ _ z => by cases z), fun X mc ok hk kws z => by simp [mtEs] at z⟩
    refine .of (fun X mc ok hk x h => ?_) (by intro mc l; simp [mtEs]) (by intro mc tg x; simp [mtI])
    cases x <;> first | (simp [mtE] at h; done) | skip
    rw [mtE, Bool.and_eq_true] at h
    exact .of_pe (snd_tup (of_decide_eq_true h.1) ((ih X mc ok hk).2.1 _ h.2)) (fun _ => rfl) (fun _ _ _ z => by cases z)
  | lst es ih =>
    have ih := ih.1
    refine ⟨?_, (fun _ _ z => by cases z), fun X mc ok hk kws z => by simp [mtEs] at z⟩
    refine .of (fun X mc ok hk x h => ?_) (by intro mc l; simp [mtEs]) (by intro mc tg x; simp [mtI])
    cases x <;> first | (simp [mtE] at h; done) | skip
    rw [mtE, Bool.and_eq_true] at h
    exact .of_pe (snd_lst (of_decide_eq_true h.1) ((ih X mc ok hk).2.1 _ h.2)) (fun _ => rfl) (fun _ _ _ z => by cases z)
  | bin o a b iha ihb =>
    have iha := iha.1
    have ihb := ihb.1
    refine ⟨?_, (fun _ _ z => by cases z), fun X mc ok hk kws z => by simp [mtEs] at z⟩
    refine .of (fun X mc ok hk x h => ?_) (by intro mc l; simp [mtEs]) (by intro mc tg x; simp [mtI])
    cases x <;> first | (simp [mtE] at h; done) | skip
    rw [mtE, Bool.and_eq_true, Bool.and_eq_true] at h
    obtain ⟨⟨h1, h2⟩, h3⟩ := h
    rw [of_decide_eq_true h1]
    exact .of_pe (snd_bin ((iha X mc ok hk.1).1 _ h2).pe ((ihb X mc ok hk.2).1 _ h3).pe) (fun _ => rfl) (fun _ _ _ z => by cases z)
  | neg a iha =>
    have iha := iha.1
    refine ⟨?_, (fun _ _ z => by cases z), fun X mc ok hk kws z => by simp [mtEs] at z⟩
    refine .of (fun X mc ok hk x h => ?_) (by intro mc l; simp [mtEs]) (by intro mc tg x; simp [mtI])
    cases x <;> first | (simp [mtE] at h; done) | skip
    rw [mtE, Bool.and_eq_true] at h
    rw [of_decide_eq_true h.1]
    exact .of_pe (snd_neg ((iha X mc ok hk).1 _ h.2).pe) (fun _ => rfl) (fun _ _ _ z => by cases z)
  | cmp o a b iha ihb =>
    have iha := iha.1
    have ihb := ihb.1
    refine ⟨?_, (fun _ _ z => by cases z), fun X mc ok hk kws z => by simp [mtEs] at z⟩
    refine .of (fun X mc ok hk x h => ?_) (by intro mc l; simp [mtEs]) (by intro mc tg x; simp [mtI])
    cases x <;> first | (simp [mtE] at h; done) | skip
    rename_i x ops cs pos
    cases ops with
    | nil => simp [mtE] at h
    | cons op r =>
      cases r with
      | cons _ _ => simp [mtE] at h
      | nil =>
        cases cs with
        | nil => simp [mtE] at h
        | cons y r =>
          cases r with
          | cons _ _ => simp [mtE] at h
          | nil =>
            rw [mtE, Bool.and_eq_true, Bool.and_eq_true, Bool.and_eq_true] at h
            obtain ⟨⟨⟨h1, h2⟩, h3⟩, h4⟩ := h
            rw [of_decide_eq_true h1]
            have pa := ((iha X mc ok hk.1).1 _ h3).pe
            have pb := ((ihb X mc ok hk.2).1 _ h4).pe
            exact ⟨snd_cmp ok h2 pa pb, tst_cmp ok h2 pa pb, fun _ _ _ z => by cases z⟩
  | chain o1 o2 a b c iha ihb ihc =>
    have iha := iha.1
    have ihb := ihb.1
    have ihc := ihc.1
    refine ⟨?_, (fun _ _ z => by cases z), fun X mc ok hk kws z => by simp [mtEs] at z⟩
    refine .of (fun X mc ok hk x h => ?_) (by intro mc l; simp [mtEs]) (by intro mc tg x; simp [mtI])
    cases x <;> first | (simp [mtE] at h; done) | skip
    rename_i x ops cs pos
    match ops, cs, h with
    | [p, q], [y, z], h =>
      rw [mtE] at h
      simp only [Bool.and_eq_true] at h
      obtain ⟨⟨⟨⟨⟨⟨h1, h2⟩, h3⟩, h4⟩, h5⟩, h6⟩, h7⟩ := h
      rw [of_decide_eq_true h1, of_decide_eq_true h2]
      exact snd_chain ok h4 ((iha X mc ok hk.1).1 _ h5).pe ((ihb X mc ok hk.2.1).1 _ h6).pe ((ihc X mc ok hk.2.2).1 _ h7).pe
    | [], _, h => simp [mtE] at h
    | [_], _, h => simp [mtE] at h
    | _ :: _ :: _ :: _, _, h => simp [mtE] at h
    | [_, _], [], h => simp [mtE] at h
    | [_, _], [_], h => simp [mtE] at h
    | [_, _], _ :: _ :: _ :: _, h => simp [mtE] at h
  | and a b iha ihb =>
    have iha := iha.1
    have ihb := ihb.1
    refine ⟨?_, (fun _ _ z => by cases z), fun X mc ok hk kws z => by simp [mtEs] at z⟩
    refine .of (fun X mc ok hk x h => ?_) (by intro mc l; simp [mtEs]) (by intro mc tg x; simp [mtI])
    cases x <;> first | (simp [mtE] at h; done) | skip
    rename_i op vs pos
    match vs, h with
    | [], h => simp [mtE] at h
    | [_], h => simp [mtE] at h
    | [x, y], h =>
      simp only [mtE, Bool.and_eq_true] at h
      obtain ⟨⟨h1, h2⟩, h3⟩ := h
      rw [of_decide_eq_true h1]
      have pb := (ihb X mc ok hk.2).1 _ h3
      exact snd_and ((iha X mc ok hk.1).1 _ h2) (pe_one pb.pe) (pw_and1 pb.pt)
    | x :: y :: z :: r, h =>
      simp only [mtE, Bool.and_eq_true] at h
      obtain ⟨⟨h1, h2⟩, h3⟩ := h
      rw [of_decide_eq_true h1]
      have pb := (ihb X mc ok hk.2).1 _ h3
      exact snd_and ((iha X mc ok hk.1).1 _ h2) pb.pe (pb.pw _ _ _ rfl)
  | or a b iha ihb =>
    have iha := iha.1
    have ihb := ihb.1
    refine ⟨?_, (fun _ _ z => by cases z), fun X mc ok hk kws z => by simp [mtEs] at z⟩
    refine .of (fun X mc ok hk x h => ?_) (by intro mc l; simp [mtEs]) (by intro mc tg x; simp [mtI])
    cases x <;> first | (simp [mtE] at h; done) | skip
    rename_i op vs pos
    match vs, h with
    | [], h => simp [mtE] at h
    | [_], h => simp [mtE] at h
    | [x, y], h =>
      simp only [mtE, Bool.and_eq_true] at h
      obtain ⟨⟨h1, h2⟩, h3⟩ := h
      rw [of_decide_eq_true h1]
      have pb := (ihb X mc ok hk.2).1 _ h3
      exact snd_or ((iha X mc ok hk.1).1 _ h2) (pe_one pb.pe) (pw_or1 pb.pt)
    | x :: y :: z :: r, h =>
      simp only [mtE, Bool.and_eq_true] at h
      obtain ⟨⟨h1, h2⟩, h3⟩ := h
      rw [of_decide_eq_true h1]
      have pb := (ihb X mc ok hk.2).1 _ h3
      exact snd_or ((iha X mc ok hk.1).1 _ h2) pb.pe (pb.pw _ _ _ rfl)
  | not a iha =>
    have iha := iha.1
    refine ⟨?_, (fun _ _ z => by cases z), fun X mc ok hk kws z => by simp [mtEs] at z⟩
    refine .of (fun X mc ok hk x h => ?_) (by intro mc l; simp [mtEs]) (by intro mc tg x; simp [mtI])
    cases x <;> first | (simp [mtE] at h; done) | skip
    rw [mtE, Bool.and_eq_true] at h
    rw [of_decide_eq_true h.1]
    exact snd_not ((iha X mc ok hk).1 _ h.2)
  | ife c a b ihc iha ihb =>
    have ihc := ihc.1
    have iha := iha.1
    have ihb := ihb.1
    refine ⟨?_, (fun _ _ z => by cases z), fun X mc ok hk kws z => by simp [mtEs] at z⟩
    refine .of (fun X mc ok hk x h => ?_) (by intro mc l; simp [mtEs]) (by intro mc tg x; simp [mtI])
    cases x <;> first | (simp [mtE] at h; done) | skip
    rw [mtE, Bool.and_eq_true, Bool.and_eq_true] at h
    exact snd_ife ((ihc X mc ok hk.1).1 _ h.1.1) ((iha X mc ok hk.2.1).1 _ h.1.2) ((ihb X mc ok hk.2.2).1 _ h.2)
  | idx a i iha ihi =>
    have iha := iha.1
    have ihi := ihi.1
    refine ⟨?_, (fun _ _ z => by cases z), fun X mc ok hk kws z => by simp [mtEs] at z⟩
    refine .of (fun X mc ok hk x h => ?_) (by intro mc l; simp [mtEs]) (by intro mc tg x; simp [mtI])
    cases x <;> first | (simp [mtE] at h; done) | skip
    rw [mtE, Bool.and_eq_true, Bool.and_eq_true] at h
    exact .of_pe (snd_idx h.1.1 ((iha X mc ok hk.1).1 _ h.1.2).pe ((ihi X mc ok hk.2).1 _ h.2).pe) (fun _ => rfl) (fun _ _ _ z => by cases z)
  | slc a lo hi iha ihl ihh =>
    have iha := iha.1
    have ihl := ihl.1
    have ihh := ihh.1
    refine ⟨?_, (fun _ _ z => by cases z), fun X mc ok hk kws z => by simp [mtEs] at z⟩
    refine .of (fun X mc ok hk x h => ?_) (by intro mc l; simp [mtEs]) (by intro mc tg x; simp [mtI])
    cases x <;> first | (simp [mtE] at h; done) | skip
    rename_i x y pos
    cases y <;> first | (simp [mtE] at h; done) | skip
    rename_i l hh st p2
    cases st with
    | some _ => simp [mtE] at h
    | none =>
      unfold mtE at h
      rw [Bool.and_eq_true, Bool.and_eq_true] at h
      obtain ⟨⟨h1, h2⟩, h3⟩ := h
      refine .of_pe (snd_slc ((iha X mc ok hk.1).1 _ h1).pe (lo := l) (hi := hh) ?_ ?_) (fun _ => rfl) (fun _ _ _ z => by cases z)
      · cases l with
        | none =>
          cases lo <;> first | (cases h2; done) | exact po_omit
        | some l => exact po_int ((ihl X mc ok hk.2.1).1 _ h2).pe (by rintro rfl; simp [mtE] at h2)
      · cases hh with
        | none =>
          cases hi <;> first | (cases h3; done) | exact po_omit
        | some l => exact po_int ((ihh X mc ok hk.2.2).1 _ h3).pe (by rintro rfl; simp [mtE] at h3)
  | rev a iha =>
    have iha := iha.1
    refine ⟨?_, (fun _ _ z => by cases z), fun X mc ok hk kws z => by simp [mtEs] at z⟩
    refine .of (fun X mc ok hk x h => ?_) (by intro mc l; simp [mtEs]) (by intro mc tg x; simp [mtI])
    unfold mtE at h
    split at h <;> first | (rename_i z; cases z; done) | (cases h; done) | skip
    all_goals first | (exfalso; simp_all; done) | skip
    rename_i heq
    cases heq
    rw [Bool.and_eq_true] at h
    rw [of_decide_eq_true h.1]
    exact .of_pe (snd_rev ((iha _ _ ok hk).1 _ h.2).pe) (fun _ => rfl) (fun _ _ _ z => by cases z)
  | call y f es ih =>
    have ih := ih.1
    refine ⟨?_, (fun _ _ z => by cases z), fun X mc ok hk kws z => by simp [mtEs] at z⟩
    refine .of (fun X mc ok hk x h => ?_) (by intro mc l; simp [mtEs]) (by intro mc tg x; simp [mtI])
    cases x <;> first | (simp [mtE] at h; done) | skip
    rename_i g l ks pos
    cases g <;> first | (simp [mtE] at h; done) | skip
    cases ks with
    | cons _ _ => simp [mtE] at h
    | nil =>
      rw [mtE, Bool.and_eq_true, Bool.and_eq_true] at h
      obtain ⟨⟨h1, h2⟩, h3⟩ := h
      obtain ⟨rfl, hg, hd⟩ := callB_of ok h1
      obtain ⟨⟨k, ad, fd, ps, c1, c2, c3, c4, c5, c6⟩, he⟩ := hk
      have pl := mtEs_plain mc _ _ h2
      cases l with
      | nil => simp at h3
      | cons z r =>
        have pl' := pl
        rw [plainEs, Bool.and_eq_true] at pl'
        refine .of_pe ((pe_g c4 c5 ok.gd hg c1 c2 c3 ((ih X mc ok he).2.1 _ h2) hd (star_cons pl'.1) (star_plain _ _ _ pl'.2)).via fun σ H Q q => call_rd c6 ?_) (fun _ => rfl) (fun _ _ _ z => by cases z)
        obtain ⟨c, gT, gF, ρ, s, rr, s', P, e, q⟩ := q
        rw [ev] at e
        exact ⟨c, gT, gF, ρ, s, rr, s', P, e, q⟩
  | callK y f es ks kes perm ih1 ih2 =>
    have ihk := ih2.2.2
    refine ⟨?_, (fun _ _ z => by cases z), fun X mc ok hk kws z => by simp [mtEs] at z⟩
    refine .of (fun X mc ok hk x h => ?_) (by intro mc l; simp [mtEs]) (by intro mc tg x; simp [mtI])
    unfold mtE at h
    split at h <;> first | (rename_i z; cases z; done) | (cases h; done) | skip
    all_goals first | (exfalso; simp_all; done) | skip
    rename_i heq
    cases heq
    simp only [Bool.and_eq_true] at h
    obtain ⟨⟨h1, h2⟩, h3⟩ := h
    obtain ⟨rfl, hg, hd⟩ := callB_of ok h1
    obtain ⟨⟨k, ad, fd, ps, c1, c2, c3, c4, c5, c6, c7⟩, he⟩ := hk
    have hn := of_decide_eq_true h2
    have el : elen kes = ks.length := by
      have := mtEs_len _ _ _ h3
      have e2 := congrArg List.length hn
      simp at this e2
      omega
    refine .of_pe ((pe_gK c5 c6 ok.gd hg c1 c2 c3 c4 (ihk _ _ ok he _ h3) hn (fun σ H Q q => ?_) hd).via fun σ H Q q => ?_) (fun _ => rfl) (fun _ _ _ z => by cases z)
    · obtain ⟨c, gT, gF, ρ, s, rs, s', P, e, q⟩ := q
      exact ⟨c, gT, gF, ρ, s, rs, s', P, e, fun vs H' P' V => ⟨by rw [V.length, evs_len _ e, el], q vs H' P' V⟩⟩
    · obtain ⟨c, gT, gF, ρ, s, rr, s', P, e, q⟩ := q
      rw [ev] at e
      exact perm_rd el c4 (call_rd c7 ⟨c, gT, gF, ρ, s, rr, s', P, e, q⟩)
  | prim p es ih =>
    have ih0 := ih.2.1
    have ih := ih.1
    refine ⟨?_, (fun _ _ z => by cases z), fun X mc ok hk kws z => by simp [mtEs] at z⟩
    refine .of (fun X mc ok hk x h => ?_) (by intro mc l; simp [mtEs]) (by intro mc tg x; simp [mtI])
    cases x <;> first | (simp [mtE] at h; done) | skip
    rename_i g l ks pos
    cases g <;> first | (simp [mtE] at h; done) | skip
    cases ks with
    | cons _ _ => simp [mtE] at h
    | nil =>
      unfold mtE at h
      by_cases hp : primPlain p = true
      · rw [if_pos hp] at h
        simp only [Bool.and_eq_true] at h
        obtain ⟨⟨h1, h2⟩, h3⟩ := h
        exact .of_pe (snd_prim ok hp h1 (mtEs_plain mc _ _ h2) (by rintro rfl; simp at h3) ((ih X mc ok hk.2).2.1 _ h2) hk.1) (fun _ => rfl) (fun _ _ _ z => by cases z)
      · rw [if_neg hp] at h
        by_cases hs : p = .sortedSet
        · rw [if_pos hs] at h
          subst hs
          split at h <;> first | (cases h; done) | skip
          simp only [Bool.and_eq_true] at h
          obtain ⟨⟨⟨h1, h2⟩, h3⟩, h4⟩ := h
          exact .of_pe (snd_sortSet ok h1 h2 h3 ((ih0 _ _ rfl X mc ok hk.2.1).1 _ h4).pe) (fun _ => rfl) (fun _ _ _ z => by cases z)
        rw [if_neg hs] at h
        split at h <;> first | (cases h; done) | skip
        simp only [Bool.and_eq_true] at h
        obtain ⟨⟨⟨h1, h2⟩, h3⟩, h4⟩ := h
        exact .of_pe (snd_is ok ‹isTy p = some _› h1 h2 h3 ((ih0 _ _ rfl X mc ok hk.2.1).1 _ h4).pe) (fun _ => rfl) (fun _ _ _ z => by cases z)
  | reprEq a b iha ihb =>
    have iha := iha.1
    have ihb := ihb.1
    refine ⟨?_, (fun _ _ z => by cases z), fun X mc ok hk kws z => by simp [mtEs] at z⟩
    refine .of (fun X mc ok hk x h => ?_) (by intro mc l; simp [mtEs]) (by intro mc tg x; simp [mtI])
    unfold mtE at h
    split at h <;> first | (rename_i z; cases z; done) | (cases h; done) | skip
    all_goals first | (exfalso; simp_all; done) | skip
    rename_i heq
    cases heq
    simp only [Bool.and_eq_true] at h
    obtain ⟨⟨⟨⟨⟨⟨h1, h2⟩, h3⟩, h4⟩, h5⟩, h6⟩, h7⟩ := h
    rw [of_decide_eq_true h1]
    exact snd_reprEq ok h2 h3 h4 h5 ((iha _ _ ok hk.1).1 _ h6).pe ((ihb _ _ ok hk.2).1 _ h7).pe
  | comp vs tg it cnd elt ihi ihc ihe =>
    have ihi := ihi.1
    have ihc := ihc.1
    have ihe := ihe.1
    refine ⟨?_, (fun _ _ z => by cases z), fun X mc ok hk kws z => by simp [mtEs] at z⟩
    refine .of (fun X mc ok hk x h => ?_) (by intro mc l; simp [mtEs]) (by intro mc tg x; simp [mtI])
    cases x <;> first | (simp [mtE] at h; done) | skip
    rename_i x gs scope pos
    match gs, h with
    | [], h => simp [mtE] at h
    | _ :: _ :: _, h => simp [mtE] at h
    | [⟨t, i, ifs, as⟩], h =>
      unfold mtE at h
      dsimp only at h
      simp only [Bool.and_eq_true] at h
      obtain ⟨⟨⟨⟨h0, h1⟩, h2⟩, h3⟩, ⟨⟨⟨h4, h5⟩, h6⟩, h7⟩⟩ := h
      have h0 := of_decide_eq_true h0
      subst h0
      have hv : (ownOf mc.N vs).map (·.2) = vs := by unfold ownOf; rw [List.map_map]; exact List.map_id' vs
      have bk : BlkOk X.N X.env.scope scope (ownOf mc.N vs) := by rw [← ok.N, ← ok.sc]; exact blkOk_by h3
      have L := (ihi X mc ok hk.1).2.2 _ _ h2
      have Q := pe_lc (elt := x) (tg := t) (iter := i) (ifs := ifs) (pos := pos) (g := rdG X.K tg) (tt := rdC X.K cnd) (te := rd X.K (ev elt)) ok.calm ok.nd L.1 bk
        (fun s H C cl fp => (tg_ok (blk_ok ok h3 s H C cl fp) tg).1 _ h4)
        (fun s H C cl fp => by
          cases ifs with
          | nil => cases cnd <;> first | (cases h7; done) | exact pts_nil
          | cons c r =>
            cases r with
            | cons _ _ => cases h7
            | nil =>
              have q := ((ihc _ _ (blk_ok ok h3 s H C cl fp) hk.2.1).1 _ h7).pt
              have e : rdC X.K cnd = rdT X.K (ev cnd) := by
                cases cnd <;> first | rfl | (simp [mtE] at h7; done)
              rw [e]
              exact pts_one q)
        (fun s H C cl fp => ((ihe _ _ (blk_ok ok h3 s H C cl fp) hk.2.2).1 _ h6).pe) L.2
      rw [hv] at Q
      exact .of_pe (Q.via fun σ H Q q => comp_tlc (tgSub h5) q) (fun _ => rfl) (fun _ _ _ z => by cases z)
  | itE a iha =>
    have iha := iha.1
    refine ⟨?_, (fun _ _ z => by cases z), fun X mc ok hk kws z => by simp [mtEs] at z⟩
    refine .ofI (fun X mc ok hk tg x h => ?_) (by intro mc l; simp [mtE]) (by intro mc l; simp [mtEs])
    rw [mtI, Bool.and_eq_true] at h
    exact ⟨snd_itE ((iha X mc ok hk).1 _ h.2).pe, fold_plain h.1 _⟩
  | itRange es ih =>
    have ih := ih.1
    refine ⟨?_, (fun _ _ z => by cases z), fun X mc ok hk kws z => by simp [mtEs] at z⟩
    refine .ofI (fun X mc ok hk tg x h => ?_) (by intro mc l; simp [mtE]) (by intro mc l; simp [mtEs])
    cases x <;> first | (simp [mtI] at h; done) | skip
    rename_i g l ks pos
    cases g <;> first | (simp [mtI] at h; done) | skip
    cases ks with
    | cons _ _ => simp [mtI] at h
    | nil =>
      unfold mtI at h
      rw [Bool.and_eq_true, Bool.and_eq_true] at h
      exact ⟨snd_itRange ok h.1.1 h.2 (mtEs_plain mc _ _ h.1.2) (mtEs_len mc _ _ h.1.2) ((ih X mc ok hk).2.1 _ h.1.2), fun _ => rfl⟩
  | itZip a b iha ihb =>
    have iha := iha.1
    have ihb := ihb.1
    refine ⟨?_, (fun _ _ z => by cases z), fun X mc ok hk kws z => by simp [mtEs] at z⟩
    refine .ofI (fun X mc ok hk tg x h => ?_) (by intro mc l; simp [mtE]) (by intro mc l; simp [mtEs])
    cases x <;> first | (simp [mtI] at h; done) | skip
    rename_i g l ks pos
    cases g <;> first | (simp [mtI] at h; done) | skip
    match l, ks, h with
    | [], _, h => simp [mtI] at h
    | [_], _, h => simp [mtI] at h
    | [u, v], [], h =>
      rw [mtI] at h
      simp only [Bool.and_eq_true] at h
      obtain ⟨⟨⟨⟨⟨h1, h2⟩, h3⟩, h4⟩, h5⟩, h6⟩ := h
      exact ⟨snd_itZip ok h1 h2 h3 h4 ((iha X mc ok hk.1).1 _ h5).pe ((ihb X mc ok hk.2).1 _ h6).pe, fun _ => rfl⟩
    | [_, _], _ :: _, h => simp [mtI] at h
    | _ :: _ :: _ :: _, _, h => simp [mtI] at h
  | itEnum a iha =>
    have iha := iha.1
    refine ⟨?_, (fun _ _ z => by cases z), fun X mc ok hk kws z => by simp [mtEs] at z⟩
    refine .ofI (fun X mc ok hk tg x h => ?_) (by intro mc l; simp [mtE]) (by intro mc l; simp [mtEs])
    cases x <;> first | (simp [mtI] at h; done) | skip
    rename_i g l ks pos
    cases g <;> first | (simp [mtI] at h; done) | skip
    match l, ks, h with
    | [], _, h => simp [mtI] at h
    | [u], [], h =>
      rw [mtI] at h
      simp only [Bool.and_eq_true] at h
      obtain ⟨⟨⟨h1, h2⟩, h3⟩, h4⟩ := h
      exact ⟨snd_itEnum ok h1 h2 h3 ((iha X mc ok hk).1 _ h4).pe, fun _ => rfl⟩
    | [_], _ :: _, h => simp [mtI] at h
    | _ :: _ :: _, _, h => simp [mtI] at h
  | stAt i =>
    refine ⟨?_, (fun _ _ z => by cases z), fun X mc ok hk kws z => by simp [mtEs] at z⟩
    refine .of (fun X mc ok hk x h => ?_) (by intro mc l; simp [mtEs]) (by intro mc tg x; simp [mtI])
    unfold mtE at h
    split at h <;> first | (rename_i z; cases z; done) | (cases h; done) | skip
    all_goals first | (exfalso; simp_all; done) | skip
    rename_i heq
    cases heq
    simp only [Bool.and_eq_true] at h
    cases strIs_eq h.2
    exact .of_pe (snd_stAt ok h.1) (fun _ => rfl) (fun _ _ _ z => by cases z)
  | stLen i =>
    refine ⟨?_, (fun _ _ z => by cases z), fun X mc ok hk kws z => by simp [mtEs] at z⟩
    refine .of (fun X mc ok hk x h => ?_) (by intro mc l; simp [mtEs]) (by intro mc tg x; simp [mtI])
    unfold mtE at h
    split at h <;> first | (rename_i z; cases z; done) | (cases h; done) | skip
    all_goals first | (exfalso; simp_all; done) | skip
    rename_i heq
    cases heq
    simp only [Bool.and_eq_true] at h
    cases strIs_eq h.2
    exact .of_pe (snd_stLen ok h.1.1 h.1.2) (fun _ => rfl) (fun _ _ _ z => by cases z)
  | stCell i k ihk =>
    have ihk := ihk.1
    refine ⟨?_, (fun _ _ z => by cases z), fun X mc ok hk kws z => by simp [mtEs] at z⟩
    refine .of (fun X mc ok hk x h => ?_) (by intro mc l; simp [mtEs]) (by intro mc tg x; simp [mtI])
    unfold mtE at h
    split at h <;> first | (rename_i z; cases z; done) | (cases h; done) | skip
    all_goals first | (exfalso; simp_all; done) | skip
    rename_i heq
    cases heq
    simp only [Bool.and_eq_true] at h
    cases strIs_eq h.1.1.2
    exact .of_pe (snd_stIx (l := OSt.cells) (a := Cfg.aC) ok (fun ρ s => by rw [ev]) (fun _ _ => rfl) (fun _ _ _ st => st.cells) h.1.1.1 h.1.2 ((ihk _ _ ok hk).1 _ h.2).pe) (fun _ => rfl) (fun _ _ _ z => by cases z)
  | stLeft i k ihk =>
    have ihk := ihk.1
    refine ⟨?_, (fun _ _ z => by cases z), fun X mc ok hk kws z => by simp [mtEs] at z⟩
    refine .of (fun X mc ok hk x h => ?_) (by intro mc l; simp [mtEs]) (by intro mc tg x; simp [mtI])
    unfold mtE at h
    split at h <;> first | (rename_i z; cases z; done) | (cases h; done) | skip
    all_goals first | (exfalso; simp_all; done) | skip
    rename_i heq
    cases heq
    simp only [Bool.and_eq_true] at h
    cases strIs_eq h.1.1.2
    exact .of_pe (snd_stIx (l := OSt.lefts) (a := Cfg.aL) ok (fun ρ s => by rw [ev]) (fun _ _ => rfl) (fun _ _ _ st => st.lefts) h.1.1.1 h.1.2 ((ihk _ _ ok hk).1 _ h.2).pe) (fun _ => rfl) (fun _ _ _ z => by cases z)
end RS
end
section
set_option Elab.async false
set_option linter.all false
set_option maxRecDepth 100000
set_option autoImplicit false
set_option maxHeartbeats 4000000
/-! RSStmt: statements: the matcher, what is wanted at the ends, the small ones. -/
namespace RS
open PySem L2
def noSw (v : Expr) : Bool := match v with
  | .ListComp _ _ _ _ => false
  | .SetComp _ _ _ _ => false
  | .DictComp _ _ _ _ _ => false
  | _ => true
def swE (mc : MC) (x : Str) (px : Pos) (v : Expr) : Bool := match v with
  | .ListComp _ _ scope pos => decide (mc.sc.names.lookup x = some .local) && (px.line == pos.line) && !(scope.names.any fun (n, k) => n == x && (k == .local || k == .cell))
  | .SetComp _ _ _ _ => false
  | .DictComp _ _ _ _ _ => false
  | _ => true
/-- the tuple is unpacked as it stands -/
def unpE (es : List Expr) (v : Expr) : Bool := match v with
  | .Tuple vs _ _ => !(es.length == 2 || es.length == 3) || vs.length != es.length || (vs.all (foldedForSure 8))
  | .ListComp _ _ _ _ => false
  | .SetComp _ _ _ _ => false
  | .DictComp _ _ _ _ _ => false
  | _ => true
def locOnly (mc : MC) (x : Str) : Bool := decide (mc.sc.names.lookup x = some .local)
mutual
def mtS : S → MC → Stmt → Bool
  | .skip, _, .Pass _ => true
  | .skip, _, .Expr (.Constant (.str _) _ _) _ => true
  | .asg i e, mc, .Assign [.Name x p] v _ => decide (mc.N[i]? = some x) && locB mc x && mtE e mc v && swE mc x p v
  | .asgS i e, mc, .Assign [.Name x p] v _ => decide (mc.N[i]? = some x) && locB mc x && mtE e mc v && swE mc x p v
  | .asgT tg e, mc, .Assign [.Tuple es k p] v _ => mtTg mc tg (.Tuple es k p) && mtE e mc v && unpE es v
  | .par [i, j] es, mc, .Assign [.Tuple [.Name x p, .Name y q] _ _] (.Tuple [a, b] _ _) _ => decide (mc.N[i]? = some x) && decide (mc.N[j]? = some y) && decide (i ≠ j) && decide (x ≠ y) && locOnly mc x && locOnly mc y && (p.line == p.line) && (q.line == p.line) &&
      mtEs es mc [a, b] && !(foldedForSure 8 a && foldedForSure 8 b) && !(constantsAlone 8 a && constantsAlone 8 b)
  | .par [i, j, l] es, mc, .Assign [.Tuple [.Name x p, .Name y q, .Name z r] _ _] (.Tuple [a, b, c] _ _) _ => decide (mc.N[i]? = some x) && decide (mc.N[j]? = some y) && decide (mc.N[l]? = some z) && decide (i ≠ j) && decide (i ≠ l) && decide (j ≠ l) && decide (x ≠ y) && decide (x ≠ z) && decide (y ≠ z) &&
      locOnly mc x && locOnly mc y && locOnly mc z && (q.line == p.line) && (r.line == p.line) && mtEs es mc [a, b, c] && !(foldedForSure 8 a && foldedForSure 8 b && foldedForSure 8 c) && !(constantsAlone 8 a && constantsAlone 8 b && constantsAlone 8 c)
  | .app i e, mc, .Expr (.Call (.Attribute (.Name x p) m ap) [v] [] cp) _ => mtE (.var i) mc (.Name x p) && strIs "append" m && (ap.endLine == cp.line) && plainE v && mtE e mc v
  | .ext i e, mc, .Expr (.Call (.Attribute (.Name x p) m ap) [v] [] cp) _ => mtE (.var i) mc (.Name x p) && strIs "extend" m && (ap.endLine == cp.line) && plainE v && mtE e mc v
  | .seti i k e, mc, .Assign [.Subscript (.Name x p) y _] v _ => mtE (.var i) mc (.Name x p) && plainE y && mtE k mc y && mtE e mc v
  | .expr e, mc, .Expr v _ => mtE e mc v && noSw v
  | .ret e, mc, .Return (some v) _ => mtE e mc v
  | .ret (.con .non), _, .Return none _ => true
  | .ife c a b, mc, .If x l r _ => mtE c mc x && mtSs a mc l && mtSs b mc r
  | .for tg it b, mc, .For t x l [] _ => mtTg mc tg t && mtI it mc t x && mtSs b mc l
  | .whl _ c b, mc, .While x l [] _ => mtE c mc x && mtSs b mc l
  | .brk, _, .Break _ => true
  | .cont, _, .Continue _ => true
  | .never, _, _ => true
  | .stPut i e, mc, .Assign [.Subscript (.Name x p) (.Constant (.str y) _ _) _] v _ => nmB mc i (.Name x p) && strIs "at" y && mtE e mc v
  | .stPutLeft i k e, mc, .Assign [.Subscript (.Subscript (.Name x p) (.Constant (.str y) _ _) _) q _] v _ => nmB mc i (.Name x p) && strIs "lefts" y && plainE q && mtE k mc q && mtE e mc v
  | _, _, _ => false
def mtSs : S → MC → List Stmt → Bool
  | .skip, _, sts => sts.isEmpty
  | .seq a b, mc, sts => match a with
    | .share _ => mtSs b mc sts
    | a => match sts with
      | st :: r => mtS a mc st && mtSs b mc r
      | [] => false
  | .never, _, _ => true
  | _, _, _ => false
end
def okS (L : Lv) : S → Prop
  | .seq a b => okS L a ∧ okS L b
  | .asg _ e => okE L e
  | .asgS _ e => okE L e
  | .asgT _ e => okE L e
  | .par _ es => okE L es
  | .app _ e => okE L e
  | .ext _ e => okE L e
  | .seti _ k e => okE L k ∧ okE L e
  | .expr e => okE L e
  | .ret e => okE L e
  | .ife c a b => okE L c ∧ okS L a ∧ okS L b
  | .for _ it b => okE L it ∧ okS L b
  | .whl _ c b => okE L c ∧ okS L b
  | .stPut _ e => okE L e
  | .stPutLeft _ k e => okE L k ∧ okE L e
  | _ => True
def RtV : Rs → V → Prop
  | .sh _, _ => True
  | .fr _, v => ∃ a, v = .ref a
  | .bo _ _, _ => False
def Fin (K : PySem.W.Frag) (c : Cfg) (gT : Shd) (gF : Own) (D : Ends) : Out → Prop
  | .nx ρ s => ∀ σ H, Pt K c gT gF σ H ρ s → D.nx σ H
  | .bk ρ s => ∀ σ H, Pt K c gT gF σ H ρ s → D.bk σ H
  | .ct ρ s => ∀ σ H, Pt K c gT gF σ H ρ s → D.ct σ H
  | .rt r s => r.isBo = false ∧ ∀ v σ ρ H, Pt K c (r.exT v gT) (r.exF v gF) σ H ρ s → RtV r v → D.rt v H
  | .exc _ _ _ => False
  | .no => False
def rdS (K : PySem.W.Frag) (f : Env → OSt → Out) : TS := fun D σ H => ∃ c gT gF ρ s, Pt K c gT gF σ H ρ s ∧ Fin K c gT gF D (f ρ s)
section
variable {K : PySem.W.Frag} {c : Cfg} {gT gT' : Shd} {gF gF' : Own} {σ σ' : L2.St} {H H' : Hp} {ρ ρ' : Env} {s s' : OSt} {T : Shd} {F : Own}
theorem withV_fin {D : Ends} {r : R Rs} {f : Rs → OSt → Out} (h : Fin K c gT gF D (withV r f)) : ∃ a s1, r = .ok a s1 ∧ Fin K c gT gF D (f a s1) := by
  cases r with
  | ok a s1 => exact ⟨a, s1, rfl, h⟩
  | exc => exact h.elim
  | no => exact h.elim
theorem outOf_fin {D : Ends} {o : Option Env} (h : Fin K c gT gF D (outOf o s)) : ∃ ρ', o = some ρ' ∧ ∀ σ H, Pt K c gT gF σ H ρ' s → D.nx σ H := by
  cases o with
  | none => exact h.elim
  | some ρ' => exact ⟨ρ', rfl, h⟩
theorem set_same {σ : L2.St} {i : Nat} {x : Option V} (h : σ[i]? = some x) : σ.set i x = σ := by
  apply List.ext_getElem?
  intro j
  rw [List.getElem?_set]
  split
  · rename_i e; subst e
    split
    · rw [h]
    · rename_i hl; rw [List.getElem?_eq_none (by omega)] at h; cases h
  · rfl
theorem lt_of_get {α : Type} {l : List α} {i : Nat} {x : α} (h : l[i]? = some x) : i < l.length := by
  rcases Nat.lt_or_ge i l.length with q | q
  · exact q
  · rw [List.getElem?_eq_none q] at h; cases h
/-- a slot takes what is held -/
theorem Pt.takes {d : D} {a : Addr} (P : Pt K c gT ((d, a) :: gF) σ H ρ s) {i : Nat} (hi : i < ρ.length) : Pt K c gT gF (σ.set i (some (.ref a))) H (ρ.set i (.ow d)) s := by
  obtain ⟨T, F, o⟩ := P
  have o' := o.less (gT' := gT) (fun _ h => h) (List.sublist_cons_self (d, a) gF)
  have nd := o.nd
  rw [List.map_cons, List.nodup_cons] at nd
  have hi' : i < σ.length := by rw [← o.sl.len]; exact hi
  have aw : ∀ (j : Nat) (e : D) (b : Addr), ρ[j]? = some (.ow e) → σ[j]? = some (some (.ref b)) → b ≠ a := fun j e b hj sj z => by
    obtain ⟨b', k1, _, k3⟩ := o.sl.ow j e hj
    rw [sj] at k1; cases k1
    exact k3 (by rw [z]; exact List.mem_cons_self)
  refine ⟨T, F, o.B, o'.hT, o'.hF, o'.nd, by simp [o.sl.len], fun j e hj => ?_, fun j e hj => ?_, fun j k e f b hj hk sj sk => ?_⟩
  · have hij : j ≠ i := fun z => by subst z; rw [List.getElem?_set_self hi] at hj; cases hj
    rw [List.getElem?_set_ne (Ne.symm hij)] at hj ⊢
    exact o.sl.sh j e hj
  · by_cases hij : j = i
    · subst hij
      rw [List.getElem?_set_self hi] at hj; cases hj
      exact ⟨a, by rw [List.getElem?_set_self hi'], o.hF _ List.mem_cons_self, nd.1⟩
    · rw [List.getElem?_set_ne (Ne.symm hij)] at hj ⊢
      exact o'.sl.ow j e hj
  · by_cases hji : j = i
    · by_cases hki : k = i
      · rw [hji, hki]
      · subst hji
        rw [List.getElem?_set_self hi'] at sj; cases sj
        rw [List.getElem?_set_ne (Ne.symm hki)] at hk sk
        exact (aw k f _ hk sk rfl).elim
    · by_cases hki : k = i
      · subst hki
        rw [List.getElem?_set_self hi'] at sk; cases sk
        rw [List.getElem?_set_ne (Ne.symm hji)] at hj sj
        exact (aw j e _ hj sj rfl).elim
      · rw [List.getElem?_set_ne (Ne.symm hji)] at hj sj
        rw [List.getElem?_set_ne (Ne.symm hki)] at hk sk
        exact o.sl.inj j k e f b hj hk sj sk
/-- a slot's own list changed -/
theorem Pt.mutSlot (P : Pt K c gT gF σ H ρ s) {i : Nat} {l ds : List D} {a : Addr} {xs ys : List V} (h1 : ρ[i]? = some (.ow (.lst l))) (h2 : σ[i]? = some (some (.ref a))) (hx : H a = some (.lst xs))
    (r : ∀ O, (∀ d v, (d, v) ∈ gT → Rep K c.aS O H d v) → Reps K c.aS O H l xs → Reps K c.aS O H ds ys) : Pt K c gT gF σ (upd H a (.lst ys)) (ρ.set i (.ow (.lst ds))) s := by
  have P1 := Pt.lend P h1 h2
  have P2 := Pt.put (ds := ds) (ys := ys) P1 fun F T o => by
    obtain ⟨l', xs', z, e, t⟩ := o.B.top_at (o.hF _ List.mem_cons_self)
    cases z
    rw [hx] at e; cases e
    exact r _ (fun d v hm => o.B.tT _ (o.hT _ hm)) t
  have P3 := Pt.takes (i := i) P2 (by simp; exact lt_of_get h1)
  rw [set_same h2, List.set_set] at P3
  exact P3
theorem Pt.shareSlot (P : Pt K c gT gF σ H ρ s) {i : Nat} {d : D} (h1 : ρ[i]? = some (.ow d)) : Pt K c gT gF σ H (ρ.set i (.sh d)) s := by
  have : ∃ a, σ[i]? = some (some (.ref a)) := by
    obtain ⟨T, F, o⟩ := P
    obtain ⟨a, e, _⟩ := o.sl.ow i d h1
    exact ⟨a, e⟩
  obtain ⟨a, h2⟩ := this
  have P2 := Pt.forget (gF := gF) (Pt.lend P h1 h2)
  have P3 := Pt.setSh (i := i) P2 (by simp; exact lt_of_get h1) List.mem_cons_self
  rw [set_same h2, List.set_set] at P3
  exact P3.less (fun p hp => List.mem_cons_of_mem _ hp) (List.Sublist.refl _)
theorem getD_ow {ρ : Env} {i : Nat} {d : D} (h : ρ.getD i .no = .ow d) : ρ[i]? = some (.ow d) := by
  rw [List.getD_eq_getElem?_getD] at h
  cases q : ρ[i]? with
  | none => rw [q] at h; cases h
  | some y => rw [q] at h; rw [show y = .ow d from h]
theorem getD_sh {ρ : Env} {i : Nat} {d : D} (h : ρ.getD i .no = .sh d) : ρ[i]? = some (.sh d) := by
  rw [List.getD_eq_getElem?_getD] at h
  cases q : ρ[i]? with
  | none => rw [q] at h; cases h
  | some y => rw [q] at h; rw [show y = .sh d from h]
/-- name = a value -/
theorem assign1 {i : Nat} {r : Rs} {v : V} {ρ' : Env} (P : Pt K c (r.exT v gT) (r.exF v gF) σ H ρ s) (V : Vw σ ρ r v) (h : assignAll [i] [r] ρ = some ρ') : Pt K c gT gF (σ.set i (some v)) H ρ' s := by
  rw [assignAll] at h
  cases r with
  | bo k d => cases h
  | sh d =>
    dsimp only [slotOf] at h
    split at h <;> first | (cases h; done) | skip
    rename_i hi
    rw [assignAll] at h; cases h
    exact (P.setSh hi List.mem_cons_self).less (fun p hp => List.mem_cons_of_mem _ hp) (List.Sublist.refl _)
  | fr d =>
    dsimp only [slotOf] at h
    split at h <;> first | (cases h; done) | skip
    rename_i hi
    rw [assignAll] at h; cases h
    obtain ⟨a, rfl⟩ := V
    exact Pt.takes P hi
end
end RS
end
section
set_option Elab.async false
set_option linter.all false
set_option maxRecDepth 100000
set_option autoImplicit false
set_option maxHeartbeats 4000000
/-! RSStmt2: statements that match do what the evaluator says. -/
namespace RS
open PySem L2
section
variable {X : Cx} {mc : MC}
/-! ### name = e -/
theorem asg_rd {i : Nat} {e : E} {D : Ends} {σ : L2.St} {H : Hp} (h : rdS X.K (exS (.asg i e)) D σ H) : rd X.K (ev e) σ H (fun v H' => D.nx (σ.set i (some v)) H') := by
  obtain ⟨c, gT, gF, ρ, s, P, q⟩ := h
  rw [exS] at q
  obtain ⟨r, s1, e1, q⟩ := withV_fin q
  obtain ⟨ρ', e2, q⟩ := outOf_fin q
  exact ⟨c, gT, gF, ρ, s, r, s1, P, e1, fun v H' P' V => q _ _ (assign1 P' V e2)⟩
theorem asgS_rd {i : Nat} {e : E} {D : Ends} {σ : L2.St} {H : Hp} (h : rdS X.K (exS (.asgS i e)) D σ H) : rd X.K (ev e) σ H (fun v H' => D.nx (σ.set i (some v)) H') := by
  obtain ⟨c, gT, gF, ρ, s, P, q⟩ := h
  rw [exS] at q
  obtain ⟨r, s1, e1, q⟩ := withV_fin q
  cases hb : r.isBo with
  | true => rw [hb, if_pos rfl] at q; exact q.elim
  | false =>
    rw [hb, if_neg (by simp)] at q
    obtain ⟨ρ', e2, q⟩ := outOf_fin q
    refine ⟨c, gT, gF, ρ, s, r, s1, P, e1, fun v H' P' V => q _ _ ?_⟩
    exact assign1 (r := .sh r.d) (Pt.share1 P' V hb) trivial e2
theorem sw_no {x : Str} {px : Pos} {v : Expr} {l : Nat} {env : PySem.Env} (h : noSw v = true) : swapsWith v (some (.Name x px)) l env = pure false := by
  cases v <;> first | rfl | cases h
theorem ps_name (ok : CtxOk X mc) {i : Nat} {x : Str} {p pos : Pos} {e : E} {v : Expr} (hk : okE (lvOf X) e) (hi : mc.N[i]? = some x) (hl : locB mc x = true) (he : mtE e mc v = true) (hs : swE mc x p v = true) :
    PS X (.Assign [.Name x p] v pos) (tAsg (rd X.K (ev e)) (gName i)) := by
  obtain ⟨h1, h2⟩ := ok.loc hl
  have hi' : X.N[i]? = some x := by rw [← ok.N]; exact hi
  by_cases hn : noSw v = true
  · exact ps_set ok.nd hi' h1 ((snd_all e).1 X mc ok hk |>.1 v he).pe (sw_no hn) h2
  · cases v <;> first | (exact (hn rfl).elim) | (cases hs; done) | skip
    rename_i elt gs scope vpos
    simp only [swE, Bool.and_eq_true, Bool.not_eq_true'] at hs
    obtain ⟨⟨hs1, hs2⟩, hs3⟩ := hs
    have hs1 := of_decide_eq_true hs1
    rw [ok.sc] at hs1
    have sw := sw_true (elt := elt) (gs := gs) (scope := scope) (pos := vpos) (py := p) (l := pos.line) ok.kind hs1 hs2 hs3
    cases e <;> first | (simp [mtE] at he; done) | skip
    rename_i vs tg it cnd elt'
    match gs, he, sw with
    | [], he, _ => simp [mtE] at he
    | _ :: _ :: _, he, _ => simp [mtE] at he
    | [⟨t, i', ifs, as⟩], he, sw =>
      unfold mtE at he
      dsimp only at he
      simp only [Bool.and_eq_true] at he
      obtain ⟨⟨⟨⟨h0, k1⟩, k2⟩, h3⟩, ⟨⟨⟨h4, h5⟩, h6⟩, h7⟩⟩ := he
      have h0 := of_decide_eq_true h0
      subst h0
      have hv : (ownOf mc.N vs).map (·.2) = vs := by unfold ownOf; rw [List.map_map]; exact List.map_id' vs
      have bk : BlkOk X.N X.env.scope scope (ownOf mc.N vs) := by rw [← ok.N, ← ok.sc]; exact blkOk_by h3
      have L := ((snd_all it).1 X mc ok hk.1).2.2 _ _ k2
      have Q := ps_setLc (i := i) (y := x) (py := p) (spos := pos) (elt := elt) (tg := t) (iter := i') (ifs := ifs) (pos := vpos) (g := rdG X.K tg) (tt := rdC X.K cnd) (te := rd X.K (ev elt')) ok.calm ok.nd hi' hs1 sw L.1 bk
        (fun s H C cl fp => (tg_ok (blk_ok ok h3 s H C cl fp) tg).1 _ h4)
        (fun s H C cl fp => by
          cases ifs with
          | nil => cases cnd <;> first | (cases h7; done) | exact pts_nil
          | cons c r =>
            cases r with
            | cons _ _ => cases h7
            | nil =>
              have q := (((snd_all cnd).1 _ _ (blk_ok ok h3 s H C cl fp) hk.2.1).1 _ h7).pt
              have e : rdC X.K cnd = rdT X.K (ev cnd) := by
                cases cnd <;> first | rfl | (simp [mtE] at h7; done)
              rw [e]
              exact pts_one q)
        (fun s H C cl fp => (((snd_all elt').1 _ _ (blk_ok ok h3 s H C cl fp) hk.2.2).1 _ h6).pe) L.2
      rw [hv] at Q
      exact Q.via fun D σ H q => comp_tlc (tgSub h5) q
theorem ps_asgE (ok : CtxOk X mc) {i : Nat} {x : Str} {p pos : Pos} {e : E} {v : Expr} (hk : okE (lvOf X) e) (hi : mc.N[i]? = some x) (hl : locB mc x = true) (he : mtE e mc v = true) (hs : swE mc x p v = true) :
    PS X (.Assign [.Name x p] v pos) (rdS X.K (exS (.asg i e))) := (ps_name ok hk hi hl he hs).via fun D σ H q => asg_rd q
theorem ps_asgSE (ok : CtxOk X mc) {i : Nat} {x : Str} {p pos : Pos} {e : E} {v : Expr} (hk : okE (lvOf X) e) (hi : mc.N[i]? = some x) (hl : locB mc x = true) (he : mtE e mc v = true) (hs : swE mc x p v = true) :
    PS X (.Assign [.Name x p] v pos) (rdS X.K (exS (.asgS i e))) := (ps_name ok hk hi hl he hs).via fun D σ H q => asgS_rd q
/-! ### (a, b, ..) = e -/
theorem unp_none {es : List Expr} {v : Expr} {k : Nat} {p : Pos} {env : PySem.Env} (h : unpE es v = true) : swappedStores [.Tuple es k p] v env = pure none := by
  cases v <;> first | rfl | (cases h; done) | skip
  rename_i vs _ _
  simp only [unpE, Bool.or_eq_true, Bool.not_eq_true', Bool.or_eq_false_iff] at h
  unfold swappedStores
  dsimp only
  by_cases h1 : (!(es.length == 2 || es.length == 3) || vs.length != es.length || env.blockKind != .function) = true
  · rw [if_pos h1]
  · rw [if_neg h1]
    have h2 : vs.all (foldedForSure 8) = true := by
      rcases h with h | h
      · exfalso
        apply h1
        rcases h with h | h
        · simp [h]
        · simp [h]
      · exact h
    rw [h2]
    split
    · rfl
    · split
      · rfl
      · rfl
theorem asgT_rd {tg : Tg} {e : E} {D : Ends} {σ : L2.St} {H : Hp} (h : rdS X.K (exS (.asgT tg e)) D σ H) : rd X.K (ev e) σ H (fun v H' => rdG X.K tg v σ H' D.nx) := by
  obtain ⟨c, gT, gF, ρ, s, P, q⟩ := h
  rw [exS] at q
  obtain ⟨r, s1, e1, q⟩ := withV_fin q
  cases hb : r.isBo with
  | true => rw [hb, if_pos rfl] at q; exact q.elim
  | false =>
    rw [hb, if_neg (by simp)] at q
    obtain ⟨ρ', e2, q⟩ := outOf_fin q
    refine ⟨c, gT, gF, ρ, s, r, s1, P, e1, fun v H' P' V => ⟨c, _, gF, ρ, s1, r.d, ρ', Pt.share1 P' V hb, List.mem_cons_self, e2, fun σ' P2 _ => q _ _ (P2.less (fun p hp => List.mem_cons_of_mem _ hp) (List.Sublist.refl _))⟩⟩
theorem ps_asgTE (ok : CtxOk X mc) {tg : Tg} {es : List Expr} {k : Nat} {p pos : Pos} {e : E} {v : Expr} (hk : okE (lvOf X) e) (ht : mtTg mc tg (.Tuple es k p) = true) (he : mtE e mc v = true) (hu : unpE es v = true) :
    PS X (.Assign [.Tuple es k p] v pos) (rdS X.K (exS (.asgT tg e))) := by
  have hs : swapsWithSole [.Tuple es k p] v pos.line X.env = pure false := by
    cases v <;> first | rfl | cases hu
  exact (ps_asg ((snd_all e).1 X mc ok hk |>.1 v he).pe ((tg_ok ok tg).1 _ ht) hs (unp_none hu)).via fun D σ H q => asgT_rd q
end
end RS
end
section
set_option Elab.async false
set_option linter.all false
set_option maxRecDepth 100000
set_option autoImplicit false
set_option maxHeartbeats 4000000
/-! RSStmt3: pairs and triples assigned; append, extend, items stored. -/
namespace RS
open PySem L2
def setAll : L2.St → List Nat → List V → L2.St
  | σ, i :: is, v :: vs => setAll (σ.set i (some v)) is vs
  | σ, _, _ => σ
section
variable {K : PySem.W.Frag} {c : Cfg} {gT gT' : Shd} {gF gF' : Own} {σ σ' : L2.St} {H H' : Hp} {ρ ρ' : Env} {s s' : OSt} {T : Shd} {F : Own}
theorem exFs_app : ∀ (rs : List Rs) (vs : List V) (F : Own), exFs rs vs F = exFs rs vs [] ++ F
  | [], vs, F => by simp [exFs]
  | r :: rs, [], F => by simp [exFs]
  | r :: rs, v :: vs, F => by
    rw [exFs, exFs, exFs_app rs vs (r.exF v F), exFs_app rs vs (r.exF v [])]
    cases r <;> simp [Rs.exF]
    cases v <;> simp
/-- a slot takes what is held, wherever it lies -/
theorem Pt.takes2 {d : D} {a : Addr} (P : Pt K c gT gF' σ H ρ s) (hF : (d, a) ∈ gF') (hs : List.Sublist gF gF') (hn : a ∉ gF.map (·.2)) {i : Nat} (hi : i < ρ.length) : Pt K c gT gF (σ.set i (some (.ref a))) H (ρ.set i (.ow d)) s := by
  obtain ⟨T, F, o⟩ := P
  refine Pt.takes ⟨T, F, o.B, o.hT, fun p hp => ?_, ?_, o.sl.len, o.sl.sh, fun j e hj => ?_, o.sl.inj⟩ hi
  · rcases List.mem_cons.mp hp with e | hp
    · rw [e]; exact o.hF _ hF
    · exact o.hF _ (hs.subset hp)
  · rw [List.map_cons, List.nodup_cons]
    exact ⟨hn, (hs.map (·.2)).nodup o.nd⟩
  · obtain ⟨b, h1, h2, h3⟩ := o.sl.ow j e hj
    refine ⟨b, h1, h2, fun z => h3 ?_⟩
    rw [List.map_cons] at z
    rcases List.mem_cons.mp z with z | z
    · rw [z]; exact List.mem_map.mpr ⟨_, hF, rfl⟩
    · exact (hs.map (·.2)).subset z
theorem assigns : ∀ (is : List Nat) (rs : List Rs) (vs : List V) {σ : L2.St} {ρ : Env}, vs.length = rs.length → (∀ (k : Nat) (r : Rs) (v : V), rs[k]? = some r → vs[k]? = some v → match r with | .sh d => (d, v) ∈ gT | .fr _ => ∃ a, v = .ref a | .bo _ _ => True) →
    Pt K c gT (exFs rs vs gF) σ H ρ s → assignAll is rs ρ = some ρ' → Pt K c gT gF (setAll σ is vs) H ρ' s
  | [], [], [], σ, ρ, _, _, P, e => by rw [assignAll] at e; cases e; exact P
  | [], [], _ :: _, _, _, hl, _, _, _ => by simp at hl
  | [], _ :: _, _, _, _, _, _, _, e => by simp [assignAll] at e
  | _ :: _, [], _, _, _, _, _, _, e => by simp [assignAll] at e
  | _ :: _, _ :: _, [], _, _, hl, _, _, _ => by simp at hl
  | i :: is, r :: rs, v :: vs, σ, ρ, hl, hd, P, e => by
    have hd' : ∀ (k : Nat) (q : Rs) (w : V), rs[k]? = some q → vs[k]? = some w → match q with | .sh d => (d, w) ∈ gT | .fr _ => ∃ a, w = .ref a | .bo _ _ => True := fun k q w a b => hd (k + 1) q w (by simpa using a) (by simpa using b)
    have h0 := hd 0 r v rfl rfl
    have hl' : vs.length = rs.length := by simpa using hl
    rw [assignAll] at e
    rw [setAll]
    cases r with
    | bo k d => cases e
    | sh d =>
      dsimp only [slotOf] at e
      split at e <;> first | (cases e; done) | skip
      rename_i hi
      exact assigns is rs vs hl' hd' (Pt.setSh (gF := exFs rs vs gF) P hi h0) e
    | fr d =>
      dsimp only [slotOf] at e
      split at e <;> first | (cases e; done) | skip
      rename_i hi
      obtain ⟨a, rfl⟩ := h0
      have eF : exFs (Rs.fr d :: rs) (V.ref a :: vs) gF = exFs rs vs [] ++ (d, a) :: gF := by
        rw [exFs, exFs_app]; rfl
      rw [eF] at P
      have nd : ((exFs rs vs [] ++ (d, a) :: gF).map (·.2)).Nodup := by
        obtain ⟨T, F, o⟩ := P
        exact o.nd
      have P2 := Pt.takes2 (gF := exFs rs vs [] ++ gF) (i := i) (d := d) (a := a) P (by simp) (List.Sublist.append (List.Sublist.refl _) (List.sublist_cons_self _ _)) (by
        rw [List.map_append, List.map_cons, List.nodup_append] at nd
        obtain ⟨_, n2, n3⟩ := nd
        rw [List.nodup_cons] at n2
        rw [List.map_append, List.mem_append]
        rintro (z | z)
        · exact n3 _ z _ List.mem_cons_self rfl
        · exact n2.1 z) hi
      rw [← exFs_app rs vs gF] at P2
      exact assigns is rs vs hl' hd' P2 e
theorem Hds.have {rs : List Rs} {vs : List V} (h : Hds gT gF σ ρ rs vs) : ∀ (k : Nat) (r : Rs) (v : V), rs[k]? = some r → vs[k]? = some v → match r with | .sh d => (d, v) ∈ gT | .fr _ => ∃ a, v = .ref a | .bo _ _ => True := fun k r v a b => by
  have q := h.get k r v a b
  cases r with
  | sh d => exact q
  | fr d => obtain ⟨x, e, _⟩ := q; exact ⟨x, e⟩
  | bo i d => trivial
end
section
variable {X : Cx} {mc : MC}
theorem par_rd {is : List Nat} {es : E} {D : Ends} {σ : L2.St} {H : Hp} (h : rdS X.K (exS (.par is es)) D σ H) : rdA X.K (evs es) σ H fun vs H' => vs.length = is.length ∧ D.nx (setAll σ is vs) H' := by
  obtain ⟨c, gT, gF, ρ, s, P, q⟩ := h
  rw [exS] at q
  split at q <;> first | (exact q.elim) | skip
  rename_i rs s1 e1
  obtain ⟨ρ', e2, q⟩ := outOf_fin q
  refine ⟨c, gT, gF, ρ, s, rs, s1, P, e1, fun vs H' P' V => ?_⟩
  have hl : ∀ (is : List Nat) (rs : List Rs) (ρ : Env), assignAll is rs ρ = some ρ' → rs.length = is.length := by
    intro is
    induction is with
    | nil => intro rs ρ e; cases rs <;> simp [assignAll] at e ⊢
    | cons i is ih =>
      intro rs ρ e
      cases rs with
      | nil => simp [assignAll] at e
      | cons r rs =>
        rw [assignAll] at e
        split at e <;> first | (cases e; done) | skip
        split at e <;> first | (cases e; done) | skip
        simp [ih rs _ e]
  exact ⟨by rw [V.length]; exact hl is rs ρ e2, q _ _ ((assigns is rs vs V.length V.have P' e2).less (subTs rs vs gT) (List.Sublist.refl _))⟩
theorem bk_fn {env : PySem.Env} (h : env.scope.kind = .function) : env.blockKind = .function := by unfold Env.blockKind; rw [h]; rfl
theorem swap2 {x y : Str} {p q pt pt2 : Pos} {k k2 : Nat} {a b : Expr} {env : PySem.Env} (hk : env.scope.kind = .function) (hx : env.scope.names.lookup x = some .local) (hy : env.scope.names.lookup y = some .local) (hxy : x ≠ y) (hl : (q.line == p.line) = true)
    (ha : plainE a = true) (hb : plainE b = true) (hf : (foldedForSure 8 a && foldedForSure 8 b) = false) (hc : (constantsAlone 8 a && constantsAlone 8 b) = false) :
    swappedStores [.Tuple [.Name x p, .Name y q] k pt] (.Tuple [a, b] k2 pt2) env = pure (some [x, y]) := by
  have kx : env.kindOf x = some .local := hx
  have ky : env.kindOf y = some .local := hy
  have hb' := bk_fn hk
  unfold swappedStores
  dsimp only
  rw [if_neg (by simp [hb'])]
  rw [if_neg (by
    intro h
    simp only [List.any_cons, List.any_nil, Bool.or_false, Bool.or_eq_true] at h
    rcases h with h | h
    · cases a <;> first | (cases ha; done) | (cases h; done)
    · cases b <;> first | (cases hb; done) | (cases h; done))]
  have hl' : q.line = p.line := by simpa using hl
  simp [kx, ky, Expr.pos, hl', List.eraseDups_cons, Ne.symm hxy]
  rw [if_neg (by rw [← Bool.and_eq_true, hf]; simp), if_neg (by rw [← Bool.and_eq_true, hc]; simp)]
theorem swap3 {x y z : Str} {p q r pt pt2 : Pos} {k k2 : Nat} {a b c : Expr} {env : PySem.Env} (hk : env.scope.kind = .function) (hx : env.scope.names.lookup x = some .local) (hy : env.scope.names.lookup y = some .local) (hz : env.scope.names.lookup z = some .local) (hxy : x ≠ y) (hxz : x ≠ z) (hyz : y ≠ z) (hl : (q.line == p.line) = true) (hl2 : (r.line == p.line) = true)
    (ha : plainE a = true) (hb : plainE b = true) (hcc : plainE c = true) (hf : (foldedForSure 8 a && foldedForSure 8 b && foldedForSure 8 c) = false) (hc : (constantsAlone 8 a && constantsAlone 8 b && constantsAlone 8 c) = false) :
    swappedStores [.Tuple [.Name x p, .Name y q, .Name z r] k pt] (.Tuple [a, b, c] k2 pt2) env = pure (some [x, y, z]) := by
  have kx : env.kindOf x = some .local := hx
  have ky : env.kindOf y = some .local := hy
  have kz : env.kindOf z = some .local := hz
  have hb' := bk_fn hk
  unfold swappedStores
  dsimp only
  rw [if_neg (by simp [hb'])]
  rw [if_neg (by
    intro h
    simp only [List.any_cons, List.any_nil, Bool.or_false, Bool.or_eq_true] at h
    rcases h with h | h | h
    · cases a <;> first | (cases ha; done) | (cases h; done)
    · cases b <;> first | (cases hb; done) | (cases h; done)
    · cases c <;> first | (cases hcc; done) | (cases h; done))]
  have hl' : q.line = p.line := by simpa using hl
  have hl2' : r.line = p.line := by simpa using hl2
  simp [kx, ky, kz, Expr.pos, hl', hl2', List.eraseDups_cons, Ne.symm hxy, Ne.symm hxz, Ne.symm hyz]
  rw [if_neg (by rintro ⟨h1, h2, h3⟩; rw [h1, h2, h3] at hf; cases hf), if_neg (by rintro ⟨h1, h2, h3⟩; rw [h1, h2, h3] at hc; cases hc)]
theorem loc_only (ok : CtxOk X mc) {x : Str} (h : locOnly mc x = true) : X.env.scope.names.lookup x = some .local := by
  have := of_decide_eq_true h
  rw [← ok.sc]; exact this
theorem ps_par2E (ok : CtxOk X mc) {i j : Nat} {es : E} {x y : Str} {p q pt pt2 pos : Pos} {k k2 : Nat} {a b : Expr} (hk : okE (lvOf X) es) (hi : mc.N[i]? = some x) (hj : mc.N[j]? = some y) (hij : i ≠ j) (hxy : x ≠ y) (hx : locOnly mc x = true) (hy : locOnly mc y = true) (hl : (q.line == p.line) = true)
    (he : mtEs es mc [a, b] = true) (hf : (foldedForSure 8 a && foldedForSure 8 b) = false) (hc : (constantsAlone 8 a && constantsAlone 8 b) = false) :
    PS X (.Assign [.Tuple [.Name x p, .Name y q] k pt] (.Tuple [a, b] k2 pt2) pos) (rdS X.K (exS (.par [i, j] es))) := by
  have pl := mtEs_plain mc _ _ he
  simp only [plainEs, Bool.and_eq_true] at pl
  have lx := loc_only ok hx
  have ly := loc_only ok hy
  refine (ps_par ok.calm ok.nd (by rw [← ok.N]; exact hi) (by rw [← ok.N]; exact hj) hij lx ly ((snd_all es).1 X mc ok hk |>.2.1 _ he) (swap2 ok.kind lx ly hxy hl pl.1 pl.2.1 hf hc)).via fun D σ H h => ?_
  obtain ⟨c, gT, gF, ρ, s, rs, s', P, e, q⟩ := par_rd h
  refine ⟨c, gT, gF, ρ, s, rs, s', P, e, fun vs H' P' V => ?_⟩
  obtain ⟨q1, q2⟩ := q vs H' P' V
  match vs, q1 with
  | [v, w], _ => exact ⟨v, w, rfl, q2⟩
theorem ps_par3E (ok : CtxOk X mc) {i j l : Nat} {es : E} {x y z : Str} {p q r pt pt2 pos : Pos} {k k2 : Nat} {a b d : Expr} (hk : okE (lvOf X) es) (hi : mc.N[i]? = some x) (hj : mc.N[j]? = some y) (hn : mc.N[l]? = some z) (hij : i ≠ j) (hil : i ≠ l) (hjl : j ≠ l) (hxy : x ≠ y) (hxz : x ≠ z) (hyz : y ≠ z)
    (hx : locOnly mc x = true) (hy : locOnly mc y = true) (hz : locOnly mc z = true) (hl : (q.line == p.line) = true) (hl2 : (r.line == p.line) = true)
    (he : mtEs es mc [a, b, d] = true) (hf : (foldedForSure 8 a && foldedForSure 8 b && foldedForSure 8 d) = false) (hc : (constantsAlone 8 a && constantsAlone 8 b && constantsAlone 8 d) = false) :
    PS X (.Assign [.Tuple [.Name x p, .Name y q, .Name z r] k pt] (.Tuple [a, b, d] k2 pt2) pos) (rdS X.K (exS (.par [i, j, l] es))) := by
  have pl := mtEs_plain mc _ _ he
  simp only [plainEs, Bool.and_eq_true] at pl
  have lx := loc_only ok hx
  have ly := loc_only ok hy
  have lz := loc_only ok hz
  refine (ps_par3 ok.calm ok.nd (by rw [← ok.N]; exact hi) (by rw [← ok.N]; exact hj) (by rw [← ok.N]; exact hn) hij hil hjl lx ly lz ((snd_all es).1 X mc ok hk |>.2.1 _ he) (swap3 ok.kind lx ly lz hxy hxz hyz hl hl2 pl.1 pl.2.1 pl.2.2.1 hf hc)).via fun D σ H h => ?_
  obtain ⟨c, gT, gF, ρ, s, rs, s', P, e, q⟩ := par_rd h
  refine ⟨c, gT, gF, ρ, s, rs, s', P, e, fun vs H' P' V => ?_⟩
  obtain ⟨q1, q2⟩ := q vs H' P' V
  match vs, q1 with
  | [v, w, u], _ => exact ⟨v, w, u, rfl, q2⟩
/-! ### append, extend -/
theorem few1 {e : Expr} {env : PySem.Env} {cpos : Pos} (h : plainE e = true) : ((backTo cpos (starEach [e] env)).all (fun x => !x.1) && (backToKw cpos (keywordEach [] env)).all (fun x => x.1.isSome)
      && decide (([e] : List Expr).length + ([] : List Keyword).length + (if ([] : List Keyword).isEmpty then 0 else 1) < 30)) = true := by
  rw [star_cons h]; rfl
theorem app_rd {i : Nat} {e : E} {D : Ends} {σ : L2.St} {H : Hp} (h : rdS X.K (exS (.app i e)) D σ H) : tBM X.K "list" rAppend (rd X.K (ev (.var i))) (tCons (rd X.K (ev e)) tNil) σ H (fun _ H' => D.nx σ H') := by
  obtain ⟨c, gT, gF, ρ, s, P, q⟩ := h
  rw [exS] at q
  obtain ⟨r, s1, e1, q⟩ := withV_fin q
  split at q <;> first | (exact q.elim) | skip
  rename_i l hs
  split at q <;> first | (exact q.elim) | skip
  rename_i hb
  have hs' := getD_ow hs
  refine ⟨c, gT, gF, ρ, s, .bo i (.lst l), s, P, by rw [ev, hs]; rfl, fun v H1 P1 V1 => ?_⟩
  obtain ⟨a, rfl, h1, _⟩ := V1
  have at_ : ∀ {gT gF H s}, Pt X.K c gT gF σ H ρ s → ∃ xs, H a = some (.lst xs) ∧ xs.length = l.length := fun P => by
    obtain ⟨T, F, o⟩ := P
    obtain ⟨b, h3, h4, _⟩ := o.sl.ow i _ hs'
    rw [h1] at h3; cases h3
    obtain ⟨_, xs, z, q1, t⟩ := o.B.top_at h4
    cases z
    exact ⟨xs, q1, t.length⟩
  obtain ⟨xs0, hx0, _⟩ := at_ P1
  refine ⟨.inl ⟨rfl, xs0, SqL.of hx0⟩, c, gT, gF, ρ, s, r, s1, P1, e1, fun v H2 P2 V2 => ?_⟩
  obtain ⟨xs, hx, hl⟩ := at_ P2
  have P3 := Pt.share1 P2 V2 hb.1
  refine ⟨a, xs, v, rfl, rfl, hx, by rw [hl]; exact LIM_line hb.2, ?_⟩
  have P4 := Pt.mutSlot (ds := l ++ [r.d]) (ys := xs ++ [v]) P3 hs' h1 hx fun O hm t => t.append (Reps.cons (hm _ _ List.mem_cons_self) Reps.nil)
  exact q _ _ (P4.less (fun p hp => List.mem_cons_of_mem _ hp) (List.Sublist.refl _))
theorem ps_appE (ok : CtxOk X mc) {i : Nat} {e : E} {x : Str} {p ap cp pos : Pos} {v : Expr} (hk : okE (lvOf X) e) (hx : mtE (.var i) mc (.Name x p) = true) (hl : (ap.endLine == cp.line) = true) (hv : plainE v = true) (he : mtE e mc v = true) :
    PS X (.Expr (.Call (.Attribute (.Name x p) "append" ap) [v] [] cp) pos) (rdS X.K (exS (.app i e))) := by
  have pv := ((snd_all (.var i)).1 X mc ok trivial |>.1 _ hx).pe
  have pe := ((snd_all e).1 X mc ok hk |>.1 _ he).pe
  have st := star_cons (env := X.env) (es := []) hv
  exact (ps_expr (pe_bm PySem.F.plainAttrs_list PySem.F.slot_list_append PySem.F.type_list_append mt_append pv (pa_cons pe pa_nil st) rfl (few1 hv) hl st rfl)).via fun D σ H q => app_rd q
theorem ext_rd {i : Nat} {e : E} {D : Ends} {σ : L2.St} {H : Hp} (h : rdS X.K (exS (.ext i e)) D σ H) : tBM X.K "list" rExtend (rd X.K (ev (.var i))) (tCons (rd X.K (ev e)) tNil) σ H (fun _ H' => D.nx σ H') := by
  obtain ⟨c, gT, gF, ρ, s, P, q⟩ := h
  rw [exS] at q
  obtain ⟨r, s1, e1, q⟩ := withV_fin q
  split at q <;> first | (exact q.elim) | skip
  rename_i l hs
  split at q <;> first | (exact q.elim) | skip
  rename_i m hm
  split at q <;> first | (exact q.elim) | skip
  rename_i hb
  have hs' := getD_ow hs
  refine ⟨c, gT, gF, ρ, s, .bo i (.lst l), s, P, by rw [ev, hs]; rfl, fun v H1 P1 V1 => ?_⟩
  obtain ⟨a, rfl, h1, _⟩ := V1
  have at_ : ∀ {gT gF H s}, Pt X.K c gT gF σ H ρ s → ∃ xs, H a = some (.lst xs) ∧ xs.length = l.length := fun P => by
    obtain ⟨T, F, o⟩ := P
    obtain ⟨b, h3, h4, _⟩ := o.sl.ow i _ hs'
    rw [h1] at h3; cases h3
    obtain ⟨_, xs, z, q1, t⟩ := o.B.top_at h4
    cases z
    exact ⟨xs, q1, t.length⟩
  obtain ⟨xs0, hx0, _⟩ := at_ P1
  refine ⟨.inl ⟨rfl, xs0, SqL.of hx0⟩, c, gT, gF, ρ, s, r, s1, P1, e1, fun v H2 P2 V2 => ?_⟩
  obtain ⟨xs, hx, hl⟩ := at_ P2
  have P3 := Pt.share1 P2 V2 hb.1
  rw [hm] at P3
  have : ∃ b zs, v = .ref b ∧ H2 b = some (.lst zs) ∧ zs.length = m.length := by
    obtain ⟨T, F, o⟩ := P3
    have r := o.B.tT _ (o.hT _ List.mem_cons_self)
    rw [Rep] at r
    obtain ⟨b, zs, e, _, hz, t⟩ := r
    exact ⟨b, zs, e, hz, t.length⟩
  obtain ⟨b, zs, rfl, hz, hlz⟩ := this
  refine ⟨a, b, xs, zs, rfl, rfl, hx, hz, by rw [hl, hlz, sizeLine_eq]; have := hb.2; unfold LIM at this; omega, ?_⟩
  have P4 := Pt.mutSlot (ds := l ++ m) (ys := xs ++ zs) P3 hs' h1 hx fun O hm t => by
    have r := hm _ _ List.mem_cons_self
    rw [Rep] at r
    obtain ⟨b', zs', e, _, hz', t'⟩ := r
    cases e
    rw [hz] at hz'
    cases hz'
    exact t.append t'
  exact q _ _ (P4.less (fun p hp => List.mem_cons_of_mem _ hp) (List.Sublist.refl _))
theorem ps_extE (ok : CtxOk X mc) {i : Nat} {e : E} {x : Str} {p ap cp pos : Pos} {v : Expr} (hk : okE (lvOf X) e) (hx : mtE (.var i) mc (.Name x p) = true) (hl : (ap.endLine == cp.line) = true) (hv : plainE v = true) (he : mtE e mc v = true) :
    PS X (.Expr (.Call (.Attribute (.Name x p) "extend" ap) [v] [] cp) pos) (rdS X.K (exS (.ext i e))) := by
  have pv := ((snd_all (.var i)).1 X mc ok trivial |>.1 _ hx).pe
  have pe := ((snd_all e).1 X mc ok hk |>.1 _ he).pe
  have st := star_cons (env := X.env) (es := []) hv
  exact (ps_expr (pe_bm PySem.F.plainAttrs_list PySem.F.slot_list_extend PySem.F.type_list_extend mt_extend pv (pa_cons pe pa_nil st) rfl (few1 hv) hl st rfl)).via fun D σ H q => ext_rd q
/-! ### xs[k] = e -/
theorem seti_rd {i : Nat} {k e : E} {D : Ends} {σ : L2.St} {H : Hp} (h : rdS X.K (exS (.seti i k e)) D σ H) : rd X.K (ev e) σ H fun v H' => gSub (rd X.K (ev (.var i))) (rd X.K (ev k)) rSetL v σ H' D.nx := by
  obtain ⟨c, gT, gF, ρ, s, P, q⟩ := h
  rw [exS] at q
  obtain ⟨r, s1, e1, q⟩ := withV_fin q
  obtain ⟨z, s2, e2, q⟩ := withV_fin q
  split at q <;> first | (exact q.elim) | skip
  rename_i l n hs hz
  split at q <;> first | (exact q.elim) | skip
  rename_i j hj
  split at q <;> first | (exact q.elim) | skip
  rename_i hb
  have hs' := getD_ow hs
  refine ⟨c, gT, gF, ρ, s, r, s1, P, e1, fun v H1 P1 V1 => ?_⟩
  have P1' := Pt.share1 P1 V1 hb
  refine ⟨c, _, gF, ρ, s1, .bo i (.lst l), s1, P1', by rw [ev, hs]; rfl, fun o H2 P2 V2 => ?_⟩
  obtain ⟨a, rfl, h1, _⟩ := V2
  refine ⟨c, _, gF, ρ, s1, z, s2, P2, e2, fun u H3 P3 V3 => ?_⟩
  have hu : u = .int n := by
    obtain ⟨T, F, o⟩ := P3
    have t := o.tv V3.hd
    rw [hz] at t
    exact t.int
  have P4 := P3.less (gT' := (r.d, v) :: gT) (fun p hp => z.subT u _ p hp) (z.subF u gF)
  have : ∃ xs, H3 a = some (.lst xs) ∧ xs.length = l.length := by
    obtain ⟨T, F, o⟩ := P4
    obtain ⟨b, h3, h4, _⟩ := o.sl.ow i _ hs'
    rw [h1] at h3; cases h3
    obtain ⟨_, xs, z, q1, t⟩ := o.B.top_at h4
    cases z
    exact ⟨xs, q1, t.length⟩
  obtain ⟨xs, hx, hl⟩ := this
  refine ⟨a, xs, n, j, rfl, hu, hx, by rw [hl]; exact hj, ?_⟩
  have P5 := Pt.mutSlot (ds := l.set j r.d) (ys := xs.set j v) P4 hs' h1 hx fun O hm t => t.set j (hm _ _ List.mem_cons_self)
  exact q _ _ (P5.less (fun p hp => List.mem_cons_of_mem _ hp) (List.Sublist.refl _))
theorem ps_setiE (ok : CtxOk X mc) {i : Nat} {k e : E} {x : Str} {p p2 pos : Pos} {y v : Expr} (hk : okE (lvOf X) k) (hke : okE (lvOf X) e) (hx : mtE (.var i) mc (.Name x p) = true) (hy : plainE y = true) (hi : mtE k mc y = true) (he : mtE e mc v = true) :
    PS X (.Assign [.Subscript (.Name x p) y p2] v pos) (rdS X.K (exS (.seti i k e))) := by
  have pv := ((snd_all (.var i)).1 X mc ok trivial |>.1 _ hx).pe
  have pk := ((snd_all k).1 X mc ok hk |>.1 _ hi).pe
  have pe := ((snd_all e).1 X mc ok hke |>.1 _ he).pe
  refine (ps_asg pe (pg_sub pv pk set_list (by cases y <;> first | (intro _; rfl) | cases hy)) ?_ ?_).via fun D σ H q => seti_rd q
  · cases v <;> rfl
  · cases v <;> rfl
end
end RS
end
section
set_option Elab.async false
set_option linter.all false
set_option maxRecDepth 100000
set_option autoImplicit false
set_option maxHeartbeats 4000000
/-! RSStmt3b: the draws' state written. -/
namespace RS
open PySem L2
section
variable {X : Cx} {mc : MC}
theorem ps_stPut (ok : CtxOk X mc) {i : Nat} {e : E} {x : Str} {p p2 p3 pos : Pos} {n : Nat} {v : Expr} (hk : okE (lvOf X) e) (h : nmB mc i (.Name x p) = true) (he : mtE e mc v = true) :
    PS X (.Assign [.Subscript (.Name x p) (.Constant (.str "at") n p2) p3] v pos) (rdS X.K (exS (.stPut i e))) := by
  have pe := ((snd_all e).1 X mc ok hk |>.1 _ he).pe
  refine (ps_dput (by have := ok.un; omega) (nm_eq ok h) pe_str pe (by cases v <;> rfl)).via fun D σ H h => ?_
  obtain ⟨c, gT, gF, ρ, s, P, q⟩ := h
  rw [exS] at q
  obtain ⟨r, s1, e1, q⟩ := withV_fin q
  split at q <;> first | (exact q.elim) | skip
  rename_i hs
  split at q <;> first | (exact q.elim) | skip
  rename_i s2 hp
  unfold putAt at hp
  split at hp <;> first | (cases hp; done) | skip
  rename_i m hd
  split at hp <;> first | (cases hp; done) | skip
  rename_i h0
  cases hp
  refine ⟨c, gT, gF, ρ, s, r, s1, P, e1, fun v H1 P1 V1 => ⟨.ref c.aS, P1.isSt hs, ?_⟩⟩
  obtain ⟨T, F, o⟩ := id P1
  have t := o.tv V1.hd
  rw [hd] at t
  refine ⟨c.aS, _, rfl, DPut.k (k := (.inr "at" : Key)) o.B.st.dict (by rw [sizeLine_eq]; show 3 < _; omega), ?_⟩
  obtain ⟨T, F, o⟩ := P1.less (gT' := gT) (r.subT v gT) (r.subF v gF)
  refine q σ _ (o.state ?_)
  have B := o.B.putState (n := m.toNat)
  rw [t.int]
  have em : (m.toNat : Int) = m := by omega
  rw [em] at B
  exact B
theorem ps_stPutLeft (ok : CtxOk X mc) {i : Nat} {k e : E} {x : Str} {p p2 p3 p4 pos : Pos} {n : Nat} {y v : Expr} (hk : okE (lvOf X) k) (hke : okE (lvOf X) e) (h : nmB mc i (.Name x p) = true) (hy : plainE y = true) (hi : mtE k mc y = true) (he : mtE e mc v = true) :
    PS X (.Assign [.Subscript (.Subscript (.Name x p) (.Constant (.str "lefts") n p2) p3) y p4] v pos) (rdS X.K (exS (.stPutLeft i k e))) := by
  have pe := ((snd_all e).1 X mc ok hke |>.1 _ he).pe
  have pk := ((snd_all k).1 X mc ok hk |>.1 _ hi).pe
  refine (ps_asg pe (pg_sub (pe_st ok h) pk set_list (by cases y <;> first | (intro _; rfl) | cases hy)) (by cases v <;> rfl) (by cases v <;> rfl)).via fun D σ H h => ?_
  obtain ⟨c, gT, gF, ρ, s, P, q⟩ := h
  rw [exS] at q
  obtain ⟨r, s1, e1, q⟩ := withV_fin q
  obtain ⟨z, s2, e2, q⟩ := withV_fin q
  split at q <;> first | (exact q.elim) | skip
  rename_i hs
  split at q <;> first | (exact q.elim) | skip
  rename_i s3 hp
  unfold putLeft at hp
  split at hp <;> first | (cases hp; done) | skip
  rename_i m xx hm hx
  rw [Option.map_eq_some_iff] at hp
  obtain ⟨j, hj, rfl⟩ := hp
  refine ⟨c, gT, gF, ρ, s, r, s1, P, e1, fun v H1 P1 V1 => ?_⟩
  refine rd_st (f := fun _ c => .ref c.aL) (fun _ _ => rfl) ⟨c, _, _, ρ, s1, P1, hs, ?_⟩
  have hv : v = .int xx := by
    obtain ⟨T, F, o⟩ := P1
    have t := o.tv V1.hd
    rw [hx] at t
    exact t.int
  refine ⟨c, _, _, ρ, s1, z, s2, P1, e2, fun u H3 P3 V3 => ?_⟩
  obtain ⟨T, F, o⟩ := id P3
  have t := o.tv V3.hd
  rw [hm] at t
  refine ⟨c.aL, _, m, j, rfl, t.int, o.B.st.lefts, by rw [List.length_map]; exact hj, ?_⟩
  obtain ⟨T, F, o⟩ := P3.less (gT' := gT) (gF' := gF) (fun p hp => z.subT u _ p (r.subT v gT p hp)) ((r.subF v gF).trans (z.subF u _))
  refine q σ _ (o.state ?_)
  have B := o.B.putLefts (ls := s2.lefts.set j xx) (by simp)
  rw [List.map_set] at B
  rw [hv]
  exact B
end
end RS
end
section
set_option Elab.async false
set_option linter.all false
set_option maxRecDepth 100000
set_option autoImplicit false
set_option maxHeartbeats 4000000
/-! RSStmt4: blocks, tests, loops; all statements. -/
namespace RS
open PySem L2
section
variable {K : PySem.W.Frag} {c : Cfg} {gT gT' : Shd} {gF gF' : Own} {σ σ' : L2.St} {H H' : Hp} {ρ ρ' : Env} {s s' : OSt} {T : Shd} {F : Own}
theorem Rs.exT_sub {r : Rs} {v : V} (h : ∀ p ∈ gT, p ∈ gT') : ∀ p ∈ r.exT v gT, p ∈ r.exT v gT' := by
  intro p hp
  cases r with
  | sh d =>
    rcases List.mem_cons.mp hp with e | hp
    · rw [e]; exact List.mem_cons_self
    · exact List.mem_cons_of_mem _ (h p hp)
  | fr d => exact h p hp
  | bo i d => exact h p hp
/-- more may be held -/
theorem Fin.up {D : Ends} {o : Out} (h : Fin K c gT gF D o) (h1 : ∀ p ∈ gT, p ∈ gT') : Fin K c gT' gF D o := by
  cases o with
  | nx ρ s => exact fun σ H P => h σ H (P.less h1 (List.Sublist.refl _))
  | bk ρ s => exact fun σ H P => h σ H (P.less h1 (List.Sublist.refl _))
  | ct ρ s => exact fun σ H P => h σ H (P.less h1 (List.Sublist.refl _))
  | rt r s => exact ⟨h.1, fun v σ ρ H P V => h.2 v σ ρ H (P.less (Rs.exT_sub h1) (List.Sublist.refl _)) V⟩
  | exc => exact h
  | no => exact h
/-- what a loop's turn comes to -/
theorem Fin.turn {D : Ends} {N : L2.St → Hp → Prop} {o : Out} {k : Env → OSt → Out} (h : Fin K c gT gF D (match o with | .nx ρ1 s1 => k ρ1 s1 | .ct ρ1 s1 => k ρ1 s1 | .bk ρ1 s1 => .nx ρ1 s1 | .rt r s1 => .rt r s1 | .exc c d s1 => .exc c d s1 | .no => .no))
    (hN : ∀ σ H ρ1 s1, Pt K c gT gF σ H ρ1 s1 → Fin K c gT gF D (k ρ1 s1) → N σ H) : Fin K c gT gF { D with nx := N, ct := N, bk := D.nx } o := by
  cases o with
  | nx ρ s => exact fun σ H P => hN σ H ρ s P h
  | ct ρ s => exact fun σ H P => hN σ H ρ s P h
  | bk ρ s => exact h
  | rt r s => exact h
  | exc => exact h
  | no => exact h
end
section
variable {X : Cx} {mc : MC}
theorem seq_rd {a b : S} {D : Ends} {σ : L2.St} {H : Hp} (h : rdS X.K (exS (.seq a b)) D σ H) : tSeq (rdS X.K (exS a)) (rdS X.K (exS b)) D σ H := by
  obtain ⟨c, gT, gF, ρ, s, P, q⟩ := h
  refine ⟨c, gT, gF, ρ, s, P, ?_⟩
  rw [exS] at q
  cases e : exS a ρ s with
  | nx ρ1 s1 => rw [e] at q; exact fun σ H P => ⟨c, gT, gF, ρ1, s1, P, q⟩
  | bk ρ1 s1 => rw [e] at q; exact q
  | ct ρ1 s1 => rw [e] at q; exact q
  | rt r s1 => rw [e] at q; exact q
  | exc => rw [e] at q; exact q
  | no => rw [e] at q; exact q
theorem setE_same {ρ : Env} {i : Nat} {x : Slot} (h : ρ[i]? = some x) : ρ.set i x = ρ := by
  apply List.ext_getElem?
  intro j
  rw [List.getElem?_set]
  split
  · rename_i e; subst e
    split
    · exact h.symm
    · rename_i hl; rw [List.getElem?_eq_none (by omega)] at h; cases h
  · rfl
theorem share_rd {i : Nat} {b : S} {D : Ends} {σ : L2.St} {H : Hp} (h : rdS X.K (exS (.seq (.share i) b)) D σ H) : rdS X.K (exS b) D σ H := by
  obtain ⟨c, gT, gF, ρ, s, P, q⟩ := h
  rw [exS, exS] at q
  cases e : ρ.getD i .no with
  | no => rw [e] at q; exact q.elim
  | sh d =>
    rw [e] at q
    dsimp only at q
    rw [setE_same (getD_sh e)] at q
    exact ⟨c, gT, gF, ρ, s, P, q⟩
  | ow d =>
    rw [e] at q
    exact ⟨c, gT, gF, _, s, P.shareSlot (getD_ow e), q⟩
theorem ret_rd {e : E} {D : Ends} {σ : L2.St} {H : Hp} (h : rdS X.K (exS (.ret e)) D σ H) : rd X.K (ev e) σ H D.rt := by
  obtain ⟨c, gT, gF, ρ, s, P, q⟩ := h
  rw [exS] at q
  obtain ⟨r, s1, e1, q⟩ := withV_fin q
  refine ⟨c, gT, gF, ρ, s, r, s1, P, e1, fun v H' P' V => ?_⟩
  cases r with
  | sh d => exact q.2 v σ ρ H' P' trivial
  | fr d => exact q.2 v σ ρ H' P' V
  | bo i d =>
    obtain ⟨a, rfl, h1, h2⟩ := V
    exact q.2 _ σ _ H' (Pt.lend P' h2 h1) ⟨a, rfl⟩
theorem if_rd {e : E} {a b : S} {D : Ends} {σ : L2.St} {H : Hp} (h : rdS X.K (exS (.ife e a b)) D σ H) : tIfS (rdT X.K (ev e)) (rdS X.K (exS a)) (rdS X.K (exS b)) D σ H := by
  obtain ⟨c, gT, gF, ρ, s, P, q⟩ := h
  rw [exS] at q
  obtain ⟨r, s1, e1, q⟩ := withV_fin q
  split at q <;> first | (exact q.elim) | skip
  · exact ⟨c, gT, gF, ρ, s, true, s1, P, e1, fun H' P' => by dsimp only; rw [if_pos rfl]; exact ⟨c, gT, gF, ρ, s1, P', q⟩⟩
  · exact ⟨c, gT, gF, ρ, s, false, s1, P, e1, fun H' P' => by dsimp only; rw [if_neg (by simp)]; exact ⟨c, gT, gF, ρ, s1, P', q⟩⟩
theorem expr_rd {e : E} {D : Ends} {σ : L2.St} {H : Hp} (h : rdS X.K (exS (.expr e)) D σ H) : tDrop (rd X.K (ev e)) D σ H := by
  obtain ⟨c, gT, gF, ρ, s, P, q⟩ := h
  rw [exS] at q
  obtain ⟨r, s1, e1, q⟩ := withV_fin q
  exact ⟨c, gT, gF, ρ, s, r, s1, P, e1, fun v H' P' V => q _ _ (P'.less (r.subT v gT) (r.subF v gF))⟩
def stepF (tg : Tg) (b : S) (d : D) (ρ : Env) (s : OSt) : Out := match bindTg tg d ρ with
  | some ρ1 => exS b ρ1 s
  | none => .no
theorem for_rd {tg : Tg} {it : E} {b : S} {D : Ends} {σ : L2.St} {H : Hp} (h : rdS X.K (exS (.for tg it b)) D σ H) : tFor (rdI X.K (evI it)) (rdG X.K tg) (rdS X.K (exS b)) D σ H := by
  obtain ⟨c, gT, gF, ρ, s, P, q⟩ := h
  rw [exS] at q
  split at q <;> first | (exact q.elim) | skip
  rename_i items s1 e1
  have q : Fin X.K c gT gF D (forL (stepF tg b) items ρ s1) := q
  refine ⟨c, gT, gF, ρ, s, items, none, s1, P, e1, fun J H1 gT1 gF1 ρ1 hb _ hsub P1 wk => ?_⟩
  obtain ⟨rfl, rfl⟩ := hb rfl
  have q := q.up hsub
  refine ⟨fun i m σ H => m = items.length - i ∧ i ≤ items.length ∧ ∃ ρ s, Pt X.K c gT1 gF1 σ H ρ s ∧ Fin X.K c gT1 gF1 D (forL (stepF tg b) (items.drop i) ρ s), ⟨items.length, rfl, Nat.zero_le _, ρ1, s1, P1, q⟩, ?_⟩
  rintro i m σ H ⟨rfl, hi, ρ, s, P, q⟩
  by_cases hlt : i < items.length
  · refine .inr ⟨wk.goes i hlt _ _ _ _ _ _ (fun _ h => h) (fun _ h => h) P, fun σ' H' => i + 1 ≤ items.length ∧ ∃ ρ s, Pt X.K c gT1 gF1 σ' H' ρ s ∧ Fin X.K c gT1 gF1 D (forL (stepF tg b) (items.drop (i + 1)) ρ s), fun σ' H' w => ⟨items.length - (i + 1), by omega, rfl, w.1, w.2⟩, fun x H' y => ?_⟩
    have hd : items[i]? = some items[i] := List.getElem?_eq_getElem hlt
    have P2 := wk.yields i _ hd _ _ _ _ _ _ x H' (fun _ h => h) (fun _ h => h) P y
    rw [List.drop_eq_getElem_cons hlt, forL] at q
    unfold stepF at q
    cases hb : bindTg tg items[i] ρ with
    | none => rw [hb] at q; exact q.elim
    | some ρ1 =>
      rw [hb] at q
      refine ⟨c, _, gF1, ρ, s, _, ρ1, P2, List.mem_cons_self, hb, fun σ' P3 _ => ⟨c, gT1, gF1, ρ1, s, P3.less (fun p hp => List.mem_cons_of_mem _ hp) (List.Sublist.refl _), ?_⟩⟩
      exact Fin.turn q fun σ H ρ1 s1 P4 q4 => ⟨hlt, ρ1, s1, P4, q4⟩
  · have hi' : i = items.length := by omega
    subst hi'
    rw [List.drop_length, forL] at q
    exact .inl ⟨wk.stops _ _ _ _ _ _ (fun _ h => h) (fun _ h => h) P, q σ H P⟩
theorem whl_rd {n : Nat} {e : E} {b : S} {D : Ends} {σ : L2.St} {H : Hp} (h : rdS X.K (exS (.whl n e b)) D σ H) : tWhile (rdT X.K (ev e)) (rdS X.K (exS b)) D σ H := by
  obtain ⟨c, gT, gF, ρ, s, P, q⟩ := h
  rw [exS] at q
  refine ⟨fun m σ H => ∃ ρ s, Pt X.K c gT gF σ H ρ s ∧ Fin X.K c gT gF D (whlL (fun ρ s => ev e ρ s) (fun ρ s => exS b ρ s) m ρ s), ⟨n, ρ, s, P, q⟩, ?_⟩
  rintro m σ H ⟨ρ, s, P, q⟩
  cases m with
  | zero => rw [whlL] at q; exact q.elim
  | succ m =>
    rw [whlL] at q
    split at q <;> first | (exact q.elim) | skip
    · rename_i s1 e1
      refine ⟨c, gT, gF, ρ, s, true, s1, P, e1, fun H1 P1 => ?_⟩
      show (if true = true then _ else _)
      rw [if_pos rfl]
      exact ⟨fun σ' H' => ∃ ρ s, Pt X.K c gT gF σ' H' ρ s ∧ Fin X.K c gT gF D (whlL (fun ρ s => ev e ρ s) (fun ρ s => exS b ρ s) m ρ s), fun σ' H' w => ⟨m, Nat.lt_succ_self m, w⟩, c, gT, gF, ρ, s1, P1, Fin.turn q fun σ H ρ1 s1 P4 q4 => ⟨ρ1, s1, P4, q4⟩⟩
    · rename_i s1 e1
      exact ⟨c, gT, gF, ρ, s, false, s1, P, e1, fun H1 P1 => by dsimp only; rw [if_neg (by simp)]; exact q _ _ P1⟩
def SndS (b : S) : Prop := ∀ (X : Cx) (mc : MC), CtxOk X mc → okS (lvOf X) b → PassesOwn (model X.prog X.w) X.A X.env X.xe →
  (∀ st, mtS b mc st = true → PS X st (rdS X.K (exS b))) ∧ (∀ sts, mtSs b mc sts = true → PSs X sts (rdS X.K (exS b)))
theorem SndS.of {b : S} (h : ∀ (X : Cx) (mc : MC), CtxOk X mc → okS (lvOf X) b → PassesOwn (model X.prog X.w) X.A X.env X.xe → ∀ st, mtS b mc st = true → PS X st (rdS X.K (exS b))) (h1 : ∀ mc l, mtSs b mc l = false) : SndS b :=
  fun X mc ok hk hp => ⟨h X mc ok hk hp, fun sts z => absurd z (by rw [h1]; simp)⟩
theorem snd_stmt (b : S) : SndS b := by
  induction b with
  | skip =>
    refine fun X mc ok hk hp => ⟨fun st h => ?_, fun sts h => ?_⟩
    · have t : ∀ D σ H, rdS X.K (exS .skip) D σ H → tNext D σ H := fun D σ H ⟨c, gT, gF, ρ, s, P, q⟩ => q _ _ P
      cases st <;> first | (simp [mtS] at h; done) | skip
      · rename_i v p
        cases v <;> first | (simp [mtS] at h; done) | skip
        rename_i k n p2
        cases k <;> first | (simp [mtS] at h; done) | skip
        exact ps_doc.via t
      · exact ps_pass.via t
    · unfold mtSs at h
      cases sts with
      | nil => exact pss_nil.via fun D σ H ⟨c, gT, gF, ρ, s, P, q⟩ => q _ _ P
      | cons => cases h
  | seq a b iha ihb =>
    refine fun X mc ok hk hp => ⟨fun st h => by simp [mtS] at h, fun sts h => ?_⟩
    by_cases hs : ∃ i, a = .share i
    · obtain ⟨i, rfl⟩ := hs
      unfold mtSs at h
      exact ((ihb X mc ok hk.2 hp).2 sts h).via fun D σ H q => share_rd q
    · have h' : ∃ st r, sts = st :: r ∧ mtS a mc st = true ∧ mtSs b mc r = true := by
        unfold mtSs at h
        split at h
        · exact (hs ⟨_, rfl⟩).elim
        · split at h
          · rw [Bool.and_eq_true] at h
            exact ⟨_, _, rfl, h.1, h.2⟩
          · cases h
      obtain ⟨st, r, rfl, h1, h2⟩ := h'
      exact (pss_cons ((iha X mc ok hk.1 hp).1 _ h1) ((ihb X mc ok hk.2 hp).2 _ h2)).via fun D σ H q => seq_rd q
  | asg i e =>
    refine .of (fun X mc ok hk hp st h => ?_) (by intro mc l; simp [mtSs])
    unfold mtS at h
    split at h <;> first | (cases h; done) | skip
    all_goals first | (rename_i heq; cases heq; done) | skip
    rename_i heq
    cases heq
    simp only [Bool.and_eq_true] at h
    exact ps_asgE ok hk (of_decide_eq_true h.1.1.1) h.1.1.2 h.1.2 h.2
  | asgS i e =>
    refine .of (fun X mc ok hk hp st h => ?_) (by intro mc l; simp [mtSs])
    unfold mtS at h
    split at h <;> first | (cases h; done) | skip
    all_goals first | (rename_i heq; cases heq; done) | skip
    rename_i heq
    cases heq
    simp only [Bool.and_eq_true] at h
    exact ps_asgSE ok hk (of_decide_eq_true h.1.1.1) h.1.1.2 h.1.2 h.2
  | asgT tg e =>
    refine .of (fun X mc ok hk hp st h => ?_) (by intro mc l; simp [mtSs])
    unfold mtS at h
    split at h <;> first | (cases h; done) | skip
    all_goals first | (rename_i heq; cases heq; done) | skip
    rename_i heq
    cases heq
    simp only [Bool.and_eq_true] at h
    exact ps_asgTE ok hk h.1.1 h.1.2 h.2
  | par is es =>
    refine .of (fun X mc ok hk hp st h => ?_) (by intro mc l; simp [mtSs])
    unfold mtS at h
    split at h <;> first | (cases h; done) | skip
    all_goals first | (rename_i heq; cases heq; done) | skip
    · rename_i heq
      cases heq
      simp only [Bool.and_eq_true, Bool.not_eq_true'] at h
      obtain ⟨⟨⟨⟨⟨⟨⟨⟨⟨⟨h1, h2⟩, h3⟩, h4⟩, h5⟩, h6⟩, _⟩, h7⟩, h8⟩, h9⟩, h10⟩ := h
      exact ps_par2E ok hk (of_decide_eq_true h1) (of_decide_eq_true h2) (of_decide_eq_true h3) (of_decide_eq_true h4) h5 h6 h7 h8 h9 h10
    · rename_i heq
      cases heq
      simp only [Bool.and_eq_true, Bool.not_eq_true'] at h
      obtain ⟨⟨⟨⟨⟨⟨⟨⟨⟨⟨⟨⟨⟨⟨⟨⟨h1, h2⟩, h3⟩, h4⟩, h5⟩, h6⟩, h7⟩, h8⟩, h9⟩, h10⟩, h11⟩, h12⟩, h13⟩, h14⟩, h15⟩, h16⟩, h17⟩ := h
      exact ps_par3E ok hk (of_decide_eq_true h1) (of_decide_eq_true h2) (of_decide_eq_true h3) (of_decide_eq_true h4) (of_decide_eq_true h5) (of_decide_eq_true h6) (of_decide_eq_true h7) (of_decide_eq_true h8) (of_decide_eq_true h9) h10 h11 h12 h13 h14 h15 h16 h17
  | app i e =>
    refine .of (fun X mc ok hk hp st h => ?_) (by intro mc l; simp [mtSs])
    unfold mtS at h
    split at h <;> first | (cases h; done) | skip
    all_goals first | (rename_i heq; cases heq; done) | skip
    rename_i heq
    cases heq
    simp only [Bool.and_eq_true] at h
    obtain ⟨⟨⟨⟨h1, h2⟩, h3⟩, h4⟩, h5⟩ := h
    cases strIs_eq h2
    exact ps_appE ok hk h1 h3 h4 h5
  | ext i e =>
    refine .of (fun X mc ok hk hp st h => ?_) (by intro mc l; simp [mtSs])
    unfold mtS at h
    split at h <;> first | (cases h; done) | skip
    all_goals first | (rename_i heq; cases heq; done) | skip
    rename_i heq
    cases heq
    simp only [Bool.and_eq_true] at h
    obtain ⟨⟨⟨⟨h1, h2⟩, h3⟩, h4⟩, h5⟩ := h
    cases strIs_eq h2
    exact ps_extE ok hk h1 h3 h4 h5
  | seti i k e =>
    refine .of (fun X mc ok hk hp st h => ?_) (by intro mc l; simp [mtSs])
    unfold mtS at h
    split at h <;> first | (cases h; done) | skip
    all_goals first | (rename_i heq; cases heq; done) | skip
    rename_i heq
    cases heq
    simp only [Bool.and_eq_true] at h
    obtain ⟨⟨⟨h1, h2⟩, h3⟩, h4⟩ := h
    exact ps_setiE ok hk.1 hk.2 h1 h2 h3 h4
  | expr e =>
    refine .of (fun X mc ok hk hp st h => ?_) (by intro mc l; simp [mtSs])
    cases st <;> first | (simp [mtS] at h; done) | skip
    rename_i v pos
    rw [mtS, Bool.and_eq_true] at h
    have sw : swapsWith v none pos.line X.env = pure false := by
      obtain ⟨_, h⟩ := h
      cases v <;> first | rfl | (cases h; done)
    exact (ps_expr ((snd_all e).1 X mc ok hk |>.1 _ h.1).pe sw).via fun D σ H q => expr_rd q
  | ret e =>
    refine .of (fun X mc ok hk hp st h => ?_) (by intro mc l; simp [mtSs])
    cases st <;> first | (simp [mtS] at h; done) | skip
    rename_i v pos
    cases v with
    | some v =>
      rw [mtS] at h
      exact (ps_ret ((snd_all e).1 X mc ok hk |>.1 _ h).pe).via fun D σ H q => ret_rd q
    | none =>
      have he : e = .con .non := by
        unfold mtS at h
        split at h <;> first | (cases h; done) | skip
        all_goals first | (rename_i heq heq2; cases heq; done) | (rename_i heq; cases heq; done) | skip
        all_goals (injection ‹S.ret e = S.ret (E.con D.non)›)
      subst he
      refine ps_retN.via fun D σ H ⟨c, gT, gF, ρ, s, P, q⟩ => ?_
      rw [exS, ev] at q
      obtain ⟨T, F, o⟩ := P
      exact q.2 .non σ ρ H ⟨_, _, o.addT (by rw [Rep])⟩ trivial
  | ife c a b iha ihb =>
    refine .of (fun X mc ok hk hp st h => ?_) (by intro mc l; simp [mtSs])
    cases st <;> first | (simp [mtS] at h; done) | skip
    rw [mtS, Bool.and_eq_true, Bool.and_eq_true] at h
    exact (ps_if ((snd_all c).1 X mc ok hk.1 |>.1 _ h.1.1).pt ((iha X mc ok hk.2.1 hp).2 _ h.1.2) ((ihb X mc ok hk.2.2 hp).2 _ h.2)).via fun D σ H q => if_rd q
  | «for» tg it b ihb =>
    refine .of (fun X mc ok hk hp st h => ?_) (by intro mc l; simp [mtSs])
    cases st <;> first | (simp [mtS] at h; done) | skip
    rename_i t x l r pos
    cases r with
    | cons _ _ => simp [mtS] at h
    | nil =>
      rw [mtS, Bool.and_eq_true, Bool.and_eq_true] at h
      have L := ((snd_all it).1 X mc ok hk.1).2.2 _ _ h.1.2
      exact (ps_for hp ok.calm L.1 ((tg_ok ok tg).1 _ h.1.1) ((ihb X mc ok hk.2 hp).2 _ h.2) L.2).via fun D σ H q => for_rd q
  | whl n c b ihb =>
    refine .of (fun X mc ok hk hp st h => ?_) (by intro mc l; simp [mtSs])
    cases st <;> first | (simp [mtS] at h; done) | skip
    rename_i x l r pos
    cases r with
    | cons _ _ => simp [mtS] at h
    | nil =>
      rw [mtS, Bool.and_eq_true] at h
      exact (ps_while hp ((snd_all c).1 X mc ok hk.1 |>.1 _ h.1).pt ((ihb X mc ok hk.2 hp).2 _ h.2)).via fun D σ H q => whl_rd q
  | brk =>
    refine .of (fun X mc ok hk hp st h => ?_) (by intro mc l; simp [mtSs])
    cases st <;> first | (simp [mtS] at h; done) | skip
    exact ps_break.via fun D σ H ⟨c, gT, gF, ρ, s, P, q⟩ => q _ _ P
  | cont =>
    refine .of (fun X mc ok hk hp st h => ?_) (by intro mc l; simp [mtSs])
    cases st <;> first | (simp [mtS] at h; done) | skip
    exact ps_continue.via fun D σ H ⟨c, gT, gF, ρ, s, P, q⟩ => q _ _ P
  | share i =>
    refine .of (fun X mc ok hk hp st h => ?_) (by intro mc l; simp [mtSs])
    simp [mtS] at h
  | never =>
    refine fun X mc ok hk hp => ⟨fun st h => ps_never.via fun D σ H ⟨c, gT, gF, ρ, s, P, q⟩ => q, fun sts h => pss_never.via fun D σ H ⟨c, gT, gF, ρ, s, P, q⟩ => q⟩
  | stPut i e =>
    refine .of (fun X mc ok hk hp st h => ?_) (by intro mc l; simp [mtSs])
    unfold mtS at h
    split at h <;> first | (cases h; done) | skip
    all_goals first | (rename_i heq; cases heq; done) | skip
    rename_i heq
    cases heq
    simp only [Bool.and_eq_true] at h
    obtain ⟨⟨h1, h2⟩, h3⟩ := h
    cases strIs_eq h2
    exact ps_stPut ok hk h1 h3
  | stPutLeft i k e =>
    refine .of (fun X mc ok hk hp st h => ?_) (by intro mc l; simp [mtSs])
    unfold mtS at h
    split at h <;> first | (cases h; done) | skip
    all_goals first | (rename_i heq; cases heq; done) | skip
    rename_i heq
    cases heq
    simp only [Bool.and_eq_true] at h
    obtain ⟨⟨⟨⟨h1, h2⟩, h3⟩, h4⟩, h5⟩ := h
    cases strIs_eq h2
    exact ps_stPutLeft ok hk.1 hk.2 h1 h3 h4 h5
end
end RS
end
section
set_option Elab.async false
set_option linter.all false
set_option maxRecDepth 100000
set_option autoImplicit false
set_option maxHeartbeats 4000000
/-! RSDef: a def whose body matches keeps the evaluator's promise. -/
namespace RS
open PySem PySem.Spec PyProof.Rows L2
def cellB (sc : Scope) (x : Str) : Bool := true
theorem startE_len {n : Nat} {ds : List D} (h : ds.length ≤ n) : (startE n ds).length = n := by
  unfold startE; simp; omega
theorem startE_get {n : Nat} {ds : List D} {i : Nat} {x : Slot} (h : (startE n ds)[i]? = some x) (hx : x ≠ .no) : ∃ d, ds[i]? = some d ∧ x = .sh d := by
  unfold startE at h
  by_cases hi : i < ds.length
  · rw [List.getElem?_append_left (by simpa using hi), List.getElem?_map] at h
    cases hd : ds[i]? with
    | none => rw [hd] at h; cases h
    | some d => rw [hd] at h; cases h; exact ⟨d, rfl, rfl⟩
  · rw [List.getElem?_append_right (by simpa using hi), List.getElem?_replicate] at h
    split at h
    · cases h; exact (hx rfl).elim
    · cases h
theorem start_get {N : List Str} {vs : List V} {i : Nat} {v : V} (h : vs[i]? = some v) : (L2.start N vs)[i]? = some (some v) := by
  unfold L2.start
  rw [List.getElem?_append_left (by simpa using lt_of_get h), List.getElem?_map, h]; rfl
theorem start_len {N : List Str} {vs : List V} (h : vs.length ≤ N.length) : (L2.start N vs).length = N.length := by
  unfold L2.start; simp; omega
theorem Reps.zip_mem {K : PySem.W.Frag} {aS : Addr} {O : Addr → Prop} {H : Hp} : ∀ {ds : List D} {vs : List V}, Reps K aS O H ds vs → ∀ p ∈ ds.zip vs, Rep K aS O H p.1 p.2
  | [], _, _, p, hp => by simp at hp
  | d :: ds, vs, h, p, hp => by
    rw [Reps] at h
    obtain ⟨v, xs, rfl, r, t⟩ := h
    rw [List.zip_cons_cons] at hp
    rcases List.mem_cons.mp hp with e | hp
    · rw [e]; exact r
    · exact Reps.zip_mem t p hp
theorem entry {K : PySem.W.Frag} {c : Cfg} {H : Hp} {st : OSt} {ds : List D} {vs : List V} {N : List Str} (hl : vs.length ≤ N.length) (r : Reps K c.aS c.O H ds vs) (pre : Pre K c H st) :
    Pt K { c with H0 := H } [] [] (L2.start N vs) H (startE N.length ds) st := by
  have hd := r.length
  refine ⟨ds.zip vs, [], ⟨fun p hp => ?_, fun p hp => absurd hp (by simp), by simp, ?_, pre.oS, pre.trk, Keeps.refl⟩, fun p hp => absurd hp (by simp), fun p hp => absurd hp (by simp), by simp, ?_⟩
  · exact Rep.go (Go.less fun a ha => by
      rcases ha with z | z
      · exact z
      · simp at z) _ _ (r.zip_mem p hp)
  · exact ⟨pre.st.dict, pre.st.cells, pre.st.lefts, pre.st.ne, pre.st.len, pre.st.pos, pre.st.most⟩
  · refine ⟨by rw [startE_len (by omega), start_len hl], fun i d h => ?_, fun i d h => ?_, fun i j d e a h => ?_⟩
    · obtain ⟨d', h1, h2⟩ := startE_get h (by intro z; cases z)
      cases h2
      have hi := lt_of_get h1
      have hv : vs[i]? = some (vs[i]'(by omega)) := List.getElem?_eq_getElem (by omega)
      refine ⟨_, start_get hv, List.mem_iff_getElem?.mpr ⟨i, ?_⟩⟩
      rw [List.getElem?_zip_eq_some]
      exact ⟨h1, hv⟩
    · obtain ⟨d', _, h2⟩ := startE_get h (by intro z; cases z)
      cases h2
    · obtain ⟨d', _, h2⟩ := startE_get h (by intro z; cases z)
      cases h2
theorem Keeps.re {c : Cfg} {H0 H H' : Hp} (k : Keeps { c with H0 := H0 } H H') : Keeps c H H' := ⟨k.obj, k.there⟩
theorem StOk.re {c : Cfg} {H0 H : Hp} {s : OSt} (st : StOk { c with H0 := H0 } H s) : StOk c H s := ⟨st.dict, st.cells, st.lefts, st.ne, st.len, st.pos, st.most⟩
theorem ends {K : PySem.W.Frag} {c : Cfg} {H : Hp} {o : Out} {r : Rs} {s' : OSt} {Q : VK} (e : endR o = .ok r s') (q : SpEnd K c H s' Q r) (hb : ∀ ρ s, o ≠ .bk ρ s ∧ o ≠ .ct ρ s) :
    Fin K { c with H0 := H } [] [] { nx := fun _ H' => Q .non H', rt := Q } o := by
  cases o with
  | nx ρ s =>
    cases e
    intro σ H' ⟨T, F, o⟩
    exact q .non H' o.B.kp.re o.B.st.re (by rw [Rep])
  | rt r' s =>
    cases e
    cases r with
    | sh d =>
      refine ⟨rfl, fun v σ ρ H' ⟨T, F, o⟩ _ => ?_⟩
      exact q v H' o.B.kp.re o.B.st.re (Rep.go (Go.less fun a ha => .inl ha) _ _ (o.B.tT _ (o.hT _ List.mem_cons_self)))
    | fr d =>
      refine ⟨rfl, fun v σ ρ H' ⟨T, F, o⟩ hv => ?_⟩
      obtain ⟨a, rfl⟩ := hv
      obtain ⟨t, n, h0⟩ := o.B.tF _ (o.hF _ List.mem_cons_self)
      refine q a H' o.B.kp.re o.B.st.re h0 (t.go (Go.less fun b hb => ?_) fun _ e => e)
      rcases hb with z | z
      · exact .inl z
      · rw [z]; exact .inr (List.mem_map.mpr ⟨_, o.hF _ List.mem_cons_self, rfl⟩)
    | bo i d => exact q.elim
  | bk ρ s => exact ((hb ρ s).1 rfl).elim
  | ct ρ s => exact ((hb ρ s).2 rfl).elim
  | exc => cases e
  | no => cases e
theorem ends' {K : PySem.W.Frag} {c : Cfg} {H : Hp} {o : Out} {r : Rs} {s' : OSt} {Q : VK} (e : endR o = .ok r s') (q : SpEnd K c H s' Q r) :
    Fin K { c with H0 := H } [] [] { nx := fun _ H' => Q .non H', rt := Q } o := ends e q fun ρ s => And.intro (fun z => by rw [z] at e; cases e) (fun z => by rw [z] at e; cases e)
/-- a def of the text entered: its body's rules, and their reading at the entry -/
theorem bodyG {P : Program} {w : World} {K : PySem.W.Frag} {mg : Str → Option Value} {base : Heap} {x qual : Str} {st : Stmt} {f : Addr} {fd : FuncData} {N ps : List Str} {k : Nat} {A : Around} {outer : List PySem.Env} {s : Shared} {H : Hp} {args : Args} {us : List Value} {vs : List V} {Q : VK} {t : TS}
    (Fu : L2.Fun K x qual st f fd) (Sc : FnScope N ps (defScope st)) (room : Room (k + 1) A) (at0 : Env0 P w K mg base A outer s H) (bound : BindsTo s fd args (ps.zip us)) (rel : Vals vs us) (hn : vs.length = ps.length)
    (rules : ∀ cdv, PSs (cxOf CX0 P w K mg base N qual (defScope st) f cdv A outer s H E0).nox (defBody st) t) (told : t { nx := fun _ H' => Q .non H', rt := Q } (L2.start N vs) H) :
    codeAny (model P w) A (.call (.ref f) args) (CR CX0 outer P w H s Q E0) s := by
  obtain ⟨_, _, _, _, _, _, code, _, _, rfl, look, incode⟩ := Fu.ex
  have kept : K.In s.heap := fun c o e => (at0.bs c o (at0.mod.kin c o e)).1
  have free : s.heap.NoLimit := by
    obtain ⟨m, q1, q2⟩ := at0.mod.nolimit
    exact ⟨m, q1.keeps fun c o e => (at0.bs c o e).1, q2⟩
  refine codeAny_call_function room.depth (kept _ _ look) rfl Sc.co Sc.gen rfl (PySem.W.codeRec_of kept incode) (bound _ _ _ _ ?_)
  refine wpAny_newFunctionEnv_cells Sc.kind (fun p hp => ?_) fun env he s1 entered => ?_
  · rcases Sc.par p.1 (List.of_mem_zip hp).1 with q | q
    · exact Or.inl q
    · exact Or.inr ⟨q, PySem.W.cellsFrom_some _ _ _ (Or.inl q)⟩
  · subst he
    refine ⟨free.keeps entered.toInCall.keep, codeAny_func ?_⟩
    have inv := inv_start (CX := CX0) (E := E0) (cd := code) (w := w) (P := P) (mg := mg) (base := base) (outer := outer) Sc room.hd at0 hn rel entered
    have close : ∀ {σ' : L2.St} {Hx : Hp} {v : V} {u : Value} {sx : Shared}, Inv (cxOf CX0 P w K mg base N qual (defScope st) f code A outer s H E0) [] σ' Hx sx → RelV v u → Q v Hx → CE outer P w H s Q u sx := by
      intro σ' Hx v u sx J r q
      exact ⟨v, Hx, J.os, J.bare, J.base, J.hok, r, q⟩
    refine wpAny_mono ((rules code).nox.run [] s1 (L2.start N vs) H _ inv told) (fun fl sx hs => ?_) fun _ _ hs => hs
    match fl, hs with
    | .ret u, ⟨v, _, _, J, r, q⟩ => exact close J r q
    | .next, ⟨_, _, J, q⟩ => exact close (v := .non) (u := .none) J rfl q
    | .brk, ⟨_, _, _, q⟩ => exact q.elim
    | .cont, ⟨_, _, _, q⟩ => exact q.elim
/-- what a def's surroundings give -/
theorem ctxG {P : Program} {w : World} {K : PySem.W.Frag} {mg : Str → Option Value} {base : Heap} {qual : Str} {st : Stmt} {f : Addr} {N ps : List Str} {k : Nat} {A : Around} {outer : List PySem.Env} {s : Shared} {H : Hp} (cdv : Value) (Sc : FnScope N ps (defScope st)) (blt : ∀ x ∈ bltNames, mg (Str.ofString x) = none)
    (room : Room (k + 1) A) (hgd : A.guards = some []) : CtxOk (cxOf CX0 P w K mg base N qual (defScope st) f cdv A outer s H E0).nox ⟨N, defScope st, fun _ => true⟩ :=
  ⟨Sc.nd, rfl, blt, hgd, by have := (room.deeper (envOfC qual (defScope st) s.heap.objs.size f cdv)).un; show (A.deeper _).units + 100 < _; omega, rfl, rfl, fun _ _ => rfl, Sc.kind⟩
/-- a def by its body -/
theorem fnG {P : Program} {w : World} {K : PySem.W.Frag} {mg : Str → Option Value} {base : Heap} {x qual : Str} {st : Stmt} {f : Addr} {fd : FuncData} {N ps : List Str} {k : Nat} {b : S}
    (F : L2.Fun K x qual st f fd) (Sc : FnScope N ps (defScope st)) (blt : ∀ x ∈ bltNames, mg (Str.ofString x) = none) (hm : mtSs b ⟨N, defScope st, fun _ => true⟩ (defBody st) = true) (hk : ∀ A, Room k A → okS ⟨P, w, K, mg, base, A⟩ b) :
    FnG P w K mg base (k + 1) f fd ps (evFn N.length ps.length b) := by
  refine ⟨fun A outer s H args us vs Q hr hgd e0 hb r hsp => ?_⟩
  obtain ⟨c, ds, sst, rr, st', hl, reps, pre, hev, hend⟩ := hsp
  have hpl : ps.length ≤ N.length := by have := congrArg List.length Sc.pre; rw [List.length_take] at this; omega
  unfold evFn at hev
  split at hev <;> first | (cases hev; done) | skip
  refine bodyG F Sc hr e0 hb r hl (t := rdS K (exS b)) (fun cdv => ?_) ⟨_, [], [], _, sst, entry (N := N) (by omega) reps pre, ends' hev hend⟩
  exact ((snd_stmt b) _ _ (ctxG cdv Sc blt hr hgd) (hk _ (hr.deeper _)) (fun _ _ z => z.elim)).2 _ hm
theorem evFn_len {n p : Nat} {b : S} {ds : List D} {s s' : OSt} {r : Rs} (h : evFn n p b ds s = .ok r s') : ds.length = p := by
  unfold evFn at h
  split at h
  · assumption
  · cases h
end RS
end
section
set_option Elab.async false
set_option linter.all false
set_option maxRecDepth 100000
set_option autoImplicit false
set_option maxHeartbeats 4000000
/-! RSBegin: the def that makes the draws' state. -/
namespace RS
open PySem PySem.Spec PyProof.Rows L2
def bgComp : Scope := { kind := .function, names := [(".0", .local), ("cell", .local)], isGenerator := false, isCoroutine := false, more := [] }
def bgScope : Scope := { kind := .function, names := [("script", .local), ("cells_so", .local), ("list", .globalImplicit)], isGenerator := false, isCoroutine := false, more := [("fast", .str "script"), ("fast", .str "cells_so"), ("fast", .str "cell")] }
def bgBody (p : Nat → Pos) : List Stmt :=
  [.Assign [.Name "cells_so" (p 0)] (.IfExp (.Compare (.Name "script" (p 1)) [.NotEq] [.List [] (p 2)] (p 3)) (.Call (.Name "list" (p 4)) [.Name "script" (p 5)] [] (p 6)) (.List [.Constant (.int 0) 0 (p 7)] (p 8)) (p 9)) (p 10),
   .Return (some (.Dict [some (.Constant (.str "cells") 0 (p 11)), some (.Constant (.str "lefts") 0 (p 12)), some (.Constant (.str "at") 0 (p 13))]
     [.Name "cells_so" (p 14), .ListComp (.IfExp (.Compare (.Name "cell" (p 15)) [.GtE] [.BinOp (.Constant (.int 10) 0 (p 16)) .Pow (.Constant (.int 18) 0 (p 17)) (p 18)] (p 19)) (.Name "cell" (p 20)) (.Constant (.int 0) 0 (p 21)) (p 22))
        [⟨.Name "cell" (p 23), .Name "cells_so" (p 24), [], 0⟩] bgComp (p 25), .Constant (.int 0) 0 (p 26)] (p 27))) (p 28)]
def leftOf (x : Int) : Int := if x ≥ 10 ^ 18 then x else 0
def cellsOf (ns : List Int) : List Int := if ns = [] then [0] else ns
theorem beginSt_eq (ns : List Int) : beginSt ns = ⟨cellsOf ns, (cellsOf ns).map leftOf, 0⟩ := rfl
def spBegin (K : PySem.W.Frag) : Sp := fun vs H Q _ => ∃ (a : Addr) (ns : List Int), vs = [.ref a] ∧ SqL K H a (ns.map V.int) ∧ ns.length ≤ 63 ∧
  ∀ aS aC aL H', H' aS = some (.dK [(.inr "cells", .ref aC), (.inr "lefts", .ref aL), (.inr "at", .int 0)]) → H' aC = some (.lst ((cellsOf ns).map V.int)) → H' aL = some (.lst (((cellsOf ns).map leftOf).map V.int)) → aC ≠ aL → Q (.ref aS) H'
def rNeN (K : PySem.W.Frag) : R2 := fun x y H Q => ∃ (a b : Addr) (ns : List Int), x = .ref a ∧ y = .ref b ∧ SqL K H a (ns.map V.int) ∧ H b = some (.lst []) ∧ Q (.bl (!ns.isEmpty)) H
theorem ints_dp {K : PySem.W.Frag} {H : Hp} : ∀ ns : List Int, DpAll K H (ns.map V.int) (D.pys (ns.map D.int))
  | [] => .nil
  | n :: ns => .cons (.int n) (ints_dp ns)
theorem ints_deep (n : Nat) : ∀ ns : List Int, D.deeps n (ns.map D.int) = true
  | [] => rfl
  | m :: ns => by rw [List.map_cons, D.deeps, D.deep, ints_deep n ns]; cases n <;> rfl
theorem op_neN {X : Cx} (hu : X.A.units + 64 < cLine) : OpR X (compareOp .NotEq) (rNeN X.K) := by
  rintro pins s σ H x y v u Q I rx ry ⟨a, b, ns, rfl, rfl, ha, hb, q⟩
  have h1 : D.deep DEEP (.lst (ns.map D.int)) = true := by show D.deep (59 + 1) _ = true; rw [D.deep]; exact ints_deep _ _
  have h2 : D.deep DEEP (.lst []) = true := rfl
  have p1 : Dp X.K H (.ref a) (D.lst (ns.map D.int)).py := by rw [D.py]; exact .lst ha (ints_dp ns)
  have p2 : Dp X.K H (.ref b) (D.lst []).py := by rw [D.py]; exact .lst (SqL.of hb) .nil
  obtain ⟨as, r1⟩ := Dp.reads I _ _ v p1 rx
  obtain ⟨bs, r2⟩ := Dp.reads I _ _ u p2 ry
  have h3 := deep_depth _ _ h1
  have h4 : DEEP = 60 := rfl
  refine SeqAt.ne_plain r1 r2 (deep_plain _ _ h1) (deep_plain _ _ h2) (by omega) ⟨.bl (!ns.isEmpty), H, I, ?_, q⟩
  rw [eqv_py _ _ _ _ h1 h2]
  cases ns <;> rfl
section
variable {X : Cx} {p : Nat → Pos}
def tLefts (K : PySem.W.Frag) : TE := tLc (iList K (tVar 1)) (gName 2) tYes (tIf (tTest (tOp (rI0 fun i j => .bl (decide (j ≤ i))) (tVar 2) (tOp (rI CPow fun i j => .int (i ^ j.toNat)) (tC (.int 10)) (tC (.int 18))))) (tVar 2) (tC (.int 0))) [2]
def tBegin (K : PySem.W.Frag) : TS := tSeq
  (tAsg (tIf (tTest (tOp (rNeN K) (tVar 0) (tLst tNil))) (tCB (fun xs H Q => ∃ p ys, xs = [.ref p] ∧ (SqL K H p ys ∨ SqT K H p ys) ∧ ∀ l, H l = none → Q (.ref l) (upd H l (.lst ys))) (tCons (tVar 0) tNil)) (tLst (tCons (tC (.int 0)) tNil))) (gName 1))
  (tRet (tDisp [(tC (.str "cells"), tVar 1), (tC (.str "lefts"), tLefts K), (tC (.str "at"), tC (.int 0))]))
theorem begin_ps (hN : X.N = (["script", "cells_so", "cell"] : List Str)) (hs : X.env.scope = bgScope) (hc : X.calm = true) (hu : X.A.units + 100 < cLine) (hf : X.fn = fun _ => true) (hl : X.mg "list" = none) : PSs X (bgBody p) (tBegin X.K) := by
  have nd : X.N.Nodup := by rw [hN]; decide
  have n0 : X.N[0]? = some ("script" : Str) := by rw [hN]; rfl
  have n1 : X.N[1]? = some ("cells_so" : Str) := by rw [hN]; rfl
  have n2 : X.N[2]? = some ("cell" : Str) := by rw [hN]; rfl
  have l0 : X.env.scope.names.lookup ("script" : Str) = some .local := by rw [hs]; rfl
  have l1 : X.env.scope.names.lookup ("cells_so" : Str) = some .local := by rw [hs]; rfl
  have gl : Gl X "list" := by show X.env.scope.names.lookup ("list" : Str) = _; rw [hs]; rfl
  have bk : BlkOk X.N X.env.scope bgComp [("cell", 2)] := by rw [hN, hs]; exact blkOk_by (by decide)
  have v0 : ∀ q, PE X (.Name "script" q) (tVar 0) := fun q => pe_var n0 (.inl l0)
  have v1 : ∀ q, PE X (.Name "cells_so" q) (tVar 1) := fun q => pe_var n1 (.inl l1)
  have vC : ∀ (s : Shared) (H : Hp) (C : Addr) (cl : List (Str × Addr)) (fp : List Addr) (q : Pos), PE (X.blk s H bgComp (compEnvC bgComp cl C X.env) fp) (.Name "cell" q) (tVar 2) := fun s H C cl fp q => pe_var n2 (.inl (lookup_relS_keep (by decide) rfl))
  have gC : ∀ (s : Shared) (H : Hp) (C : Addr) (cl : List (Str × Addr)) (fp : List Addr) (q : Pos), PG (X.blk s H bgComp (compEnvC bgComp cl C X.env) fp) (.Name "cell" q) (gName 2) := fun s H C cl fp q =>
    pg_name nd n2 (.inl (lookup_relS_keep (by decide) rfl)) (.inr (lookup_relS_keep (by decide) rfl))
  refine pss_cons (ps_set nd n1 (.inl l1) (pe_ifExp (pt_cmpR (op_neN (by omega)) (v0 _) (pe_lst pa_nil) rfl) (pe_callTy call_list_of gl hl rfl (pa_cons (v0 _) pa_nil)) (pe_lst (pa_cons pe_int pa_nil))) rfl (.inr l1)) (pss_one (ps_ret (pe_disp (pps_cons pe_str (v1 _) (pps_cons pe_str ?_ (pps_cons pe_str pe_int pps_nil))) rfl rfl (by simp) (by simp))))
  exact pe_lc (own := [("cell", 2)]) hc nd (pi_list (v1 _)) bk (fun s H C cl fp => gC s H C cl fp _) (fun s H C cl fp => pts_nil)
    (fun s H C cl fp => pe_ifExp (pt_cmpR op_ge (vC s H C cl fp _) (pe_op op_pow pe_int pe_int) rfl) (vC s H C cl fp _) pe_int)
end
end RS
end
section
set_option Elab.async false
set_option linter.all false
set_option maxRecDepth 100000
set_option autoImplicit false
set_option maxHeartbeats 4000000
/-! RSBegin2: what that def computes. -/
namespace RS
open PySem PySem.Spec PyProof.Rows L2
theorem sqL_upd {K : PySem.W.Frag} {H : Hp} {a p : Addr} {xs : List V} {o : HO} (hp : H p = none) (h : SqL K H a xs) : SqL K (upd H p o) a xs := by
  rcases h with (h | ⟨ob, h⟩) | h
  · exact .inl (.inl (by rw [upd_ne (ne_of_none h hp)]; exact h))
  · exact .inl (.inr ⟨ob, by rw [upd_ne (ne_of_none h hp)]; exact h⟩)
  · exact .inr h
theorem begin_end {K : PySem.W.Frag} {D : Ends} {a p1 : Addr} {ns : List Int} {H : Hp} (hc : H p1 = some (.lst ((cellsOf ns).map V.int))) (hl : ns.length ≤ 63)
    (q : ∀ aS aC aL H', H' aS = some (.dK [(.inr "cells", .ref aC), (.inr "lefts", .ref aL), (.inr "at", .int 0)]) → H' aC = some (.lst ((cellsOf ns).map V.int)) → H' aL = some (.lst (((cellsOf ns).map leftOf).map V.int)) → aC ≠ aL → D.rt (.ref aS) H') :
    tRet (tDisp [(tC (.str "cells"), tVar 1), (tC (.str "lefts"), tLefts K), (tC (.str "at"), tC (.int 0))]) D [some (.ref a), some (.ref p1), none] H := by
  have hlen : (cellsOf ns).length ≤ 63 := by
    unfold cellsOf
    split
    · exact Nat.le_of_ble_eq_true rfl
    · exact hl
  intro p2 hp2
  have n12 : p1 ≠ p2 := fun z => by rw [z, hp2] at hc; cases hc
  refine ⟨.ref p1, rfl, ?_⟩
  dsimp only [tPairs, tC]
  have hc2 : (upd H p2 (.dK [])) p1 = some (.lst ((cellsOf ns).map V.int)) := by rw [upd_ne n12]; exact hc
  refine ⟨.ref p1, rfl, p1, rfl, ⟨_, SqL.of hc2⟩, fun L hL => ?_⟩
  have n1 : p1 ≠ L := fun z => by rw [z, hL] at hc2; cases hc2
  have n2 : p2 ≠ L := fun z => by rw [← z, upd_same] at hL; cases hL
  refine lc_list (xs := (cellsOf ns).map V.int) (fun i H' => H' = upd (upd H p2 (.dK [])) L (.lst ((((cellsOf ns).take i).map leftOf).map V.int))) rfl (fun i H' _ e => ?_) (fun i x H' hx e => ?_) (fun H' e => ?_)
  · rw [e]
    exact SqL.of (by rw [upd_ne n1]; exact hc2)
  · rw [List.getElem?_map] at hx
    cases hg : (cellsOf ns)[i]? with
    | none => rw [hg] at hx; cases hx
    | some c =>
      rw [hg] at hx
      cases hx
      refine ⟨rfl, ?_⟩
      unfold tYes
      dsimp only
      rw [if_pos rfl]
      have e10 : (10 : Int) ^ (18 : Int).toNat = 10 ^ 18 := rfl
      have fin : ∃ acc, H' L = some (.lst acc) ∧ acc.length < sizeLine ∧ upd H' L (.lst (acc ++ [.int (leftOf c)])) = upd (upd H p2 (.dK [])) L (.lst ((((cellsOf ns).take (i + 1)).map leftOf).map V.int)) := by
        refine ⟨_, by rw [e, upd_same], ?_, ?_⟩
        · simp only [List.length_map, List.length_take]
          rw [sizeLine_eq]; omega
        · rw [e, upd_upd]
          have hi : i < (cellsOf ns).length := lt_of_get hg
          have : (cellsOf ns)[i] = c := by rw [List.getElem?_eq_getElem hi] at hg; exact Option.some.inj hg
          rw [List.take_succ_eq_append_getElem hi, this, List.map_append, List.map_append]
          rfl
      refine ⟨.int c, rfl, 10, 18, rfl, rfl, ⟨by decide, by decide, by decide⟩, c, _, rfl, rfl, _, rfl, ?_⟩
      dsimp only
      by_cases h : c ≥ 10 ^ 18
      · rw [if_pos (by rw [decide_eq_true_eq]; exact h)]
        refine ⟨.int c, rfl, ?_⟩
        have el : leftOf c = c := if_pos h
        rw [el] at fin
        exact fin
      · rw [if_neg (by rw [decide_eq_true_eq]; exact h)]
        have el : leftOf c = 0 := if_neg h
        rw [el] at fin
        exact fin
  · have e' : H' = upd (upd H p2 (.dK [])) L (.lst (((cellsOf ns).map leftOf).map V.int)) := by
      rw [e, List.length_map, List.take_length]
    rw [e']
    refine ⟨by rw [upd_ne n2, upd_same], [(.inr "cells", .ref p1), (.inr "lefts", .ref L), (.inr "at", .int 0)], rfl, by show 3 ≤ 15; omega, ?_⟩
    refine q p2 p1 L _ (by rw [upd_same]; rfl) (by rw [upd_ne n12, upd_ne n1]; exact hc2) (by rw [upd_ne (Ne.symm n2), upd_same]) n1
theorem begin_rd {K : PySem.W.Frag} {a : Addr} {ns : List Int} {D : Ends} {H : Hp} (hS : SqL K H a (ns.map V.int)) (hl : ns.length ≤ 63)
    (q : ∀ aS aC aL H', H' aS = some (.dK [(.inr "cells", .ref aC), (.inr "lefts", .ref aL), (.inr "at", .int 0)]) → H' aC = some (.lst ((cellsOf ns).map V.int)) → H' aL = some (.lst (((cellsOf ns).map leftOf).map V.int)) → aC ≠ aL → D.rt (.ref aS) H') :
    tBegin K D [some (.ref a), none, none] H := by
  refine ⟨.ref a, rfl, Nat.zero_le _, fun p hp => ⟨a, p, ns, rfl, rfl, sqL_upd hp hS, upd_same, _, rfl, ?_⟩⟩
  dsimp only
  cases ns with
  | nil =>
    rw [if_neg (by simp)]
    refine ⟨by rw [sizeLine_eq]; show 1 ≤ _; omega, fun p1 hp1 => ?_⟩
    exact begin_end (ns := []) (by rw [upd_same]; rfl) hl q
  | cons n ns =>
    rw [if_pos (by simp)]
    refine ⟨.ref a, rfl, a, _, rfl, .inl (sqL_upd hp hS), fun p1 hp1 => ?_⟩
    exact begin_end (ns := n :: ns) (by rw [upd_same]; rfl) hl q
theorem begin_fn {P : Program} {w : World} {K : PySem.W.Frag} {mg : Str → Option Value} {base : Heap} {x qual : Str} {st : Stmt} {f : Addr} {fd : FuncData} {k : Nat} {p : Nat → Pos}
    (F : L2.Fun K x qual st f fd) (hb : defBody st = bgBody p) (hs : defScope st = bgScope) (hl : mg "list" = none) : FnOk P w K mg base CX0 (k + 1) f fd ["script"] (spBegin K) := by
  refine F.ok (N := ["script", "cells_so", "cell"]) ?_ (fun vs H Q E ⟨a, ns, e, _⟩ => by rw [e]; rfl) fun cdv A outer s H vs Q E hr ⟨a, ns, e, hS, hl', q⟩ => ⟨tBegin K, ?_, ?_⟩
  · rw [hs]
    exact ⟨rfl, rfl, rfl, by decide, rfl, by decide, by decide⟩
  · rw [hb]
    exact begin_ps rfl hs rfl (by have := hr.un; show (A.deeper _).units + 100 < _; omega) rfl hl
  · subst e
    exact begin_rd hS hl' q
end RS
end
section
set_option Elab.async false
set_option linter.all false
set_option maxRecDepth 100000
set_option autoImplicit false
set_option maxHeartbeats 4000000
/-! RSLaw: the law's def, and what the head asks of it. -/
namespace RS
open PySem PySem.Spec PyProof.Rows L2
def lawE (n j : Nat) : RS.Env := (List.replicate n Slot.no).set j (.sh .st)
def spLaw (K : PySem.W.Frag) (n j : Nat) (b : S) : List V → Hp → VK → Prop := fun vs H Q => ∃ (a : Addr) (ns : List Int) (st' : OSt), vs = [.ref a] ∧ SqL K H a (ns.map V.int) ∧ ns.length ≤ 63 ∧
  endR (exS b (lawE n j) (beginSt ns)) = .ok (.sh (.bl true)) st' ∧ ∀ H', Q (.bl true) H'
theorem lawE_get {n j i : Nat} {x : Slot} (h : (lawE n j)[i]? = some x) (hx : x ≠ .no) : i = j ∧ x = .sh .st := by
  unfold lawE at h
  by_cases e : j = i
  · subst e
    rw [List.getElem?_set] at h
    simp only [if_true] at h
    split at h
    · cases h; exact ⟨rfl, rfl⟩
    · cases h
  · rw [List.getElem?_set_ne e, List.getElem?_replicate] at h
    split at h
    · cases h; exact (hx rfl).elim
    · cases h
theorem law_pt {K : PySem.W.Frag} {H : Hp} {aS aC aL : Addr} {ns : List Int} {N : List Str} {vs : List V} {j : Nat} (hj : j < N.length) (hv : vs.length ≤ N.length) (hl : ns.length ≤ 63) (h1 : H aS = some (.dK [(.inr "cells", .ref aC), (.inr "lefts", .ref aL), (.inr "at", .int 0)])) (h2 : H aC = some (.lst ((cellsOf ns).map V.int)))
    (h3 : H aL = some (.lst (((cellsOf ns).map leftOf).map V.int))) (h4 : aC ≠ aL) : Pt K ⟨fun a => a = aS ∨ a = aL ∨ a = aC, H, aS, aL, aC⟩ [] [] ((L2.start N vs).set j (some (.ref aS))) H (lawE N.length j) (beginSt ns) := by
  rw [beginSt_eq]
  have hc : 0 < (cellsOf ns).length ∧ (cellsOf ns).length ≤ 1000 := by
    unfold cellsOf
    split
    · exact ⟨Nat.le_refl 1, by show 1 ≤ 1000; omega⟩
    · rename_i h
      exact ⟨List.length_pos_iff.mpr h, by omega⟩
  have hl2 : (L2.start N vs).length = N.length := start_len hv
  refine ⟨[(.st, .ref aS)], [], ⟨fun p hp => ?_, fun p hp => absurd hp (by simp), by simp, ⟨h1, h2, h3, h4, by simp, hc.1, hc.2⟩, ⟨.inl rfl, .inr (.inl rfl), .inr (.inr rfl)⟩, fun a ha => ?_, Keeps.refl⟩, fun p hp => absurd hp (by simp), fun p hp => absurd hp (by simp), by simp, ?_⟩
  · rw [List.mem_singleton.mp hp]
    show Rep K aS _ H .st (.ref aS)
    rw [Rep]
  · rcases ha with e | e | e <;> rw [e]
    · exact ⟨.dK _, h1, trivial⟩
    · exact ⟨.lst _, h3, trivial⟩
    · exact ⟨.lst _, h2, trivial⟩
  · refine ⟨by unfold lawE; simp [hl2], fun i d h => ?_, fun i d h => ?_, fun i k d e a h => ?_⟩
    · obtain ⟨rfl, e⟩ := lawE_get h (by intro z; cases z)
      cases e
      exact ⟨.ref aS, by rw [List.getElem?_set_self (by rw [hl2]; exact hj)], List.mem_singleton.mpr rfl⟩
    · obtain ⟨_, e⟩ := lawE_get h (by intro z; cases z)
      cases e
    · obtain ⟨_, e⟩ := lawE_get h (by intro z; cases z)
      cases e
def locC (sc : Scope) (y : Str) : Bool := decide (sc.names.lookup y = some .local) || decide (sc.names.lookup y = some .cell)
theorem locC_of {sc : Scope} {y : Str} (h : locC sc y = true) : L2.Loc sc y := by
  rcases (Bool.or_eq_true _ _).mp h with q | q
  · exact .inl (of_decide_eq_true q)
  · exact .inr (of_decide_eq_true q)
theorem lawG {P : Program} {w : World} {K : PySem.W.Frag} {mg : Str → Option Value} {base : Heap} {x qual y : Str} {st : Stmt} {f fb : Addr} {fd fdb : FuncData} {N : List Str} {k kb j : Nat} {b : S} {p1 p2 p3 p4 p5 : Pos} {rest : List Stmt}
    (F : L2.Fun K x qual st f fd) (Sc : FnScope N ["script"] (defScope st)) (blt : ∀ x ∈ bltNames, mg (Str.ofString x) = none)
    (hbody : defBody st = .Assign [.Name y p1] (.Call (.Name "_law_begin" p2) [.Name "script" p3] [] p4) p5 :: rest) (hj : N[j]? = some y) (hyl : locC (defScope st) y = true) (h0 : N[0]? = some ("script" : Str))
    (l0 : (defScope st).names.lookup ("script" : Str) = some .local) (gb : (defScope st).names.lookup ("_law_begin" : Str) = some .globalImplicit)
    (hm : mtSs b ⟨N, defScope st, fun _ => true⟩ rest = true) (hk : ∀ A, Room k A → okS ⟨P, w, K, mg, base, A⟩ b)
    (FB : FnOk P w K mg base CX0 kb fb fdb ["script"] (spBegin K)) (hkb : kb ≤ k) (mb : mg "_law_begin" = some (.ref fb)) (kpb : PySem.W.keepIn K (.ref fb) = true) (bb : Binds K fdb ["script"] []) :
    ∀ (A : Around) (outer : List PySem.Env) (s : Shared) (H : Hp) (args : Args) (us : List Value) (vs : List V) (Q : VK), Room (k + 1) A → A.guards = some [] → Env0 P w K mg base A outer s H →
      BindsTo s fd args ((["script"] : List Str).zip us) → Vals vs us → spLaw K N.length j b vs H Q → codeAny (model P w) A (.call (.ref f) args) (CR CX0 outer P w H s Q E0) s := by
  intro A outer s H args us vs Q hr hgd e0 hb r hsp
  obtain ⟨a, ns, st', rfl, hS, hl, hend, hq⟩ := hsp
  have hN1 : 1 ≤ N.length := lt_of_get h0
  refine bodyG F Sc hr e0 hb r rfl (t := tSeq (tAsg (tCall (spBegin K) [] E0 (tCons (tVar 0) tNil)) (gName j)) (rdS K (exS b))) (fun cdv => ?_) ?_
  · have ok := ctxG (P := P) (w := w) (K := K) (base := base) (qual := qual) (f := f) (outer := outer) (s := s) (H := H) cdv Sc blt hr hgd
    have hr' := hr.deeper (envOfC qual (defScope st) s.heap.objs.size f cdv)
    have pb := ((snd_stmt b) _ _ ok (hk _ hr') (fun _ _ z => z.elim)).2 _ hm
    have pa : PS (cxOf CX0 P w K mg base N qual (defScope st) f cdv A outer s H E0).nox (.Assign [.Name y p1] (.Call (.Name "_law_begin" p2) [.Name "script" p3] [] p4) p5) (tAsg (tCall (spBegin K) [] E0 (tCons (tVar 0) tNil)) (gName j)) :=
      ps_set Sc.nd hj (locC_of hyl) (pe_call FB (hr'.mono hkb) gb mb kpb bb .nil pass0 (pa_cons (pe_var h0 (.inl l0)) pa_nil)) rfl (.inl rfl)
    rw [hbody]
    exact pss_cons pa pb
  · refine ⟨.ref a, start_get rfl, a, ns, rfl, hS, hl, fun aS aC aL H' h1 h2 h3 h4 => ?_⟩
    have pt := law_pt (K := K) (N := N) (vs := [.ref a]) (lt_of_get hj) hN1 hl h1 h2 h3 h4
    refine ⟨_, [], [], _, _, pt, ends' (c := ⟨fun a => a = aS ∨ a = aL ∨ a = aC, H', aS, aL, aC⟩) hend ?_⟩
    intro v H2 _ _ rep
    rw [Rep] at rep
    rw [rep]
    exact hq H2
end RS
end
section
set_option Elab.async false
set_option linter.all false
set_option maxRecDepth 100000
set_option autoImplicit false
set_option maxHeartbeats 4000000
/-! RSEnd: from the law's promise, where nothing is being shown, to the goal of the head. -/
namespace RS
open PySem PySem.Spec PyProof.Rows L2
/-- the law's def called where the head calls it -/
abbrev LawGo (P : Program) (w : World) (K : PySem.W.Frag) (mg : Str → Option Value) (base : Heap) (fa : Addr) (fd : FuncData) (x : Str) (n j : Nat) (b : S) : Prop :=
  ∀ (A : Around) (outer : List PySem.Env) (s : Shared) (H : Hp) (args : Args) (us : List Value) (vs : List V) (Q : VK), Room 30 A → A.guards = some [] → Env0 P w K mg base A outer s H →
    BindsTo s fd args (([x] : List Str).zip us) → Vals vs us → spLaw K n j b vs H Q → codeAny (model P w) A (.call (.ref fa) args) (CR CX0 outer P w H s Q E0) s
/-- what the caller of a law may see at its end -/
abbrev Told (s₁ : Shared) : Result → Shared → Prop := fun r s' => r = .ok (.ret (.bool true)) ∧ OldK s₁.heap s'.heap ∧ s'.os = s₁.os ∧ AllBare s'.gens
section
variable {P : Program} {w : World} {K : PySem.W.Frag} {mg mb : Str → Option Value} {fa a : Addr} {fd : FuncData} {x : Str} {s₁ : Shared} {vs : List Value} {ns : List Int} {n j : Nat} {b : S}
/-- an abstract heap that tells the script, or nothing -/
structure Tells (K : PySem.W.Frag) (P : Program) (w : World) (a : Addr) (ns : List Int) (s₁ : Shared) (H : Hp) : Prop where
  only : ∀ c u, H c = some u → c = a ∧ K.lookup a = none ∧ ∃ o xs, u = .frz o (.lst xs)
  sq : SqL K H a (ns.map V.int)
  ok : HOk P w H s₁.heap
theorem tells_go {H : Hp} (t : Tells K P w a ns s₁ H) (KX : K.In s₁.heap) (hns : s₁.heap.Ns mainGlobals mg) (hb : s₁.heap.Ns builtinsNs mb) (hbb : ∀ x : Str, x ≠ "__name__" → mb x = bootBuiltins x) (hlim : s₁.heap.NoLimit) (hg : s₁.gens = #[])
    (ha : s₁.heap.get? a = some { cls := .type "list", data := .seq vs.toArray }) (hl : ns.length ≤ 63) (F : ∀ base : Heap, K.In base → base.Ns mainGlobals mg → LawGo P w K mg base fa fd x n j b)
    (hbind : ∀ (s : Shared) (u : Value), BindsTo s fd ⟨[u], []⟩ [(x, u)]) {st' : OSt} (hrun : endR (exS b (lawE n j) (beginSt ns)) = .ok (.sh (.bl true)) st') : codeAny (model P w) callerA (.call (.ref fa) ⟨[.ref a], []⟩) (Told s₁) s₁ := by
  -- a record that is no list stays in the base
  have stays : ∀ {c : Addr} {o : Obj}, s₁.heap.get? c = some o → (c = a → K.lookup a ≠ none ∨ ∃ es ep, o.data = .dict es ep) → (hidT s₁.heap H).get? c = some o := by
    intro c o e h
    refine hidT_get e ?_
    cases q : H c with
    | none => rfl
    | some u =>
      exfalso
      obtain ⟨rfl, hk, _⟩ := t.only c u q
      rcases h rfl with z | ⟨es, ep, z⟩
      · exact z hk
      · rw [ha] at e
        cases e
        cases (show Data.seq vs.toArray _ = Data.dict es ep from z)
  have ns_in : ∀ {c : Addr} {m : Str → Option Value}, s₁.heap.Ns c m → (hidT s₁.heap H).Ns c m := by
    rintro c m ⟨o, es, ep, e, d, r⟩
    exact ⟨o, es, ep, stays e fun _ => .inr ⟨es, ep, d⟩, d, r⟩
  have kin : K.In (hidT s₁.heap H) := fun c o e => stays (KX c o e) fun z => .inl (by rw [← z, e]; simp)
  have mod : Mod K mg (hidT s₁.heap H) := by
    obtain ⟨mc, h1, h2⟩ := hlim
    exact ⟨kin, ns_in hns, ⟨mb, ns_in hb, hbb⟩, mc, ns_in h1, h2⟩
  have env : Env0 P w K mg (hidT s₁.heap H) callerA [] s₁ H :=
    ⟨rfl, mod, fun _ _ e => of_hidT e, Nat.le_of_eq (hidT_size _ _), trivial, fun c hc => absurd (show c ∈ ([] : List Addr) from hc) (by simp), t.ok, .of_eq hg⟩
  have go := F _ kin (ns_in hns) callerA [] s₁ H ⟨[.ref a], []⟩ [.ref a] [.ref a] (fun v _ => v = .bl true) ⟨rfl, by decide, by decide⟩ rfl env (hbind s₁ (.ref a)) (.cons rfl .nil) ⟨a, ns, st', rfl, t.sq, hl, hrun, fun _ => rfl⟩
  refine codeAny_mono go fun r s' h => ?_
  match r, h with
  | .ok (.ret u), ⟨v, H', os, bare, un, hok', rv, ev⟩ =>
    have ev : v = .bl true := ev
    subst ev
    cases (show u = Value.bool true from rv)
    refine ⟨rfl, OldK.of_keep fun c o e => ?_, os, bare⟩
    cases q : H c with
    | none => exact un.keep c o e q (fun z => absurd (show c ∈ ([] : List Addr) from z) (by simp)) (by simp)
    | some u =>
      obtain ⟨rfl, _, ob, xs, rfl⟩ := t.only c u q
      have k1 := (t.ok _ _ q).1
      have k2 := (hok' _ _ (un.frzs _ ob _ q)).1
      rw [e] at k1
      cases k1
      exact k2
theorem tells_some (KX : K.In s₁.heap) (ha : s₁.heap.get? a = some { cls := .type "list", data := .seq vs.toArray }) (hi : IntsAre vs ns) (hl : ns.length ≤ 63) : ∃ H, Tells K P w a ns s₁ H := by
  have rv := vals_ints hi
  have lv := hi.length
  have hz : ns.length ≤ sizeLine := by rw [sizeLine_eq]; omega
  cases hk : K.lookup a with
  | some o =>
    have e := KX a o hk
    rw [ha] at e
    cases e
    exact ⟨fun _ => none, fun c u q => (by cases q), .inr ⟨_, vs.toArray, _, hk, rfl, rfl, rfl, by rw [List.size_toArray, lv]; exact hz, by simpa using rv⟩, fun c u q => by cases (show (none : Option HO) = some u from q)⟩
  | none =>
    have at_ : ∀ c u, (if c = a then some (HO.frz { cls := .type "list", data := .seq vs.toArray } (.lst (ns.map V.int))) else none) = some u → c = a ∧ u = .frz { cls := .type "list", data := .seq vs.toArray } (.lst (ns.map V.int)) := fun c u q => by
      split at q
      · rename_i e; cases q; exact ⟨e, rfl⟩
      · cases q
    refine ⟨fun c => if c = a then some (.frz { cls := .type "list", data := .seq vs.toArray } (.lst (ns.map V.int))) else none, fun c u q => ?_, .inl (.inr ⟨{ cls := .type "list", data := .seq vs.toArray }, if_pos rfl⟩), fun c u q => ?_⟩
    · obtain ⟨e, rfl⟩ := at_ c u q
      exact ⟨e, hk, _, _, rfl⟩
    · obtain ⟨rfl, rfl⟩ := at_ c u q
      exact ⟨ha, by rw [List.length_map]; exact hz, vs, _, rv, ha⟩
end
/-- the goal behind the head -/
theorem walkG {law : PySem.W.OpenLaw} {prog : Program} {los : List Str} {Xp : (Str → Option Value) → Heap → Prop} {Yp : World → Heap → Prop} {rec : DefRec} {K : Params → PySem.W.Frag} {x : Str} {n j : Nat} {b : S}
    (most : law.most = some 63) (plain : rec.params.defaults = []) (told : ∀ (w : World) (h : Heap), Yp w h → (K w.params).In h)
    (promise : ∀ (w : World) (mg : Str → Option Value) (fa : Addr) (h : Heap), (K w.params).In h → h.Ns mainGlobals mg → mg rec.name = some (.ref fa) → ∃ fd : FuncData,
      (∀ (s : Shared) (u : Value), BindsTo s fd ⟨[u], []⟩ [(x, u)]) ∧ ∀ base : Heap, (K w.params).In base → base.Ns mainGlobals mg → LawGo law.prog w (K w.params) mg base fa fd x n j b)
    (hrun : ∀ ns : List Int, ns.length ≤ 63 → ∃ st', endR (exS b (lawE n j) (beginSt ns)) = .ok (.sh (.bl true)) st') :
    PySem.W.WalkO prog los Xp Yp law.row.toRowW rec [] fun f vs => PySem.call f vs := by
  refine Att.attach_call most plain fun w _ s₁ mg mb fa _ _ _ _ a vs ns top Y _ _ _ hmg hobj hints hlen hg => ?_
  have kin := told w _ Y
  obtain ⟨fd, binds, go⟩ := promise w mg fa _ kin top.T.g hmg
  obtain ⟨H, t⟩ := tells_some (K := K w.params) (P := law.prog) (w := w) kin hobj hints hlen
  obtain ⟨st', hr⟩ := hrun ns hlen
  exact tells_go t kin top.T.g top.T.b top.T.builtins top.T.nolimit hg hobj hlen go binds hr
end RS
end
section
set_option Elab.async false
set_option linter.all false
set_option maxRecDepth 100000
set_option autoImplicit false
set_option maxHeartbeats 4000000
/-! RSGlue: a law's defs one after another. -/
namespace RS
open PySem PySem.Spec PyProof.Rows L2
/-- the text's def x, as the top has left it -/
def DefAt (K : PySem.W.Frag) (mg : Str → Option Value) (x : String) (st : Stmt) : Prop := ∃ f fd, mg (Str.ofString x) = some (.ref f) ∧ L2.Fun K (Str.ofString x) (Str.ofString x) st f fd
def IsD (K : PySem.W.Frag) (d : D) (u : Value) : Prop := ∃ v, RelV v u ∧ ∀ aS O H, Rep K aS O H d v
/-- a def that keeps its promise -/
def Has (P : Program) (w : World) (K : PySem.W.Frag) (mg : Str → Option Value) (base : Heap) (x : String) (st : Stmt) (ps : List Str) (lv : Nat) (fn : Fn) : Prop :=
  ∃ f fd, mg (Str.ofString x) = some (.ref f) ∧ L2.Fun K (Str.ofString x) (Str.ofString x) st f fd ∧ L2.Binds K fd ps [] ∧ FnG P w K mg base lv f fd ps fn ∧ ∀ ds s r s', fn ds s = .ok r s' → ds.length = ps.length
def scB (N ps : List Str) (sc : Scope) : Bool := decide (sc.kind = .function) && !sc.isCoroutine && !sc.isGenerator && decide N.Nodup && decide (N.take ps.length = ps) && ps.all (fun x => decide (sc.names.lookup x = some .local) || decide (sc.names.lookup x = some .cell)) && sc.names.all fun y => !decide (y.2 = .free)
theorem scB_of {N ps : List Str} {sc : Scope} (h : scB N ps sc = true) : FnScope N ps sc := by
  unfold scB at h
  rw [Bool.and_eq_true, Bool.and_eq_true, Bool.and_eq_true, Bool.and_eq_true, Bool.and_eq_true, Bool.and_eq_true] at h
  obtain ⟨⟨⟨⟨⟨⟨kd, co⟩, gn⟩, nd⟩, pre⟩, par⟩, fr⟩ := h
  refine ⟨of_decide_eq_true kd, by simpa using co, by simpa using gn, of_decide_eq_true nd, of_decide_eq_true pre, fun y hy => ?_, fun y hy z => ?_⟩
  · have := List.all_eq_true.mp par y hy
    simpa using this
  · have := List.all_eq_true.mp fr y hy
    simp [z] at this
section
variable {P : Program} {w : World} {K : PySem.W.Frag} {mg : Str → Option Value} {base : Heap} {x : String} {st : Stmt} {ps N : List Str} {k lv : Nat} {b : S}
theorem has_of (D : DefAt K mg x st) (blt : ∀ x ∈ bltNames, mg (Str.ofString x) = none) (hs : scB N ps (defScope st) = true) (hm : mtSs b ⟨N, defScope st, fun _ => true⟩ (defBody st) = true)
    (hb : ∀ (kV doc pm : Value) (an : Option Addr) (cdv ct : Value) (us : List Value), us.length = ps.length → bindArgs (PySem.W.fnOf (Str.ofString x) (Str.ofString x) (defArgs st) (defBody st) (defScope st) .none kV doc pm an cdv ct) ⟨us, []⟩ = pure (ps.zip us))
    (hk : ∀ A, Room k A → okS ⟨P, w, K, mg, base, A⟩ b) : Has P w K mg base x st ps (k + 1) (evFn N.length ps.length b) := by
  obtain ⟨f, fd, h1, h2⟩ := D
  exact ⟨f, fd, h1, h2, h2.binds hb, fnG h2 (scB_of hs) blt hm hk, fun _ _ _ _ e => evFn_len e⟩
/-- what no promise is asked of -/
theorem has_never (D : DefAt K mg x st) (hb : ∀ (kV doc pm : Value) (an : Option Addr) (cdv ct : Value) (us : List Value), us.length = ps.length → bindArgs (PySem.W.fnOf (Str.ofString x) (Str.ofString x) (defArgs st) (defBody st) (defScope st) .none kV doc pm an cdv ct) ⟨us, []⟩ = pure (ps.zip us)) :
    Has P w K mg base x st ps 1 (fun _ _ => .no) := by
  obtain ⟨f, fd, h1, h2⟩ := D
  refine ⟨f, fd, h1, h2, h2.binds hb, ⟨fun A outer s H args us vs Q _ _ _ _ _ h => ?_⟩, fun _ _ _ _ e => by cases e⟩
  obtain ⟨_, _, _, _, _, _, _, _, e, _⟩ := h
  cases e
theorem Has.call {A : Around} {fn : Fn} (h : Has P w K mg base x st ps lv fn) (hr : Room k A) (hl : lv ≤ k) : CallOk ⟨P, w, K, mg, base, A⟩ x fn := by
  obtain ⟨f, fd, h1, h2, h3, h4, h5⟩ := h
  exact ⟨lv, f, fd, ps, h1, h2.kp, h3, h4, hr.mono hl, h5⟩
theorem Has.callK {A : Around} {fn : Fn} {ks : List String} {perm : List Nat} (h : Has P w K mg base x st ps lv fn) (hr : Room k A) (hl : lv ≤ k)
    (hb : ∀ (kV doc pm : Value) (an : Option Addr) (cdv ct : Value) (s : Shared) (ws : List Value), ws.length = ks.length → BindsTo s (PySem.W.fnOf (Str.ofString x) (Str.ofString x) (defArgs st) (defBody st) (defScope st) .none kV doc pm an cdv ct) ⟨[], (ks.map Str.ofString).zip ws⟩ (ps.zip (perm.map fun i => ws.getD i .none)))
    (hp : ∀ i ∈ perm, i < ks.length) : CallKOk ⟨P, w, K, mg, base, A⟩ x fn ks perm := by
  obtain ⟨f, fd, h1, h2, h3, h4, h5⟩ := h
  obtain ⟨oc, od, kV, doc, pm, an, cdv, ct, osl, rfl, _, _⟩ := h2.ex
  exact ⟨lv, f, _, ps, h1, h2.kp, fun s ws _ hl => hb kV doc pm an cdv ct s ws hl, hp, h4, hr.mono hl, h5⟩
theorem globOk {A : Around} {d : D} (h : ∃ u, mg (Str.ofString x) = some u ∧ IsD K d u) : GlobOk ⟨P, w, K, mg, base, A⟩ x d := by
  obtain ⟨u, h1, v, h2, h3⟩ := h
  exact ⟨v, u, h1, h2, h3⟩
theorem law_of {y : Str} {bst : Stmt} {p : Nat → Pos} {p1 p2 p3 p4 p5 : Pos} {rest : List Stmt} {j : Nat} (D : DefAt K mg "law" st) (B : DefAt K mg "_law_begin" bst) (blt : ∀ x ∈ bltNames, mg (Str.ofString x) = none) (hs : scB N ["script"] (defScope st) = true)
    (hbb : defBody bst = bgBody p) (hbs : defScope bst = bgScope) (hbody : defBody st = .Assign [.Name y p1] (.Call (.Name "_law_begin" p2) [.Name "script" p3] [] p4) p5 :: rest) (hj : N[j]? = some y) (hyl : locC (defScope st) y = true)
    (h0 : N[0]? = some ("script" : Str)) (l0 : (defScope st).names.lookup ("script" : Str) = some .local) (gb : (defScope st).names.lookup ("_law_begin" : Str) = some .globalImplicit)
    (hm : mtSs b ⟨N, defScope st, fun _ => true⟩ ((defBody st).drop 1) = true)
    (hb : ∀ (kV doc pm : Value) (an : Option Addr) (cdv ct : Value) (u : Value), bindArgs (PySem.W.fnOf "law" "law" (defArgs st) (defBody st) (defScope st) .none kV doc pm an cdv ct) ⟨[u], []⟩ = pure [(("script" : Str), u)])
    (hb2 : ∀ (kV doc pm : Value) (an : Option Addr) (cdv ct : Value) (us : List Value), us.length = (["script"] : List Str).length → bindArgs (PySem.W.fnOf "_law_begin" "_law_begin" (defArgs bst) (defBody bst) (defScope bst) .none kV doc pm an cdv ct) ⟨us, []⟩ = pure ((["script"] : List Str).zip us))
    (hk : ∀ A, Room 29 A → okS ⟨P, w, K, mg, base, A⟩ b) :
    ∃ f fd, mg "law" = some (.ref f) ∧ L2.Fun K "law" "law" st f fd ∧ (∀ (s : Shared) (u : Value), BindsTo s fd ⟨[u], []⟩ [("script", u)]) ∧ LawGo P w K mg base f fd "script" N.length j b := by
  obtain ⟨f, fd, h1, h2⟩ := D
  obtain ⟨fb, fdb, b1, b2⟩ := B
  have FB : FnOk P w K mg base CX0 1 fb fdb ["script"] (spBegin K) := begin_fn (k := 0) b2 hbb hbs (blt "list" (by decide))
  have h2' := h2
  obtain ⟨oc, od, kV, doc, pm, an, cdv, ct, osl, rfl, _, _⟩ := h2.ex
  refine ⟨f, _, h1, h2', fun s u => .of_eq (hb kV doc pm an cdv ct u), ?_⟩
  have hm' : mtSs b ⟨N, defScope st, fun _ => true⟩ rest = true := by rw [hbody] at hm; exact hm
  exact lawG h2' (scB_of hs) blt hbody hj hyl h0 l0 gb hm' hk FB (by omega) b1 b2.kp (b2.binds hb2)
end
theorem law_uniform {P : Program} {w : World} {K : PySem.W.Frag} {mg : Str → Option Value} {fa : Addr} {st : Stmt} {n j : Nat} {b : S} (h0 : Heap) (hfa : mg "law" = some (.ref fa))
    (h : ∀ base : Heap, ∃ f fd, mg "law" = some (.ref f) ∧ L2.Fun K "law" "law" st f fd ∧ (∀ (s : Shared) (u : Value), BindsTo s fd ⟨[u], []⟩ [("script", u)]) ∧ LawGo P w K mg base f fd "script" n j b) :
    ∃ fd : FuncData, (∀ (s : Shared) (u : Value), BindsTo s fd ⟨[u], []⟩ [("script", u)]) ∧ ∀ base : Heap, K.In base → base.Ns mainGlobals mg → LawGo P w K mg base fa fd "script" n j b := by
  have at_ : ∀ base : Heap, ∃ fd, L2.Fun K "law" "law" st fa fd ∧ (∀ (s : Shared) (u : Value), BindsTo s fd ⟨[u], []⟩ [("script", u)]) ∧ LawGo P w K mg base fa fd "script" n j b := fun base => by
    obtain ⟨f, fd, h1, h2, h3, h4⟩ := h base
    rw [hfa] at h1
    cases h1
    exact ⟨fd, h2, h3, h4⟩
  obtain ⟨fd, F, hb, _⟩ := at_ h0
  refine ⟨fd, hb, fun base _ _ => ?_⟩
  obtain ⟨fd', F', _, go⟩ := at_ base
  obtain ⟨oc, od, kV, doc, pm, an, cdv, ct, osl, e1, l1, _⟩ := F.ex
  obtain ⟨oc', od', kV', doc', pm', an', cdv', ct', osl', e2, l2, _⟩ := F'.ex
  rw [l1] at l2
  have : fd = fd' := by
    have := congrArg (fun o : Option Obj => o.map (·.data)) l2
    simp only [Option.map_some, Option.some.injEq, Data.func.injEq] at this
    exact this
  rw [this]; exact go
theorem isD_int {K : PySem.W.Frag} {i : Int} {t : Tok} : IsD K (.int i) (.int i t) := ⟨.int i, ⟨t, rfl⟩, fun _ _ _ => Rep.int'⟩
inductive IsDs (K : PySem.W.Frag) : List D → List Value → Prop where
  | nil : IsDs K [] []
  | cons {d : D} {ds : List D} {u : Value} {us : List Value} (h : IsD K d u) (t : IsDs K ds us) : IsDs K (d :: ds) (u :: us)
theorem IsDs.vals {K : PySem.W.Frag} : ∀ {ds : List D} {us : List Value}, IsDs K ds us → ∃ vs, Vals vs us ∧ ∀ aS O H, Reps K aS O H ds vs
  | _, _, .nil => ⟨[], .nil, fun _ _ _ => Reps.nil⟩
  | _, _, .cons h t => by
    obtain ⟨v, r, q⟩ := h
    obtain ⟨vs, rr, qq⟩ := t.vals
    exact ⟨v :: vs, .cons r rr, fun aS O H => Reps.cons (q aS O H) (qq aS O H)⟩
/-- a tuple of the written part -/
theorem isD_tup {K : PySem.W.Frag} {a : Addr} {ds : List D} {od : Option Addr} {its : Array Value} {n : Nat} {sl : Array (Option Value)} (lk : K.lookup a = some ⟨.type "tuple", od, .seq its n, sl⟩) (h : IsDs K ds its.toList) (hz : its.size ≤ 1000) : IsD K (.tup ds) (.ref a) := by
  obtain ⟨vs, r, q⟩ := h.vals
  refine ⟨.ref a, rfl, fun aS O H => ?_⟩
  rw [Rep]
  exact ⟨a, vs, rfl, .inr ⟨_, its, n, lk, rfl, rfl, by rw [sizeLine_eq]; omega, r⟩, q aS O H⟩
end RS
end
section
set_option autoImplicit false
set_option maxRecDepth 100000
namespace RS
def M.Llaw_mixedS : S := (.seq (.asgS 0 (.bin .mod (.prim .int (.cons (.var 0) .nil)) (.con (.int 2147483647))))
 (.seq (.ret (.bin .mod (.bin .mul (.bin .mod (.bin .add (.bin .add (.bin .mul (.var 0) (.bin .add (.con (.int 48271)) (.bin .mul (.bin .mul (.con (.int 2)) (.var 1)) (.var 1)))) (.bin .mul (.con (.int 69621)) (.var 1))) (.con (.int 11))) (.con (.int 2147483647))) (.con (.int 69621))) (.con (.int 2147483629))))
 .skip))
def M.Llaw_mixed : Fn := evFn 2 2 M.Llaw_mixedS
def M.Llaw_drawS : S := (.seq (.asgS 2 (.stAt 0))
 (.seq (.stPut 0 (.bin .add (.var 2) (.con (.int 1))))
 (.seq (.asgS 3 (.bin .mod (.prim .int (.cons (.var 2) .nil)) (.stLen 0)))
 (.seq (.asgS 4 (.stLeft 0 (.var 3)))
 (.seq (.ife (.cmp .gt (.var 4) (.con (.int 0)))
 (.seq (.stPutLeft 0 (.var 3) (.bin .fdiv (.var 4) (.var 1)))
 (.seq (.ret (.bin .mod (.prim .int (.cons (.var 4) .nil)) (.var 1)))
 .skip))
 .skip)
 (.seq (.asgS 5 (.call "_law_mixed" M.Llaw_mixed (.cons (.call "_law_mixed" M.Llaw_mixed (.cons (.stCell 0 (.var 3)) (.cons (.var 2) .nil))) (.cons (.bin .add (.con (.int 40)) (.var 2)) .nil))))
 (.seq (.ret (.bin .mod (.bin .fdiv (.prim .int (.cons (.bin .add (.bin .mul (.var 5) (.con (.int 2147483647))) (.call "_law_mixed" M.Llaw_mixed (.cons (.var 5) (.cons (.bin .add (.con (.int 7)) (.var 2)) .nil)))) .nil)) (.con (.int 64))) (.var 1)))
 .skip)))))))
def M.Llaw_draw : Fn := evFn 6 2 M.Llaw_drawS
def M.sets_overS : S := (.seq (.asgS 2 (.con (.int 1)))
 (.seq (.for (.nm 3) (.itRange (.cons (.var 1) .nil))
 (.seq (.asgS 2 (.bin .fdiv (.bin .mul (.var 2) (.bin .sub (.var 0) (.var 3))) (.bin .add (.var 3) (.con (.int 1)))))
 .skip))
 (.seq (.ret (.var 2))
 .skip)))
def M.sets_over : Fn := evFn 4 2 M.sets_overS
def M.sum_atS : S := (.seq (.ret (.prim .sum (.cons (.comp [2, 3] (.tup (.cons (.nm 2) (.cons (.nm 3) .nil))) (.itEnum (.var 0)) .omit (.bin .mul (.var 3) (.call "sets_over" M.sets_over (.cons (.var 1) (.cons (.var 2) .nil))))) .nil)))
 .skip)
def M.sum_at : Fn := evFn 4 2 M.sum_atS
def M.lessenedS : S := (.seq (.asgS 2 (.prim .len (.cons (.var 0) .nil)))
 (.seq (.whl 1000000 (.and (.cmp .gt (.var 2) (.con (.int 0))) (.cmp .eq (.idx (.var 0) (.bin .sub (.var 2) (.con (.int 1)))) (.call "sum_at" M.sum_at (.cons (.var 1) (.cons (.bin .sub (.var 2) (.con (.int 1))) .nil)))))
 (.seq (.asgS 2 (.bin .sub (.var 2) (.con (.int 1))))
 .skip))
 (.seq (.ret (.tup (.cons (.prim .tuple (.cons (.slc (.var 0) .omit (.var 2)) .nil)) (.cons (.prim .tuple (.cons (.var 1) .nil)) .nil))))
 .skip)))
def M.lessened : Fn := evFn 3 2 M.lessenedS
def M.differencesS : S := (.seq (.par [1, 2] (.cons (.lst .nil) (.cons (.prim .list (.cons (.var 0) .nil)) .nil)))
 (.seq (.share 2)
 (.seq (.whl 1000000 (.cmp .gt (.prim .len (.cons (.var 2) .nil)) (.con (.int 0)))
 (.seq (.app 1 (.idx (.var 2) (.con (.int 0))))
 (.seq (.asgS 2 (.comp [3, 4] (.tup (.cons (.nm 3) (.cons (.nm 4) .nil))) (.itZip (.var 2) (.slc (.var 2) (.con (.int 1)) .omit)) .omit (.bin .sub (.var 4) (.var 3))))
 .skip)))
 (.seq (.ret (.var 1))
 .skip))))
def M.differences : Fn := evFn 5 1 M.differencesS
def M.shiftedS : S := (.seq (.asgT (.tup (.cons (.nm 2) (.cons (.nm 3) .nil))) (.var 0))
 (.seq (.asgS 4 (.call "differences" M.differences (.cons (.comp [5] (.nm 5) (.itRange (.cons (.con (.int 4)) .nil)) .omit (.call "sum_at" M.sum_at (.cons (.var 3) (.cons (.bin .sub (.var 5) (.var 1)) .nil)))) .nil)))
 (.seq (.ret (.call "lessened" M.lessened (.cons (.bin .add (.bin .mul (.lst (.cons (.con (.int 0)) .nil)) (.var 1)) (.prim .list (.cons (.var 2) .nil))) (.cons (.var 4) .nil))))
 .skip)))
def M.shifted : Fn := evFn 6 2 M.shiftedS
def M.summedS : S := (.seq (.asgT (.tup (.cons (.nm 1) (.cons (.nm 2) .nil))) (.var 0))
 (.seq (.asg 3 (.lst (.cons (.con (.int 0)) .nil)))
 (.seq (.for (.nm 4) (.itE (.var 1))
 (.seq (.app 3 (.bin .add (.idx (.var 3) (.neg (.con (.int 1)))) (.var 4)))
 .skip))
 (.seq (.asg 5 (.bin .add (.lst (.cons (.con (.int 0)) .nil)) (.prim .list (.cons (.slc (.var 2) .omit (.con (.int 3))) .nil))))
 (.seq (.seti 5 (.con (.int 0)) (.bin .sub (.idx (.var 3) (.neg (.con (.int 1)))) (.call "sum_at" M.sum_at (.cons (.var 5) (.cons (.prim .len (.cons (.var 1) .nil)) .nil)))))
 (.seq (.ret (.call "lessened" M.lessened (.cons (.slc (.var 3) .omit (.neg (.con (.int 1)))) (.cons (.var 5) .nil))))
 .skip))))))
def M.summed : Fn := evFn 6 1 M.summedS
def M.reaches_soS : S := (.seq (.ret (.cmp .eq (.prim .len (.cons (.comp [2, 3] (.tup (.cons (.nm 2) (.cons (.nm 3) .nil))) (.itZip (.var 0) (.var 1)) (.cmp .gt (.var 2) (.var 3)) (.con (.int 1))) .nil)) (.con (.int 0))))
 .skip)
def M.reaches_so : Fn := evFn 4 2 M.reaches_soS
def M.least_soS : S := (.seq (.asg 1 (.lst .nil))
 (.seq (.for (.nm 2) (.itE (.prim .sortedSet (.cons (.var 0) .nil)))
 (.seq (.ife (.cmp .eq (.prim .len (.cons (.comp [3] (.nm 3) (.itE (.var 1)) (.call "reaches_so" M.reaches_so (.cons (.var 3) (.cons (.var 2) .nil))) (.con (.int 1))) .nil)) (.con (.int 0)))
 (.seq (.app 1 (.var 2))
 .skip)
 .skip)
 .skip))
 (.seq (.ret (.prim .tuple (.cons (.var 1) .nil)))
 .skip)))
def M.least_so : Fn := evFn 4 1 M.least_soS
def M.told_soS : S := (.seq (.ret (.ife (.cmp .lt (.var 1) (.prim .len (.cons (.idx (.var 0) (.con (.int 0))) .nil))) (.idx (.idx (.var 0) (.con (.int 0))) (.var 1)) (.call "sum_at" M.sum_at (.cons (.idx (.var 0) (.con (.int 1))) (.cons (.var 1) .nil)))))
 .skip)
def M.told_so : Fn := evFn 2 2 M.told_soS
def M.joined_byS : S := (.seq (.asgS 3 (.prim .max (.cons (.prim .len (.cons (.idx (.var 0) (.con (.int 0))) .nil)) (.cons (.prim .len (.cons (.idx (.var 1) (.con (.int 0))) .nil)) .nil))))
 (.seq (.asgS 4 (.comp [5] (.nm 5) (.itRange (.cons (.var 3) .nil)) .omit (.bin .add (.call "told_so" M.told_so (.cons (.var 0) (.cons (.var 5) .nil))) (.bin .mul (.var 2) (.call "told_so" M.told_so (.cons (.var 1) (.cons (.var 5) .nil)))))))
 (.seq (.ret (.call "lessened" M.lessened (.cons (.var 4) (.cons (.comp [6, 7] (.tup (.cons (.nm 6) (.cons (.nm 7) .nil))) (.itZip (.idx (.var 0) (.con (.int 1))) (.idx (.var 1) (.con (.int 1)))) .omit (.bin .add (.var 6) (.bin .mul (.var 2) (.var 7)))) .nil))))
 .skip)))
def M.joined_by : Fn := evFn 8 3 M.joined_byS
def M.plus_formulaS : S := (.seq (.ret (.call "joined_by" M.joined_by (.cons (.var 0) (.cons (.var 1) (.cons (.con (.int 1)) .nil)))))
 .skip)
def M.plus_formula : Fn := evFn 2 2 M.plus_formulaS
def M.formula_soS (me : Fn) : S := (.seq (.ife (.cmp .eq (.prim .len (.cons (.var 0) .nil)) (.con (.int 0)))
 (.seq (.ret (.glob "NOTHING" (.tup [(.tup []), (.tup [(.int 0), (.int 0), (.int 0), (.int 0)])])))
 .skip)
 .skip)
 (.seq (.ife (.cmp .eq (.var 1) (.con (.int 0)))
 (.seq (.asgS 2 (.prim .min (.cons (.comp [3] (.nm 3) (.itE (.var 0)) .omit (.idx (.var 3) (.con (.int 0)))) .nil)))
 (.seq (.ret (.call "lessened" M.lessened (.cons (.bin .mul (.lst (.cons (.con (.int 0)) .nil)) (.var 2)) (.cons (.lst (.cons (.con (.int 1)) (.cons (.con (.int 0)) (.cons (.con (.int 0)) (.cons (.con (.int 0)) .nil))))) .nil))))
 .skip))
 .skip)
 (.seq (.asgS 4 (.prim .max (.cons (.comp [3] (.nm 3) (.itE (.var 0)) .omit (.idx (.var 3) (.neg (.con (.int 1))))) .nil)))
 (.seq (.asgS 5 (.call "shifted" M.shifted (.cons (.call "summed" M.summed (.cons (.call "formula_so" me (.cons (.call "least_so" M.least_so (.cons (.comp [3] (.nm 3) (.itE (.var 0)) .omit (.slc (.var 3) .omit (.neg (.con (.int 1))))) .nil)) (.cons (.bin .sub (.var 1) (.con (.int 1))) .nil))) .nil)) (.cons (.var 4) .nil))))
 (.seq (.for (.nm 6) (.itRange (.cons (.var 4) .nil))
 (.seq (.asgS 7 (.call "least_so" M.least_so (.cons (.comp [3] (.nm 3) (.itE (.var 0)) (.cmp .le (.idx (.var 3) (.neg (.con (.int 1)))) (.var 6)) (.slc (.var 3) .omit (.neg (.con (.int 1))))) .nil)))
 (.seq (.asgS 5 (.call "plus_formula" M.plus_formula (.cons (.var 5) (.cons (.call "shifted" M.shifted (.cons (.call "formula_so" me (.cons (.var 7) (.cons (.bin .sub (.var 1) (.con (.int 1))) .nil))) (.cons (.bin .add (.var 6) (.con (.int 1))) .nil))) .nil))))
 .skip)))
 (.seq (.ret (.var 5))
 .skip))))))
def M.formula_so_ : Nat → Fn
  | 0 => fun _ _ => .no
  | n + 1 => evFn 8 2 (M.formula_soS (M.formula_so_ n))
def M.formula_so : Fn := M.formula_so_ 5
def M.is_fromS : S := (.seq (.ret (.and (.prim .isInt (.cons (.var 0) .nil)) (.and (.not (.prim .isBool (.cons (.var 0) .nil))) (.chain .le .le (.var 1) (.var 0) (.var 2)))))
 .skip)
def M.is_from : Fn := evFn 3 3 M.is_fromS
def M.check_arityS : S := (.seq (.ife (.or (.not (.call "is_from" M.is_from (.cons (.var 1) (.cons (.con (.int 0)) (.cons (.con (.int 3)) .nil))))) (.cmp .gt (.prim .len (.cons (.comp [2] (.nm 2) (.itE (.var 0)) (.cmp .ne (.prim .len (.cons (.var 2) .nil)) (.bin .add (.var 1) (.con (.int 1)))) (.con (.int 1))) .nil)) (.con (.int 0))))
 (.seq .never
 .skip)
 .skip)
 (.seq (.ret (.var 1))
 .skip))
def M.check_arity : Fn := evFn 3 2 M.check_arityS
def M.is_gapsS : S := (.seq (.ife (.or (.not (.prim .isTup (.cons (.var 0) .nil))) (.not (.chain .le .le (.con (.int 1)) (.prim .len (.cons (.var 0) .nil)) (.con (.int 4)))))
 (.seq (.ret (.con (.bl false)))
 .skip)
 .skip)
 (.seq (.ret (.cmp .eq (.prim .len (.cons (.comp [1] (.nm 1) (.itE (.var 0)) (.not (.call "is_from" M.is_from (.cons (.var 1) (.cons (.con (.int 0)) (.cons (.glob "MOST_PLACES" (.int 40)) .nil))))) (.con (.int 1))) .nil)) (.con (.int 0))))
 .skip))
def M.is_gaps : Fn := evFn 2 1 M.is_gapsS
def M.check_rowsS : S := (.seq (.ife (.or (.not (.prim .isTup (.cons (.var 0) .nil))) (.or (.cmp .gt (.prim .len (.cons (.var 0) .nil)) (.glob "MOST_ROWS" (.int 60))) (.cmp .gt (.prim .len (.cons (.comp [1] (.nm 1) (.itE (.var 0)) (.not (.call "is_gaps" M.is_gaps (.cons (.var 1) .nil))) (.con (.int 1))) .nil)) (.con (.int 0)))))
 (.seq .never
 .skip)
 .skip)
 (.seq (.ife (.cmp .gt (.prim .len (.cons (.comp [1] (.nm 1) (.itE (.var 0)) (.or (.cmp .ne (.prim .len (.cons (.var 1) .nil)) (.prim .len (.cons (.idx (.var 0) (.con (.int 0))) .nil))) (.cmp .gt (.prim .max (.cons (.var 1) .nil)) (.glob "MOST_GAP" (.int 12)))) (.con (.int 1))) .nil)) (.con (.int 0)))
 (.seq .never
 .skip)
 .skip)
 (.seq (.ret (.var 0))
 .skip)))
def M.check_rows : Fn := evFn 2 1 M.check_rowsS
def M.formula_ofS : S := (.seq (.ret (.call "formula_so" M.formula_so (.cons (.call "check_rows" M.check_rows (.cons (.var 0) .nil)) (.cons (.call "check_arity" M.check_arity (.cons (.var 0) (.cons (.var 1) .nil))) .nil))))
 .skip)
def M.formula_of : Fn := evFn 2 2 M.formula_ofS
def M.Llaw_linesS : S := (.seq (.asgS 4 (.tup .nil))
 (.seq (.for (.nm 5) (.itRange (.cons (.call "_law_draw" M.Llaw_draw (.cons (.var 0) (.cons (.bin .add (.var 2) (.con (.int 1))) .nil))) .nil))
 (.seq (.asgS 4 (.bin .add (.var 4) (.tup (.cons (.prim .tuple (.cons (.comp [6] (.nm 6) (.itRange (.cons (.bin .add (.var 1) (.con (.int 1))) .nil)) .omit (.call "_law_draw" M.Llaw_draw (.cons (.var 0) (.cons (.bin .add (.var 3) (.con (.int 1))) .nil)))) .nil)) .nil))))
 .skip))
 (.seq (.ret (.var 4))
 .skip)))
def M.Llaw_lines : Fn := evFn 7 4 M.Llaw_linesS
def M.Llaw_over_lotsS : S := (.seq (.asgS 2 (.con (.int 1)))
 (.seq (.for (.nm 3) (.itRange (.cons (.var 1) .nil))
 (.seq (.asgS 2 (.bin .fdiv (.bin .mul (.var 2) (.bin .sub (.var 0) (.var 3))) (.bin .add (.var 3) (.con (.int 1)))))
 .skip))
 (.seq (.ret (.var 2))
 .skip)))
def M.Llaw_over_lots : Fn := evFn 4 2 M.Llaw_over_lotsS
def M.Llaw_told_byS : S := (.seq (.ife (.cmp .lt (.var 1) (.prim .len (.cons (.idx (.var 0) (.con (.int 0))) .nil)))
 (.seq (.ret (.idx (.idx (.var 0) (.con (.int 0))) (.var 1)))
 .skip)
 .skip)
 (.seq (.ret (.prim .sum (.cons (.comp [2, 3] (.tup (.cons (.nm 2) (.cons (.nm 3) .nil))) (.itEnum (.idx (.var 0) (.con (.int 1)))) .omit (.bin .mul (.var 3) (.call "_law_over_lots" M.Llaw_over_lots (.cons (.var 1) (.cons (.var 2) .nil))))) .nil)))
 .skip))
def M.Llaw_told_by : Fn := evFn 4 2 M.Llaw_told_byS
def M.Llaw_formulaS : S := (.seq (.ife (.cmp .eq (.call "_law_draw" M.Llaw_draw (.cons (.var 0) (.cons (.con (.int 4)) .nil))) (.con (.int 0)))
 (.seq (.asgS 1 (.call "_law_draw" M.Llaw_draw (.cons (.var 0) (.cons (.con (.int 3)) .nil))))
 (.seq (.ret (.call "formula_of" M.formula_of (.cons (.call "_law_lines" M.Llaw_lines (.cons (.var 0) (.cons (.var 1) (.cons (.con (.int 3)) (.cons (.con (.int 2)) .nil))))) (.cons (.var 1) .nil))))
 .skip))
 .skip)
 (.seq (.asgS 2 (.prim .tuple (.cons (.comp [3] (.nm 3) (.itRange (.cons (.con (.int 4)) .nil)) .omit (.bin .sub (.call "_law_draw" M.Llaw_draw (.cons (.var 0) (.cons (.con (.int 9)) .nil))) (.con (.int 4)))) .nil)))
 (.seq (.asgS 4 (.comp [3] (.nm 3) (.itRange (.cons (.call "_law_draw" M.Llaw_draw (.cons (.var 0) (.cons (.con (.int 7)) .nil))) .nil)) .omit (.bin .sub (.call "_law_draw" M.Llaw_draw (.cons (.var 0) (.cons (.con (.int 7)) .nil))) (.con (.int 3)))))
 (.seq (.for (.nm 5) (.itRange (.cons (.prim .len (.cons (.var 4) .nil)) .nil))
 (.seq (.ife (.and (.cmp .ne (.var 4) (.lst .nil)) (.cmp .eq (.idx (.var 4) (.neg (.con (.int 1)))) (.call "_law_told_by" M.Llaw_told_by (.cons (.tup (.cons (.tup .nil) (.cons (.var 2) .nil))) (.cons (.bin .sub (.prim .len (.cons (.var 4) .nil)) (.con (.int 1))) .nil)))))
 (.seq (.asgS 4 (.slc (.var 4) .omit (.neg (.con (.int 1)))))
 .skip)
 .skip)
 .skip))
 (.seq (.ret (.tup (.cons (.prim .tuple (.cons (.var 4) .nil)) (.cons (.var 2) .nil))))
 .skip)))))
def M.Llaw_formula : Fn := evFn 6 1 M.Llaw_formulaS
def M.is_formulaS : S := (.seq (.ife (.or (.not (.prim .isTup (.cons (.var 0) .nil))) (.cmp .ne (.prim .len (.cons (.var 0) .nil)) (.con (.int 2))))
 (.seq (.ret (.con (.bl false)))
 .skip)
 .skip)
 (.seq (.asgT (.tup (.cons (.nm 1) (.cons (.nm 2) .nil))) (.var 0))
 (.seq (.ife (.or (.not (.prim .isTup (.cons (.var 1) .nil))) (.or (.not (.prim .isTup (.cons (.var 2) .nil))) (.or (.cmp .gt (.prim .len (.cons (.var 1) .nil)) (.glob "MOST_VALUES" (.int 400))) (.cmp .ne (.prim .len (.cons (.var 2) .nil)) (.con (.int 4))))))
 (.seq (.ret (.con (.bl false)))
 .skip)
 .skip)
 (.seq (.ife (.cmp .gt (.prim .len (.cons (.comp [3] (.nm 3) (.itE (.bin .add (.var 1) (.var 2))) (.or (.not (.prim .isInt (.cons (.var 3) .nil))) (.prim .isBool (.cons (.var 3) .nil))) (.con (.int 1))) .nil)) (.con (.int 0)))
 (.seq (.ret (.con (.bl false)))
 .skip)
 .skip)
 (.seq (.ret (.cmp .eq (.call "lessened" M.lessened (.cons (.var 1) (.cons (.var 2) .nil))) (.var 0)))
 .skip)))))
def M.is_formula : Fn := evFn 4 1 M.is_formulaS
def M.check_formulaS : S := (.seq (.ife (.not (.call "is_formula" M.is_formula (.cons (.var 0) .nil)))
 (.seq .never
 .skip)
 .skip)
 (.seq (.ret (.var 0))
 .skip))
def M.check_formula : Fn := evFn 1 1 M.check_formulaS
def M.formula_plusS : S := (.seq (.expr (.call "check_formula" M.check_formula (.cons (.var 0) .nil)))
 (.seq (.ret (.call "plus_formula" M.plus_formula (.cons (.var 0) (.cons (.call "check_formula" M.check_formula (.cons (.var 1) .nil)) .nil))))
 .skip))
def M.formula_plus : Fn := evFn 2 2 M.formula_plusS
def M.minus_formulaS : S := (.seq (.ret (.call "joined_by" M.joined_by (.cons (.var 0) (.cons (.var 1) (.cons (.neg (.con (.int 1))) .nil)))))
 .skip)
def M.minus_formula : Fn := evFn 2 2 M.minus_formulaS
def M.formula_minusS : S := (.seq (.expr (.call "check_formula" M.check_formula (.cons (.var 0) .nil)))
 (.seq (.ret (.call "minus_formula" M.minus_formula (.cons (.var 0) (.cons (.call "check_formula" M.check_formula (.cons (.var 1) .nil)) .nil))))
 .skip))
def M.formula_minus : Fn := evFn 2 2 M.formula_minusS
def M.Llaw_likeS : S := (.seq (.ret (.reprEq (.var 0) (.var 1)))
 .skip)
def M.Llaw_like : Fn := evFn 2 2 M.Llaw_likeS
def M.Llaw_due_formulaS : S := (.seq (.asgS 1 (.prim .list (.cons (.slc (.var 0) (.neg (.con (.int 4))) .omit) .nil)))
 (.seq (.for (.nm 2) (.itRange (.cons (.bin .sub (.prim .len (.cons (.var 0) .nil)) (.con (.int 4))) .nil))
 (.seq (.asgS 1 (.bin .add (.lst (.cons (.bin .sub (.bin .add (.bin .sub (.bin .mul (.con (.int 4)) (.idx (.var 1) (.con (.int 0)))) (.bin .mul (.con (.int 6)) (.idx (.var 1) (.con (.int 1))))) (.bin .mul (.con (.int 4)) (.idx (.var 1) (.con (.int 2))))) (.idx (.var 1) (.con (.int 3)))) .nil)) (.var 1)))
 .skip))
 (.seq (.par [3, 4] (.cons (.lst .nil) (.cons (.slc (.var 1) .omit (.con (.int 4))) .nil)))
 (.seq (.share 4)
 (.seq (.for (.nm 2) (.itRange (.cons (.con (.int 4)) .nil))
 (.seq (.app 3 (.idx (.var 4) (.con (.int 0))))
 (.seq (.asgS 4 (.comp [5, 6] (.tup (.cons (.nm 5) (.cons (.nm 6) .nil))) (.itZip (.var 4) (.slc (.var 4) (.con (.int 1)) .omit)) .omit (.bin .sub (.var 6) (.var 5))))
 .skip)))
 (.seq (.asgS 7 (.prim .len (.cons (.var 0) .nil)))
 (.seq (.for (.nm 8) (.itRange (.cons (.prim .len (.cons (.var 0) .nil)) .nil))
 (.seq (.ife (.and (.cmp .gt (.var 7) (.con (.int 0))) (.cmp .eq (.idx (.var 0) (.bin .sub (.var 7) (.con (.int 1)))) (.idx (.var 1) (.bin .sub (.var 7) (.con (.int 1))))))
 (.seq (.asgS 7 (.bin .sub (.var 7) (.con (.int 1))))
 .skip)
 .skip)
 .skip))
 (.seq (.ret (.tup (.cons (.prim .tuple (.cons (.slc (.var 0) .omit (.var 7)) .nil)) (.cons (.prim .tuple (.cons (.var 3) .nil)) .nil))))
 .skip))))))))
def M.Llaw_due_formula : Fn := evFn 9 1 M.Llaw_due_formulaS
def M.equal_fromS : S := (.seq (.expr (.call "check_formula" M.check_formula (.cons (.var 0) .nil)))
 (.seq (.ife (.cmp .ne (.idx (.call "check_formula" M.check_formula (.cons (.var 1) .nil)) (.con (.int 1))) (.idx (.var 0) (.con (.int 1))))
 (.seq (.ret (.con .non))
 .skip)
 .skip)
 (.seq (.ret (.prim .len (.cons (.idx (.call "minus_formula" M.minus_formula (.cons (.var 0) (.cons (.var 1) .nil))) (.con (.int 0))) .nil)))
 .skip)))
def M.equal_from : Fn := evFn 2 2 M.equal_fromS
def M.value_atS : S := (.seq (.expr (.call "check_formula" M.check_formula (.cons (.var 0) .nil)))
 (.seq (.ife (.not (.call "is_from" M.is_from (.cons (.var 1) (.cons (.con (.int 0)) (.cons (.glob "MOST_MANY" (.int 1000000000000000000000000000000)) .nil)))))
 (.seq .never
 .skip)
 .skip)
 (.seq (.ret (.call "told_so" M.told_so (.cons (.var 0) (.cons (.var 1) .nil))))
 .skip)))
def M.value_at : Fn := evFn 2 2 M.value_atS
def M.Llaw_rightS : S := (.seq (.asgS 3 (.bin .add (.prim .max (.cons (.prim .len (.cons (.idx (.var 1) (.con (.int 0))) .nil)) (.cons (.prim .len (.cons (.idx (.var 2) (.con (.int 0))) .nil)) .nil))) (.con (.int 4))))
 (.seq (.par [4, 5] (.cons (.lst .nil) (.cons (.lst .nil) .nil)))
 (.seq (.share 4)
 (.seq (.share 5)
 (.seq (.for (.nm 6) (.itRange (.cons (.var 3) .nil))
 (.seq (.par [7, 8] (.cons (.call "_law_told_by" M.Llaw_told_by (.cons (.var 1) (.cons (.var 6) .nil))) (.cons (.call "_law_told_by" M.Llaw_told_by (.cons (.var 2) (.cons (.var 6) .nil))) .nil)))
 (.seq (.share 7)
 (.seq (.share 8)
 (.seq (.par [4, 5] (.cons (.bin .add (.var 4) (.lst (.cons (.bin .add (.var 7) (.var 8)) .nil))) (.cons (.bin .add (.var 5) (.lst (.cons (.bin .sub (.var 7) (.var 8)) .nil))) .nil)))
 (.seq (.share 4)
 (.seq (.share 5)
 .skip)))))))
 (.seq (.asgS 9 (.lst (.cons (.call "formula_plus" M.formula_plus (.cons (.var 1) (.cons (.var 2) .nil))) (.cons (.call "formula_minus" M.formula_minus (.cons (.var 1) (.cons (.var 2) .nil))) (.cons (.call "formula_minus" M.formula_minus (.cons (.var 1) (.cons (.var 1) .nil))) .nil)))))
 (.seq (.ife (.not (.call "_law_like" M.Llaw_like (.cons (.var 9) (.cons (.lst (.cons (.call "_law_due_formula" M.Llaw_due_formula (.cons (.var 4) .nil)) (.cons (.call "_law_due_formula" M.Llaw_due_formula (.cons (.var 5) .nil)) (.cons (.tup (.cons (.tup .nil) (.cons (.tup (.cons (.con (.int 0)) (.cons (.con (.int 0)) (.cons (.con (.int 0)) (.cons (.con (.int 0)) .nil))))) .nil))) .nil)))) .nil))))
 (.seq (.ret (.con (.bl false)))
 .skip)
 .skip)
 (.seq (.asgS 10 (.con .non))
 (.seq (.ife (.cmp .eq (.idx (.var 1) (.con (.int 1))) (.idx (.var 2) (.con (.int 1))))
 (.seq (.asgS 10 (.prim .len (.cons (.idx (.call "_law_due_formula" M.Llaw_due_formula (.cons (.var 5) .nil)) (.con (.int 0))) .nil)))
 .skip)
 .skip)
 (.seq (.ife (.not (.call "_law_like" M.Llaw_like (.cons (.lst (.cons (.call "equal_from" M.equal_from (.cons (.var 1) (.cons (.var 2) .nil))) (.cons (.call "equal_from" M.equal_from (.cons (.var 1) (.cons (.var 1) .nil))) .nil))) (.cons (.lst (.cons (.var 10) (.cons (.con (.int 0)) .nil))) .nil))))
 (.seq (.ret (.con (.bl false)))
 .skip)
 .skip)
 (.seq (.for (.nm 6) (.itE (.tup (.cons (.call "_law_draw" M.Llaw_draw (.cons (.var 0) (.cons (.con (.int 12)) .nil))) (.cons (.bin .sub (.bin .pow (.con (.int 10)) (.con (.int 30))) (.call "_law_draw" M.Llaw_draw (.cons (.var 0) (.cons (.con (.int 1000)) .nil)))) (.cons (.bin .pow (.con (.int 10)) (.con (.int 30))) .nil)))))
 (.seq (.ife (.not (.call "_law_like" M.Llaw_like (.cons (.call "value_at" M.value_at (.cons (.var 1) (.cons (.var 6) .nil))) (.cons (.call "_law_told_by" M.Llaw_told_by (.cons (.var 1) (.cons (.var 6) .nil))) .nil))))
 (.seq (.ret (.con (.bl false)))
 .skip)
 .skip)
 .skip))
 (.seq (.ret (.con (.bl true)))
 .skip))))))))))))
def M.Llaw_right : Fn := evFn 11 3 M.Llaw_rightS
def M.lawS : S := (.seq (.for (.nm 2) (.itRange (.cons (.con (.int 6)) .nil))
 (.seq (.par [3, 4] (.cons (.call "_law_formula" M.Llaw_formula (.cons (.var 1) .nil)) (.cons (.call "_law_formula" M.Llaw_formula (.cons (.var 1) .nil)) .nil)))
 (.seq (.share 3)
 (.seq (.share 4)
 (.seq (.ife (.cmp .eq (.call "_law_draw" M.Llaw_draw (.cons (.var 1) (.cons (.con (.int 2)) .nil))) (.con (.int 0)))
 (.seq (.asgS 4 (.call "formula_plus" M.formula_plus (.cons (.var 3) (.cons (.tup (.cons (.bin .add (.bin .mul (.tup (.cons (.con (.int 0)) .nil)) (.call "_law_draw" M.Llaw_draw (.cons (.var 1) (.cons (.con (.int 4)) .nil)))) (.tup (.cons (.bin .add (.con (.int 1)) (.call "_law_draw" M.Llaw_draw (.cons (.var 1) (.cons (.con (.int 3)) .nil)))) .nil))) (.cons (.tup (.cons (.con (.int 0)) (.cons (.con (.int 0)) (.cons (.con (.int 0)) (.cons (.con (.int 0)) .nil))))) .nil))) .nil))))
 .skip)
 .skip)
 (.seq (.ife (.not (.call "_law_right" M.Llaw_right (.cons (.var 1) (.cons (.var 3) (.cons (.var 4) .nil)))))
 (.seq (.ret (.con (.bl false)))
 .skip)
 .skip)
 .skip))))))
 (.seq (.asgS 5 (.tup (.cons (.tup (.cons (.con (.int 0)) .nil)) (.cons (.tup (.cons (.con (.int 1)) (.cons (.neg (.con (.int 1))) (.cons (.con (.int 1)) (.cons (.con (.int 0)) .nil))))) .nil))))
 (.seq (.asg 6 (.lst (.cons (.callK "value_at" M.value_at .nil ["many", "formula"] (.cons (.con (.int 5)) (.cons (.var 5) .nil)) [1, 0]) (.cons (.callK "formula_plus" M.formula_plus .nil ["other", "one"] (.cons (.var 5) (.cons (.tup (.cons (.tup .nil) (.cons (.tup (.cons (.con (.int 0)) (.cons (.con (.int 0)) (.cons (.con (.int 0)) (.cons (.con (.int 1)) .nil))))) .nil))) .nil)) [1, 0]) .nil))))
 (.seq (.app 6 (.callK "equal_from" M.equal_from .nil ["other", "one"] (.cons (.var 5) (.cons (.var 5) .nil)) [1, 0]))
 (.seq (.app 6 (.callK "formula_minus" M.formula_minus .nil ["other", "one"] (.cons (.var 5) (.cons (.tup (.cons (.tup (.cons (.con (.int 7)) .nil)) (.cons (.tup (.cons (.con (.int 1)) (.cons (.neg (.con (.int 1))) (.cons (.con (.int 1)) (.cons (.con (.int 0)) .nil))))) .nil))) .nil)) [1, 0]))
 (.seq (.ret (.call "_law_like" M.Llaw_like (.cons (.var 6) (.cons (.lst (.cons (.con (.int 6)) (.cons (.tup (.cons (.tup (.cons (.con (.int 0)) .nil)) (.cons (.tup (.cons (.con (.int 1)) (.cons (.neg (.con (.int 1))) (.cons (.con (.int 1)) (.cons (.con (.int 1)) .nil))))) .nil))) (.cons (.con (.int 0)) (.cons (.tup (.cons (.tup (.cons (.con (.int 7)) .nil)) (.cons (.tup (.cons (.con (.int 0)) (.cons (.con (.int 0)) (.cons (.con (.int 0)) (.cons (.con (.int 0)) .nil))))) .nil))) .nil))))) .nil))))
 .skip))))))
end RS
end
section
set_option Elab.async false
set_option linter.all false
set_option maxRecDepth 100000
set_option autoImplicit false
set_option maxHeartbeats 4000000
namespace RS
open PySem PySem.Spec PyProof.Rows L2
def topAt (i : Nat) : PySem.Stmt := PySem.Challenge.pw_risingsays_k16_whole_formulas_added_and.main.body.getD i (.Pass ⟨0, 0, 0, 0⟩)
def bgPos : List PySem.Pos := [⟨130, 4, 130, 12⟩, ⟨130, 31, 130, 37⟩, ⟨130, 41, 130, 43⟩, ⟨130, 31, 130, 43⟩, ⟨130, 15, 130, 19⟩, ⟨130, 20, 130, 26⟩, ⟨130, 15, 130, 27⟩, ⟨130, 50, 130, 51⟩, ⟨130, 49, 130, 52⟩, ⟨130, 15, 130, 52⟩, ⟨130, 4, 130, 52⟩, ⟨131, 12, 131, 19⟩, ⟨131, 31, 131, 38⟩, ⟨131, 96, 131, 100⟩, ⟨131, 21, 131, 29⟩, ⟨131, 49, 131, 53⟩, ⟨131, 57, 131, 59⟩, ⟨131, 63, 131, 65⟩, ⟨131, 57, 131, 65⟩, ⟨131, 49, 131, 65⟩, ⟨131, 41, 131, 45⟩, ⟨131, 71, 131, 72⟩, ⟨131, 41, 131, 72⟩, ⟨131, 77, 131, 81⟩, ⟨131, 85, 131, 93⟩, ⟨131, 40, 131, 94⟩, ⟨131, 102, 131, 103⟩, ⟨131, 11, 131, 104⟩, ⟨131, 4, 131, 104⟩]
/-- the defs and constants of the text, at the module's names -/
structure Tops (K : PySem.W.Frag) (mg : PySem.Str → Option PySem.Value) : Prop where
  blt : ∀ x ∈ bltNames, mg (PySem.Str.ofString x) = none
  d_law_begin : DefAt K mg "_law_begin" (topAt 38)
  d_law_mixed : DefAt K mg "_law_mixed" (topAt 37)
  d_law_draw : DefAt K mg "_law_draw" (topAt 39)
  dsets_over : DefAt K mg "sets_over" (topAt 18)
  dsum_at : DefAt K mg "sum_at" (topAt 19)
  dlessened : DefAt K mg "lessened" (topAt 21)
  ddifferences : DefAt K mg "differences" (topAt 22)
  dshifted : DefAt K mg "shifted" (topAt 23)
  dsummed : DefAt K mg "summed" (topAt 24)
  dreaches_so : DefAt K mg "reaches_so" (topAt 12)
  dleast_so : DefAt K mg "least_so" (topAt 13)
  dtold_so : DefAt K mg "told_so" (topAt 20)
  djoined_by : DefAt K mg "joined_by" (topAt 25)
  dplus_formula : DefAt K mg "plus_formula" (topAt 26)
  dformula_so : DefAt K mg "formula_so" (topAt 28)
  dis_from : DefAt K mg "is_from" (topAt 4)
  dcheck_arity : DefAt K mg "check_arity" (topAt 11)
  dis_gaps : DefAt K mg "is_gaps" (topAt 9)
  dcheck_rows : DefAt K mg "check_rows" (topAt 10)
  dformula_of : DefAt K mg "formula_of" (topAt 31)
  d_law_lines : DefAt K mg "_law_lines" (topAt 41)
  d_law_over_lots : DefAt K mg "_law_over_lots" (topAt 42)
  d_law_told_by : DefAt K mg "_law_told_by" (topAt 44)
  d_law_formula : DefAt K mg "_law_formula" (topAt 45)
  dis_formula : DefAt K mg "is_formula" (topAt 29)
  dcheck_formula : DefAt K mg "check_formula" (topAt 30)
  dformula_plus : DefAt K mg "formula_plus" (topAt 33)
  dminus_formula : DefAt K mg "minus_formula" (topAt 27)
  dformula_minus : DefAt K mg "formula_minus" (topAt 34)
  d_law_like : DefAt K mg "_law_like" (topAt 40)
  d_law_due_formula : DefAt K mg "_law_due_formula" (topAt 43)
  dequal_from : DefAt K mg "equal_from" (topAt 35)
  dvalue_at : DefAt K mg "value_at" (topAt 32)
  d_law_right : DefAt K mg "_law_right" (topAt 46)
  dlaw : DefAt K mg "law" (topAt 47)
  c_NOTHING : ∃ u, mg (PySem.Str.ofString "NOTHING") = some u ∧ IsD K (.tup [(.tup []), (.tup [(.int 0), (.int 0), (.int 0), (.int 0)])]) u
  c_MOST_PLACES : ∃ u, mg (PySem.Str.ofString "MOST_PLACES") = some u ∧ IsD K (.int 40) u
  c_MOST_ROWS : ∃ u, mg (PySem.Str.ofString "MOST_ROWS") = some u ∧ IsD K (.int 60) u
  c_MOST_GAP : ∃ u, mg (PySem.Str.ofString "MOST_GAP") = some u ∧ IsD K (.int 12) u
  c_MOST_VALUES : ∃ u, mg (PySem.Str.ofString "MOST_VALUES") = some u ∧ IsD K (.int 400) u
  c_MOST_MANY : ∃ u, mg (PySem.Str.ofString "MOST_MANY") = some u ∧ IsD K (.int 1000000000000000000000000000000) u
section
variable {P : PySem.Program} {w : PySem.World} {K : PySem.W.Frag} {mg : PySem.Str → Option PySem.Value} {base : PySem.Heap}
theorem sc_law_mixed : scB ["cell", "k"] ["cell", "k"] (L2.defScope (topAt 37)) = true := by decide +kernel
theorem mt_law_mixed : mtSs M.Llaw_mixedS ⟨["cell", "k"], L2.defScope (topAt 37), fun _ => true⟩ (L2.defBody (topAt 37)) = true := by decide +kernel
theorem ok_law_mixed (T : Tops K mg) : Has P w K mg base "_law_mixed" (topAt 37) ["cell", "k"] 1 M.Llaw_mixed := by
  refine has_of T.d_law_mixed T.blt sc_law_mixed mt_law_mixed (fun _ _ _ _ _ _ us hl => match us, hl with | [_, _], _ => rfl) fun A hr => ?_
  unfold M.Llaw_mixedS
  first | trivial | (simp [okS, okE]; done)
theorem sc_law_draw : scB ["state", "limit", "at", "spot", "left", "mixed"] ["state", "limit"] (L2.defScope (topAt 39)) = true := by decide +kernel
theorem mt_law_draw : mtSs M.Llaw_drawS ⟨["state", "limit", "at", "spot", "left", "mixed"], L2.defScope (topAt 39), fun _ => true⟩ (L2.defBody (topAt 39)) = true := by decide +kernel
theorem ok_law_draw (T : Tops K mg) : Has P w K mg base "_law_draw" (topAt 39) ["state", "limit"] 2 M.Llaw_draw := by
  refine has_of T.d_law_draw T.blt sc_law_draw mt_law_draw (fun _ _ _ _ _ _ us hl => match us, hl with | [_, _], _ => rfl) fun A hr => ?_
  have h_law_mixed := ok_law_mixed (P := P) (w := w) (base := base) T;
  unfold M.Llaw_drawS
  simp only [okS, okE, true_and, and_true]
  repeat' apply And.intro
  all_goals first | trivial | (exact h_law_mixed.call hr (by decide)) | (intro z; cases z; done)
theorem scsets_over : scB ["many", "size", "found", "step"] ["many", "size"] (L2.defScope (topAt 18)) = true := by decide +kernel
theorem mtsets_over : mtSs M.sets_overS ⟨["many", "size", "found", "step"], L2.defScope (topAt 18), fun _ => true⟩ (L2.defBody (topAt 18)) = true := by decide +kernel
theorem oksets_over (T : Tops K mg) : Has P w K mg base "sets_over" (topAt 18) ["many", "size"] 1 M.sets_over := by
  refine has_of T.dsets_over T.blt scsets_over mtsets_over (fun _ _ _ _ _ _ us hl => match us, hl with | [_, _], _ => rfl) fun A hr => ?_
  unfold M.sets_overS
  first | trivial | (simp [okS, okE]; done)
theorem scsum_at : scB ["coefs", "many", "size", "coef"] ["coefs", "many"] (L2.defScope (topAt 19)) = true := by decide +kernel
theorem mtsum_at : mtSs M.sum_atS ⟨["coefs", "many", "size", "coef"], L2.defScope (topAt 19), fun _ => true⟩ (L2.defBody (topAt 19)) = true := by decide +kernel
theorem oksum_at (T : Tops K mg) : Has P w K mg base "sum_at" (topAt 19) ["coefs", "many"] 2 M.sum_at := by
  refine has_of T.dsum_at T.blt scsum_at mtsum_at (fun _ _ _ _ _ _ us hl => match us, hl with | [_, _], _ => rfl) fun A hr => ?_
  have hsets_over := oksets_over (P := P) (w := w) (base := base) T;
  unfold M.sum_atS
  simp only [okS, okE, true_and, and_true]
  repeat' apply And.intro
  all_goals first | trivial | (exact hsets_over.call hr (by decide)) | (intro z; cases z; done)
theorem sclessened : scB ["values", "coefs", "count"] ["values", "coefs"] (L2.defScope (topAt 21)) = true := by decide +kernel
theorem mtlessened : mtSs M.lessenedS ⟨["values", "coefs", "count"], L2.defScope (topAt 21), fun _ => true⟩ (L2.defBody (topAt 21)) = true := by decide +kernel
theorem oklessened (T : Tops K mg) : Has P w K mg base "lessened" (topAt 21) ["values", "coefs"] 3 M.lessened := by
  refine has_of T.dlessened T.blt sclessened mtlessened (fun _ _ _ _ _ _ us hl => match us, hl with | [_, _], _ => rfl) fun A hr => ?_
  have hsum_at := oksum_at (P := P) (w := w) (base := base) T;
  unfold M.lessenedS
  simp only [okS, okE, true_and, and_true]
  repeat' apply And.intro
  all_goals first | trivial | (exact hsum_at.call hr (by decide)) | (intro z; cases z; done)
theorem scdifferences : scB ["values", "found", "here", "near", "far"] ["values"] (L2.defScope (topAt 22)) = true := by decide +kernel
theorem mtdifferences : mtSs M.differencesS ⟨["values", "found", "here", "near", "far"], L2.defScope (topAt 22), fun _ => true⟩ (L2.defBody (topAt 22)) = true := by decide +kernel
theorem okdifferences (T : Tops K mg) : Has P w K mg base "differences" (topAt 22) ["values"] 1 M.differences := by
  refine has_of T.ddifferences T.blt scdifferences mtdifferences (fun _ _ _ _ _ _ us hl => match us, hl with | [_], _ => rfl) fun A hr => ?_
  unfold M.differencesS
  first | trivial | (simp [okS, okE]; done)
theorem scshifted : scB ["formula", "by", "values", "coefs", "more", "many"] ["formula", "by"] (L2.defScope (topAt 23)) = true := by decide +kernel
theorem mtshifted : mtSs M.shiftedS ⟨["formula", "by", "values", "coefs", "more", "many"], L2.defScope (topAt 23), fun _ => true⟩ (L2.defBody (topAt 23)) = true := by decide +kernel
theorem okshifted (T : Tops K mg) : Has P w K mg base "shifted" (topAt 23) ["formula", "by"] 4 M.shifted := by
  refine has_of T.dshifted T.blt scshifted mtshifted (fun _ _ _ _ _ _ us hl => match us, hl with | [_, _], _ => rfl) fun A hr => ?_
  have hdifferences := okdifferences (P := P) (w := w) (base := base) T; have hsum_at := oksum_at (P := P) (w := w) (base := base) T; have hlessened := oklessened (P := P) (w := w) (base := base) T;
  unfold M.shiftedS
  simp only [okS, okE, true_and, and_true]
  repeat' apply And.intro
  all_goals first | trivial | (exact hdifferences.call hr (by decide)) | (exact hsum_at.call hr (by decide)) | (exact hlessened.call hr (by decide)) | (intro z; cases z; done)
theorem scsummed : scB ["formula", "values", "coefs", "found", "value", "more"] ["formula"] (L2.defScope (topAt 24)) = true := by decide +kernel
theorem mtsummed : mtSs M.summedS ⟨["formula", "values", "coefs", "found", "value", "more"], L2.defScope (topAt 24), fun _ => true⟩ (L2.defBody (topAt 24)) = true := by decide +kernel
theorem oksummed (T : Tops K mg) : Has P w K mg base "summed" (topAt 24) ["formula"] 4 M.summed := by
  refine has_of T.dsummed T.blt scsummed mtsummed (fun _ _ _ _ _ _ us hl => match us, hl with | [_], _ => rfl) fun A hr => ?_
  have hsum_at := oksum_at (P := P) (w := w) (base := base) T; have hlessened := oklessened (P := P) (w := w) (base := base) T;
  unfold M.summedS
  simp only [okS, okE, true_and, and_true]
  repeat' apply And.intro
  all_goals first | trivial | (exact hsum_at.call hr (by decide)) | (exact hlessened.call hr (by decide)) | (intro z; cases z; done)
theorem screaches_so : scB ["gaps", "others", "near", "far"] ["gaps", "others"] (L2.defScope (topAt 12)) = true := by decide +kernel
theorem mtreaches_so : mtSs M.reaches_soS ⟨["gaps", "others", "near", "far"], L2.defScope (topAt 12), fun _ => true⟩ (L2.defBody (topAt 12)) = true := by decide +kernel
theorem okreaches_so (T : Tops K mg) : Has P w K mg base "reaches_so" (topAt 12) ["gaps", "others"] 1 M.reaches_so := by
  refine has_of T.dreaches_so T.blt screaches_so mtreaches_so (fun _ _ _ _ _ _ us hl => match us, hl with | [_, _], _ => rfl) fun A hr => ?_
  unfold M.reaches_soS
  first | trivial | (simp [okS, okE]; done)
theorem scleast_so : scB ["rows", "found", "row", "other"] ["rows"] (L2.defScope (topAt 13)) = true := by decide +kernel
theorem mtleast_so : mtSs M.least_soS ⟨["rows", "found", "row", "other"], L2.defScope (topAt 13), fun _ => true⟩ (L2.defBody (topAt 13)) = true := by decide +kernel
theorem okleast_so (T : Tops K mg) : Has P w K mg base "least_so" (topAt 13) ["rows"] 2 M.least_so := by
  refine has_of T.dleast_so T.blt scleast_so mtleast_so (fun _ _ _ _ _ _ us hl => match us, hl with | [_], _ => rfl) fun A hr => ?_
  have hreaches_so := okreaches_so (P := P) (w := w) (base := base) T;
  unfold M.least_soS
  simp only [okS, okE, true_and, and_true]
  repeat' apply And.intro
  all_goals first | trivial | (exact hreaches_so.call hr (by decide)) | (intro z; cases z; done)
theorem sctold_so : scB ["formula", "many"] ["formula", "many"] (L2.defScope (topAt 20)) = true := by decide +kernel
theorem mttold_so : mtSs M.told_soS ⟨["formula", "many"], L2.defScope (topAt 20), fun _ => true⟩ (L2.defBody (topAt 20)) = true := by decide +kernel
theorem oktold_so (T : Tops K mg) : Has P w K mg base "told_so" (topAt 20) ["formula", "many"] 3 M.told_so := by
  refine has_of T.dtold_so T.blt sctold_so mttold_so (fun _ _ _ _ _ _ us hl => match us, hl with | [_, _], _ => rfl) fun A hr => ?_
  have hsum_at := oksum_at (P := P) (w := w) (base := base) T;
  unfold M.told_soS
  simp only [okS, okE, true_and, and_true]
  repeat' apply And.intro
  all_goals first | trivial | (exact hsum_at.call hr (by decide)) | (intro z; cases z; done)
theorem scjoined_by : scB ["one", "other", "sign", "count", "values", "many", "near", "far"] ["one", "other", "sign"] (L2.defScope (topAt 25)) = true := by decide +kernel
theorem mtjoined_by : mtSs M.joined_byS ⟨["one", "other", "sign", "count", "values", "many", "near", "far"], L2.defScope (topAt 25), fun _ => true⟩ (L2.defBody (topAt 25)) = true := by decide +kernel
theorem okjoined_by (T : Tops K mg) : Has P w K mg base "joined_by" (topAt 25) ["one", "other", "sign"] 4 M.joined_by := by
  refine has_of T.djoined_by T.blt scjoined_by mtjoined_by (fun _ _ _ _ _ _ us hl => match us, hl with | [_, _, _], _ => rfl) fun A hr => ?_
  have htold_so := oktold_so (P := P) (w := w) (base := base) T; have hlessened := oklessened (P := P) (w := w) (base := base) T;
  unfold M.joined_byS
  simp only [okS, okE, true_and, and_true]
  repeat' apply And.intro
  all_goals first | trivial | (exact htold_so.call hr (by decide)) | (exact hlessened.call hr (by decide)) | (intro z; cases z; done)
theorem scplus_formula : scB ["one", "other"] ["one", "other"] (L2.defScope (topAt 26)) = true := by decide +kernel
theorem mtplus_formula : mtSs M.plus_formulaS ⟨["one", "other"], L2.defScope (topAt 26), fun _ => true⟩ (L2.defBody (topAt 26)) = true := by decide +kernel
theorem okplus_formula (T : Tops K mg) : Has P w K mg base "plus_formula" (topAt 26) ["one", "other"] 5 M.plus_formula := by
  refine has_of T.dplus_formula T.blt scplus_formula mtplus_formula (fun _ _ _ _ _ _ us hl => match us, hl with | [_, _], _ => rfl) fun A hr => ?_
  have hjoined_by := okjoined_by (P := P) (w := w) (base := base) T;
  unfold M.plus_formulaS
  simp only [okS, okE, true_and, and_true]
  repeat' apply And.intro
  all_goals first | trivial | (exact hjoined_by.call hr (by decide)) | (intro z; cases z; done)
theorem scformula_so : scB ["rows", "arity", "first", "row", "last", "found", "gap", "some"] ["rows", "arity"] (L2.defScope (topAt 28)) = true := by decide +kernel
theorem okformula_so_0 (T : Tops K mg) : Has P w K mg base "formula_so" (topAt 28) ["rows", "arity"] 1 (M.formula_so_ 0) := has_never T.dformula_so (fun _ _ _ _ _ _ us hl => match us, hl with | [_, _], _ => rfl)
theorem mtformula_so_0 : mtSs (M.formula_soS (M.formula_so_ 0)) ⟨["rows", "arity", "first", "row", "last", "found", "gap", "some"], L2.defScope (topAt 28), fun _ => true⟩ (L2.defBody (topAt 28)) = true := by decide +kernel
theorem okformula_so_1 (T : Tops K mg) : Has P w K mg base "formula_so" (topAt 28) ["rows", "arity"] 7 (M.formula_so_ 1) := by
  refine has_of T.dformula_so T.blt scformula_so mtformula_so_0 (fun _ _ _ _ _ _ us hl => match us, hl with | [_, _], _ => rfl) fun A hr => ?_
  have hlessened := oklessened (P := P) (w := w) (base := base) T; have hshifted := okshifted (P := P) (w := w) (base := base) T; have hsummed := oksummed (P := P) (w := w) (base := base) T; have hleast_so := okleast_so (P := P) (w := w) (base := base) T; have hplus_formula := okplus_formula (P := P) (w := w) (base := base) T;
  have hme := okformula_so_0 (P := P) (w := w) (base := base) T
  unfold M.formula_soS
  simp only [okS, okE, true_and, and_true]
  repeat' apply And.intro
  all_goals first | trivial | (exact hme.call hr (by decide)) | (exact hlessened.call hr (by decide)) | (exact hshifted.call hr (by decide)) | (exact hsummed.call hr (by decide)) | (exact hleast_so.call hr (by decide)) | (exact hplus_formula.call hr (by decide)) | (exact globOk T.c_NOTHING) | (intro z; cases z; done)
theorem mtformula_so_1 : mtSs (M.formula_soS (M.formula_so_ 1)) ⟨["rows", "arity", "first", "row", "last", "found", "gap", "some"], L2.defScope (topAt 28), fun _ => true⟩ (L2.defBody (topAt 28)) = true := by decide +kernel
theorem okformula_so_2 (T : Tops K mg) : Has P w K mg base "formula_so" (topAt 28) ["rows", "arity"] 8 (M.formula_so_ 2) := by
  refine has_of T.dformula_so T.blt scformula_so mtformula_so_1 (fun _ _ _ _ _ _ us hl => match us, hl with | [_, _], _ => rfl) fun A hr => ?_
  have hlessened := oklessened (P := P) (w := w) (base := base) T; have hshifted := okshifted (P := P) (w := w) (base := base) T; have hsummed := oksummed (P := P) (w := w) (base := base) T; have hleast_so := okleast_so (P := P) (w := w) (base := base) T; have hplus_formula := okplus_formula (P := P) (w := w) (base := base) T;
  have hme := okformula_so_1 (P := P) (w := w) (base := base) T
  unfold M.formula_soS
  simp only [okS, okE, true_and, and_true]
  repeat' apply And.intro
  all_goals first | trivial | (exact hme.call hr (by decide)) | (exact hlessened.call hr (by decide)) | (exact hshifted.call hr (by decide)) | (exact hsummed.call hr (by decide)) | (exact hleast_so.call hr (by decide)) | (exact hplus_formula.call hr (by decide)) | (exact globOk T.c_NOTHING) | (intro z; cases z; done)
theorem mtformula_so_2 : mtSs (M.formula_soS (M.formula_so_ 2)) ⟨["rows", "arity", "first", "row", "last", "found", "gap", "some"], L2.defScope (topAt 28), fun _ => true⟩ (L2.defBody (topAt 28)) = true := by decide +kernel
theorem okformula_so_3 (T : Tops K mg) : Has P w K mg base "formula_so" (topAt 28) ["rows", "arity"] 9 (M.formula_so_ 3) := by
  refine has_of T.dformula_so T.blt scformula_so mtformula_so_2 (fun _ _ _ _ _ _ us hl => match us, hl with | [_, _], _ => rfl) fun A hr => ?_
  have hlessened := oklessened (P := P) (w := w) (base := base) T; have hshifted := okshifted (P := P) (w := w) (base := base) T; have hsummed := oksummed (P := P) (w := w) (base := base) T; have hleast_so := okleast_so (P := P) (w := w) (base := base) T; have hplus_formula := okplus_formula (P := P) (w := w) (base := base) T;
  have hme := okformula_so_2 (P := P) (w := w) (base := base) T
  unfold M.formula_soS
  simp only [okS, okE, true_and, and_true]
  repeat' apply And.intro
  all_goals first | trivial | (exact hme.call hr (by decide)) | (exact hlessened.call hr (by decide)) | (exact hshifted.call hr (by decide)) | (exact hsummed.call hr (by decide)) | (exact hleast_so.call hr (by decide)) | (exact hplus_formula.call hr (by decide)) | (exact globOk T.c_NOTHING) | (intro z; cases z; done)
theorem mtformula_so_3 : mtSs (M.formula_soS (M.formula_so_ 3)) ⟨["rows", "arity", "first", "row", "last", "found", "gap", "some"], L2.defScope (topAt 28), fun _ => true⟩ (L2.defBody (topAt 28)) = true := by decide +kernel
theorem okformula_so_4 (T : Tops K mg) : Has P w K mg base "formula_so" (topAt 28) ["rows", "arity"] 10 (M.formula_so_ 4) := by
  refine has_of T.dformula_so T.blt scformula_so mtformula_so_3 (fun _ _ _ _ _ _ us hl => match us, hl with | [_, _], _ => rfl) fun A hr => ?_
  have hlessened := oklessened (P := P) (w := w) (base := base) T; have hshifted := okshifted (P := P) (w := w) (base := base) T; have hsummed := oksummed (P := P) (w := w) (base := base) T; have hleast_so := okleast_so (P := P) (w := w) (base := base) T; have hplus_formula := okplus_formula (P := P) (w := w) (base := base) T;
  have hme := okformula_so_3 (P := P) (w := w) (base := base) T
  unfold M.formula_soS
  simp only [okS, okE, true_and, and_true]
  repeat' apply And.intro
  all_goals first | trivial | (exact hme.call hr (by decide)) | (exact hlessened.call hr (by decide)) | (exact hshifted.call hr (by decide)) | (exact hsummed.call hr (by decide)) | (exact hleast_so.call hr (by decide)) | (exact hplus_formula.call hr (by decide)) | (exact globOk T.c_NOTHING) | (intro z; cases z; done)
theorem mtformula_so_4 : mtSs (M.formula_soS (M.formula_so_ 4)) ⟨["rows", "arity", "first", "row", "last", "found", "gap", "some"], L2.defScope (topAt 28), fun _ => true⟩ (L2.defBody (topAt 28)) = true := by decide +kernel
theorem okformula_so_5 (T : Tops K mg) : Has P w K mg base "formula_so" (topAt 28) ["rows", "arity"] 11 (M.formula_so_ 5) := by
  refine has_of T.dformula_so T.blt scformula_so mtformula_so_4 (fun _ _ _ _ _ _ us hl => match us, hl with | [_, _], _ => rfl) fun A hr => ?_
  have hlessened := oklessened (P := P) (w := w) (base := base) T; have hshifted := okshifted (P := P) (w := w) (base := base) T; have hsummed := oksummed (P := P) (w := w) (base := base) T; have hleast_so := okleast_so (P := P) (w := w) (base := base) T; have hplus_formula := okplus_formula (P := P) (w := w) (base := base) T;
  have hme := okformula_so_4 (P := P) (w := w) (base := base) T
  unfold M.formula_soS
  simp only [okS, okE, true_and, and_true]
  repeat' apply And.intro
  all_goals first | trivial | (exact hme.call hr (by decide)) | (exact hlessened.call hr (by decide)) | (exact hshifted.call hr (by decide)) | (exact hsummed.call hr (by decide)) | (exact hleast_so.call hr (by decide)) | (exact hplus_formula.call hr (by decide)) | (exact globOk T.c_NOTHING) | (intro z; cases z; done)
theorem okformula_so (T : Tops K mg) : Has P w K mg base "formula_so" (topAt 28) ["rows", "arity"] 11 M.formula_so := okformula_so_5 T
theorem scis_from : scB ["value", "low", "high"] ["value", "low", "high"] (L2.defScope (topAt 4)) = true := by decide +kernel
theorem mtis_from : mtSs M.is_fromS ⟨["value", "low", "high"], L2.defScope (topAt 4), fun _ => true⟩ (L2.defBody (topAt 4)) = true := by decide +kernel
theorem okis_from (T : Tops K mg) : Has P w K mg base "is_from" (topAt 4) ["value", "low", "high"] 1 M.is_from := by
  refine has_of T.dis_from T.blt scis_from mtis_from (fun _ _ _ _ _ _ us hl => match us, hl with | [_, _, _], _ => rfl) fun A hr => ?_
  unfold M.is_fromS
  first | trivial | (simp [okS, okE]; done)
theorem sccheck_arity : scB ["rows", "value", "row"] ["rows", "value"] (L2.defScope (topAt 11)) = true := by decide +kernel
theorem mtcheck_arity : mtSs M.check_arityS ⟨["rows", "value", "row"], L2.defScope (topAt 11), fun _ => true⟩ (L2.defBody (topAt 11)) = true := by decide +kernel
theorem okcheck_arity (T : Tops K mg) : Has P w K mg base "check_arity" (topAt 11) ["rows", "value"] 2 M.check_arity := by
  refine has_of T.dcheck_arity T.blt sccheck_arity mtcheck_arity (fun _ _ _ _ _ _ us hl => match us, hl with | [_, _], _ => rfl) fun A hr => ?_
  have his_from := okis_from (P := P) (w := w) (base := base) T;
  unfold M.check_arityS
  simp only [okS, okE, true_and, and_true]
  repeat' apply And.intro
  all_goals first | trivial | (exact his_from.call hr (by decide)) | (intro z; cases z; done)
theorem scis_gaps : scB ["value", "item"] ["value"] (L2.defScope (topAt 9)) = true := by decide +kernel
theorem mtis_gaps : mtSs M.is_gapsS ⟨["value", "item"], L2.defScope (topAt 9), fun _ => true⟩ (L2.defBody (topAt 9)) = true := by decide +kernel
theorem okis_gaps (T : Tops K mg) : Has P w K mg base "is_gaps" (topAt 9) ["value"] 2 M.is_gaps := by
  refine has_of T.dis_gaps T.blt scis_gaps mtis_gaps (fun _ _ _ _ _ _ us hl => match us, hl with | [_], _ => rfl) fun A hr => ?_
  have his_from := okis_from (P := P) (w := w) (base := base) T;
  unfold M.is_gapsS
  simp only [okS, okE, true_and, and_true]
  repeat' apply And.intro
  all_goals first | trivial | (exact his_from.call hr (by decide)) | (exact globOk T.c_MOST_PLACES) | (intro z; cases z; done)
theorem sccheck_rows : scB ["value", "row"] ["value"] (L2.defScope (topAt 10)) = true := by decide +kernel
theorem mtcheck_rows : mtSs M.check_rowsS ⟨["value", "row"], L2.defScope (topAt 10), fun _ => true⟩ (L2.defBody (topAt 10)) = true := by decide +kernel
theorem okcheck_rows (T : Tops K mg) : Has P w K mg base "check_rows" (topAt 10) ["value"] 3 M.check_rows := by
  refine has_of T.dcheck_rows T.blt sccheck_rows mtcheck_rows (fun _ _ _ _ _ _ us hl => match us, hl with | [_], _ => rfl) fun A hr => ?_
  have his_gaps := okis_gaps (P := P) (w := w) (base := base) T;
  unfold M.check_rowsS
  simp only [okS, okE, true_and, and_true]
  repeat' apply And.intro
  all_goals first | trivial | (exact his_gaps.call hr (by decide)) | (exact globOk T.c_MOST_ROWS) | (exact globOk T.c_MOST_GAP) | (intro z; cases z; done)
theorem scformula_of : scB ["rows", "arity"] ["rows", "arity"] (L2.defScope (topAt 31)) = true := by decide +kernel
theorem mtformula_of : mtSs M.formula_ofS ⟨["rows", "arity"], L2.defScope (topAt 31), fun _ => true⟩ (L2.defBody (topAt 31)) = true := by decide +kernel
theorem okformula_of (T : Tops K mg) : Has P w K mg base "formula_of" (topAt 31) ["rows", "arity"] 12 M.formula_of := by
  refine has_of T.dformula_of T.blt scformula_of mtformula_of (fun _ _ _ _ _ _ us hl => match us, hl with | [_, _], _ => rfl) fun A hr => ?_
  have hformula_so := okformula_so (P := P) (w := w) (base := base) T; have hcheck_arity := okcheck_arity (P := P) (w := w) (base := base) T; have hcheck_rows := okcheck_rows (P := P) (w := w) (base := base) T;
  unfold M.formula_ofS
  simp only [okS, okE, true_and, and_true]
  repeat' apply And.intro
  all_goals first | trivial | (exact hformula_so.call hr (by decide)) | (exact hcheck_arity.call hr (by decide)) | (exact hcheck_rows.call hr (by decide)) | (intro z; cases z; done)
theorem sc_law_lines : scB ["state", "size", "most", "high", "found", "step", "spot"] ["state", "size", "most", "high"] (L2.defScope (topAt 41)) = true := by decide +kernel
theorem mt_law_lines : mtSs M.Llaw_linesS ⟨["state", "size", "most", "high", "found", "step", "spot"], L2.defScope (topAt 41), fun _ => true⟩ (L2.defBody (topAt 41)) = true := by decide +kernel
theorem ok_law_lines (T : Tops K mg) : Has P w K mg base "_law_lines" (topAt 41) ["state", "size", "most", "high"] 3 M.Llaw_lines := by
  refine has_of T.d_law_lines T.blt sc_law_lines mt_law_lines (fun _ _ _ _ _ _ us hl => match us, hl with | [_, _, _, _], _ => rfl) fun A hr => ?_
  have h_law_draw := ok_law_draw (P := P) (w := w) (base := base) T;
  unfold M.Llaw_linesS
  simp only [okS, okE, true_and, and_true]
  repeat' apply And.intro
  all_goals first | trivial | (exact h_law_draw.call hr (by decide)) | (intro z; cases z; done)
theorem sc_law_over_lots : scB ["count", "size", "found", "step"] ["count", "size"] (L2.defScope (topAt 42)) = true := by decide +kernel
theorem mt_law_over_lots : mtSs M.Llaw_over_lotsS ⟨["count", "size", "found", "step"], L2.defScope (topAt 42), fun _ => true⟩ (L2.defBody (topAt 42)) = true := by decide +kernel
theorem ok_law_over_lots (T : Tops K mg) : Has P w K mg base "_law_over_lots" (topAt 42) ["count", "size"] 1 M.Llaw_over_lots := by
  refine has_of T.d_law_over_lots T.blt sc_law_over_lots mt_law_over_lots (fun _ _ _ _ _ _ us hl => match us, hl with | [_, _], _ => rfl) fun A hr => ?_
  unfold M.Llaw_over_lotsS
  first | trivial | (simp [okS, okE]; done)
theorem sc_law_told_by : scB ["told", "count", "size", "worth"] ["told", "count"] (L2.defScope (topAt 44)) = true := by decide +kernel
theorem mt_law_told_by : mtSs M.Llaw_told_byS ⟨["told", "count", "size", "worth"], L2.defScope (topAt 44), fun _ => true⟩ (L2.defBody (topAt 44)) = true := by decide +kernel
theorem ok_law_told_by (T : Tops K mg) : Has P w K mg base "_law_told_by" (topAt 44) ["told", "count"] 2 M.Llaw_told_by := by
  refine has_of T.d_law_told_by T.blt sc_law_told_by mt_law_told_by (fun _ _ _ _ _ _ us hl => match us, hl with | [_, _], _ => rfl) fun A hr => ?_
  have h_law_over_lots := ok_law_over_lots (P := P) (w := w) (base := base) T;
  unfold M.Llaw_told_byS
  simp only [okS, okE, true_and, and_true]
  repeat' apply And.intro
  all_goals first | trivial | (exact h_law_over_lots.call hr (by decide)) | (intro z; cases z; done)
theorem sc_law_formula : scB ["state", "size", "head", "step", "values_so", "turn"] ["state"] (L2.defScope (topAt 45)) = true := by decide +kernel
theorem mt_law_formula : mtSs M.Llaw_formulaS ⟨["state", "size", "head", "step", "values_so", "turn"], L2.defScope (topAt 45), fun _ => true⟩ (L2.defBody (topAt 45)) = true := by decide +kernel
theorem ok_law_formula (T : Tops K mg) : Has P w K mg base "_law_formula" (topAt 45) ["state"] 13 M.Llaw_formula := by
  refine has_of T.d_law_formula T.blt sc_law_formula mt_law_formula (fun _ _ _ _ _ _ us hl => match us, hl with | [_], _ => rfl) fun A hr => ?_
  have h_law_draw := ok_law_draw (P := P) (w := w) (base := base) T; have hformula_of := okformula_of (P := P) (w := w) (base := base) T; have h_law_lines := ok_law_lines (P := P) (w := w) (base := base) T; have h_law_told_by := ok_law_told_by (P := P) (w := w) (base := base) T;
  unfold M.Llaw_formulaS
  simp only [okS, okE, true_and, and_true]
  repeat' apply And.intro
  all_goals first | trivial | (exact h_law_draw.call hr (by decide)) | (exact hformula_of.call hr (by decide)) | (exact h_law_lines.call hr (by decide)) | (exact h_law_told_by.call hr (by decide)) | (intro z; cases z; done)
theorem scis_formula : scB ["value", "values", "coefs", "item"] ["value"] (L2.defScope (topAt 29)) = true := by decide +kernel
theorem mtis_formula : mtSs M.is_formulaS ⟨["value", "values", "coefs", "item"], L2.defScope (topAt 29), fun _ => true⟩ (L2.defBody (topAt 29)) = true := by decide +kernel
theorem okis_formula (T : Tops K mg) : Has P w K mg base "is_formula" (topAt 29) ["value"] 4 M.is_formula := by
  refine has_of T.dis_formula T.blt scis_formula mtis_formula (fun _ _ _ _ _ _ us hl => match us, hl with | [_], _ => rfl) fun A hr => ?_
  have hlessened := oklessened (P := P) (w := w) (base := base) T;
  unfold M.is_formulaS
  simp only [okS, okE, true_and, and_true]
  repeat' apply And.intro
  all_goals first | trivial | (exact hlessened.call hr (by decide)) | (exact globOk T.c_MOST_VALUES) | (intro z; cases z; done)
theorem sccheck_formula : scB ["value"] ["value"] (L2.defScope (topAt 30)) = true := by decide +kernel
theorem mtcheck_formula : mtSs M.check_formulaS ⟨["value"], L2.defScope (topAt 30), fun _ => true⟩ (L2.defBody (topAt 30)) = true := by decide +kernel
theorem okcheck_formula (T : Tops K mg) : Has P w K mg base "check_formula" (topAt 30) ["value"] 5 M.check_formula := by
  refine has_of T.dcheck_formula T.blt sccheck_formula mtcheck_formula (fun _ _ _ _ _ _ us hl => match us, hl with | [_], _ => rfl) fun A hr => ?_
  have his_formula := okis_formula (P := P) (w := w) (base := base) T;
  unfold M.check_formulaS
  simp only [okS, okE, true_and, and_true]
  repeat' apply And.intro
  all_goals first | trivial | (exact his_formula.call hr (by decide)) | (intro z; cases z; done)
theorem scformula_plus : scB ["one", "other"] ["one", "other"] (L2.defScope (topAt 33)) = true := by decide +kernel
theorem mtformula_plus : mtSs M.formula_plusS ⟨["one", "other"], L2.defScope (topAt 33), fun _ => true⟩ (L2.defBody (topAt 33)) = true := by decide +kernel
theorem okformula_plus (T : Tops K mg) : Has P w K mg base "formula_plus" (topAt 33) ["one", "other"] 6 M.formula_plus := by
  refine has_of T.dformula_plus T.blt scformula_plus mtformula_plus (fun _ _ _ _ _ _ us hl => match us, hl with | [_, _], _ => rfl) fun A hr => ?_
  have hcheck_formula := okcheck_formula (P := P) (w := w) (base := base) T; have hplus_formula := okplus_formula (P := P) (w := w) (base := base) T;
  unfold M.formula_plusS
  simp only [okS, okE, true_and, and_true]
  repeat' apply And.intro
  all_goals first | trivial | (exact hcheck_formula.call hr (by decide)) | (exact hplus_formula.call hr (by decide)) | (intro z; cases z; done)
theorem scminus_formula : scB ["one", "other"] ["one", "other"] (L2.defScope (topAt 27)) = true := by decide +kernel
theorem mtminus_formula : mtSs M.minus_formulaS ⟨["one", "other"], L2.defScope (topAt 27), fun _ => true⟩ (L2.defBody (topAt 27)) = true := by decide +kernel
theorem okminus_formula (T : Tops K mg) : Has P w K mg base "minus_formula" (topAt 27) ["one", "other"] 5 M.minus_formula := by
  refine has_of T.dminus_formula T.blt scminus_formula mtminus_formula (fun _ _ _ _ _ _ us hl => match us, hl with | [_, _], _ => rfl) fun A hr => ?_
  have hjoined_by := okjoined_by (P := P) (w := w) (base := base) T;
  unfold M.minus_formulaS
  simp only [okS, okE, true_and, and_true]
  repeat' apply And.intro
  all_goals first | trivial | (exact hjoined_by.call hr (by decide)) | (intro z; cases z; done)
theorem scformula_minus : scB ["one", "other"] ["one", "other"] (L2.defScope (topAt 34)) = true := by decide +kernel
theorem mtformula_minus : mtSs M.formula_minusS ⟨["one", "other"], L2.defScope (topAt 34), fun _ => true⟩ (L2.defBody (topAt 34)) = true := by decide +kernel
theorem okformula_minus (T : Tops K mg) : Has P w K mg base "formula_minus" (topAt 34) ["one", "other"] 6 M.formula_minus := by
  refine has_of T.dformula_minus T.blt scformula_minus mtformula_minus (fun _ _ _ _ _ _ us hl => match us, hl with | [_, _], _ => rfl) fun A hr => ?_
  have hcheck_formula := okcheck_formula (P := P) (w := w) (base := base) T; have hminus_formula := okminus_formula (P := P) (w := w) (base := base) T;
  unfold M.formula_minusS
  simp only [okS, okE, true_and, and_true]
  repeat' apply And.intro
  all_goals first | trivial | (exact hcheck_formula.call hr (by decide)) | (exact hminus_formula.call hr (by decide)) | (intro z; cases z; done)
theorem sc_law_like : scB ["got", "due"] ["got", "due"] (L2.defScope (topAt 40)) = true := by decide +kernel
theorem mt_law_like : mtSs M.Llaw_likeS ⟨["got", "due"], L2.defScope (topAt 40), fun _ => true⟩ (L2.defBody (topAt 40)) = true := by decide +kernel
theorem ok_law_like (T : Tops K mg) : Has P w K mg base "_law_like" (topAt 40) ["got", "due"] 1 M.Llaw_like := by
  refine has_of T.d_law_like T.blt sc_law_like mt_law_like (fun _ _ _ _ _ _ us hl => match us, hl with | [_, _], _ => rfl) fun A hr => ?_
  unfold M.Llaw_likeS
  first | trivial | (simp [okS, okE]; done)
theorem sc_law_due_formula : scB ["numbers_so", "whole", "step", "head", "here", "near", "far", "first", "turn"] ["numbers_so"] (L2.defScope (topAt 43)) = true := by decide +kernel
theorem mt_law_due_formula : mtSs M.Llaw_due_formulaS ⟨["numbers_so", "whole", "step", "head", "here", "near", "far", "first", "turn"], L2.defScope (topAt 43), fun _ => true⟩ (L2.defBody (topAt 43)) = true := by decide +kernel
theorem ok_law_due_formula (T : Tops K mg) : Has P w K mg base "_law_due_formula" (topAt 43) ["numbers_so"] 1 M.Llaw_due_formula := by
  refine has_of T.d_law_due_formula T.blt sc_law_due_formula mt_law_due_formula (fun _ _ _ _ _ _ us hl => match us, hl with | [_], _ => rfl) fun A hr => ?_
  unfold M.Llaw_due_formulaS
  first | trivial | (simp [okS, okE]; done)
theorem scequal_from : scB ["one", "other"] ["one", "other"] (L2.defScope (topAt 35)) = true := by decide +kernel
theorem mtequal_from : mtSs M.equal_fromS ⟨["one", "other"], L2.defScope (topAt 35), fun _ => true⟩ (L2.defBody (topAt 35)) = true := by decide +kernel
theorem okequal_from (T : Tops K mg) : Has P w K mg base "equal_from" (topAt 35) ["one", "other"] 6 M.equal_from := by
  refine has_of T.dequal_from T.blt scequal_from mtequal_from (fun _ _ _ _ _ _ us hl => match us, hl with | [_, _], _ => rfl) fun A hr => ?_
  have hcheck_formula := okcheck_formula (P := P) (w := w) (base := base) T; have hminus_formula := okminus_formula (P := P) (w := w) (base := base) T;
  unfold M.equal_fromS
  simp only [okS, okE, true_and, and_true]
  repeat' apply And.intro
  all_goals first | trivial | (exact hcheck_formula.call hr (by decide)) | (exact hminus_formula.call hr (by decide)) | (intro z; cases z; done)
theorem scvalue_at : scB ["formula", "many"] ["formula", "many"] (L2.defScope (topAt 32)) = true := by decide +kernel
theorem mtvalue_at : mtSs M.value_atS ⟨["formula", "many"], L2.defScope (topAt 32), fun _ => true⟩ (L2.defBody (topAt 32)) = true := by decide +kernel
theorem okvalue_at (T : Tops K mg) : Has P w K mg base "value_at" (topAt 32) ["formula", "many"] 6 M.value_at := by
  refine has_of T.dvalue_at T.blt scvalue_at mtvalue_at (fun _ _ _ _ _ _ us hl => match us, hl with | [_, _], _ => rfl) fun A hr => ?_
  have hcheck_formula := okcheck_formula (P := P) (w := w) (base := base) T; have his_from := okis_from (P := P) (w := w) (base := base) T; have htold_so := oktold_so (P := P) (w := w) (base := base) T;
  unfold M.value_atS
  simp only [okS, okE, true_and, and_true]
  repeat' apply And.intro
  all_goals first | trivial | (exact hcheck_formula.call hr (by decide)) | (exact his_from.call hr (by decide)) | (exact htold_so.call hr (by decide)) | (exact globOk T.c_MOST_MANY) | (intro z; cases z; done)
theorem sc_law_right : scB ["state", "near", "far", "size", "plus", "less", "count", "near_worth", "two", "got", "due"] ["state", "near", "far"] (L2.defScope (topAt 46)) = true := by decide +kernel
theorem mt_law_right : mtSs M.Llaw_rightS ⟨["state", "near", "far", "size", "plus", "less", "count", "near_worth", "two", "got", "due"], L2.defScope (topAt 46), fun _ => true⟩ (L2.defBody (topAt 46)) = true := by decide +kernel
theorem ok_law_right (T : Tops K mg) : Has P w K mg base "_law_right" (topAt 46) ["state", "near", "far"] 7 M.Llaw_right := by
  refine has_of T.d_law_right T.blt sc_law_right mt_law_right (fun _ _ _ _ _ _ us hl => match us, hl with | [_, _, _], _ => rfl) fun A hr => ?_
  have h_law_told_by := ok_law_told_by (P := P) (w := w) (base := base) T; have hformula_minus := okformula_minus (P := P) (w := w) (base := base) T; have hformula_plus := okformula_plus (P := P) (w := w) (base := base) T; have h_law_like := ok_law_like (P := P) (w := w) (base := base) T; have h_law_due_formula := ok_law_due_formula (P := P) (w := w) (base := base) T; have hequal_from := okequal_from (P := P) (w := w) (base := base) T; have h_law_draw := ok_law_draw (P := P) (w := w) (base := base) T; have hvalue_at := okvalue_at (P := P) (w := w) (base := base) T;
  unfold M.Llaw_rightS
  simp only [okS, okE, true_and, and_true]
  repeat' apply And.intro
  all_goals first | trivial | (exact h_law_told_by.call hr (by decide)) | (exact hformula_minus.call hr (by decide)) | (exact hformula_plus.call hr (by decide)) | (exact h_law_like.call hr (by decide)) | (exact h_law_due_formula.call hr (by decide)) | (exact hequal_from.call hr (by decide)) | (exact h_law_draw.call hr (by decide)) | (exact hvalue_at.call hr (by decide)) | (intro z; cases z; done)
theorem sclaw : scB ["script", "state", "turn", "near", "far", "some", "got"] ["script"] (L2.defScope (topAt 47)) = true := by decide +kernel
theorem mtlaw : mtSs M.lawS ⟨["script", "state", "turn", "near", "far", "some", "got"], L2.defScope (topAt 47), fun _ => true⟩ ((L2.defBody (topAt 47)).drop 1) = true := by decide +kernel
theorem oklaw (T : Tops K mg) : ∃ f fd, mg "law" = some (.ref f) ∧ L2.Fun K "law" "law" (topAt 47) f fd ∧ (∀ (s : PySem.Shared) (u : PySem.Value), BindsTo s fd ⟨[u], []⟩ [("script", u)]) ∧ LawGo P w K mg base f fd "script" 7 1 M.lawS := by
  refine law_of T.dlaw T.d_law_begin T.blt (p := fun i => bgPos.getD i ⟨0, 0, 0, 0⟩) (y := "state") (N := ["script", "state", "turn", "near", "far", "some", "got"]) (j := 1) sclaw rfl rfl rfl rfl (by decide +kernel) rfl (by decide +kernel) (by decide +kernel) mtlaw (fun _ _ _ _ _ _ _ => rfl) (fun _ _ _ _ _ _ us hl => match us, hl with | [_], _ => rfl) fun A hr => ?_
  have h_law_formula := ok_law_formula (P := P) (w := w) (base := base) T; have h_law_draw := ok_law_draw (P := P) (w := w) (base := base) T; have hformula_plus := okformula_plus (P := P) (w := w) (base := base) T; have h_law_right := ok_law_right (P := P) (w := w) (base := base) T; have h_law_like := ok_law_like (P := P) (w := w) (base := base) T; have hvalue_at := okvalue_at (P := P) (w := w) (base := base) T; have hequal_from := okequal_from (P := P) (w := w) (base := base) T; have hformula_minus := okformula_minus (P := P) (w := w) (base := base) T;
  unfold M.lawS
  simp only [okS, okE, true_and, and_true]
  repeat' apply And.intro
  all_goals first | trivial | (exact h_law_formula.call hr (by decide)) | (exact h_law_draw.call hr (by decide)) | (exact hformula_plus.call hr (by decide)) | (exact h_law_right.call hr (by decide)) | (exact h_law_like.call hr (by decide)) | (exact hformula_plus.callK hr (by decide) (fun _ _ _ _ _ _ s ws hl => match ws, hl with | [_, _], _ => .of_eq rfl) (by decide)) | (exact hvalue_at.callK hr (by decide) (fun _ _ _ _ _ _ s ws hl => match ws, hl with | [_, _], _ => .of_eq rfl) (by decide)) | (exact hequal_from.callK hr (by decide) (fun _ _ _ _ _ _ s ws hl => match ws, hl with | [_, _], _ => .of_eq rfl) (by decide)) | (exact hformula_minus.callK hr (by decide) (fun _ _ _ _ _ _ s ws hl => match ws, hl with | [_, _], _ => .of_eq rfl) (by decide)) | (intro z; cases z; done)
end
theorem tops_mk {P : PySem.Program} {w : PySem.World} {K : PySem.W.Frag} {h : PySem.Heap} {mg : PySem.Str → Option PySem.Value} {fa : PySem.Addr} (X : K.In h) (G : h.Ns mainGlobals mg) (hfa : mg "law" = some (.ref fa))
    {r0 : PySem.Addr} {oc0 kV0 dc0 pm0 cd0 ct0 : PySem.Value} {od0 an0 : Option PySem.Addr} {sl0 : Array (Option PySem.Value)}
    {r1 : PySem.Addr} {oc1 kV1 dc1 pm1 cd1 ct1 : PySem.Value} {od1 an1 : Option PySem.Addr} {sl1 : Array (Option PySem.Value)}
    {r2 : PySem.Addr} {oc2 kV2 dc2 pm2 cd2 ct2 : PySem.Value} {od2 an2 : Option PySem.Addr} {sl2 : Array (Option PySem.Value)}
    {r3 : PySem.Addr} {oc3 kV3 dc3 pm3 cd3 ct3 : PySem.Value} {od3 an3 : Option PySem.Addr} {sl3 : Array (Option PySem.Value)}
    {r4 : PySem.Addr} {oc4 kV4 dc4 pm4 cd4 ct4 : PySem.Value} {od4 an4 : Option PySem.Addr} {sl4 : Array (Option PySem.Value)}
    {r5 : PySem.Addr} {oc5 kV5 dc5 pm5 cd5 ct5 : PySem.Value} {od5 an5 : Option PySem.Addr} {sl5 : Array (Option PySem.Value)}
    {r6 : PySem.Addr} {oc6 kV6 dc6 pm6 cd6 ct6 : PySem.Value} {od6 an6 : Option PySem.Addr} {sl6 : Array (Option PySem.Value)}
    {r7 : PySem.Addr} {oc7 kV7 dc7 pm7 cd7 ct7 : PySem.Value} {od7 an7 : Option PySem.Addr} {sl7 : Array (Option PySem.Value)}
    {r8 : PySem.Addr} {oc8 kV8 dc8 pm8 cd8 ct8 : PySem.Value} {od8 an8 : Option PySem.Addr} {sl8 : Array (Option PySem.Value)}
    {r9 : PySem.Addr} {oc9 kV9 dc9 pm9 cd9 ct9 : PySem.Value} {od9 an9 : Option PySem.Addr} {sl9 : Array (Option PySem.Value)}
    {r10 : PySem.Addr} {oc10 kV10 dc10 pm10 cd10 ct10 : PySem.Value} {od10 an10 : Option PySem.Addr} {sl10 : Array (Option PySem.Value)}
    {r11 : PySem.Addr} {oc11 kV11 dc11 pm11 cd11 ct11 : PySem.Value} {od11 an11 : Option PySem.Addr} {sl11 : Array (Option PySem.Value)}
    {r12 : PySem.Addr} {oc12 kV12 dc12 pm12 cd12 ct12 : PySem.Value} {od12 an12 : Option PySem.Addr} {sl12 : Array (Option PySem.Value)}
    {r13 : PySem.Addr} {oc13 kV13 dc13 pm13 cd13 ct13 : PySem.Value} {od13 an13 : Option PySem.Addr} {sl13 : Array (Option PySem.Value)}
    {r14 : PySem.Addr} {oc14 kV14 dc14 pm14 cd14 ct14 : PySem.Value} {od14 an14 : Option PySem.Addr} {sl14 : Array (Option PySem.Value)}
    {r15 : PySem.Addr} {oc15 kV15 dc15 pm15 cd15 ct15 : PySem.Value} {od15 an15 : Option PySem.Addr} {sl15 : Array (Option PySem.Value)}
    {r16 : PySem.Addr} {oc16 kV16 dc16 pm16 cd16 ct16 : PySem.Value} {od16 an16 : Option PySem.Addr} {sl16 : Array (Option PySem.Value)}
    {r17 : PySem.Addr} {oc17 kV17 dc17 pm17 cd17 ct17 : PySem.Value} {od17 an17 : Option PySem.Addr} {sl17 : Array (Option PySem.Value)}
    {r18 : PySem.Addr} {oc18 kV18 dc18 pm18 cd18 ct18 : PySem.Value} {od18 an18 : Option PySem.Addr} {sl18 : Array (Option PySem.Value)}
    {r19 : PySem.Addr} {oc19 kV19 dc19 pm19 cd19 ct19 : PySem.Value} {od19 an19 : Option PySem.Addr} {sl19 : Array (Option PySem.Value)}
    {r20 : PySem.Addr} {oc20 kV20 dc20 pm20 cd20 ct20 : PySem.Value} {od20 an20 : Option PySem.Addr} {sl20 : Array (Option PySem.Value)}
    {r21 : PySem.Addr} {oc21 kV21 dc21 pm21 cd21 ct21 : PySem.Value} {od21 an21 : Option PySem.Addr} {sl21 : Array (Option PySem.Value)}
    {r22 : PySem.Addr} {oc22 kV22 dc22 pm22 cd22 ct22 : PySem.Value} {od22 an22 : Option PySem.Addr} {sl22 : Array (Option PySem.Value)}
    {r23 : PySem.Addr} {oc23 kV23 dc23 pm23 cd23 ct23 : PySem.Value} {od23 an23 : Option PySem.Addr} {sl23 : Array (Option PySem.Value)}
    {r24 : PySem.Addr} {oc24 kV24 dc24 pm24 cd24 ct24 : PySem.Value} {od24 an24 : Option PySem.Addr} {sl24 : Array (Option PySem.Value)}
    {r25 : PySem.Addr} {oc25 kV25 dc25 pm25 cd25 ct25 : PySem.Value} {od25 an25 : Option PySem.Addr} {sl25 : Array (Option PySem.Value)}
    {r26 : PySem.Addr} {oc26 kV26 dc26 pm26 cd26 ct26 : PySem.Value} {od26 an26 : Option PySem.Addr} {sl26 : Array (Option PySem.Value)}
    {r27 : PySem.Addr} {oc27 kV27 dc27 pm27 cd27 ct27 : PySem.Value} {od27 an27 : Option PySem.Addr} {sl27 : Array (Option PySem.Value)}
    {r28 : PySem.Addr} {oc28 kV28 dc28 pm28 cd28 ct28 : PySem.Value} {od28 an28 : Option PySem.Addr} {sl28 : Array (Option PySem.Value)}
    {r29 : PySem.Addr} {oc29 kV29 dc29 pm29 cd29 ct29 : PySem.Value} {od29 an29 : Option PySem.Addr} {sl29 : Array (Option PySem.Value)}
    {r30 : PySem.Addr} {oc30 kV30 dc30 pm30 cd30 ct30 : PySem.Value} {od30 an30 : Option PySem.Addr} {sl30 : Array (Option PySem.Value)}
    {r31 : PySem.Addr} {oc31 kV31 dc31 pm31 cd31 ct31 : PySem.Value} {od31 an31 : Option PySem.Addr} {sl31 : Array (Option PySem.Value)}
    {r32 : PySem.Addr} {oc32 kV32 dc32 pm32 cd32 ct32 : PySem.Value} {od32 an32 : Option PySem.Addr} {sl32 : Array (Option PySem.Value)}
    {r33 : PySem.Addr} {oc33 kV33 dc33 pm33 cd33 ct33 : PySem.Value} {od33 an33 : Option PySem.Addr} {sl33 : Array (Option PySem.Value)}
    {r34 : PySem.Addr} {oc34 kV34 dc34 pm34 cd34 ct34 : PySem.Value} {od34 an34 : Option PySem.Addr} {sl34 : Array (Option PySem.Value)}
    {u0 : PySem.Value}
    {u1 : PySem.Value}
    {u2 : PySem.Value}
    {u3 : PySem.Value}
    {u4 : PySem.Value}
    {u5 : PySem.Value}
    (a0 : PySem.W.nsIn K mainGlobals "_law_begin" = some (some (.ref r0))) (l0 : K.lookup r0 = some ⟨oc0, od0, .func (PySem.W.fnOf "_law_begin" "_law_begin" (L2.defArgs (topAt 38)) (L2.defBody (topAt 38)) (L2.defScope (topAt 38)) .none kV0 dc0 pm0 an0 cd0 ct0), sl0⟩) (c0 : PySem.W.codeIn K cd0 "_law_begin" = true) (k0 : PySem.W.keepIn K (.ref r0) = true)
    (a1 : PySem.W.nsIn K mainGlobals "_law_mixed" = some (some (.ref r1))) (l1 : K.lookup r1 = some ⟨oc1, od1, .func (PySem.W.fnOf "_law_mixed" "_law_mixed" (L2.defArgs (topAt 37)) (L2.defBody (topAt 37)) (L2.defScope (topAt 37)) .none kV1 dc1 pm1 an1 cd1 ct1), sl1⟩) (c1 : PySem.W.codeIn K cd1 "_law_mixed" = true) (k1 : PySem.W.keepIn K (.ref r1) = true)
    (a2 : PySem.W.nsIn K mainGlobals "_law_draw" = some (some (.ref r2))) (l2 : K.lookup r2 = some ⟨oc2, od2, .func (PySem.W.fnOf "_law_draw" "_law_draw" (L2.defArgs (topAt 39)) (L2.defBody (topAt 39)) (L2.defScope (topAt 39)) .none kV2 dc2 pm2 an2 cd2 ct2), sl2⟩) (c2 : PySem.W.codeIn K cd2 "_law_draw" = true) (k2 : PySem.W.keepIn K (.ref r2) = true)
    (a3 : PySem.W.nsIn K mainGlobals "sets_over" = some (some (.ref r3))) (l3 : K.lookup r3 = some ⟨oc3, od3, .func (PySem.W.fnOf "sets_over" "sets_over" (L2.defArgs (topAt 18)) (L2.defBody (topAt 18)) (L2.defScope (topAt 18)) .none kV3 dc3 pm3 an3 cd3 ct3), sl3⟩) (c3 : PySem.W.codeIn K cd3 "sets_over" = true) (k3 : PySem.W.keepIn K (.ref r3) = true)
    (a4 : PySem.W.nsIn K mainGlobals "sum_at" = some (some (.ref r4))) (l4 : K.lookup r4 = some ⟨oc4, od4, .func (PySem.W.fnOf "sum_at" "sum_at" (L2.defArgs (topAt 19)) (L2.defBody (topAt 19)) (L2.defScope (topAt 19)) .none kV4 dc4 pm4 an4 cd4 ct4), sl4⟩) (c4 : PySem.W.codeIn K cd4 "sum_at" = true) (k4 : PySem.W.keepIn K (.ref r4) = true)
    (a5 : PySem.W.nsIn K mainGlobals "lessened" = some (some (.ref r5))) (l5 : K.lookup r5 = some ⟨oc5, od5, .func (PySem.W.fnOf "lessened" "lessened" (L2.defArgs (topAt 21)) (L2.defBody (topAt 21)) (L2.defScope (topAt 21)) .none kV5 dc5 pm5 an5 cd5 ct5), sl5⟩) (c5 : PySem.W.codeIn K cd5 "lessened" = true) (k5 : PySem.W.keepIn K (.ref r5) = true)
    (a6 : PySem.W.nsIn K mainGlobals "differences" = some (some (.ref r6))) (l6 : K.lookup r6 = some ⟨oc6, od6, .func (PySem.W.fnOf "differences" "differences" (L2.defArgs (topAt 22)) (L2.defBody (topAt 22)) (L2.defScope (topAt 22)) .none kV6 dc6 pm6 an6 cd6 ct6), sl6⟩) (c6 : PySem.W.codeIn K cd6 "differences" = true) (k6 : PySem.W.keepIn K (.ref r6) = true)
    (a7 : PySem.W.nsIn K mainGlobals "shifted" = some (some (.ref r7))) (l7 : K.lookup r7 = some ⟨oc7, od7, .func (PySem.W.fnOf "shifted" "shifted" (L2.defArgs (topAt 23)) (L2.defBody (topAt 23)) (L2.defScope (topAt 23)) .none kV7 dc7 pm7 an7 cd7 ct7), sl7⟩) (c7 : PySem.W.codeIn K cd7 "shifted" = true) (k7 : PySem.W.keepIn K (.ref r7) = true)
    (a8 : PySem.W.nsIn K mainGlobals "summed" = some (some (.ref r8))) (l8 : K.lookup r8 = some ⟨oc8, od8, .func (PySem.W.fnOf "summed" "summed" (L2.defArgs (topAt 24)) (L2.defBody (topAt 24)) (L2.defScope (topAt 24)) .none kV8 dc8 pm8 an8 cd8 ct8), sl8⟩) (c8 : PySem.W.codeIn K cd8 "summed" = true) (k8 : PySem.W.keepIn K (.ref r8) = true)
    (a9 : PySem.W.nsIn K mainGlobals "reaches_so" = some (some (.ref r9))) (l9 : K.lookup r9 = some ⟨oc9, od9, .func (PySem.W.fnOf "reaches_so" "reaches_so" (L2.defArgs (topAt 12)) (L2.defBody (topAt 12)) (L2.defScope (topAt 12)) .none kV9 dc9 pm9 an9 cd9 ct9), sl9⟩) (c9 : PySem.W.codeIn K cd9 "reaches_so" = true) (k9 : PySem.W.keepIn K (.ref r9) = true)
    (a10 : PySem.W.nsIn K mainGlobals "least_so" = some (some (.ref r10))) (l10 : K.lookup r10 = some ⟨oc10, od10, .func (PySem.W.fnOf "least_so" "least_so" (L2.defArgs (topAt 13)) (L2.defBody (topAt 13)) (L2.defScope (topAt 13)) .none kV10 dc10 pm10 an10 cd10 ct10), sl10⟩) (c10 : PySem.W.codeIn K cd10 "least_so" = true) (k10 : PySem.W.keepIn K (.ref r10) = true)
    (a11 : PySem.W.nsIn K mainGlobals "told_so" = some (some (.ref r11))) (l11 : K.lookup r11 = some ⟨oc11, od11, .func (PySem.W.fnOf "told_so" "told_so" (L2.defArgs (topAt 20)) (L2.defBody (topAt 20)) (L2.defScope (topAt 20)) .none kV11 dc11 pm11 an11 cd11 ct11), sl11⟩) (c11 : PySem.W.codeIn K cd11 "told_so" = true) (k11 : PySem.W.keepIn K (.ref r11) = true)
    (a12 : PySem.W.nsIn K mainGlobals "joined_by" = some (some (.ref r12))) (l12 : K.lookup r12 = some ⟨oc12, od12, .func (PySem.W.fnOf "joined_by" "joined_by" (L2.defArgs (topAt 25)) (L2.defBody (topAt 25)) (L2.defScope (topAt 25)) .none kV12 dc12 pm12 an12 cd12 ct12), sl12⟩) (c12 : PySem.W.codeIn K cd12 "joined_by" = true) (k12 : PySem.W.keepIn K (.ref r12) = true)
    (a13 : PySem.W.nsIn K mainGlobals "plus_formula" = some (some (.ref r13))) (l13 : K.lookup r13 = some ⟨oc13, od13, .func (PySem.W.fnOf "plus_formula" "plus_formula" (L2.defArgs (topAt 26)) (L2.defBody (topAt 26)) (L2.defScope (topAt 26)) .none kV13 dc13 pm13 an13 cd13 ct13), sl13⟩) (c13 : PySem.W.codeIn K cd13 "plus_formula" = true) (k13 : PySem.W.keepIn K (.ref r13) = true)
    (a14 : PySem.W.nsIn K mainGlobals "formula_so" = some (some (.ref r14))) (l14 : K.lookup r14 = some ⟨oc14, od14, .func (PySem.W.fnOf "formula_so" "formula_so" (L2.defArgs (topAt 28)) (L2.defBody (topAt 28)) (L2.defScope (topAt 28)) .none kV14 dc14 pm14 an14 cd14 ct14), sl14⟩) (c14 : PySem.W.codeIn K cd14 "formula_so" = true) (k14 : PySem.W.keepIn K (.ref r14) = true)
    (a15 : PySem.W.nsIn K mainGlobals "is_from" = some (some (.ref r15))) (l15 : K.lookup r15 = some ⟨oc15, od15, .func (PySem.W.fnOf "is_from" "is_from" (L2.defArgs (topAt 4)) (L2.defBody (topAt 4)) (L2.defScope (topAt 4)) .none kV15 dc15 pm15 an15 cd15 ct15), sl15⟩) (c15 : PySem.W.codeIn K cd15 "is_from" = true) (k15 : PySem.W.keepIn K (.ref r15) = true)
    (a16 : PySem.W.nsIn K mainGlobals "check_arity" = some (some (.ref r16))) (l16 : K.lookup r16 = some ⟨oc16, od16, .func (PySem.W.fnOf "check_arity" "check_arity" (L2.defArgs (topAt 11)) (L2.defBody (topAt 11)) (L2.defScope (topAt 11)) .none kV16 dc16 pm16 an16 cd16 ct16), sl16⟩) (c16 : PySem.W.codeIn K cd16 "check_arity" = true) (k16 : PySem.W.keepIn K (.ref r16) = true)
    (a17 : PySem.W.nsIn K mainGlobals "is_gaps" = some (some (.ref r17))) (l17 : K.lookup r17 = some ⟨oc17, od17, .func (PySem.W.fnOf "is_gaps" "is_gaps" (L2.defArgs (topAt 9)) (L2.defBody (topAt 9)) (L2.defScope (topAt 9)) .none kV17 dc17 pm17 an17 cd17 ct17), sl17⟩) (c17 : PySem.W.codeIn K cd17 "is_gaps" = true) (k17 : PySem.W.keepIn K (.ref r17) = true)
    (a18 : PySem.W.nsIn K mainGlobals "check_rows" = some (some (.ref r18))) (l18 : K.lookup r18 = some ⟨oc18, od18, .func (PySem.W.fnOf "check_rows" "check_rows" (L2.defArgs (topAt 10)) (L2.defBody (topAt 10)) (L2.defScope (topAt 10)) .none kV18 dc18 pm18 an18 cd18 ct18), sl18⟩) (c18 : PySem.W.codeIn K cd18 "check_rows" = true) (k18 : PySem.W.keepIn K (.ref r18) = true)
    (a19 : PySem.W.nsIn K mainGlobals "formula_of" = some (some (.ref r19))) (l19 : K.lookup r19 = some ⟨oc19, od19, .func (PySem.W.fnOf "formula_of" "formula_of" (L2.defArgs (topAt 31)) (L2.defBody (topAt 31)) (L2.defScope (topAt 31)) .none kV19 dc19 pm19 an19 cd19 ct19), sl19⟩) (c19 : PySem.W.codeIn K cd19 "formula_of" = true) (k19 : PySem.W.keepIn K (.ref r19) = true)
    (a20 : PySem.W.nsIn K mainGlobals "_law_lines" = some (some (.ref r20))) (l20 : K.lookup r20 = some ⟨oc20, od20, .func (PySem.W.fnOf "_law_lines" "_law_lines" (L2.defArgs (topAt 41)) (L2.defBody (topAt 41)) (L2.defScope (topAt 41)) .none kV20 dc20 pm20 an20 cd20 ct20), sl20⟩) (c20 : PySem.W.codeIn K cd20 "_law_lines" = true) (k20 : PySem.W.keepIn K (.ref r20) = true)
    (a21 : PySem.W.nsIn K mainGlobals "_law_over_lots" = some (some (.ref r21))) (l21 : K.lookup r21 = some ⟨oc21, od21, .func (PySem.W.fnOf "_law_over_lots" "_law_over_lots" (L2.defArgs (topAt 42)) (L2.defBody (topAt 42)) (L2.defScope (topAt 42)) .none kV21 dc21 pm21 an21 cd21 ct21), sl21⟩) (c21 : PySem.W.codeIn K cd21 "_law_over_lots" = true) (k21 : PySem.W.keepIn K (.ref r21) = true)
    (a22 : PySem.W.nsIn K mainGlobals "_law_told_by" = some (some (.ref r22))) (l22 : K.lookup r22 = some ⟨oc22, od22, .func (PySem.W.fnOf "_law_told_by" "_law_told_by" (L2.defArgs (topAt 44)) (L2.defBody (topAt 44)) (L2.defScope (topAt 44)) .none kV22 dc22 pm22 an22 cd22 ct22), sl22⟩) (c22 : PySem.W.codeIn K cd22 "_law_told_by" = true) (k22 : PySem.W.keepIn K (.ref r22) = true)
    (a23 : PySem.W.nsIn K mainGlobals "_law_formula" = some (some (.ref r23))) (l23 : K.lookup r23 = some ⟨oc23, od23, .func (PySem.W.fnOf "_law_formula" "_law_formula" (L2.defArgs (topAt 45)) (L2.defBody (topAt 45)) (L2.defScope (topAt 45)) .none kV23 dc23 pm23 an23 cd23 ct23), sl23⟩) (c23 : PySem.W.codeIn K cd23 "_law_formula" = true) (k23 : PySem.W.keepIn K (.ref r23) = true)
    (a24 : PySem.W.nsIn K mainGlobals "is_formula" = some (some (.ref r24))) (l24 : K.lookup r24 = some ⟨oc24, od24, .func (PySem.W.fnOf "is_formula" "is_formula" (L2.defArgs (topAt 29)) (L2.defBody (topAt 29)) (L2.defScope (topAt 29)) .none kV24 dc24 pm24 an24 cd24 ct24), sl24⟩) (c24 : PySem.W.codeIn K cd24 "is_formula" = true) (k24 : PySem.W.keepIn K (.ref r24) = true)
    (a25 : PySem.W.nsIn K mainGlobals "check_formula" = some (some (.ref r25))) (l25 : K.lookup r25 = some ⟨oc25, od25, .func (PySem.W.fnOf "check_formula" "check_formula" (L2.defArgs (topAt 30)) (L2.defBody (topAt 30)) (L2.defScope (topAt 30)) .none kV25 dc25 pm25 an25 cd25 ct25), sl25⟩) (c25 : PySem.W.codeIn K cd25 "check_formula" = true) (k25 : PySem.W.keepIn K (.ref r25) = true)
    (a26 : PySem.W.nsIn K mainGlobals "formula_plus" = some (some (.ref r26))) (l26 : K.lookup r26 = some ⟨oc26, od26, .func (PySem.W.fnOf "formula_plus" "formula_plus" (L2.defArgs (topAt 33)) (L2.defBody (topAt 33)) (L2.defScope (topAt 33)) .none kV26 dc26 pm26 an26 cd26 ct26), sl26⟩) (c26 : PySem.W.codeIn K cd26 "formula_plus" = true) (k26 : PySem.W.keepIn K (.ref r26) = true)
    (a27 : PySem.W.nsIn K mainGlobals "minus_formula" = some (some (.ref r27))) (l27 : K.lookup r27 = some ⟨oc27, od27, .func (PySem.W.fnOf "minus_formula" "minus_formula" (L2.defArgs (topAt 27)) (L2.defBody (topAt 27)) (L2.defScope (topAt 27)) .none kV27 dc27 pm27 an27 cd27 ct27), sl27⟩) (c27 : PySem.W.codeIn K cd27 "minus_formula" = true) (k27 : PySem.W.keepIn K (.ref r27) = true)
    (a28 : PySem.W.nsIn K mainGlobals "formula_minus" = some (some (.ref r28))) (l28 : K.lookup r28 = some ⟨oc28, od28, .func (PySem.W.fnOf "formula_minus" "formula_minus" (L2.defArgs (topAt 34)) (L2.defBody (topAt 34)) (L2.defScope (topAt 34)) .none kV28 dc28 pm28 an28 cd28 ct28), sl28⟩) (c28 : PySem.W.codeIn K cd28 "formula_minus" = true) (k28 : PySem.W.keepIn K (.ref r28) = true)
    (a29 : PySem.W.nsIn K mainGlobals "_law_like" = some (some (.ref r29))) (l29 : K.lookup r29 = some ⟨oc29, od29, .func (PySem.W.fnOf "_law_like" "_law_like" (L2.defArgs (topAt 40)) (L2.defBody (topAt 40)) (L2.defScope (topAt 40)) .none kV29 dc29 pm29 an29 cd29 ct29), sl29⟩) (c29 : PySem.W.codeIn K cd29 "_law_like" = true) (k29 : PySem.W.keepIn K (.ref r29) = true)
    (a30 : PySem.W.nsIn K mainGlobals "_law_due_formula" = some (some (.ref r30))) (l30 : K.lookup r30 = some ⟨oc30, od30, .func (PySem.W.fnOf "_law_due_formula" "_law_due_formula" (L2.defArgs (topAt 43)) (L2.defBody (topAt 43)) (L2.defScope (topAt 43)) .none kV30 dc30 pm30 an30 cd30 ct30), sl30⟩) (c30 : PySem.W.codeIn K cd30 "_law_due_formula" = true) (k30 : PySem.W.keepIn K (.ref r30) = true)
    (a31 : PySem.W.nsIn K mainGlobals "equal_from" = some (some (.ref r31))) (l31 : K.lookup r31 = some ⟨oc31, od31, .func (PySem.W.fnOf "equal_from" "equal_from" (L2.defArgs (topAt 35)) (L2.defBody (topAt 35)) (L2.defScope (topAt 35)) .none kV31 dc31 pm31 an31 cd31 ct31), sl31⟩) (c31 : PySem.W.codeIn K cd31 "equal_from" = true) (k31 : PySem.W.keepIn K (.ref r31) = true)
    (a32 : PySem.W.nsIn K mainGlobals "value_at" = some (some (.ref r32))) (l32 : K.lookup r32 = some ⟨oc32, od32, .func (PySem.W.fnOf "value_at" "value_at" (L2.defArgs (topAt 32)) (L2.defBody (topAt 32)) (L2.defScope (topAt 32)) .none kV32 dc32 pm32 an32 cd32 ct32), sl32⟩) (c32 : PySem.W.codeIn K cd32 "value_at" = true) (k32 : PySem.W.keepIn K (.ref r32) = true)
    (a33 : PySem.W.nsIn K mainGlobals "_law_right" = some (some (.ref r33))) (l33 : K.lookup r33 = some ⟨oc33, od33, .func (PySem.W.fnOf "_law_right" "_law_right" (L2.defArgs (topAt 46)) (L2.defBody (topAt 46)) (L2.defScope (topAt 46)) .none kV33 dc33 pm33 an33 cd33 ct33), sl33⟩) (c33 : PySem.W.codeIn K cd33 "_law_right" = true) (k33 : PySem.W.keepIn K (.ref r33) = true)
    (a34 : PySem.W.nsIn K mainGlobals "law" = some (some (.ref r34))) (l34 : K.lookup r34 = some ⟨oc34, od34, .func (PySem.W.fnOf "law" "law" (L2.defArgs (topAt 47)) (L2.defBody (topAt 47)) (L2.defScope (topAt 47)) .none kV34 dc34 pm34 an34 cd34 ct34), sl34⟩) (c34 : PySem.W.codeIn K cd34 "law" = true) (k34 : PySem.W.keepIn K (.ref r34) = true)
    (z0 : PySem.W.nsIn K mainGlobals "len" = some none)
    (z1 : PySem.W.nsIn K mainGlobals "tuple" = some none)
    (z2 : PySem.W.nsIn K mainGlobals "list" = some none)
    (z3 : PySem.W.nsIn K mainGlobals "sum" = some none)
    (z4 : PySem.W.nsIn K mainGlobals "max" = some none)
    (z5 : PySem.W.nsIn K mainGlobals "min" = some none)
    (z6 : PySem.W.nsIn K mainGlobals "abs" = some none)
    (z7 : PySem.W.nsIn K mainGlobals "int" = some none)
    (z8 : PySem.W.nsIn K mainGlobals "sorted" = some none)
    (z9 : PySem.W.nsIn K mainGlobals "set" = some none)
    (z10 : PySem.W.nsIn K mainGlobals "isinstance" = some none)
    (z11 : PySem.W.nsIn K mainGlobals "repr" = some none)
    (z12 : PySem.W.nsIn K mainGlobals "range" = some none)
    (z13 : PySem.W.nsIn K mainGlobals "zip" = some none)
    (z14 : PySem.W.nsIn K mainGlobals "enumerate" = some none)
    (z15 : PySem.W.nsIn K mainGlobals "bool" = some none)
    (z16 : PySem.W.nsIn K mainGlobals "dict" = some none)
    (z17 : PySem.W.nsIn K mainGlobals "reversed" = some none)
    (cg0 : PySem.W.nsIn K mainGlobals "NOTHING" = some (some u0)) (dg0 : IsD K (.tup [(.tup []), (.tup [(.int 0), (.int 0), (.int 0), (.int 0)])]) u0)
    (cg1 : PySem.W.nsIn K mainGlobals "MOST_PLACES" = some (some u1)) (dg1 : IsD K (.int 40) u1)
    (cg2 : PySem.W.nsIn K mainGlobals "MOST_ROWS" = some (some u2)) (dg2 : IsD K (.int 60) u2)
    (cg3 : PySem.W.nsIn K mainGlobals "MOST_GAP" = some (some u3)) (dg3 : IsD K (.int 12) u3)
    (cg4 : PySem.W.nsIn K mainGlobals "MOST_VALUES" = some (some u4)) (dg4 : IsD K (.int 400) u4)
    (cg5 : PySem.W.nsIn K mainGlobals "MOST_MANY" = some (some u5)) (dg5 : IsD K (.int 1000000000000000000000000000000) u5) :
    ∃ fd : PySem.FuncData, (∀ (s : PySem.Shared) (u : PySem.Value), BindsTo s fd ⟨[u], []⟩ [("script", u)]) ∧ ∀ base : PySem.Heap, K.In base → base.Ns mainGlobals mg → LawGo P w K mg base fa fd "script" 7 1 M.lawS := by
  have T : Tops K mg := {
    blt := by
      intro x hx
      rcases List.mem_cons.mp hx with rfl | hx
      · exact PySem.W.mg_none_of X G z0
      rcases List.mem_cons.mp hx with rfl | hx
      · exact PySem.W.mg_none_of X G z1
      rcases List.mem_cons.mp hx with rfl | hx
      · exact PySem.W.mg_none_of X G z2
      rcases List.mem_cons.mp hx with rfl | hx
      · exact PySem.W.mg_none_of X G z3
      rcases List.mem_cons.mp hx with rfl | hx
      · exact PySem.W.mg_none_of X G z4
      rcases List.mem_cons.mp hx with rfl | hx
      · exact PySem.W.mg_none_of X G z5
      rcases List.mem_cons.mp hx with rfl | hx
      · exact PySem.W.mg_none_of X G z6
      rcases List.mem_cons.mp hx with rfl | hx
      · exact PySem.W.mg_none_of X G z7
      rcases List.mem_cons.mp hx with rfl | hx
      · exact PySem.W.mg_none_of X G z8
      rcases List.mem_cons.mp hx with rfl | hx
      · exact PySem.W.mg_none_of X G z9
      rcases List.mem_cons.mp hx with rfl | hx
      · exact PySem.W.mg_none_of X G z10
      rcases List.mem_cons.mp hx with rfl | hx
      · exact PySem.W.mg_none_of X G z11
      rcases List.mem_cons.mp hx with rfl | hx
      · exact PySem.W.mg_none_of X G z12
      rcases List.mem_cons.mp hx with rfl | hx
      · exact PySem.W.mg_none_of X G z13
      rcases List.mem_cons.mp hx with rfl | hx
      · exact PySem.W.mg_none_of X G z14
      rcases List.mem_cons.mp hx with rfl | hx
      · exact PySem.W.mg_none_of X G z15
      rcases List.mem_cons.mp hx with rfl | hx
      · exact PySem.W.mg_none_of X G z16
      rcases List.mem_cons.mp hx with rfl | hx
      · exact PySem.W.mg_none_of X G z17
      exact absurd hx (by simp)
    d_law_begin := ⟨_, _, PySem.W.mg_of X G a0, L2.fun_mk (st := topAt 38) l0 c0 k0⟩
    d_law_mixed := ⟨_, _, PySem.W.mg_of X G a1, L2.fun_mk (st := topAt 37) l1 c1 k1⟩
    d_law_draw := ⟨_, _, PySem.W.mg_of X G a2, L2.fun_mk (st := topAt 39) l2 c2 k2⟩
    dsets_over := ⟨_, _, PySem.W.mg_of X G a3, L2.fun_mk (st := topAt 18) l3 c3 k3⟩
    dsum_at := ⟨_, _, PySem.W.mg_of X G a4, L2.fun_mk (st := topAt 19) l4 c4 k4⟩
    dlessened := ⟨_, _, PySem.W.mg_of X G a5, L2.fun_mk (st := topAt 21) l5 c5 k5⟩
    ddifferences := ⟨_, _, PySem.W.mg_of X G a6, L2.fun_mk (st := topAt 22) l6 c6 k6⟩
    dshifted := ⟨_, _, PySem.W.mg_of X G a7, L2.fun_mk (st := topAt 23) l7 c7 k7⟩
    dsummed := ⟨_, _, PySem.W.mg_of X G a8, L2.fun_mk (st := topAt 24) l8 c8 k8⟩
    dreaches_so := ⟨_, _, PySem.W.mg_of X G a9, L2.fun_mk (st := topAt 12) l9 c9 k9⟩
    dleast_so := ⟨_, _, PySem.W.mg_of X G a10, L2.fun_mk (st := topAt 13) l10 c10 k10⟩
    dtold_so := ⟨_, _, PySem.W.mg_of X G a11, L2.fun_mk (st := topAt 20) l11 c11 k11⟩
    djoined_by := ⟨_, _, PySem.W.mg_of X G a12, L2.fun_mk (st := topAt 25) l12 c12 k12⟩
    dplus_formula := ⟨_, _, PySem.W.mg_of X G a13, L2.fun_mk (st := topAt 26) l13 c13 k13⟩
    dformula_so := ⟨_, _, PySem.W.mg_of X G a14, L2.fun_mk (st := topAt 28) l14 c14 k14⟩
    dis_from := ⟨_, _, PySem.W.mg_of X G a15, L2.fun_mk (st := topAt 4) l15 c15 k15⟩
    dcheck_arity := ⟨_, _, PySem.W.mg_of X G a16, L2.fun_mk (st := topAt 11) l16 c16 k16⟩
    dis_gaps := ⟨_, _, PySem.W.mg_of X G a17, L2.fun_mk (st := topAt 9) l17 c17 k17⟩
    dcheck_rows := ⟨_, _, PySem.W.mg_of X G a18, L2.fun_mk (st := topAt 10) l18 c18 k18⟩
    dformula_of := ⟨_, _, PySem.W.mg_of X G a19, L2.fun_mk (st := topAt 31) l19 c19 k19⟩
    d_law_lines := ⟨_, _, PySem.W.mg_of X G a20, L2.fun_mk (st := topAt 41) l20 c20 k20⟩
    d_law_over_lots := ⟨_, _, PySem.W.mg_of X G a21, L2.fun_mk (st := topAt 42) l21 c21 k21⟩
    d_law_told_by := ⟨_, _, PySem.W.mg_of X G a22, L2.fun_mk (st := topAt 44) l22 c22 k22⟩
    d_law_formula := ⟨_, _, PySem.W.mg_of X G a23, L2.fun_mk (st := topAt 45) l23 c23 k23⟩
    dis_formula := ⟨_, _, PySem.W.mg_of X G a24, L2.fun_mk (st := topAt 29) l24 c24 k24⟩
    dcheck_formula := ⟨_, _, PySem.W.mg_of X G a25, L2.fun_mk (st := topAt 30) l25 c25 k25⟩
    dformula_plus := ⟨_, _, PySem.W.mg_of X G a26, L2.fun_mk (st := topAt 33) l26 c26 k26⟩
    dminus_formula := ⟨_, _, PySem.W.mg_of X G a27, L2.fun_mk (st := topAt 27) l27 c27 k27⟩
    dformula_minus := ⟨_, _, PySem.W.mg_of X G a28, L2.fun_mk (st := topAt 34) l28 c28 k28⟩
    d_law_like := ⟨_, _, PySem.W.mg_of X G a29, L2.fun_mk (st := topAt 40) l29 c29 k29⟩
    d_law_due_formula := ⟨_, _, PySem.W.mg_of X G a30, L2.fun_mk (st := topAt 43) l30 c30 k30⟩
    dequal_from := ⟨_, _, PySem.W.mg_of X G a31, L2.fun_mk (st := topAt 35) l31 c31 k31⟩
    dvalue_at := ⟨_, _, PySem.W.mg_of X G a32, L2.fun_mk (st := topAt 32) l32 c32 k32⟩
    d_law_right := ⟨_, _, PySem.W.mg_of X G a33, L2.fun_mk (st := topAt 46) l33 c33 k33⟩
    dlaw := ⟨_, _, PySem.W.mg_of X G a34, L2.fun_mk (st := topAt 47) l34 c34 k34⟩
    c_NOTHING := ⟨_, PySem.W.mg_of X G cg0, dg0⟩
    c_MOST_PLACES := ⟨_, PySem.W.mg_of X G cg1, dg1⟩
    c_MOST_ROWS := ⟨_, PySem.W.mg_of X G cg2, dg2⟩
    c_MOST_GAP := ⟨_, PySem.W.mg_of X G cg3, dg3⟩
    c_MOST_VALUES := ⟨_, PySem.W.mg_of X G cg4, dg4⟩
    c_MOST_MANY := ⟨_, PySem.W.mg_of X G cg5, dg5⟩ }
  exact law_uniform h hfa fun base => oklaw (P := P) (w := w) (base := base) T
end RS
end
section
set_option autoImplicit false
set_option linter.all false
set_option maxRecDepth 100000
set_option maxHeartbeats 4000000
/-! RSPlain: the evaluator on small programs; the law's draws. -/
namespace RS
theorem fitsI_of {i : Int} (h : i.natAbs < 2 ^ 200) : fitsI i = true := by
  unfold fitsI BIG
  rw [decide_eq_true_eq]
  exact Nat.lt_trans h (Nat.pow_lt_pow_right (by decide) (by decide))
/-- k more draws may be made -/
structure St (k : Nat) (s : OSt) : Prop where
  ne : 0 < s.cells.length
  len : s.lefts.length = s.cells.length
  pos : s.pos + k ≤ 1000000000
theorem St.mono {j k : Nat} {s : OSt} (h : St k s) (l : j ≤ k) : St j s := ⟨h.ne, h.len, by have := h.pos; omega⟩
theorem beginSt_ok (ns : List Int) : St 1000000000 (beginSt ns) := by
  unfold beginSt
  refine ⟨?_, by simp, by simp⟩
  dsimp only
  split
  · exact Nat.le_refl 1
  · rename_i h; exact List.length_pos_iff.mpr h
theorem mixed_run (c k : Int) (hk : 0 ≤ k) (hk2 : k < 2 ^ 64) (s : OSt) : ∃ m : Int, M.Llaw_mixed [.int c, .int k] s = .ok (.sh (.int m)) s ∧ 0 ≤ m ∧ m < 2147483629 := by
  refine ⟨(c.fmod 2147483647 * (48271 + 2 * k * k) + 69621 * k + 11).fmod 2147483647 * 69621 |>.fmod 2147483629, ?_, ?_, ?_⟩
  · have h1 : 0 ≤ c.fmod 2147483647 ∧ c.fmod 2147483647 < 2147483647 := by
      rw [Int.fmod_eq_emod_of_nonneg _ (by decide)]; omega
    have f : ∀ i : Int, -(2 ^ 150) < i → i < 2 ^ 150 → fitsI i = true := fun i a b => fitsI_of (by omega)
    have h3 : k * k ≤ (2 ^ 64 - 1) * (2 ^ 64 - 1) ∧ 0 ≤ k * k := ⟨Int.mul_le_mul (by omega) (by omega) hk (by decide), Int.mul_nonneg hk hk⟩
    have h4 : 2 * k * k = 2 * (k * k) := Int.mul_assoc _ _ _
    have h5 : 0 ≤ (c.fmod 2147483647 * (48271 + 2 * k * k) + 69621 * k + 11).fmod 2147483647 ∧ (c.fmod 2147483647 * (48271 + 2 * k * k) + 69621 * k + 11).fmod 2147483647 < 2147483647 := by
      rw [Int.fmod_eq_emod_of_nonneg _ (by decide)]; omega
    have e1 := f (c.fmod 2147483647) (by omega) (by omega)
    have e2 := f k (by omega) (by omega)
    have e3 := f (2 * k) (by omega) (by omega)
    have e4 := f (48271 + 2 * k * k) (by omega) (by omega)
    have e5 := f _ (by have := h5.1; omega) (by have := h5.2; omega : (c.fmod 2147483647 * (48271 + 2 * k * k) + 69621 * k + 11).fmod 2147483647 < 2 ^ 150)
    have e6 := f 2 (by decide) (by decide)
    have e7 := f 69621 (by decide) (by decide)
    simp [M.Llaw_mixed, M.Llaw_mixedS, evFn, exS, ev, evs, startE, R.bind, withV, lift, primF, int1, binF, Slot.val, outOf, assignAll, slotOf, Rs.isBo, Rs.d, endR, e1, e2, e3, e4, e5, e6, e7]
  · rw [Int.fmod_eq_emod_of_nonneg _ (by decide)]; omega
  · rw [Int.fmod_eq_emod_of_nonneg _ (by decide)]; omega
theorem ixOf_nat {n i : Nat} (h : i < n) : ixOf n (i : Int) = some i := by
  unfold ixOf
  rw [if_pos (by omega), if_pos (by omega)]
  simp
theorem draw_run {k : Nat} {s : OSt} (h : St (k + 1) s) {l : Int} (h0 : 0 < l) (h1 : l < 2 ^ 64) : ∃ (d : Int) (s' : OSt), M.Llaw_draw [.st, .int l] s = .ok (.sh (.int d)) s' ∧ 0 ≤ d ∧ d < l ∧ St k s' := by
  obtain ⟨hne, hlen, hpos⟩ := h
  have hsp : s.pos % s.cells.length < s.cells.length := Nat.mod_lt _ hne
  have e1 : ((s.pos : Nat) : Int) % (s.cells.length : Int) = ((s.pos % s.cells.length : Nat) : Int) := by simp
  have hsl : s.pos % s.cells.length < s.lefts.length := by omega
  have e2 : ixOf s.cells.length ((s.pos : Int) % (s.cells.length : Int)) = some (s.pos % s.cells.length) := by rw [e1]; exact ixOf_nat hsp
  have e3 : ixOf s.lefts.length ((s.pos : Int) % (s.cells.length : Int)) = some (s.pos % s.cells.length) := by rw [e1]; exact ixOf_nat hsl
  clear e1
  have fm : ((s.pos : Nat) : Int).fmod (s.cells.length : Int) = (s.pos : Int) % (s.cells.length : Int) := Int.fmod_eq_emod_of_nonneg _ (by omega)
  have nc : s.cells ≠ [] := List.length_pos_iff.mp hne
  have g1 : s.lefts[s.pos % s.cells.length]? = some (s.lefts[s.pos % s.cells.length]) := List.getElem?_eq_getElem hsl
  have g2 : s.cells[s.pos % s.cells.length]? = some (s.cells[s.pos % s.cells.length]) := List.getElem?_eq_getElem hsp
  generalize s.lefts[s.pos % s.cells.length] = left at g1
  generalize s.cells[s.pos % s.cells.length] = cell at g2
  have hl : l ≠ 0 := by omega
  have fl : fitsI l = true := fitsI_of (by omega)
  have nn : ((s.cells.length : Nat) : Int) ≠ 0 := by omega
  have np : (0 : Int) ≤ (s.pos : Int) + 1 := by omega
  have lm : ∀ x : Int, 0 ≤ x.fmod l ∧ x.fmod l < l := fun x => by
    rw [Int.fmod_eq_emod_of_nonneg _ (by omega)]
    exact ⟨Int.emod_nonneg _ hl, Int.emod_lt_of_pos _ h0⟩
  by_cases hp : left > 0
  · have hp' : (0 : Int) < left := hp
    refine ⟨left.fmod l, ⟨s.cells, s.lefts.set (s.pos % s.cells.length) (left.fdiv l), s.pos + 1⟩, ?_, (lm left).1, (lm left).2, hne, by simpa using hlen, by show s.pos + 1 + k ≤ _; omega⟩
    simp [M.Llaw_draw, M.Llaw_drawS, evFn, exS, ev, evs, startE, R.bind, withV, lift, primF, int1, binF, Slot.val, outOf, assignAll, slotOf, Rs.isBo, Rs.d, endR, isSt, cellF, putAt, putLeft, cmpF, ordF, bothInt, fm, e2, e3, g1, g2, hl, fl, nc, np, hp']
  · have hp' : ¬ (0 : Int) < left := hp
    obtain ⟨m1, r1, a1, b1⟩ := mixed_run cell s.pos (by omega) (by omega) ⟨s.cells, s.lefts, s.pos + 1⟩
    obtain ⟨m2, r2, a2, b2⟩ := mixed_run m1 (40 + s.pos) (by omega) (by omega) ⟨s.cells, s.lefts, s.pos + 1⟩
    obtain ⟨m3, r3, a3, b3⟩ := mixed_run m2 (7 + s.pos) (by omega) (by omega) ⟨s.cells, s.lefts, s.pos + 1⟩
    have f2 : fitsI m2 = true := fitsI_of (by omega)
    have f3 : fitsI 2147483647 = true := fitsI_of (by decide)
    have f4 : fitsI 64 = true := fitsI_of (by decide)
    refine ⟨((m2 * 2147483647 + m3).fdiv 64).fmod l, ⟨s.cells, s.lefts, s.pos + 1⟩, ?_, (lm _).1, (lm _).2, hne, hlen, by show s.pos + 1 + k ≤ _; omega⟩
    simp [M.Llaw_draw, M.Llaw_drawS, evFn, exS, ev, evs, startE, R.bind, withV, lift, primF, int1, binF, Slot.val, outOf, assignAll, slotOf, Rs.isBo, Rs.d, endR, isSt, cellF, putAt, putLeft, cmpF, ordF, bothInt, callR, freeze, fm, e2, e3, g1, g2, hl, fl, nc, np, hp', r1, r2, r3, f2, f3, f4]
end RS
end
section
set_option autoImplicit false
set_option linter.all false
set_option maxRecDepth 100000
set_option maxHeartbeats 4000000
/-! RSPlain2: lists of ints, comprehensions, loops. -/
namespace RS
def tn (l : List Int) : D := .tup (l.map D.int)
theorem intsOf_map : ∀ l : List Int, intsOf (l.map D.int) = some l
  | [] => rfl
  | x :: l => by rw [List.map_cons, intsOf, intsOf_map l]; rfl
theorem deeps_ints (n : Nat) : ∀ l : List Int, D.deeps n (l.map D.int) = true
  | [] => by simp [D.deeps]
  | x :: l => by rw [List.map_cons, D.deeps, deeps_ints n l]; cases n <;> simp [D.deep]
theorem deep_tn (n : Nat) (l : List Int) : D.deep (n + 1) (tn l) = true := by rw [tn, D.deep]; exact deeps_ints n l
theorem eqvs_ints : ∀ a b : List Int, D.eqvs (a.map D.int) (b.map D.int) = decide (a = b)
  | [], [] => by simp [D.eqvs]
  | [], _ :: _ => by simp [D.eqvs]
  | _ :: _, [] => by simp [D.eqvs]
  | x :: a, y :: b => by
    rw [List.map_cons, List.map_cons, D.eqvs, D.eqv, eqvs_ints a b]
    by_cases h1 : x = y <;> by_cases h2 : a = b <;> simp [h1, h2]
theorem eqF_tn (a b : List Int) : eqF (tn a) (tn b) = some (decide (a = b)) := by
  unfold eqF
  rw [show DEEP = 59 + 1 from rfl, deep_tn, deep_tn]
  simp only [Bool.and_self, if_true, tn, D.eqv, eqvs_ints]
theorem showables_ints : ∀ l : List Int, (∀ x ∈ l, x.natAbs < 2 ^ 1000) → D.showables (l.map D.int) = true
  | [], _ => by simp [D.showables]
  | x :: l, h => by
    rw [List.map_cons, D.showables, showables_ints l fun y hy => h y (List.mem_cons_of_mem _ hy), D.showable, Bool.and_true, decide_eq_true_eq]
    exact Nat.lt_trans (h x List.mem_cons_self) (by unfold SHOW; exact Nat.pow_lt_pow_right (by decide) (by decide))
theorem rlens_ints : ∀ l : List Int, D.rlens (l.map D.int) = 642 * l.length
  | [] => by simp [D.rlens]
  | x :: l => by rw [List.map_cons, D.rlens, rlens_ints l, D.rlen, List.length_cons]; omega
theorem reprOk_tn {l : List Int} (h : ∀ x ∈ l, x.natAbs < 2 ^ 1000) (hl : l.length ≤ 1000) : reprOk (tn l) = true := by
  unfold reprOk
  rw [show DEEP = 59 + 1 from rfl, deep_tn, tn, D.showable, showables_ints l h, D.rlen, rlens_ints]
  simp only [Bool.true_and, Bool.and_true, decide_eq_true_eq]
  omega
theorem compL_pure {step : D → OSt → R (Option D)} (g : D → Option D) {s : OSt} : ∀ (items acc : List D), (∀ d ∈ items, step d s = .ok (g d) s) → acc.length + items.length ≤ LIM → compL step items acc s = .ok (acc ++ items.filterMap g) s
  | [], acc, _, _ => by simp [compL]
  | d :: items, acc, h, hl => by
    have h1 := h d List.mem_cons_self
    have ih := fun acc' => compL_pure g items acc' fun e he => h e (List.mem_cons_of_mem _ he)
    rw [List.length_cons] at hl
    rw [compL, h1]
    cases hg : g d with
    | none => simp only []; rw [ih acc (by omega), List.filterMap_cons, hg]
    | some y =>
      simp only []
      rw [if_pos (by omega), ih _ (by simp; omega), List.filterMap_cons, hg]
      simp
def lentE (b : Option Nat) (ρ : Env) : Env := match b with
  | some i => ρ.set i .no
  | none => ρ
def stepP (ρw : Env) (tg : Tg) (cnd elt : E) (d : D) (s : OSt) : R (Option D) := match bindTg tg d ρw with
  | some ρ1 => (ev cnd ρ1 s).bind fun c s2 => match c with
    | .sh (.bl true) => (ev elt ρ1 s2).bind fun y s3 => if y.isBo then .no else .ok (some y.d) s3
    | .sh (.bl false) => .ok none s2
    | _ => .no
  | none => .no
theorem bind_mk {α β : Type} {a : α} {s : OSt} {f : α → OSt → R β} : (R.ok a s).bind f = f a s := rfl
theorem ev_comp {vs : List Nat} {tg : Tg} {it cnd elt : E} {ρ : Env} {s : OSt} {items : List D} {b : Option Nat} (hi : evI it ρ s = .ok (items, b) s) (no : noOw ρ vs = true) (g : D → Option D)
    (h : ∀ d ∈ items, stepP (wipeE (lentE b ρ) vs) tg cnd elt d s = .ok (g d) s) (hl : items.length ≤ LIM) : ev (.comp vs tg it cnd elt) ρ s = .ok (.fr (.lst (items.filterMap g))) s := by
  rw [ev, hi, bind_mk]
  dsimp only
  rw [if_pos no]
  have e : compL (stepP (wipeE (lentE b ρ) vs) tg cnd elt) items [] s = .ok ([] ++ items.filterMap g) s := compL_pure g items [] h (by simpa using hl)
  exact Eq.trans (congrArg (fun z => R.bind z fun acc s2 => R.ok (Rs.fr (.lst acc)) s2) e) rfl
theorem forL_run {step : D → Env → OSt → Out} {s : OSt} (I : Nat → Env → Prop) : ∀ (items : List D) (k : Nat) (ρ : Env), I k ρ → (∀ i d ρ, items[i]? = some d → I (k + i) ρ → ∃ ρ', step d ρ s = .nx ρ' s ∧ I (k + i + 1) ρ') → ∃ ρ', forL step items ρ s = .nx ρ' s ∧ I (k + items.length) ρ'
  | [], k, ρ, h, _ => ⟨ρ, by rw [forL], h⟩
  | d :: items, k, ρ, h, hs => by
    obtain ⟨ρ1, e1, h1⟩ := hs 0 d ρ rfl h
    obtain ⟨ρ2, e2, h2⟩ := forL_run I items (k + 1) ρ1 h1 fun i d ρ hd hI => by
      have := hs (i + 1) d ρ (by simpa using hd) (by rw [show k + (i + 1) = k + 1 + i by omega]; exact hI)
      rw [show k + 1 + i + 1 = k + (i + 1) + 1 by omega]; exact this
    refine ⟨ρ2, by rw [forL, e1]; exact e2, ?_⟩
    rw [List.length_cons, show k + (items.length + 1) = k + 1 + items.length by omega]; exact h2
end RS
end
section
set_option autoImplicit false
set_option linter.all false
set_option maxRecDepth 100000
set_option maxHeartbeats 4000000
/-! RSDraws: drawn rows; loops with a told state. -/
namespace RS
theorem draws_comp {ρw : Env} {tg : Tg} {elt : E} {l : Int} (h0 : 0 < l) (h1 : l < 2 ^ 64)
    (hs : ∀ d s x s', M.Llaw_draw [.st, .int l] s = .ok (.sh (.int x)) s' → stepP ρw tg .omit elt d s = .ok (some (.int x)) s') : ∀ (items : List D) (acc : List Int) (k : Nat) (s : OSt), St (items.length + k) s → acc.length + items.length ≤ 1000 →
    ∃ (r : List Int) (s' : OSt), compL (stepP ρw tg .omit elt) items (acc.map D.int) s = .ok ((acc ++ r).map D.int) s' ∧ r.length = items.length ∧ (∀ y ∈ r, 0 ≤ y ∧ y < l) ∧ St k s'
  | [], acc, k, s, h, _ => ⟨[], s, by simp [compL], rfl, by simp, by simpa using h⟩
  | d :: items, acc, k, s, h, hl => by
    rw [List.length_cons] at h hl
    obtain ⟨x, s1, r, a, b, h2⟩ := draw_run (k := items.length + k) (h.mono (by omega)) h0 h1
    obtain ⟨m, s', e, e2, e3, h'⟩ := draws_comp h0 h1 hs items (acc ++ [x]) k s1 h2 (by rw [List.length_append]; simp; omega)
    refine ⟨x :: m, s', ?_, by rw [List.length_cons, List.length_cons, e2], fun y hy => ?_, h'⟩
    · rw [compL, hs d s x s1 r]
      simp only []
      rw [if_pos (by rw [List.length_map]; unfold LIM; omega)]
      have : acc.map D.int ++ [D.int x] = (acc ++ [x]).map D.int := by simp
      rw [this, e]
      simp
    · rcases List.mem_cons.mp hy with z | z
      · rw [z]; exact ⟨a, b⟩
      · exact e3 y z
theorem ev_draws {vs : List Nat} {tg : Tg} {it elt : E} {ρ : Env} {s : OSt} {items : List D} {b : Option Nat} {l : Int} (k : Nat) (hi : evI it ρ s = .ok (items, b) s) (no : noOw ρ vs = true) (h0 : 0 < l) (h1 : l < 2 ^ 64)
    (hs : ∀ d s x s', M.Llaw_draw [.st, .int l] s = .ok (.sh (.int x)) s' → stepP (wipeE (lentE b ρ) vs) tg .omit elt d s = .ok (some (.int x)) s') (hk : St (items.length + k) s) (hl : items.length ≤ 1000) :
    ∃ (r : List Int) (s' : OSt), ev (.comp vs tg it .omit elt) ρ s = .ok (.fr (.lst (r.map D.int))) s' ∧ r.length = items.length ∧ (∀ y ∈ r, 0 ≤ y ∧ y < l) ∧ St k s' := by
  obtain ⟨r, s', e, e2, e3, e4⟩ := draws_comp h0 h1 hs items [] k s hk (by simpa using hl)
  refine ⟨r, s', ?_, e2, e3, e4⟩
  rw [ev, hi, bind_mk]
  dsimp only
  rw [if_pos no]
  exact Eq.trans (congrArg (fun z => R.bind z fun acc s2 => R.ok (Rs.fr (.lst acc)) s2) e) rfl
/-- a loop whose slots are told by a state -/
theorem for_fold {σ α : Type} {step : D → Env → OSt → Out} (enc : α → D) (envOf : σ → Env) (f : σ → α → σ) {s : OSt} (I : Nat → σ → Prop) : ∀ (xs : List α) (k : Nat) (st : σ), I k st →
    (∀ i x st, xs[i]? = some x → I (k + i) st → step (enc x) (envOf st) s = .nx (envOf (f st x)) s ∧ I (k + i + 1) (f st x)) →
    forL step (xs.map enc) (envOf st) s = .nx (envOf (xs.foldl f st)) s ∧ I (k + xs.length) (xs.foldl f st)
  | [], k, st, h, _ => ⟨by rw [List.map_nil, forL, List.foldl_nil], h⟩
  | x :: xs, k, st, h, hs => by
    obtain ⟨e1, h1⟩ := hs 0 x st rfl h
    obtain ⟨e2, h2⟩ := for_fold enc envOf f I xs (k + 1) (f st x) h1 fun i y st hy hI => by
      have := hs (i + 1) y st (by simpa using hy) (by rw [show k + (i + 1) = k + 1 + i by omega]; exact hI)
      rw [show k + 1 + i + 1 = k + (i + 1) + 1 by omega]; exact this
    refine ⟨by rw [List.map_cons, forL, e1]; exact e2, ?_⟩
    rw [List.length_cons, show k + (xs.length + 1) = k + 1 + xs.length by omega]; exact h2
end RS
end
section
set_option autoImplicit false
set_option linter.all false
set_option maxRecDepth 100000
set_option maxHeartbeats 4000000
/-! rising rows of places -/
namespace RS
def startN (l : List Nat) : Nat := match l.getLast? with
  | some x => x + 1
  | none => 0
def nextN (c : Nat) (l : List Nat) : List (List Nat) := (List.range (c - startN l)).map fun i => l ++ [startN l + i]
def lotsN (c : Nat) : Nat → List (List Nat)
  | 0 => [[]]
  | k + 1 => (lotsN c k).flatMap (nextN c)
def tN (l : List Nat) : D := tn (l.map fun (x : Nat) => (x : Int))
theorem idx_last (l : List Nat) (x : Nat) : idxF (tN (l ++ [x])) (.int (-1)) = some (.int x) := by
  unfold tN tn idxF ixOf
  dsimp only
  rw [if_neg (by decide)]
  simp only [List.length_map, List.length_append, List.length_singleton]
  rw [if_pos (by omega)]
  have : (-1 + ((l.length : Int) + 1)).toNat = l.length := by omega
  simp [this]
theorem fromInts_mem {a : Int} {n : Nat} {d : D} (h : d ∈ fromInts a n) : ∃ k, k < n ∧ d = .int (a + (k : Nat)) := by
  unfold fromInts at h
  obtain ⟨k, h1, h2⟩ := List.mem_map.mp h
  exact ⟨k, List.mem_range.mp h1, h2.symm⟩
def addI (l : List Nat) : D → Option D
  | .int i => some (.tup ((l.map fun (x : Nat) => D.int (x : Int)) ++ [.int i]))
  | _ => none
theorem add_from (l : List Nat) (a n : Nat) : (fromInts (a : Int) n).filterMap (addI l) = (List.range n).map fun i => tN (l ++ [a + i]) := by
  unfold fromInts
  rw [List.filterMap_map]
  have : (addI l ∘ fun (k : Nat) => D.int ((a : Int) + k)) = fun k => some (tN (l ++ [a + k])) := by
    funext k
    simp [addI, tN, tn]
  rw [this]
  induction List.range n with
  | nil => rfl
  | cons x r ih => rw [List.filterMap_cons, List.map_cons, ih]
theorem rangeF_two {a b : Int} (h : a.natAbs < 2 ^ 61 ∧ b.natAbs < 2 ^ 61) : rangeF [.int a, .int b] = some (fromInts a (b - a).toNat) := by
  unfold rangeF
  exact if_pos ⟨decide_eq_true h.1, decide_eq_true h.2⟩
theorem rangeF_one {a : Int} (h : a.natAbs < 2 ^ 61) : rangeF [.int a] = some (fromInts 0 a.toNat) := by
  unfold rangeF
  exact if_pos (decide_eq_true h)
theorem evI_range {es : E} {rs : List Rs} {ρ : Env} {s s' : OSt} {l : List D} (h : evs es ρ s = .ok rs s') (hr : rangeF (rs.map Rs.d) = some l) : evI (.itRange es) ρ s = .ok (l, none) s' := by rw [evI, h, bind_mk, hr]; rfl
theorem lotsN_mem {c : Nat} : ∀ {k : Nat} {l : List Nat}, l ∈ lotsN c k → l.length = k ∧ startN l ≤ c ∧ ∀ x ∈ l, x < c
  | 0, l, h => by
    simp [lotsN] at h; subst h
    exact ⟨rfl, Nat.zero_le _, by simp⟩
  | k + 1, l, h => by
    rw [lotsN, List.mem_flatMap] at h
    obtain ⟨l', h1, h2⟩ := h
    obtain ⟨a, b, d⟩ := lotsN_mem h1
    unfold nextN at h2
    obtain ⟨i, hi, rfl⟩ := List.mem_map.mp h2
    have hi := List.mem_range.mp hi
    refine ⟨by simp [a], ?_, fun x hx => ?_⟩
    · unfold startN
      simp
      unfold startN at hi
      omega
    · rcases List.mem_append.mp hx with z | z
      · exact d x z
      · rw [List.mem_singleton.mp z]; omega
end RS
end
section
set_option autoImplicit false
set_option linter.all false
set_option maxRecDepth 100000
set_option maxHeartbeats 4000000
/-! RSZip: pairs of ints walked. -/
namespace RS
def pairI (p : Int × Int) : D := .tup [.int p.1, .int p.2]
theorem zipD_map : ∀ xs ys : List Int, zipD (xs.map D.int) (ys.map D.int) = (xs.zip ys).map pairI
  | [], _ => by simp [zipD]
  | _ :: _, [] => by simp [zipD]
  | x :: xs, y :: ys => by simp [zipD, zipD_map xs ys, pairI]
theorem evI_zipT {a b : E} {ρ : Env} {s s1 s2 : OSt} {xs ys : List Int} (ha : ev a ρ s = .ok (.sh (tn xs)) s1) (hb : ev b ρ s1 = .ok (.sh (tn ys)) s2) : evI (.itZip a b) ρ s = .ok ((xs.zip ys).map pairI, none) s2 := by
  rw [evI, ha, bind_mk, hb, bind_mk]
  simp [Rs.isBo, Rs.d, tn, zipF, zipD_map, lift]
theorem evI_tn {a : E} {ρ : Env} {s s1 : OSt} {xs : List Int} (ha : ev a ρ s = .ok (.sh (tn xs)) s1) : evI (.itE a) ρ s = .ok (xs.map D.int, none) s1 := by
  rw [evI, ha, bind_mk]
  simp [Rs.d, tn, D.items, lift]
/-- a pure comprehension over pairs of ints -/
theorem comp_pairs {i j : Nat} {vs : List Nat} {a b cnd elt : E} {ρ : Env} {s : OSt} {xs ys : List Int} (ha : ev a ρ s = .ok (.sh (tn xs)) s) (hb : ev b ρ s = .ok (.sh (tn ys)) s) (no : noOw ρ vs = true) (g : Int × Int → Option D)
    (h : ∀ x y, stepP (wipeE ρ vs) (.tup (.cons (.nm i) (.cons (.nm j) .nil))) cnd elt (pairI (x, y)) s = .ok (g (x, y)) s) (hl : xs.length ≤ 1000) :
    ev (.comp vs (.tup (.cons (.nm i) (.cons (.nm j) .nil))) (.itZip a b) cnd elt) ρ s = .ok (.fr (.lst ((xs.zip ys).filterMap g))) s := by
  have e := ev_comp (vs := vs) (tg := .tup (.cons (.nm i) (.cons (.nm j) .nil))) (cnd := cnd) (elt := elt) (evI_zipT ha hb) no (fun d => match d with | .tup [.int x, .int y] => g (x, y) | _ => none) (fun d hd => by
    obtain ⟨p, _, rfl⟩ := List.mem_map.mp hd
    exact h p.1 p.2) (by simp; unfold LIM; omega)
  rw [List.filterMap_map] at e
  exact e
def gapsL (n : Int) (l : List Int) : List Int := (((-1) :: l ++ [n]).zip (l ++ [n])).map fun p => p.2 - p.1 - 1
theorem filterMap_some {α β : Type} (f : α → β) : ∀ l : List α, (l.filterMap fun x => some (f x)) = l.map f
  | [] => rfl
  | x :: l => by rw [List.filterMap_cons, filterMap_some f l]; rfl
end RS
end
section
set_option autoImplicit false
set_option linter.all false
set_option maxRecDepth 100000
set_option maxHeartbeats 4000000
/-! rows, gaps, reaching -/
namespace RS
theorem like_run {d : D} (h : reprOk d = true) (s : OSt) : M.Llaw_like [d, d] s = .ok (.sh (.bl true)) s := by
  simp [M.Llaw_like, M.Llaw_likeS, evFn, exS, ev, evs, startE, R.bind, withV, lift, Slot.val, Rs.isBo, Rs.d, endR, h]
/-- no gap is over the other one -/
def belowL (xs ys : List Int) : Bool := (xs.zip ys).all fun p => !decide (p.2 < p.1)
def overI (p : Int × Int) : Option D := if p.2 < p.1 then some (.int 1) else none
theorem over_none : ∀ l : List (Int × Int), (l.filterMap overI = []) ↔ (l.all fun p => !decide (p.2 < p.1)) = true
  | [] => by simp
  | p :: l => by
    rw [List.filterMap_cons, List.all_cons]
    unfold overI
    by_cases h : p.2 < p.1
    · simp [h]
    · simp only [h, if_false, decide_false, Bool.not_false, Bool.true_and]
      exact over_none l
theorem over_comp {xs ys : List Int} (hl : xs.length ≤ 1000) (s : OSt) :
    ev (.comp [2, 3] (.tup (.cons (.nm 2) (.cons (.nm 3) .nil))) (.itZip (.var 0) (.var 1)) (.cmp .gt (.var 2) (.var 3)) (.con (.int 1))) [.sh (tn xs), .sh (tn ys), .no, .no] s = .ok (.fr (.lst ((xs.zip ys).filterMap overI))) s :=
  comp_pairs (vs := [2, 3]) (i := 2) (j := 3) (by simp [ev, lift, Slot.val]) (by simp [ev, lift, Slot.val]) rfl overI (fun x y => by
    by_cases h : y < x <;> simp [stepP, bindTg, bindTgs, pairI, wipeE, ev, R.bind, lift, Slot.val, Rs.d, Rs.isBo, cmpF, ordF, bothInt, overI, h]) hl
def getL : D → List Int
  | .tup l => (intsOf l).getD []
  | _ => []
theorem getL_tn (l : List Int) : getL (tn l) = l := by unfold getL tn; dsimp only; rw [intsOf_map]; rfl
def rowsD (Rw : List (List Int)) : D := .tup (Rw.map tn)
def hitB (Rw : List (List Int)) (own : List Int) : Bool := Rw.any fun r => belowL r own
def hitI (own : List Int) (d : D) : Option D := if belowL (getL d) own = true then some (.int 1) else none
theorem hit_none (own : List Int) : ∀ Rw : List (List Int), (((Rw.map tn).filterMap (hitI own)) = []) ↔ hitB Rw own = false
  | [] => by simp [hitB]
  | r :: Rw => by
    rw [List.map_cons, List.filterMap_cons, hitB, List.any_cons]
    unfold hitI
    rw [getL_tn]
    cases h : belowL r own with
    | true => simp
    | false =>
      simp only [Bool.false_eq_true, if_false, Bool.false_or]
      exact hit_none own Rw
def gapsZ (n : Int) (l : List Nat) : List Int := gapsL n (l.map fun (x : Nat) => (x : Int))
def hits (Rw : List (List Int)) (n : Int) (ls : List (List Nat)) : List (List Nat) := ls.filter fun l => hitB Rw (gapsZ n l)
theorem eqvs_ones : ∀ l : List D, (∀ d ∈ l, d = .int 1) → D.deeps 59 l = true ∧ (D.eqvs l [] = decide (l = []))
  | [], _ => by simp [D.deeps, D.eqvs]
  | d :: l, h => by
    have h1 := h d List.mem_cons_self
    obtain ⟨a, _⟩ := eqvs_ones l fun e he => h e (List.mem_cons_of_mem _ he)
    subst h1
    simp [D.deeps, D.deep, a, D.eqvs]
theorem ones_cmp {l : List D} (h : ∀ d ∈ l, d = .int 1) : eqF (.lst l) (.lst []) = some (decide (l = [])) := by
  obtain ⟨a, b⟩ := eqvs_ones l h
  unfold eqF
  have d1 : D.deep DEEP (.lst l) = true := by show D.deep (59 + 1) _ = true; rw [D.deep]; exact a
  have d2 : D.deep DEEP (.lst []) = true := rfl
  rw [d1, d2, D.eqv, b]; rfl
theorem over_ones (l : List (Int × Int)) : ∀ d ∈ l.filterMap overI, d = .int 1 := fun d hd => by
  obtain ⟨p, _, h⟩ := List.mem_filterMap.mp hd
  unfold overI at h
  split at h
  · exact (Option.some.inj h).symm
  · cases h
theorem hit_ones (own : List Int) (l : List D) : ∀ d ∈ l.filterMap (hitI own), d = .int 1 := fun d hd => by
  obtain ⟨p, _, h⟩ := List.mem_filterMap.mp hd
  unfold hitI at h
  split at h
  · exact (Option.some.inj h).symm
  · cases h
theorem bindTg_nm {i : Nat} {d : D} {ρ : Env} (h : i < ρ.length) : bindTg (.nm i) d ρ = some (ρ.set i (.sh d)) := by
  unfold bindTg; rw [if_pos h]
theorem rowsOf_map : ∀ Rw : List (List Int), rowsOf (Rw.map tn) = some Rw
  | [] => rfl
  | r :: Rw => by
    rw [List.map_cons, rowsOf, rowsOf_map Rw]
    simp [D.row?, tn, intsOf_map]
/-- one for each row that passes -/
def oneIf (P : List Int → Bool) (d : D) : Option D := if P (getL d) = true then some (.int 1) else none
theorem oneIf_nil (P : List Int → Bool) : ∀ Rw : List (List Int), (((Rw.map tn).filterMap (oneIf P)) = []) ↔ Rw.any P = false
  | [] => by simp
  | r :: Rw => by
    rw [List.map_cons, List.filterMap_cons, List.any_cons]
    unfold oneIf
    rw [getL_tn]
    cases h : P r with
    | true => simp
    | false =>
      simp only [Bool.false_eq_true, if_false, Bool.false_or]
      exact oneIf_nil P Rw
theorem oneIf_ones (P : List Int → Bool) (l : List D) : ∀ d ∈ l.filterMap (oneIf P), d = .int 1 := fun d hd => by
  obtain ⟨p, _, h⟩ := List.mem_filterMap.mp hd
  unfold oneIf at h
  split at h
  · exact (Option.some.inj h).symm
  · cases h
theorem len_zero {C : E} {ρ : Env} {s s1 : OSt} {L : List D} (h : ev C ρ s = .ok (.fr (.lst L)) s1) : ev (.cmp .eq (.prim .len (.cons C .nil)) (.con (.int 0))) ρ s = .ok (.sh (.bl (decide (L = [])))) s1 := by
  rw [ev, ev, evs, h, bind_mk, evs, bind_mk, bind_mk]
  cases L with
  | nil => simp [primF, lenF, lift, Rs.d, ev, R.bind, cmpF, eqF, D.deep, D.eqv]
  | cons d L =>
    have : ¬ ((L.length : Int) + 1 = 0) := by omega
    simp [primF, lenF, lift, Rs.d, ev, R.bind, cmpF, eqF, D.deep, D.eqv, this]
theorem eq_nil {C : E} {ρ : Env} {s s1 : OSt} {L : List D} (h : ev C ρ s = .ok (.fr (.lst L)) s1) (o : ∀ d ∈ L, d = .int 1) : ev (.cmp .eq C (.lst .nil)) ρ s = .ok (.sh (.bl (decide (L = [])))) s1 := by
  have e := ones_cmp o
  rw [ev, h, bind_mk]
  simp [ev, evs, R.bind, freeze, Rs.d, cmpF, e, lift]
theorem any_dec {Rw : List (List Int)} (P : List Int → Bool) : decide ((Rw.map tn).filterMap (oneIf P) = []) = !Rw.any P := by
  have e2 := oneIf_nil P Rw
  cases hb : Rw.any P with
  | false => rw [hb] at e2; exact decide_eq_true (e2.mpr rfl)
  | true => rw [hb] at e2; exact decide_eq_false fun z => by have := e2.mp z; cases this
theorem eqv_tn (a b : List Int) : D.eqv (tn a) (tn b) = decide (a = b) := by
  rw [tn, tn, D.eqv, eqvs_ints]
theorem eqvs_rows : ∀ a b : List (List Int), D.eqvs (a.map tn) (b.map tn) = decide (a = b)
  | [], [] => by simp [D.eqvs]
  | [], _ :: _ => by simp [D.eqvs]
  | _ :: _, [] => by simp [D.eqvs]
  | x :: a, y :: b => by
    rw [List.map_cons, List.map_cons, D.eqvs, eqv_tn, eqvs_rows a b]
    by_cases h1 : x = y <;> by_cases h2 : a = b <;> simp [h1, h2]
theorem deeps_rows (n : Nat) : ∀ l : List (List Int), D.deeps (n + 1) (l.map tn) = true
  | [] => by simp [D.deeps]
  | x :: l => by rw [List.map_cons, D.deeps, deep_tn, deeps_rows n l]; rfl
theorem eqF_rows (a b : List (List Int)) : eqF (rowsD a) (rowsD b) = some (decide (a = b)) := by
  have da : ∀ a, D.deep DEEP (rowsD a) = true := fun a => by show D.deep (58 + 1 + 1) _ = true; rw [rowsD, D.deep]; exact deeps_rows 58 a
  unfold eqF
  rw [da, da]
  simp only [Bool.and_self, if_true, rowsD, D.eqv, eqvs_rows]
theorem eqF_lrows (a b : List (List Int)) : eqF (.lst (a.map tn)) (.lst (b.map tn)) = some (decide (a = b)) := by
  have da : ∀ a : List (List Int), D.deep DEEP (.lst (a.map tn)) = true := fun a => by show D.deep (58 + 1 + 1) _ = true; rw [D.deep]; exact deeps_rows 58 a
  unfold eqF
  rw [da, da]
  simp only [Bool.and_self, if_true, D.eqv, eqvs_rows]
/-- a comprehension that finds nothing -/
theorem comp_none {vs : List Nat} {tg : Tg} {it cnd elt : E} {ρ : Env} {s : OSt} {items : List D} (hi : evI it ρ s = .ok (items, none) s) (no : noOw ρ vs = true)
    (h : ∀ d ∈ items, stepP (wipeE ρ vs) tg cnd elt d s = .ok none s) (hl : items.length ≤ LIM) : ev (.comp vs tg it cnd elt) ρ s = .ok (.fr (.lst [])) s := by
  have e := ev_comp (vs := vs) (tg := tg) (cnd := cnd) (elt := elt) hi no (fun _ => none) h hl
  rw [e]
  have : items.filterMap (fun _ => (none : Option D)) = [] := by
    induction items with
    | nil => rfl
    | cons d r ih => rw [List.filterMap_cons]; exact List.filterMap_eq_nil_iff.mpr fun _ _ => rfl
  rw [this]
theorem foldl_maxW {m : Int} : ∀ (l : List Int) (a : Int), a ≤ m → (∀ x ∈ l, x ≤ m) → l.foldl max a ≤ m
  | [], a, h, _ => h
  | x :: l, a, h, hl => foldl_maxW l (max a x) (by have := hl x List.mem_cons_self; omega) fun y hy => hl y (List.mem_cons_of_mem _ hy)
end RS
end
section
set_option autoImplicit false
set_option linter.all false
set_option maxRecDepth 100000
set_option maxHeartbeats 4000000
/-! from, reaches -/
namespace RS
theorem is_from_run (v lo hi : Int) (s : OSt) : M.is_from [.int v, .int lo, .int hi] s = .ok (.sh (.bl (decide (lo ≤ v ∧ v ≤ hi)))) s := by
  by_cases h1 : lo ≤ v <;> by_cases h2 : v ≤ hi <;>
  simp [M.is_from, M.is_fromS, evFn, exS, ev, evs, startE, R.bind, withV, lift, primF, Slot.val, Rs.isBo, Rs.d, endR, isOf, D.isInt, D.isBool, cmpF, ordF, bothInt, h1, h2]
theorem reaches_run {xs ys : List Int} (hl : xs.length ≤ 1000) (s : OSt) : M.reaches_so [tn xs, tn ys] s = .ok (.sh (.bl (belowL xs ys))) s := by
  have e := over_comp (ys := ys) hl s
  have e2 := over_none (xs.zip ys)
  show evFn 4 2 M.reaches_soS _ s = _
  unfold evFn M.reaches_soS
  rw [if_pos (show [tn xs, tn ys].length = 2 from rfl), exS, exS, show startE 4 [tn xs, tn ys] = [.sh (tn xs), .sh (tn ys), .no, .no] from rfl, ev, ev, evs, e, bind_mk, evs, bind_mk, bind_mk]
  unfold belowL
  cases hb : (xs.zip ys).all fun p => !decide (p.2 < p.1) with
  | true =>
    rw [hb] at e2
    have e3 := e2.mpr rfl
    rw [e3]
    simp [primF, lenF, lift, Rs.d, withV, endR, ev, R.bind, cmpF, eqF, D.deep, D.eqv]
  | false =>
    rw [hb] at e2
    have e3 : ¬ (xs.zip ys).filterMap overI = [] := fun z => by have := e2.mp z; cases this
    have e4 : ¬ ((((xs.zip ys).filterMap overI).length : Nat) : Int) = 0 := fun z => e3 (List.length_eq_zero_iff.mp (by omega))
    generalize (xs.zip ys).filterMap overI = L at *
    simp [primF, lenF, lift, Rs.d, withV, endR, ev, R.bind, cmpF, eqF, D.deep, D.eqv, e3]
end RS
end
section
set_option autoImplicit false
set_option linter.all false
set_option maxRecDepth 100000
set_option maxHeartbeats 4000000
/-! the checks of rows pass -/
namespace RS
/-- a row of gaps that the checks let pass -/
structure RowOk (z : Nat) (r : List Int) : Prop where
  len : r.length = z + 1
  gap : ∀ x ∈ r, 0 ≤ x ∧ x ≤ 12
theorem is_gaps_run {z : Nat} {r : List Int} (h : RowOk z r) (hz : z ≤ 3) (s : OSt) : M.is_gaps [tn r] s = .ok (.sh (.bl true)) s := by
  have c := comp_none (vs := [1]) (tg := .nm 1) (cnd := .not (.call "is_from" M.is_from (.cons (.var 1) (.cons (.con (.int 0)) (.cons (.glob "MOST_PLACES" (.int 40)) .nil))))) (elt := .con (.int 1)) (evI_tn (a := .var 0) (ρ := [.sh (tn r), .no]) (s := s) (s1 := s) (xs := r) (by simp [ev, lift, Slot.val])) rfl (fun d hd => by
    obtain ⟨x, hx, rfl⟩ := List.mem_map.mp hd
    have g := h.gap x hx
    have g2 : x ≤ 40 := by omega
    simp [stepP, bindTg, wipeE, ev, evs, R.bind, lift, Slot.val, Rs.d, freeze, Rs.isBo, callR, is_from_run, g.1, g2]) (by rw [List.length_map, h.len]; unfold LIM; omega)
  have n1 : lenF [tn r] = some (.sh (.int ((z + 1 : Nat) : Int))) := by simp [tn, lenF, h.len]
  have b1 : (1 : Int) ≤ ((z + 1 : Nat) : Int) ∧ ((z + 1 : Nat) : Int) ≤ 4 := by omega
  have t1 : D.isTup (tn r) = some true := rfl
  generalize ((z + 1 : Nat) : Int) = len at *
  have cond : exS (.ife (.or (.not (.prim .isTup (.cons (.var 0) .nil))) (.not (.chain .le .le (.con (.int 1)) (.prim .len (.cons (.var 0) .nil)) (.con (.int 4))))) (.seq (.ret (.con (.bl false))) .skip) .skip) [.sh (tn r), .no] s = .nx [.sh (tn r), .no] s := by
    simp [exS, ev, evs, R.bind, withV, lift, Slot.val, Rs.d, primF, isOf, t1, n1, cmpF, ordF, bothInt, b1.1, b1.2]
  show evFn 2 1 M.is_gapsS _ s = _
  unfold evFn M.is_gapsS
  rw [if_pos (show [tn r].length = 1 from rfl), exS, show startE 2 [tn r] = [.sh (tn r), .no] from rfl, cond]
  simp only []
  rw [exS, exS, ev, ev, evs, c, bind_mk, evs, bind_mk, bind_mk]
  simp [primF, lenF, lift, Rs.d, withV, endR, ev, R.bind, cmpF, eqF, D.deep, D.eqv]
theorem max_row {z : Nat} {r : List Int} (h : RowOk z r) : ∃ m : Int, primF .max [tn r] = some (.sh (.int m)) ∧ m ≤ 12 := by
  match r, h with
  | [], h => exact absurd h.len (by simp)
  | x :: l, h =>
    refine ⟨l.foldl max x, ?_, foldl_maxW l x (h.gap x List.mem_cons_self).2 fun y hy => (h.gap y (List.mem_cons_of_mem _ hy)).2⟩
    show maxF [tn (x :: l)] = _
    unfold maxF tn
    simp only [seqInts, intsOf_map]
    rfl
theorem check_rows_run {z : Nat} {Rw : List (List Int)} (h : ∀ r ∈ Rw, RowOk z r) (hz : z ≤ 3) (hl : Rw.length ≤ 60) (s : OSt) : M.check_rows [rowsD Rw] s = .ok (.sh (rowsD Rw)) s := by
  have hi : evI (.itE (.var 0)) [.sh (rowsD Rw), .no] s = .ok (Rw.map tn, none) s := by
    simp [evI, ev, R.bind, lift, Slot.val, Rs.d, rowsD, D.items]
  have hL : (Rw.map tn).length ≤ LIM := by rw [List.length_map]; unfold LIM; omega
  have c1 := comp_none (vs := [1]) (tg := .nm 1) (cnd := .not (.call "is_gaps" M.is_gaps (.cons (.var 1) .nil))) (elt := .con (.int 1)) hi rfl (fun d hd => by
    obtain ⟨r, hr, rfl⟩ := List.mem_map.mp hd
    have g := is_gaps_run (h r hr) hz
    simp [stepP, bindTg, wipeE, ev, evs, R.bind, lift, Slot.val, Rs.d, freeze, Rs.isBo, callR, g]) hL
  have c2 := comp_none (vs := [1]) (tg := .nm 1) (cnd := .or (.cmp .ne (.prim .len (.cons (.var 1) .nil)) (.prim .len (.cons (.idx (.var 0) (.con (.int 0))) .nil))) (.cmp .gt (.prim .max (.cons (.var 1) .nil)) (.glob "MOST_GAP" (.int 12)))) (elt := .con (.int 1)) hi rfl (fun d hd => by
    obtain ⟨r, hr, rfl⟩ := List.mem_map.mp hd
    obtain ⟨m, m1, m2⟩ := max_row (h r hr)
    have n1 : primF .len [tn r] = some (.sh (.int ((z + 1 : Nat) : Int))) := by simp [primF, tn, lenF, (h r hr).len]
    have hd2 : ∃ r0, Rw[0]? = some r0 ∧ r0 ∈ Rw := by
      cases Rw with
      | nil => cases hr
      | cons r0 t => exact ⟨r0, rfl, List.mem_cons_self⟩
    obtain ⟨r0, q1, q2⟩ := hd2
    have i0 : idxF (rowsD Rw) (.int 0) = some (tn r0) := by
      have hp : 0 < Rw.length := by rcases Rw with _ | _ <;> simp at q1 ⊢
      unfold rowsD idxF
      dsimp only
      have : ixOf (Rw.map tn).length (0 : Int) = some 0 := ixOf_nat (n := (Rw.map tn).length) (i := 0) (by rw [List.length_map]; exact hp)
      rw [this]
      show (Rw.map tn)[0]? = _
      rw [List.getElem?_map, q1]; rfl
    have n0 : primF .len [tn r0] = some (.sh (.int ((z + 1 : Nat) : Int))) := by simp [primF, tn, lenF, (h r0 q2).len]
    have m3 : ¬ (12 : Int) < m := by omega
    generalize ((z + 1 : Nat) : Int) = len at *
    simp [stepP, bindTg, wipeE, ev, evs, R.bind, lift, Slot.val, Rs.d, n1, i0, n0, m1, m3, cmpF, eqF, D.deep, D.eqv, ordF, bothInt]) hL
  have t1 : D.isTup (rowsD Rw) = some true := rfl
  have n60 : primF .len [rowsD Rw] = some (.sh (.int (Rw.length : Nat))) := by simp [primF, rowsD, lenF]
  have b60 : ¬ (60 : Int) < (Rw.length : Nat) := by omega
  have none_gt : ∀ {C : E}, ev C [.sh (rowsD Rw), .no] s = .ok (.fr (.lst [])) s → ev (.cmp .gt (.prim .len (.cons C .nil)) (.con (.int 0))) [.sh (rowsD Rw), .no] s = .ok (.sh (.bl false)) s := fun c => by
    rw [ev, ev, evs, c, bind_mk, evs, bind_mk, bind_mk]
    simp [primF, lenF, lift, Rs.d, ev, R.bind, cmpF, ordF, bothInt]
  have eA : ev (.not (.prim .isTup (.cons (.var 0) .nil))) [.sh (rowsD Rw), .no] s = .ok (.sh (.bl false)) s := by simp [ev, evs, R.bind, lift, Slot.val, Rs.d, primF, isOf, t1]
  have eB : ev (.cmp .gt (.prim .len (.cons (.var 0) .nil)) (.glob "MOST_ROWS" (.int 60))) [.sh (rowsD Rw), .no] s = .ok (.sh (.bl false)) s := by
    generalize ((Rw.length : Nat) : Int) = len at *
    simp [ev, evs, R.bind, lift, Slot.val, Rs.d, n60, cmpF, ordF, bothInt, b60]
  have orF : ∀ {A B : E}, ev A [.sh (rowsD Rw), .no] s = .ok (.sh (.bl false)) s → ev B [.sh (rowsD Rw), .no] s = .ok (.sh (.bl false)) s → ev (.or A B) [.sh (rowsD Rw), .no] s = .ok (.sh (.bl false)) s := fun a b => by
    rw [ev, a, bind_mk]; exact b
  have ifF : ∀ {C : E} {a : S}, ev C [.sh (rowsD Rw), .no] s = .ok (.sh (.bl false)) s → exS (.ife C a .skip) [.sh (rowsD Rw), .no] s = .nx [.sh (rowsD Rw), .no] s := fun c => by
    rw [exS, c]; simp [withV, exS]
  show evFn 2 1 M.check_rowsS _ s = _
  unfold evFn M.check_rowsS
  rw [if_pos (show [rowsD Rw].length = 1 from rfl), exS, show startE 2 [rowsD Rw] = [.sh (rowsD Rw), .no] from rfl, ifF (orF eA (orF eB (none_gt c1)))]
  simp only []
  rw [exS, ifF (none_gt c2)]
  simp [exS, ev, lift, Slot.val, withV, endR]
end RS
end
section
set_option autoImplicit false
set_option linter.all false
set_option maxRecDepth 100000
set_option maxHeartbeats 8000000
/-! RSRowsC: the law's drawn rows. -/
namespace RS
/-- a row of z + 1 gaps to h -/
def RowH (z : Nat) (h : Int) (r : List Int) : Prop := r.length = z + 1 ∧ ∀ x ∈ r, 0 ≤ x ∧ x ≤ h
theorem RowH.ok {z : Nat} {h : Int} {r : List Int} (hr : RowH z h r) (hh : h ≤ 12) : RowOk z r := ⟨hr.1, fun x hx => by have := hr.2 x hx; omega⟩
theorem RowH.mono {z : Nat} {h h' : Int} {r : List Int} (hr : RowH z h r) (hh : h ≤ h') : RowH z h' r := ⟨hr.1, fun x hx => by have := hr.2 x hx; omega⟩
theorem comp_row {z : Nat} {h : Int} {x2 x4 x5 : Slot} {s : OSt} (k : Nat) (hz : z ≤ 3) (h0 : 0 ≤ h) (h1 : h ≤ 1000) (hk : St (z + 1 + k) s) :
    ∃ r s', ev (.comp [6] (.nm 6) (.itRange (.cons (.bin .add (.var 1) (.con (.int 1))) .nil)) .omit (.call "_law_draw" M.Llaw_draw (.cons (.var 0) (.cons (.bin .add (.var 3) (.con (.int 1))) .nil)))) [.sh .st, .sh (.int z), x2, .sh (.int h), x4, x5, .no] s = .ok (.fr (.lst (r.map D.int))) s' ∧ RowH z h r ∧ St k s' := by
  have hi : evI (.itRange (.cons (.bin .add (.var 1) (.con (.int 1))) .nil)) [.sh .st, .sh (.int z), x2, .sh (.int h), x4, x5, .no] s = .ok (fromInts 0 (z + 1), none) s := by
    have b2 := rangeF_one (a := (z : Int) + 1) (by omega)
    rw [show ((z : Int) + 1).toNat = z + 1 by omega] at b2
    refine evI_range (rs := [.sh (.int ((z : Int) + 1))]) ?_ b2
    simp [evs, ev, R.bind, lift, Slot.val, Rs.d, binF]
  have hlen : (fromInts 0 (z + 1)).length = z + 1 := by simp [fromInts]
  obtain ⟨r, s', e, e1, e2, e3⟩ := ev_draws (vs := [6]) (tg := .nm 6) (elt := .call "_law_draw" M.Llaw_draw (.cons (.var 0) (.cons (.bin .add (.var 3) (.con (.int 1))) .nil))) (l := h + 1) k hi rfl (by omega) (by omega) (fun d s x s' h => by
    simp [stepP, bindTg, wipeE, lentE, ev, evs, R.bind, lift, Slot.val, Rs.isBo, Rs.d, callR, freeze, binF, h]) (by rw [hlen]; exact hk) (by rw [hlen]; omega)
  exact ⟨r, s', e, ⟨by rw [e1, hlen], fun x hx => by have := e2 x hx; omega⟩, e3⟩
abbrev linesTurn : S := (.seq (.asgS 4 (.bin .add (.var 4) (.tup (.cons (.prim .tuple (.cons (.comp [6] (.nm 6) (.itRange (.cons (.bin .add (.var 1) (.con (.int 1))) .nil)) .omit (.call "_law_draw" M.Llaw_draw (.cons (.var 0) (.cons (.bin .add (.var 3) (.con (.int 1))) .nil)))) .nil)) .nil)))) .skip)
abbrev linesStep : D → Env → OSt → Out := fun d ρ s => match bindTg (.nm 5) d ρ with
  | some ρ1 => exS linesTurn ρ1 s
  | none => .no
theorem lines_for {z : Nat} {h : Int} {x2 : Slot} (hz : z ≤ 3) (h0 : 0 ≤ h) (h1 : h ≤ 1000) : ∀ (items : List D) (Rw : List (List Int)) (k : Nat) (x5 : Slot) (s : OSt), (∀ r ∈ Rw, RowH z h r) → Rw.length + items.length ≤ 1000 → St (items.length * 4 + k) s →
    ∃ Rw' x5' s', forL linesStep items [.sh .st, .sh (.int z), x2, .sh (.int h), .sh (rowsD Rw), x5, .no] s = .nx [.sh .st, .sh (.int z), x2, .sh (.int h), .sh (rowsD Rw'), x5', .no] s' ∧ (∀ r ∈ Rw', RowH z h r) ∧ Rw'.length = Rw.length + items.length ∧ St k s'
  | [], Rw, k, x5, s, h, _, hk => ⟨Rw, x5, s, by simp [forL], h, rfl, by simpa using hk⟩
  | d :: items, Rw, k, x5, s, hR, hl, hk => by
    rw [List.length_cons] at hl hk
    obtain ⟨r, s1, e, q1, hk1⟩ := comp_row (z := z) (x2 := x2) (x4 := .sh (rowsD Rw)) (x5 := .sh d) (s := s) (items.length * 4 + k) hz h0 h1 (hk.mono (by omega))
    obtain ⟨Rw', x5', s', e2, p1, p2, p3⟩ := lines_for (x2 := x2) hz h0 h1 items (Rw ++ [r]) k (.sh d) s1 (fun q hq => by
      rcases List.mem_append.mp hq with z | z
      · exact hR q z
      · rw [List.mem_singleton.mp z]; exact q1) (by rw [List.length_append, List.length_singleton]; omega) hk1
    refine ⟨Rw', x5', s', ?_, p1, by rw [p2, List.length_append, List.length_singleton, List.length_cons]; omega, p3⟩
    have hL : Rw.length + 1 ≤ LIM := by unfold LIM; omega
    have ht : D.tup (r.map D.int) = tn r := rfl
    have e0 : linesStep d [.sh .st, .sh (.int z), x2, .sh (.int h), .sh (rowsD Rw), x5, .no] s = .nx [.sh .st, .sh (.int z), x2, .sh (.int h), .sh (rowsD (Rw ++ [r])), .sh d, .no] s1 := by
      simp only [linesStep, bindTg, List.length_cons, List.length_nil, Nat.reduceAdd, Nat.reduceLT, if_true, List.set_cons_succ, List.set_cons_zero]
      rw [exS, exS, ev, ev, show ((([Slot.sh D.st, .sh (.int z), x2, .sh (.int h), .sh (rowsD Rw), .sh d, .no] : Env).getD 4 .no).val 4) = some (Rs.sh (rowsD Rw)) from rfl, lift, bind_mk, ev, evs, ev, evs, e, bind_mk, evs, bind_mk, bind_mk]
      simp [primF, tupleF, evs, R.bind, lift, Rs.d, freeze, Rs.isBo, rowsD, binF, hL, ht, withV, outOf, assignAll, slotOf, exS]
    rw [forL, e0]
    exact e2
theorem lines_run {z m : Nat} {h : Int} {k : Nat} {s : OSt} (hz : z ≤ 3) (hm : m ≤ 100) (h0 : 0 ≤ h) (hh : h ≤ 1000) (hk : St (4 * m + 1 + k) s) : ∃ Rw s', M.Llaw_lines [.st, .int z, .int m, .int h] s = .ok (.sh (rowsD Rw)) s' ∧ (∀ r ∈ Rw, RowH z h r) ∧ Rw.length ≤ m ∧ St k s' := by
  obtain ⟨d, s1, r, a, b, h1⟩ := draw_run (k := 4 * m + k) (hk.mono (by omega)) (l := (m : Int) + 1) (by omega) (by omega)
  obtain ⟨n, rfl⟩ : ∃ n : Nat, d = n := ⟨d.toNat, by omega⟩
  have hlen : (fromInts 0 n).length = n := by simp [fromInts]
  obtain ⟨Rw, x5, s', e, p1, p2, p3⟩ := lines_for (z := z) (x2 := .sh (.int m)) hz h0 hh (fromInts 0 n) [] k .no s1 (by simp) (by rw [hlen]; simp; omega) (h1.mono (by rw [hlen]; omega))
  refine ⟨Rw, s', ?_, p1, by rw [p2, hlen]; simp; omega, p3⟩
  have hi : evI (.itRange (.cons (.call "_law_draw" M.Llaw_draw (.cons (.var 0) (.cons (.bin .add (.var 2) (.con (.int 1))) .nil))) .nil)) [.sh .st, .sh (.int z), .sh (.int m), .sh (.int h), .sh (.tup []), .no, .no] s = .ok (fromInts 0 n, none) s1 := by
    have b2 := rangeF_one (a := (n : Int)) (by omega)
    rw [show ((n : Int)).toNat = n by omega] at b2
    refine evI_range (rs := [.sh (.int (n : Int))]) ?_ b2
    simp [evs, ev, R.bind, lift, Slot.val, Rs.d, binF, callR, freeze, Rs.isBo, r]
  have e2 : exS (.for (.nm 5) (.itRange (.cons (.call "_law_draw" M.Llaw_draw (.cons (.var 0) (.cons (.bin .add (.var 2) (.con (.int 1))) .nil))) .nil)) linesTurn) [.sh .st, .sh (.int z), .sh (.int m), .sh (.int h), .sh (.tup []), .no, .no] s = .nx [.sh .st, .sh (.int z), .sh (.int m), .sh (.int h), .sh (rowsD Rw), x5, .no] s' := by
    rw [exS, hi]; exact e
  have e0 : exS (.asgS 4 (.tup .nil)) [.sh .st, .sh (.int z), .sh (.int m), .sh (.int h), .no, .no, .no] s = .nx [.sh .st, .sh (.int z), .sh (.int m), .sh (.int h), .sh (.tup []), .no, .no] s := by
    simp [exS, ev, evs, R.bind, freeze, Rs.isBo, Rs.d, withV, outOf, assignAll, slotOf]
  show evFn 7 4 M.Llaw_linesS _ s = _
  unfold evFn M.Llaw_linesS
  rw [if_pos (show [D.st, D.int z, D.int m, D.int h].length = 4 from rfl)]
  rw [exS, show startE 7 [D.st, D.int z, D.int m, D.int h] = [.sh .st, .sh (.int z), .sh (.int m), .sh (.int h), .no, .no, .no] from rfl, e0]
  simp only []
  rw [exS, e2]
  simp [exS, ev, lift, Slot.val, withV, endR]
end RS
end
section
set_option autoImplicit false
set_option linter.all false
set_option maxRecDepth 100000
set_option maxHeartbeats 1000000
/-! RSRowsQ: rising rows counted by their last place. -/
namespace RS
theorem hitB_append (Rw Sw : List (List Int)) (own : List Int) : hitB (Rw ++ Sw) own = (hitB Rw own || hitB Sw own) := by
  unfold hitB
  rw [List.any_append]
theorem hits_mem {Rw : List (List Int)} {n : Int} {ls : List (List Nat)} {l : List Nat} : l ∈ hits Rw n ls ↔ l ∈ ls ∧ hitB Rw (gapsZ n l) = true := by
  unfold hits
  rw [List.mem_filter]
/-- those of the second that are not among the first come on top -/
theorem hits_more (Rw Sw : List (List Int)) (n : Int) (ls : List (List Nat)) :
    (hits (Rw ++ Sw) n ls).length = (hits Rw n ls).length + ((hits Sw n ls).filter fun l => !decide (l ∈ hits Rw n ls)).length := by
  have e : ((hits Sw n ls).filter fun l => !decide (l ∈ hits Rw n ls)) = ls.filter fun l => hitB Sw (gapsZ n l) && !hitB Rw (gapsZ n l) := by
    unfold hits
    rw [List.filter_filter]
    apply List.filter_congr
    intro l hl
    have : decide (l ∈ List.filter (fun l => hitB Rw (gapsZ n l)) ls) = hitB Rw (gapsZ n l) := by
      cases hb : hitB Rw (gapsZ n l) with
      | true => exact decide_eq_true (List.mem_filter.mpr ⟨hl, hb⟩)
      | false => exact decide_eq_false fun z => by have := (List.mem_filter.mp z).2; rw [hb] at this; cases this
    rw [this, Bool.and_comm]
  rw [e]
  unfold hits
  clear e
  induction ls with
  | nil => rfl
  | cons l ls ih =>
    simp only [List.filter_cons, hitB_append]
    cases h1 : hitB Rw (gapsZ n l) <;> cases h2 : hitB Sw (gapsZ n l) <;> simp [hitB_append] at ih ⊢ <;> omega
/-- the sum of f over the numbers below n -/
def sumTo (f : Nat → Nat) : Nat → Nat
  | 0 => 0
  | n + 1 => sumTo f n + f n
theorem sumTo_congr {f g : Nat → Nat} : ∀ n, (∀ p, p < n → f p = g p) → sumTo f n = sumTo g n
  | 0, _ => rfl
  | n + 1, h => by rw [sumTo, sumTo, sumTo_congr n fun p hp => h p (by omega), h n (by omega)]
theorem sumTo_add (f g : Nat → Nat) : ∀ n, sumTo (fun p => f p + g p) n = sumTo f n + sumTo g n
  | 0 => rfl
  | n + 1 => by rw [sumTo, sumTo, sumTo, sumTo_add f g n]; omega
theorem sumTo_zero : ∀ n, sumTo (fun _ => 0) n = 0
  | 0 => rfl
  | n + 1 => by rw [sumTo, sumTo_zero n]
theorem sumTo_split (f : Nat → Nat) (a : Nat) : ∀ b, sumTo f (a + b) = sumTo f a + sumTo (fun i => f (a + i)) b
  | 0 => by simp [sumTo]
  | b + 1 => by rw [← Nat.add_assoc, sumTo, sumTo_split f a b, sumTo]; omega
theorem startN_snoc (l : List Nat) (p : Nat) : startN (l ++ [p]) = p + 1 := by
  unfold startN; simp
/-- those that end below p are those among p places -/
theorem lots_below : ∀ (z : Nat) {p n : Nat}, p ≤ n → (lotsN n z).filter (fun l => decide (startN l ≤ p)) = lotsN p z
  | 0, p, n, h => by simp [lotsN, startN]
  | z + 1, p, n, h => by
    rw [lotsN, lotsN, List.filter_flatMap, ← lots_below z h]
    generalize lotsN n z = L
    induction L with
    | nil => rfl
    | cons l L ih =>
      rw [List.flatMap_cons, ih]
      have e1 : (nextN n l).filter (fun l => decide (startN l ≤ p)) = nextN p l := by
        unfold nextN
        rw [List.filter_map]
        have : ((fun l => decide (startN l ≤ p)) ∘ fun i => l ++ [startN l + i]) = fun i => decide (startN l + i + 1 ≤ p) := by
          funext i
          show decide (startN (l ++ [startN l + i]) ≤ p) = _
          rw [startN_snoc]
        rw [this]
        have r : (List.range (n - startN l)).filter (fun i => decide (startN l + i + 1 ≤ p)) = List.range (p - startN l) := by
          have e2 : n - startN l = (p - startN l) + (n - startN l - (p - startN l)) := by omega
          rw [e2, List.range_add, List.filter_append]
          have h1 : (List.range (p - startN l)).filter (fun i => decide (startN l + i + 1 ≤ p)) = List.range (p - startN l) := by
            rw [List.filter_eq_self]
            intro i hi
            have := List.mem_range.mp hi
            exact decide_eq_true (by omega)
          have h2 : ((List.range (n - startN l - (p - startN l))).map fun x => p - startN l + x).filter (fun i => decide (startN l + i + 1 ≤ p)) = [] := by
            rw [List.filter_eq_nil_iff]
            intro i hi
            obtain ⟨x, hx, rfl⟩ := List.mem_map.mp hi
            have := List.mem_range.mp hx
            simp; omega
          rw [h1, h2, List.append_nil]
        rw [r]
      rw [e1, List.filter_cons]
      by_cases hl : startN l ≤ p
      · rw [if_pos (decide_eq_true hl), List.flatMap_cons]
      · rw [if_neg (by simpa using hl)]
        have : nextN p l = [] := by
          unfold nextN
          have : p - startN l = 0 := by omega
          rw [this]; rfl
        rw [this, List.nil_append]
theorem count_range (q : Nat → Bool) : ∀ (a n : Nat), a ≤ n → ((List.range (n - a)).filter fun i => q (a + i)).length = sumTo (fun p => if a ≤ p ∧ q p = true then 1 else 0) n := by
  intro a n
  induction n with
  | zero => intro h; simp [sumTo]
  | succ n ih =>
    intro h
    by_cases ha : a ≤ n
    · have e : n + 1 - a = (n - a) + 1 := by omega
      rw [e, List.range_succ, List.filter_append, List.length_append, ih ha, sumTo]
      have : a + (n - a) = n := by omega
      simp only [List.filter_cons, List.filter_nil, this]
      by_cases hq : q n = true
      · simp [hq, ha]
      · simp [hq]
    · have ea : a = n + 1 := by omega
      subst ea
      have z : ∀ m, m ≤ n + 1 → sumTo (fun p => if n + 1 ≤ p ∧ q p = true then 1 else 0) m = 0 := by
        intro m hm
        rw [sumTo_congr (g := fun _ => 0) m fun p hp => if_neg (by omega)]
        exact sumTo_zero m
      rw [z _ (Nat.le_refl _)]
      simp
/-- counted by the last place -/
theorem count_last (P : List Nat → Bool) (n z : Nat) : ((lotsN n (z + 1)).filter P).length = sumTo (fun p => ((lotsN p z).filter fun l => P (l ++ [p])).length) n := by
  have e : sumTo (fun p => ((lotsN p z).filter fun l => P (l ++ [p])).length) n = sumTo (fun p => ((lotsN n z).filter fun l => decide (startN l ≤ p) && P (l ++ [p])).length) n := by
    refine sumTo_congr n fun p hp => ?_
    rw [← lots_below z (show p ≤ n by omega), List.filter_filter]
    congr 2
    funext l
    exact Bool.and_comm _ _
  rw [e, lotsN]
  clear e
  have hb : ∀ l ∈ lotsN n z, startN l ≤ n := fun l hl => (lotsN_mem hl).2.1
  generalize lotsN n z = L at *
  induction L with
  | nil => simp [sumTo_zero]
  | cons l L ih =>
    rw [List.flatMap_cons, List.filter_append, List.length_append, ih fun l hl => hb l (List.mem_cons_of_mem _ hl)]
    have h1 : ((nextN n l).filter P).length = sumTo (fun p => if startN l ≤ p ∧ P (l ++ [p]) = true then 1 else 0) n := by
      rw [← count_range (fun p => P (l ++ [p])) (startN l) n (hb l List.mem_cons_self)]
      unfold nextN
      rw [List.filter_map, List.length_map]
      rfl
    rw [h1, ← sumTo_add]
    refine sumTo_congr n fun p hp => ?_
    rw [List.filter_cons]
    by_cases h2 : startN l ≤ p ∧ P (l ++ [p]) = true
    · rw [if_pos h2, if_pos (by rw [decide_eq_true h2.1, h2.2]; rfl), List.length_cons]; omega
    · rw [if_neg h2, if_neg (by
        intro c
        rw [Bool.and_eq_true] at c
        exact h2 ⟨of_decide_eq_true c.1, c.2⟩)]; omega
/-! ### one row -/
theorem gapsL_snoc (n : Int) (l : List Int) (p : Int) : gapsL n (l ++ [p]) = gapsL p l ++ [n - p - 1] := by
  unfold gapsL
  have hl : ((-1) :: l).length = (l ++ [p]).length := by simp
  have e1 : ((-1) :: (l ++ [p]) ++ [n]) = ((-1) :: l) ++ [p, n] := by simp
  have e2 : ((-1) :: l ++ [p]).zip (l ++ [p]) = ((-1) :: l).zip (l ++ [p]) := by
    have : ((-1) :: l ++ [p]).zip ((l ++ [p]) ++ []) = ((-1) :: l).zip (l ++ [p]) ++ [p].zip [] := List.zip_append hl
    rw [List.append_nil] at this
    rw [this]; simp
  rw [e1, List.zip_append hl, e2, List.map_append]
  rfl
theorem gapsZ_snoc (n : Int) (l : List Nat) (p : Nat) : gapsZ n (l ++ [p]) = gapsZ p l ++ [n - p - 1] := by
  unfold gapsZ
  rw [List.map_append]
  exact gapsL_snoc _ _ _
theorem gapsZ_len (n : Int) (l : List Nat) : (gapsZ n l).length = l.length + 1 := by
  unfold gapsZ gapsL
  simp
theorem belowL_snoc {xs ys : List Int} (h : xs.length = ys.length) (x y : Int) : belowL (xs ++ [x]) (ys ++ [y]) = (belowL xs ys && !decide (y < x)) := by
  unfold belowL
  rw [List.zip_append h, List.all_append]
  simp
/-- how many rising rows of z places among n have gaps that some row reaches -/
def cnt (Rw : List (List Int)) (z n : Nat) : Nat := (hits Rw n (lotsN n z)).length
theorem cnt_one {r : List Int} {g : Nat} {z n : Nat} (hr : r.length = z + 1) : cnt [r ++ [(g : Int)]] (z + 1) n = sumTo (cnt [r] z) (n - g) := by
  have e : cnt [r ++ [(g : Int)]] (z + 1) n = sumTo (fun p => if p + g + 1 ≤ n then cnt [r] z p else 0) n := by
    unfold cnt hits
    rw [count_last]
    refine sumTo_congr n fun p hp => ?_
    have hh : ∀ l ∈ lotsN p z, hitB [r ++ [(g : Int)]] (gapsZ n (l ++ [p])) = (hitB [r] (gapsZ p l) && decide (p + g + 1 ≤ n)) := fun l hl => by
      unfold hitB
      rw [gapsZ_snoc]
      simp only [List.any_cons, List.any_nil, Bool.or_false]
      rw [belowL_snoc (by rw [gapsZ_len, hr, (lotsN_mem hl).1])]
      congr 1
      by_cases h : p + g + 1 ≤ n
      · rw [decide_eq_true h, decide_eq_false (by omega)]; rfl
      · rw [decide_eq_false h, decide_eq_true (by omega)]; rfl
    rw [List.filter_congr hh]
    by_cases h : p + g + 1 ≤ n
    · rw [if_pos h, decide_eq_true h]; simp
    · rw [if_neg h, decide_eq_false h]; simp
  rw [e]
  have hn : n = (n - g) + (n - (n - g)) := by omega
  rw [show sumTo (fun p => if p + g + 1 ≤ n then cnt [r] z p else 0) n = sumTo (fun p => if p + g + 1 ≤ n then cnt [r] z p else 0) ((n - g) + (n - (n - g))) by rw [← hn], sumTo_split]
  have h1 : sumTo (fun p => if p + g + 1 ≤ n then cnt [r] z p else 0) (n - g) = sumTo (cnt [r] z) (n - g) := sumTo_congr _ fun p hp => if_pos (by omega)
  have h2 : sumTo (fun i => if n - g + i + g + 1 ≤ n then cnt [r] z (n - g + i) else 0) (n - (n - g)) = 0 := by
    rw [sumTo_congr (g := fun _ => 0) _ fun p hp => if_neg (by omega)]
    exact sumTo_zero _
  rw [h1, h2, Nat.add_zero]
/-! ### sets of places counted -/
theorem comb_sum (k : Nat) : ∀ m, sumTo (fun p => combN p k) m = combN m (k + 1)
  | 0 => by simp [sumTo, combN]
  | m + 1 => by
    rw [sumTo, comb_sum k m, combN, Nat.add_comm]
theorem sumTo_shift (f : Nat → Nat) (s : Nat) (h : ∀ p, p < s → f p = 0) : ∀ m, sumTo f m = sumTo (fun p => f (p + s)) (m - s) := by
  intro m
  by_cases hm : s ≤ m
  · have e : m = s + (m - s) := by omega
    rw [e, sumTo_split, sumTo_congr (g := fun _ => 0) s fun p hp => h p hp, sumTo_zero, Nat.zero_add]
    have : s + (m - s) - s = m - s := by omega
    rw [this]
    exact sumTo_congr _ fun p _ => by rw [Nat.add_comm]
  · have e : m - s = 0 := by omega
    rw [e, sumTo_congr (g := fun _ => 0) m fun p hp => h p (by omega), sumTo_zero, sumTo]
/-- one row of gaps leaves so many places -/
theorem cnt_row : ∀ (z : Nat) (gs : List Nat) (n : Nat), gs.length = z + 1 → cnt [gs.map fun (x : Nat) => (x : Int)] z n = if gs.sum ≤ n then combN (n - gs.sum) z else 0
  | 0, gs, n, h => by
    match gs, h with
    | [g], _ =>
      unfold cnt hits
      simp only [lotsN, List.map_cons, List.map_nil, List.sum_cons, List.sum_nil, Nat.add_zero]
      have : hitB [[(g : Int)]] (gapsZ n []) = decide (g ≤ n) := by
        unfold hitB belowL gapsZ gapsL
        simp
        by_cases h : g ≤ n
        · simp [h]
        · simp [h]
          omega
      rw [List.filter_cons, this]
      by_cases h : g ≤ n
      · simp [h, combN]
      · simp [h]
  | z + 1, gs, n, h => by
    rcases List.eq_nil_or_concat gs with e | ⟨r, g, e⟩
    · rw [e] at h; simp at h
    · have e : gs = r ++ [g] := by simpa using e
      subst e
      have hr : r.length = z + 1 := by simpa using h
      rw [List.map_append]
      have := cnt_one (r := r.map fun (x : Nat) => (x : Int)) (g := g) (z := z) (n := n) (by rw [List.length_map]; exact hr)
      rw [show (List.map (fun (x : Nat) => (x : Int)) [g]) = [(g : Int)] from rfl, this]
      rw [sumTo_congr (g := fun p => if r.sum ≤ p then combN (p - r.sum) z else 0) _ fun p _ => cnt_row z r p hr]
      rw [sumTo_shift _ r.sum (fun p hp => if_neg (by omega))]
      rw [sumTo_congr (g := fun p => combN p z) _ fun p _ => by rw [if_pos (by omega), Nat.add_sub_cancel], comb_sum, List.sum_append, List.sum_singleton]
      by_cases hs : r.sum + g ≤ n
      · rw [if_pos hs]
        have : n - g - r.sum = n - (r.sum + g) := by omega
        rw [this]
      · rw [if_neg hs]
        have : n - g - r.sum = 0 := by omega
        rw [this]; simp [combN]
theorem comb_up : ∀ n k, combN (n + 1) (k + 1) * (k + 1) = (n + 1) * combN n k
  | 0, 0 => by simp [combN]
  | 0, k + 1 => by simp [combN]
  | n + 1, 0 => by
    have h := comb_up n 0
    have e0 : combN (n + 1) 0 = 1 := by simp [combN]
    have e1 : combN n 0 = 1 := by cases n <;> simp [combN]
    have d : combN (n + 2) 1 = combN (n + 1) 0 + combN (n + 1) 1 := rfl
    rw [e1] at h
    have h : combN (n + 1) 1 * 1 = (n + 1) * 1 := h
    show combN (n + 2) 1 * (0 + 1) = (n + 1 + 1) * combN (n + 1) 0
    rw [d, e0]
    omega
  | n + 1, k + 1 => by
    have h1 := comb_up n k
    have h2 := comb_up n (k + 1)
    have d : combN (n + 2) (k + 2) = combN (n + 1) (k + 1) + combN (n + 1) (k + 2) := by rw [combN]
    have d2 : combN (n + 1) (k + 1) = combN n k + combN n (k + 1) := by rw [combN]
    rw [d]
    grind
theorem comb_next : ∀ n k, combN n (k + 1) * (k + 1) = combN n k * (n - k)
  | 0, 0 => by simp [combN]
  | 0, k + 1 => by simp [combN]
  | n + 1, k => by
    rw [comb_up]
    by_cases hk : k ≤ n
    · have e : n + 1 - k = (n - k) + 1 := by omega
      rw [e]
      cases k with
      | zero =>
        have e0 : combN (n + 1) 0 = 1 := by simp [combN]
        have e1 : combN n 0 = 1 := by cases n <;> simp [combN]
        rw [e0, e1]; omega
      | succ k =>
        have h1 := comb_next n k
        have h2 := comb_up n k
        have d2 : combN (n + 1) (k + 1) = combN n k + combN n (k + 1) := by rw [combN]
        obtain ⟨m, rfl⟩ : ∃ m, n = m + (k + 1) := ⟨n - (k + 1), by omega⟩
        have q : m + (k + 1) - k = m + 1 := by omega
        have q2 : m + (k + 1) - (k + 1) = m := by omega
        rw [q] at h1
        rw [q2, d2]
        grind
    · have e : n + 1 - k = 0 ∨ k = n + 1 := by omega
      have z : combN n k = 0 := by
        have : ∀ n k, n < k → combN n k = 0 := by
          intro n
          induction n with
          | zero => intro k h; cases k with
            | zero => omega
            | succ k => simp [combN]
          | succ n ih => intro k h; cases k with
            | zero => omega
            | succ k => rw [combN, ih k (by omega), ih (k + 1) (by omega)]
        exact this n k (by omega)
      rw [z, Nat.mul_zero]
      rcases e with e | e
      · rw [e, Nat.mul_zero]
      · rw [e]; simp
end RS
end
section
set_option autoImplicit false
set_option linter.all false
set_option maxRecDepth 100000
set_option maxHeartbeats 1000000
/-! RSRowsP: least rows. -/
namespace RS
theorem belowL_cons (x y : Int) (xs ys : List Int) : belowL (x :: xs) (y :: ys) = (!decide (y < x) && belowL xs ys) := by
  unfold belowL; simp
theorem belowL_refl : ∀ xs : List Int, belowL xs xs = true
  | [] => rfl
  | x :: xs => by rw [belowL_cons, belowL_refl xs]; simp
theorem belowL_trans : ∀ {xs ys zs : List Int}, xs.length = ys.length → ys.length = zs.length → belowL xs ys = true → belowL ys zs = true → belowL xs zs = true
  | [], _, zs, _, _, _, _ => by simp [belowL]
  | x :: xs, y :: ys, z :: zs, h1, h2, a, b => by
    rw [belowL_cons] at a b ⊢
    simp only [Bool.and_eq_true, Bool.not_eq_true', decide_eq_false_iff_not, Int.not_lt] at a b ⊢
    exact ⟨by omega, belowL_trans (by simpa using h1) (by simpa using h2) a.2 b.2⟩
theorem belowL_anti : ∀ {xs ys : List Int}, xs.length = ys.length → belowL xs ys = true → belowL ys xs = true → xs = ys
  | [], [], _, _, _ => rfl
  | x :: xs, y :: ys, h1, a, b => by
    rw [belowL_cons] at a b
    simp only [Bool.and_eq_true, Bool.not_eq_true', decide_eq_false_iff_not, Int.not_lt] at a b
    rw [belowL_anti (by simpa using h1) a.2 b.2, show x = y by omega]
theorem belowL_code : ∀ {xs ys : List Int}, xs.length = ys.length → belowL xs ys = true → codeK xs ≤ codeK ys
  | [], [], _, _ => Int.le_refl _
  | x :: xs, y :: ys, h1, a => by
    rw [belowL_cons] at a
    simp only [Bool.and_eq_true, Bool.not_eq_true', decide_eq_false_iff_not, Int.not_lt] at a
    have hl : xs.length = ys.length := by simpa using h1
    have := belowL_code hl a.2
    rw [codeK, codeK, hl]
    have : x * 1048576 ^ ys.length ≤ y * 1048576 ^ ys.length := Int.mul_le_mul_of_nonneg_right a.1 (Int.le_of_lt (Int.pow_pos (by decide)))
    omega
/-- entries that the order takes -/
def Ent (n : Nat) (k : List Int) : Prop := k.length = n ∧ ∀ x ∈ k, 0 ≤ x ∧ x < 1048576
theorem pcode_bd : ∀ {k : List Int}, (∀ x ∈ k, 0 ≤ x ∧ x < 1048576) → 0 ≤ codeK k ∧ codeK k < 1048576 ^ k.length
  | [], _ => by simp [codeK]
  | x :: k, h => by
    obtain ⟨a, b⟩ := pcode_bd fun y hy => h y (List.mem_cons_of_mem _ hy)
    have hx := h x List.mem_cons_self
    rw [codeK, List.length_cons]
    have p : (0 : Int) < 1048576 ^ k.length := Int.pow_pos (by decide)
    have q1 : 0 ≤ x * 1048576 ^ k.length := Int.mul_nonneg hx.1 (Int.le_of_lt p)
    have q2 : x * 1048576 ^ k.length ≤ 1048575 * 1048576 ^ k.length := Int.mul_le_mul_of_nonneg_right (by omega) (Int.le_of_lt p)
    have q3 : (1048576 : Int) ^ (k.length + 1) = 1048576 ^ k.length * 1048576 := Int.pow_succ _ _
    omega
theorem pcode_inj : ∀ {k q : List Int}, k.length = q.length → (∀ x ∈ k, 0 ≤ x ∧ x < 1048576) → (∀ x ∈ q, 0 ≤ x ∧ x < 1048576) → codeK k = codeK q → k = q
  | [], [], _, _, _, _ => rfl
  | x :: k, y :: q, hl0, h1, h2, e => by
    have hl : k.length = q.length := by simpa using hl0
    have h1' : ∀ y ∈ k, 0 ≤ y ∧ y < 1048576 := fun y hy => h1 y (List.mem_cons_of_mem _ hy)
    have h2' : ∀ z ∈ q, 0 ≤ z ∧ z < 1048576 := fun y hy => h2 y (List.mem_cons_of_mem _ hy)
    obtain ⟨a, b⟩ := pcode_bd h1'
    obtain ⟨c, d⟩ := pcode_bd h2'
    clear h1 h2 hl0
    rw [codeK, codeK, hl] at e
    rw [hl] at b
    have p : (0 : Int) < 1048576 ^ q.length := Int.pow_pos (by decide)
    generalize (1048576 : Int) ^ q.length = B at *
    have xy : x = y := by
      rcases Int.lt_trichotomy x y with l | l | l
      · have : (x + 1) * B ≤ y * B := Int.mul_le_mul_of_nonneg_right (by omega) (Int.le_of_lt p)
        rw [Int.add_mul] at this; omega
      · exact l
      · have : (y + 1) * B ≤ x * B := Int.mul_le_mul_of_nonneg_right (by omega) (Int.le_of_lt p)
        rw [Int.add_mul] at this; omega
    subst xy
    rw [pcode_inj hl h1' h2' (by omega)]
theorem Ent.inj {n : Nat} {k q : List Int} (h1 : Ent n k) (h2 : Ent n q) (e : codeK k = codeK q) : k = q := pcode_inj (by rw [h1.1, h2.1]) h1.2 h2.2 e
def UpK (l : List (List Int)) : Prop := l.Pairwise fun a b => codeK a < codeK b
theorem pins_mem {n : Nat} {k : List Int} (hk : Ent n k) : ∀ (l : List (List Int)), (∀ q ∈ l, Ent n q) → UpK l → UpK (insK k l) ∧ ∀ x, x ∈ insK k l ↔ x = k ∨ x ∈ l
  | [], _, _ => ⟨List.pairwise_singleton _ _, fun x => by simp [insK]⟩
  | y :: r, h, hu => by
    have hy := h y List.mem_cons_self
    have hr := fun q hq => h q (List.mem_cons_of_mem _ hq)
    have hu2 := List.pairwise_cons.mp hu
    rw [insK]
    split
    · rename_i c
      refine ⟨List.pairwise_cons.mpr ⟨fun b hb => ?_, hu⟩, fun x => by simp⟩
      rcases List.mem_cons.mp hb with z | z
      · rw [z]; exact c
      · exact Int.lt_trans c (hu2.1 b z)
    · split
      · rename_i c
        have := hk.inj hy c
        subst this
        exact ⟨hu, fun x => by simp⟩
      · rename_i c1 c2
        obtain ⟨a, b⟩ := pins_mem hk r hr hu2.2
        refine ⟨List.pairwise_cons.mpr ⟨fun q hq => ?_, a⟩, fun x => by rw [List.mem_cons, b x, List.mem_cons]; constructor <;> (rintro (z | z | z) <;> simp [z])⟩
        rcases (b q).mp hq with z | z
        · rw [z]; omega
        · exact hu2.1 q z
theorem psort_mem {n : Nat} : ∀ (l : List (List Int)), (∀ q ∈ l, Ent n q) → UpK (sortK l) ∧ ∀ x, x ∈ sortK l ↔ x ∈ l
  | [], _ => ⟨List.Pairwise.nil, fun x => by simp [sortK]⟩
  | k :: ks, h => by
    obtain ⟨a, b⟩ := psort_mem ks fun q hq => h q (List.mem_cons_of_mem _ hq)
    obtain ⟨c, d⟩ := pins_mem (h k List.mem_cons_self) (sortK ks) (fun q hq => h q (List.mem_cons_of_mem _ ((b q).mp hq))) a
    exact ⟨by rw [sortK]; exact c, fun x => by rw [sortK, d x, b x, List.mem_cons]⟩
theorem psort_up : ∀ {l : List (List Int)}, UpK l → sortK l = l
  | [], _ => rfl
  | k :: ks, h => by
    have h2 := List.pairwise_cons.mp h
    rw [sortK, psort_up h2.2]
    cases ks with
    | nil => rfl
    | cons y r => rw [insK, if_pos (h2.1 y List.mem_cons_self)]
theorem up_ext : ∀ {a b : List (List Int)}, UpK a → UpK b → (∀ x, x ∈ a ↔ x ∈ b) → a = b
  | [], [], _, _, _ => rfl
  | [], y :: b, _, _, h => absurd ((h y).mpr List.mem_cons_self) (by simp)
  | x :: a, [], _, _, h => absurd ((h x).mp List.mem_cons_self) (by simp)
  | x :: a, y :: b, h1, h2, h => by
    have p := List.pairwise_cons.mp h1
    have q := List.pairwise_cons.mp h2
    have xy : x = y := by
      rcases List.mem_cons.mp ((h x).mp List.mem_cons_self) with z | z
      · exact z
      · rcases List.mem_cons.mp ((h y).mpr List.mem_cons_self) with w | w
        · exact w.symm
        · have := p.1 y w; have := q.1 x z; omega
    subst xy
    rw [up_ext p.2 q.2 fun z => by
      have hz := h z
      rw [List.mem_cons, List.mem_cons] at hz
      constructor
      · intro m
        rcases hz.mp (Or.inr m) with w | w
        · have := p.1 z m; rw [w] at this; omega
        · exact w
      · intro m
        rcases hz.mpr (Or.inr m) with w | w
        · have := q.1 z m; rw [w] at this; omega
        · exact w]
/-- the row is reached by no other one -/
def loneB (Rw : List (List Int)) (r : List Int) : Bool := !Rw.any fun o => !decide (o = r) && belowL o r
def leastL (Rw : List (List Int)) : List (List Int) := (sortK Rw).filter (loneB Rw)
def greedyF (F : List (List Int)) (r : List Int) : List (List Int) := if hitB F r = true then F else F ++ [r]
theorem lone_iff {Rw : List (List Int)} {r : List Int} : loneB Rw r = true ↔ ∀ o ∈ Rw, belowL o r = true → o = r := by
  unfold loneB
  rw [Bool.not_eq_true', ← Bool.not_eq_true, List.any_eq_true]
  constructor
  · intro h o ho hb
    refine Decidable.byContradiction fun hne => h ⟨o, ho, ?_⟩
    simp [hne, hb]
  · rintro h ⟨o, ho, hb⟩
    rw [Bool.and_eq_true, Bool.not_eq_true', decide_eq_false_iff_not] at hb
    exact hb.1 (h o ho hb.2)
theorem hitB_iff {Rw : List (List Int)} {own : List Int} : hitB Rw own = true ↔ ∃ r ∈ Rw, belowL r own = true := by unfold hitB; exact List.any_eq_true
section
variable {n : Nat} {Rw : List (List Int)} (hE : ∀ q ∈ Rw, Ent n q)
include hE
theorem least_mem {r : List Int} : r ∈ leastL Rw ↔ r ∈ Rw ∧ ∀ o ∈ Rw, belowL o r = true → o = r := by
  unfold leastL
  rw [List.mem_filter, (psort_mem Rw hE).2 r, lone_iff]
theorem least_up : UpK (leastL Rw) := (psort_mem Rw hE).1.filter _
theorem least_ent : ∀ q ∈ leastL Rw, Ent n q := fun q hq => hE q ((least_mem hE).mp hq).1
/-- each row is reached by a least one -/
theorem least_below : ∀ (m : Nat) {o : List Int}, o ∈ Rw → (codeK o).toNat ≤ m → ∃ p ∈ leastL Rw, belowL p o = true
  | m, o, ho, hm => by
    by_cases h : loneB Rw o = true
    · exact ⟨o, (least_mem hE).mpr ⟨ho, lone_iff.mp h⟩, belowL_refl o⟩
    · have : ∃ q ∈ Rw, q ≠ o ∧ belowL q o = true := by
        refine Classical.byContradiction fun hn => h (lone_iff.mpr fun q hq hb => Classical.byContradiction fun hne => hn ⟨q, hq, hne, hb⟩)
      obtain ⟨q, hq, hne, hb⟩ := this
      have e1 := hE q hq
      have e2 := hE o ho
      have c1 := belowL_code (by rw [e1.1, e2.1]) hb
      have c2 : codeK q ≠ codeK o := fun e => hne (e1.inj e2 e)
      have c3 := (pcode_bd e1.2).1
      match m, hm with
      | 0, hm => omega
      | m + 1, hm =>
        obtain ⟨p, hp, hb2⟩ := least_below m hq (by omega)
        have e3 := least_ent hE p hp
        exact ⟨p, hp, belowL_trans (by rw [e3.1, e1.1]) (by rw [e1.1, e2.1]) hb2 hb⟩
theorem least_hit {own : List Int} (hl : own.length = n) : hitB (leastL Rw) own = hitB Rw own := by
  rw [Bool.eq_iff_iff, hitB_iff, hitB_iff]
  constructor
  · rintro ⟨r, hr, hb⟩
    exact ⟨r, ((least_mem hE).mp hr).1, hb⟩
  · rintro ⟨r, hr, hb⟩
    obtain ⟨p, hp, hb2⟩ := least_below hE _ hr (Nat.le_refl _)
    have e3 := least_ent hE p hp
    exact ⟨p, hp, belowL_trans (by rw [e3.1, (hE r hr).1]) (by rw [(hE r hr).1, hl]) hb2 hb⟩
theorem least_least : leastL (leastL Rw) = leastL Rw := by
  have h1 := psort_up (least_up hE)
  have : leastL (leastL Rw) = (leastL Rw).filter (loneB (leastL Rw)) := by
    show (sortK (leastL Rw)).filter _ = _
    rw [h1]
  rw [this, List.filter_eq_self]
  intro r hr
  rw [lone_iff]
  exact fun o ho hb => ((least_mem hE).mp hr).2 o ((least_mem hE).mp ho).1 hb
theorem greedy_aux : ∀ (B A : List (List Int)), sortK Rw = A ++ B → B.foldl greedyF (A.filter (loneB Rw)) = leastL Rw
  | [], A, h => by rw [List.foldl_nil, leastL, h, List.append_nil]
  | r :: B, A, h => by
    have hu := (psort_mem Rw hE).1
    have hmem := (psort_mem Rw hE).2
    have hr : r ∈ Rw := (hmem r).mp (by rw [h]; simp)
    rw [h] at hu
    have hu2 := List.pairwise_append.mp hu
    have key : hitB (A.filter (loneB Rw)) r = !loneB Rw r := by
      cases hl : loneB Rw r with
      | true =>
        rw [Bool.not_true, ← Bool.not_eq_true, hitB_iff]
        rintro ⟨o, ho, hb⟩
        have ho := (List.mem_filter.mp ho).1
        have := hu2.2.2 o ho r List.mem_cons_self
        have e := lone_iff.mp hl o ((hmem o).mp (by rw [h]; exact List.mem_append_left _ ho)) hb
        rw [e] at this; omega
      | false =>
        rw [Bool.not_false, hitB_iff]
        obtain ⟨p, hp, hb⟩ := least_below hE _ hr (Nat.le_refl _)
        have hpl := (List.mem_filter.mp hp).2
        have hps := (List.mem_filter.mp hp).1
        rw [h] at hps
        rcases List.mem_append.mp hps with z | z
        · exact ⟨p, List.mem_filter.mpr ⟨z, hpl⟩, hb⟩
        · rcases List.mem_cons.mp z with w | w
          · rw [w] at hpl; rw [hpl] at hl; cases hl
          · have c1 := (List.pairwise_cons.mp hu2.2.1).1 p w
            have c2 := belowL_code (by rw [(least_ent hE p hp).1, (hE r hr).1]) hb
            omega
    rw [List.foldl_cons, greedyF, key]
    have ih := greedy_aux B (A ++ [r]) (by rw [h]; simp)
    rw [List.filter_append] at ih
    cases hl : loneB Rw r with
    | true => 
      have : [r].filter (loneB Rw) = [r] := by simp [hl]
      rw [this] at ih; simpa using ih
    | false =>
      have : [r].filter (loneB Rw) = [] := by simp [hl]
      rw [this, List.append_nil] at ih; simpa using ih
theorem greedy_least : (sortK Rw).foldl greedyF [] = leastL Rw := greedy_aux hE _ [] (by simp)
end
theorem lone_fold (Rw : List (List Int)) : ∀ (L F : List (List Int)), L.foldl (fun F r => if loneB Rw r = true then F ++ [r] else F) F = F ++ L.filter (loneB Rw)
  | [], F => by simp
  | r :: L, F => by
    rw [List.foldl_cons, lone_fold Rw L, List.filter_cons]
    split <;> simp
/-- a row of gaps is that of some set -/
theorem exists_lot : ∀ (z : Nat) (gs : List Nat), gs.length = z + 1 → ∃ l ∈ lotsN (gs.sum + z) z, gapsZ (gs.sum + z : Nat) l = gs.map fun (x : Nat) => (x : Int)
  | 0, gs, h => by
    match gs, h with
    | [g], _ => exact ⟨[], by simp [lotsN], by simp [gapsZ, gapsL]⟩
  | z + 1, gs, h => by
    rcases List.eq_nil_or_concat gs with e | ⟨gs', g, e⟩
    · rw [e] at h; cases h
    · have e : gs = gs' ++ [g] := by simpa using e
      subst e
      have hl : gs'.length = z + 1 := by simpa using h
      obtain ⟨l, h1, h2⟩ := exists_lot z gs' hl
      have hs : (gs' ++ [g]).sum = gs'.sum + g := by simp
      rw [hs]
      have hp : gs'.sum + z ≤ gs'.sum + g + (z + 1) := by omega
      have hb := lots_below z hp
      rw [← hb, List.mem_filter] at h1
      have hst : startN l ≤ gs'.sum + z := of_decide_eq_true h1.2
      refine ⟨l ++ [gs'.sum + z], ?_, ?_⟩
      · rw [lotsN, List.mem_flatMap]
        refine ⟨l, h1.1, ?_⟩
        unfold nextN
        exact List.mem_map.mpr ⟨gs'.sum + z - startN l, List.mem_range.mpr (by omega), by rw [show startN l + (gs'.sum + z - startN l) = gs'.sum + z by omega]⟩
      · rw [gapsZ_snoc, h2, List.map_append, List.map_singleton]
        congr 2
        omega
theorem filter_iff {α : Type} {p q : α → Bool} {l : List α} (h : l.filter p = l.filter q) : ∀ x ∈ l, p x = q x := fun x hx => by
  have : x ∈ l.filter p ↔ x ∈ l.filter q := by rw [h]
  rw [List.mem_filter, List.mem_filter] at this
  simp only [hx, true_and] at this
  rwa [← Bool.eq_iff_iff] at this
/-- the sets that rows reach, on all numbers of places to m, tell the least rows -/
theorem least_iff {z m : Nat} {A B : List (List Int)} (hA : ∀ q ∈ A, Ent (z + 1) q) (hB : ∀ q ∈ B, Ent (z + 1) q) (sA : ∀ q ∈ A, q.sum + z ≤ m) (sB : ∀ q ∈ B, q.sum + z ≤ m) :
    leastL A = leastL B ↔ ∀ n ≤ m, hits A n (lotsN n z) = hits B n (lotsN n z) := by
  constructor
  · intro h n hn
    unfold hits
    refine List.filter_congr fun l hl => ?_
    have hg : (gapsZ (n : Int) l).length = z + 1 := by rw [gapsZ_len, (lotsN_mem hl).1]
    rw [← least_hit hA hg, ← least_hit hB hg, h]
  · intro h
    have hr : ∀ r : List Int, Ent (z + 1) r → r.sum + z ≤ m → hitB A r = hitB B r := fun r he hs => by
      have : ∃ gs : List Nat, r = gs.map fun (x : Nat) => (x : Int) := ⟨r.map Int.toNat, by
        rw [List.map_map]
        have : ∀ x ∈ r, ((fun (x : Nat) => (x : Int)) ∘ Int.toNat) x = x := fun x hx => by
          have := (he.2 x hx).1
          show ((x.toNat : Nat) : Int) = x
          omega
        rw [List.map_congr_left this, List.map_id']⟩
      obtain ⟨gs, rfl⟩ := this
      have hsum : ∀ gs : List Nat, (gs.map fun (x : Nat) => (x : Int)).sum = (gs.sum : Nat) := fun gs => by
        induction gs with
        | nil => rfl
        | cons g gs ih => rw [List.map_cons, List.sum_cons, ih, List.sum_cons]; omega
      rw [hsum] at hs
      obtain ⟨l, h1, h2⟩ := exists_lot z gs (by simpa using he.1)
      have := filter_iff (h (gs.sum + z) (by omega)) l h1
      rw [h2] at this
      exact this
    have side : ∀ (A B : List (List Int)), (∀ q ∈ A, Ent (z + 1) q) → (∀ q ∈ B, Ent (z + 1) q) → (∀ q ∈ A, q.sum + z ≤ m) → (∀ q ∈ B, q.sum + z ≤ m) → (∀ r : List Int, Ent (z + 1) r → r.sum + z ≤ m → hitB A r = hitB B r) → ∀ r ∈ leastL A, r ∈ leastL B := by
      intro A B hA hB sA sB hr r hrA
      obtain ⟨a1, a2⟩ := (least_mem hA).mp hrA
      have er := hA r a1
      have low : ∀ o ∈ B, belowL o r = true → o = r := fun o ho hb => by
        have eo := hB o ho
        have := (hr o eo (sB o ho)).trans (hitB_iff.mpr ⟨o, ho, belowL_refl o⟩)
        obtain ⟨q, hq, hqb⟩ := hitB_iff.mp this
        have eq := hA q hq
        have := a2 q hq (belowL_trans (by rw [eq.1, eo.1]) (by rw [eo.1, er.1]) hqb hb)
        subst this
        exact belowL_anti (by rw [eo.1, er.1]) hb hqb
      have := (hr r er (sA r a1)).symm.trans (hitB_iff.mpr ⟨r, a1, belowL_refl r⟩)
      obtain ⟨o, ho, hob⟩ := hitB_iff.mp this
      have := low o ho hob
      subst this
      exact (least_mem hB).mpr ⟨ho, low⟩
    exact up_ext (least_up hA) (least_up hB) fun r => ⟨side A B hA hB sA sB hr r, side B A hB hA sB sA (fun r e s => (hr r e s).symm) r⟩
end RS
end
section
set_option autoImplicit false
set_option linter.all false
set_option maxRecDepth 100000
set_option maxHeartbeats 4000000
/-! least rows, run -/
namespace RS
theorem rowIn_of {n : Nat} {k : List Int} (h : Ent n k) : rowIn n k = true := by
  unfold rowIn
  rw [h.1]
  simp
  exact fun x hx => h.2 x hx
theorem rowsIn_of' {z : Nat} : ∀ {Rw : List (List Int)}, (∀ q ∈ Rw, Ent (z + 1) q) → Rw.length ≤ 60 → rowsIn Rw = true
  | [], _, _ => rfl
  | k :: ks, h, hl => by
    have hk := h k List.mem_cons_self
    rw [List.length_cons] at hl
    unfold rowsIn
    rw [Bool.and_eq_true, decide_eq_true_eq]
    refine ⟨⟨by rw [hk.1]; omega, by omega⟩, List.all_eq_true.mpr fun q hq => ?_⟩
    rw [hk.1]; exact rowIn_of (h q hq)
theorem sortset_run {z : Nat} {Rw : List (List Int)} (h : ∀ q ∈ Rw, Ent (z + 1) q) (hl : Rw.length ≤ 60) : primF .sortedSet [rowsD Rw] = some (.fr (.lst ((sortK Rw).map tn))) := by
  show (rowsOf (Rw.map tn)).bind setF = _
  rw [rowsOf_map]
  show setF Rw = _
  unfold setF
  rw [if_pos (rowsIn_of' h hl)]
  rfl
theorem ins_len (k : List Int) : ∀ l : List (List Int), (insK k l).length ≤ l.length + 1
  | [] => by simp [insK]
  | y :: r => by
    rw [insK]
    split
    · simp
    · split
      · simp
      · have := ins_len k r; simp only [List.length_cons]; omega
theorem sort_len : ∀ l : List (List Int), (sortK l).length ≤ l.length
  | [] => by simp [sortK]
  | k :: ks => by
    rw [sortK]
    have := ins_len k (sortK ks); have := sort_len ks
    simp only [List.length_cons]; omega
abbrev q_least_so1 : S := (.asg 1 (.lst .nil))
abbrev q_least_so2_1 : S := (.ife (.cmp .eq (.prim .len (.cons (.comp [3] (.nm 3) (.itE (.var 1)) (.call "reaches_so" M.reaches_so (.cons (.var 3) (.cons (.var 2) .nil))) (.con (.int 1))) .nil)) (.con (.int 0))) (.seq (.app 1 (.var 2)) .skip) .skip)
abbrev q_least_so2B : S := (.seq q_least_so2_1 .skip)
abbrev q_least_so2 : S := (.for (.nm 2) (.itE (.prim .sortedSet (.cons (.var 0) .nil))) q_least_so2B)
abbrev q_least_so3 : S := (.ret (.prim .tuple (.cons (.var 1) .nil)))
abbrev q_least_soAll : S := (.seq q_least_so1 (.seq q_least_so2 (.seq q_least_so3 .skip)))
theorem q_least_so_eq : M.least_soS = q_least_soAll := rfl
abbrev lsStep : D → Env → OSt → Out := fun d ρ s => match bindTg (.nm 2) d ρ with
  | some ρ1 => exS q_least_so2B ρ1 s
  | none => .no
theorem ls_turn {X : D} {F : List (List Int)} {r : List Int} {x : Slot} {s : OSt} (hF : ∀ q ∈ F, q.length ≤ 1000) (hl : F.length < 1000) :
    lsStep (tn r) [.sh X, .ow (.lst (F.map tn)), x, .no] s = .nx [.sh X, .ow (.lst ((greedyF F r).map tn)), .sh (tn r), .no] s := by
  show exS q_least_so2B [.sh X, .ow (.lst (F.map tn)), .sh (tn r), .no] s = _
  have hi : evI (.itE (.var 1)) [.sh X, .ow (.lst (F.map tn)), .sh (tn r), .no] s = .ok (F.map tn, some 1) s := by
    simp [evI, ev, R.bind, lift, Slot.val]
  have e := ev_comp (vs := [3]) (tg := .nm 3) (cnd := .call "reaches_so" M.reaches_so (.cons (.var 3) (.cons (.var 2) .nil))) (elt := .con (.int 1)) hi rfl (oneIf fun o => belowL o r) (fun d hd => by
    obtain ⟨q, hq, rfl⟩ := List.mem_map.mp hd
    have rr := reaches_run (ys := r) (hF q hq)
    unfold oneIf
    rw [getL_tn]
    cases hb : belowL q r <;>
    simp [stepP, bindTg, wipeE, lentE, ev, evs, R.bind, lift, Slot.val, Rs.d, freeze, Rs.isBo, callR, rr, hb]) (by rw [List.length_map]; unfold LIM; omega)
  have e2 := len_zero e
  rw [any_dec] at e2
  have hG : (F.map tn).length < LIM := by rw [List.length_map]; unfold LIM; omega
  rw [exS, exS, e2]
  unfold greedyF hitB
  cases F.any fun o => belowL o r with
  | true => simp [withV, exS]
  | false => 
    have hG2 : F.length < LIM := by rwa [List.length_map] at hG
    simp [withV, exS, ev, evs, R.bind, lift, Slot.val, Rs.d, Rs.isBo, hG2]
theorem least_so_runX {z : Nat} {X : D} {Rw : List (List Int)} (ss : primF .sortedSet [X] = some (.fr (.lst ((sortK Rw).map tn)))) (h : ∀ q ∈ Rw, Ent (z + 1) q) (hl : Rw.length ≤ 60) (hz : z ≤ 100) (s : OSt) : M.least_so [X] s = .ok (.sh (rowsD (leastL Rw))) s := by
  have sm := (psort_mem Rw h).2
  have sl := sort_len Rw
  have loop := for_fold (σ := List (List Int) × Slot) (step := lsStep) tn (fun st => [.sh X, .ow (.lst (st.1.map tn)), st.2, .no]) (fun st r => (greedyF st.1 r, .sh (tn r))) (s := s)
    (fun k st => st.1.length ≤ k ∧ ∀ q ∈ st.1, q.length = z + 1) (sortK Rw) 0 ([], .no) ⟨Nat.le_refl _, by simp⟩ (fun i r st hr hI => by
      have hlt := (List.getElem?_eq_some_iff.mp hr).1
      have hm : r ∈ sortK Rw := List.mem_of_getElem? hr
      refine ⟨ls_turn (fun q hq => by rw [hI.2 q hq]; omega) (by have := hI.1; omega), ?_, ?_⟩
      · show (greedyF st.1 r).length ≤ _
        unfold greedyF
        split
        · have := hI.1; omega
        · have := hI.1; rw [List.length_append, List.length_singleton]; omega
      · intro q hq
        have hq : q ∈ greedyF st.1 r := hq
        unfold greedyF at hq
        split at hq
        · exact hI.2 q hq
        · rcases List.mem_append.mp hq with w | w
          · exact hI.2 q w
          · rw [List.mem_singleton.mp w]; exact (h r ((sm r).mp hm)).1)
  have fst : ∀ (L : List (List Int)) (st : List (List Int) × Slot), (L.foldl (fun st r => (greedyF st.1 r, Slot.sh (tn r))) st).1 = L.foldl greedyF st.1 := fun L => by
    induction L with
    | nil => intro st; rfl
    | cons r L ih => intro st; rw [List.foldl_cons, ih]; rfl
  have fst2 := fst (sortK Rw) ([], .no)
  rw [greedy_least h] at fst2
  have e := loop.1
  rw [fst2] at e
  generalize ((sortK Rw).foldl (fun st r => (greedyF st.1 r, Slot.sh (tn r))) (([] : List (List Int)), Slot.no)).2 = xx at e
  have hi : evI (.itE (.prim .sortedSet (.cons (.var 0) .nil))) [.sh X, .ow (.lst []), .no, .no] s = .ok ((sortK Rw).map tn, none) s := by
    simp [evI, ev, evs, R.bind, lift, Slot.val, Rs.d, ss, D.items]
  have e2 : exS q_least_so2 [.sh X, .ow (.lst []), .no, .no] s = .nx [.sh X, .ow (.lst ((leastL Rw).map tn)), xx, .no] s := by
    rw [exS, hi]; exact e
  have e0 : exS q_least_so1 [.sh X, .no, .no, .no] s = .nx [.sh X, .ow (.lst []), .no, .no] s := by
    simp [exS, ev, evs, R.bind, freeze, withV, outOf, assignAll, slotOf]
  show evFn 4 1 M.least_soS _ s = _
  unfold evFn
  rw [if_pos (show [X].length = 1 from rfl), show startE 4 [X] = [.sh X, .no, .no, .no] from rfl, q_least_so_eq, exS, e0]
  simp only []
  rw [exS, e2]
  simp [exS, ev, evs, R.bind, lift, Slot.val, Rs.d, primF, tupleF, withV, endR, rowsD]
theorem least_so_run {z : Nat} {Rw : List (List Int)} (h : ∀ q ∈ Rw, Ent (z + 1) q) (hl : Rw.length ≤ 60) (hz : z ≤ 100) (s : OSt) : M.least_so [rowsD Rw] s = .ok (.sh (rowsD (leastL Rw))) s := least_so_runX (sortset_run h hl) h hl hz s
theorem least_so_runL {z : Nat} {Rw : List (List Int)} (h : ∀ q ∈ Rw, Ent (z + 1) q) (hl : Rw.length ≤ 60) (hz : z ≤ 100) (s : OSt) : M.least_so [.lst (Rw.map tn)] s = .ok (.sh (rowsD (leastL Rw))) s := least_so_runX (X := .lst (Rw.map tn)) (show primF .sortedSet [.lst (Rw.map tn)] = _ from sortset_run h hl) h hl hz s
end RS
end
section
set_option autoImplicit false
set_option linter.all false
set_option maxRecDepth 100000
set_option maxHeartbeats 1000000
/-! RSFormA: numbers of sets told by first values and a sum that goes on. -/
namespace RS
/-- m over k, as it is found step by step -/
def ch (m : Int) : Nat → Int
  | 0 => 1
  | k + 1 => (ch m k * (m - k)).fdiv ((k : Int) + 1)
theorem ch1 (m : Int) : ch m 1 = m := by
  rw [ch, ch]
  show (1 * (m - 0)).fdiv (0 + 1) = m
  rw [Int.one_mul, Int.sub_zero, Int.zero_add, Int.fdiv_eq_ediv_of_nonneg _ (by decide), Int.ediv_one]
theorem fdiv_exact {x t k : Int} (hk : 0 < k) (h : x = k * t) : x.fdiv k = t := by
  rw [Int.fdiv_eq_ediv_of_nonneg _ (Int.le_of_lt hk), h, Int.mul_ediv_cancel_left _ (by omega)]
theorem even2 (m : Int) : ∃ t, m * (m - 1) = 2 * t := by
  rcases (by omega : m % 2 = 0 ∨ m % 2 = 1) with h | h
  · obtain ⟨q, rfl⟩ : ∃ q, m = 2 * q := ⟨m / 2, by omega⟩
    exact ⟨q * (2 * q - 1), by grind⟩
  · obtain ⟨q, rfl⟩ : ∃ q, m = 2 * q + 1 := ⟨m / 2, by omega⟩
    exact ⟨(2 * q + 1) * q, by grind⟩
theorem ch2 (m : Int) : 2 * ch m 2 = m * (m - 1) := by
  obtain ⟨t, h⟩ := even2 m
  have : ch m 2 = t := by
    rw [ch, ch1]
    exact fdiv_exact (by decide) h
  rw [this, h]
theorem three3 (m : Int) : ∃ t, m * (m - 1) * (m - 2) = 3 * t := by
  rcases (by omega : m % 3 = 0 ∨ m % 3 = 1 ∨ m % 3 = 2) with h | h | h
  · obtain ⟨q, rfl⟩ : ∃ q, m = 3 * q := ⟨m / 3, by omega⟩
    exact ⟨q * (3 * q - 1) * (3 * q - 2), by grind⟩
  · obtain ⟨q, rfl⟩ : ∃ q, m = 3 * q + 1 := ⟨m / 3, by omega⟩
    exact ⟨(3 * q + 1) * q * (3 * q - 1), by grind⟩
  · obtain ⟨q, rfl⟩ : ∃ q, m = 3 * q + 2 := ⟨m / 3, by omega⟩
    exact ⟨(3 * q + 2) * (3 * q + 1) * q, by grind⟩
theorem ch3 (m : Int) : 6 * ch m 3 = m * (m - 1) * (m - 2) := by
  obtain ⟨t, h⟩ := three3 m
  have h2 := ch2 m
  have e : 2 * (ch m 2 * (m - 2)) = 3 * t := by rw [← h, ← h2]; grind
  have : ch m 3 = ch m 2 * (m - 2) - t := by
    rw [ch]
    exact fdiv_exact (by decide) (by show ch m 2 * (m - 2) = 3 * _; omega)
  rw [this, h]; omega
/-- the sum that goes on -/
def Pn (a b c d m : Int) : Int := a + b * m + c * ch m 2 + d * ch m 3
theorem P6 (a b c d m : Int) : 6 * Pn a b c d m = 6 * a + 6 * b * m + 3 * c * (m * (m - 1)) + d * (m * (m - 1) * (m - 2)) := by
  unfold Pn
  rw [← ch3, ← ch2]; grind
theorem P_back (a b c d m : Int) : Pn a b c d m = 4 * Pn a b c d (m + 1) - 6 * Pn a b c d (m + 2) + 4 * Pn a b c d (m + 3) - Pn a b c d (m + 4) := by
  have h0 := P6 a b c d m
  have h1 := P6 a b c d (m + 1)
  have h2 := P6 a b c d (m + 2)
  have h3 := P6 a b c d (m + 3)
  have h4 := P6 a b c d (m + 4)
  grind
theorem P_0 (a b c d : Int) : Pn a b c d 0 = a := by have := P6 a b c d 0; grind
theorem P_1 (a b c d : Int) : Pn a b c d 1 = a + b := by have := P6 a b c d 1; grind
theorem P_2 (a b c d : Int) : Pn a b c d 2 = a + 2 * b + c := by have := P6 a b c d 2; grind
theorem P_3 (a b c d : Int) : Pn a b c d 3 = a + 3 * b + 3 * c + d := by have := P6 a b c d 3; grind
theorem P_add (a b c d e f g h m k : Int) : Pn (a + k * e) (b + k * f) (c + k * g) (d + k * h) m = Pn a b c d m + k * Pn e f g h m := by
  unfold Pn; grind
/-- the sum that goes on, by steps later -/
theorem P_shift (a b c d t m : Int) : ∀ p q r s : Int, p = Pn a b c d (0 - t) → q = Pn a b c d (1 - t) → r = Pn a b c d (2 - t) → s = Pn a b c d (3 - t) →
    Pn p (q - p) ((r - q) - (q - p)) (((s - r) - (r - q)) - ((r - q) - (q - p))) m = Pn a b c d (m - t) := by
  intro p q r s hp hq hr hs
  have h := P6 a b c d (m - t)
  have h0 := P6 a b c d (0 - t)
  have h1 := P6 a b c d (1 - t)
  have h2 := P6 a b c d (2 - t)
  have h3 := P6 a b c d (3 - t)
  have hm := P6 p (q - p) ((r - q) - (q - p)) (((s - r) - (r - q)) - ((r - q) - (q - p))) m
  rw [← hp] at h0; rw [← hq] at h1; rw [← hr] at h2; rw [← hs] at h3
  generalize Pn p (q - p) ((r - q) - (q - p)) (((s - r) - (r - q)) - ((r - q) - (q - p))) m = L at *
  generalize Pn a b c d (m - t) = R at *
  clear hp hq hr hs
  have e1 : 6 * (6 * L) = 6 * (6 * p) + 6 * (6 * q - 6 * p) * m + 3 * ((6 * r - 6 * q) - (6 * q - 6 * p)) * (m * (m - 1)) + (((6 * s - 6 * r) - (6 * r - 6 * q)) - ((6 * r - 6 * q) - (6 * q - 6 * p))) * (m * (m - 1) * (m - 2)) := by
    rw [hm]; clear hm h h0 h1 h2 h3; grind
  have e2 : 6 * (6 * L) = 6 * (6 * R) := by
    rw [e1, h0, h1, h2, h3, h]; clear e1 hm h h0 h1 h2 h3; grind
  omega
/-- what is told of the last places of it -/
theorem P_shift_top (a b c d t : Int) : ∀ p q r s : Int, p = Pn a b c d (0 - t) → q = Pn a b c d (1 - t) → r = Pn a b c d (2 - t) → s = Pn a b c d (3 - t) →
    (((s - r) - (r - q)) - ((r - q) - (q - p))) = d ∧ ((r - q) - (q - p)) = c - d * t ∧ (d = 0 → c = 0 → q - p = b) := by
  intro p q r s hp hq hr hs
  have h0 := P6 a b c d (0 - t)
  have h1 := P6 a b c d (1 - t)
  have h2 := P6 a b c d (2 - t)
  have h3 := P6 a b c d (3 - t)
  rw [← hp] at h0; rw [← hq] at h1; rw [← hr] at h2; rw [← hs] at h3
  clear hp hq hr hs
  refine ⟨by grind, by grind, fun e1 e2 => by subst e1 e2; grind⟩
theorem P_sum (a b c e m : Int) : Pn e a b c (m + 1) = Pn e a b c m + Pn a b c 0 m := by
  have h0 := P6 e a b c m
  have h1 := P6 e a b c (m + 1)
  have h2 := P6 a b c 0 m
  grind
theorem P_sub (a b c e m t : Int) : Pn (e - t) a b c m = Pn e a b c m - t := by unfold Pn; grind
end RS
end
section
set_option autoImplicit false
set_option linter.all false
set_option maxRecDepth 100000
set_option maxHeartbeats 1000000
/-! RSFormB: formulas, what they tell. -/
namespace RS
structure Fm where
  v : List Int
  a : Int
  b : Int
  c : Int
  d : Int
def Fm.P (f : Fm) (m : Int) : Int := Pn f.a f.b f.c f.d m
/-- the number told of n -/
def Fm.den (f : Fm) (n : Nat) : Int := if n < f.v.length then f.v.getD n 0 else f.P n
def downTo (p : Nat → Bool) : Nat → Nat
  | 0 => 0
  | n + 1 => if p n = true then downTo p n else n + 1
theorem downTo_le (p : Nat → Bool) : ∀ n, downTo p n ≤ n
  | 0 => Nat.le_refl _
  | n + 1 => by
    rw [downTo]; split
    · exact Nat.le_succ_of_le (downTo_le p n)
    · exact Nat.le_refl _
theorem downTo_above (p : Nat → Bool) : ∀ {n k : Nat}, downTo p n ≤ k → k < n → p k = true
  | n + 1, k, h, hk => by
    rw [downTo] at h
    split at h
    · rename_i e
      by_cases hkn : k = n
      · rw [hkn]; exact e
      · exact downTo_above p h (by omega)
    · omega
theorem downTo_stop (p : Nat → Bool) : ∀ {n k : Nat}, downTo p n = k + 1 → p k = false
  | 0, k, h => by cases h
  | n + 1, k, h => by
    rw [downTo] at h
    split at h
    · exact downTo_stop p h
    · rename_i e
      have : n = k := by omega
      subst this
      simpa using e
theorem downTo_congr {p q : Nat → Bool} : ∀ {n : Nat}, (∀ k, k < n → p k = q k) → downTo p n = downTo q n
  | 0, _ => rfl
  | n + 1, h => by
    rw [downTo, downTo, h n (by omega), downTo_congr fun k hk => h k (by omega)]
theorem downTo_skip {p : Nat → Bool} : ∀ {n m : Nat}, m ≤ n → (∀ k, m ≤ k → k < n → p k = true) → downTo p n = downTo p m
  | 0, m, h, _ => by rw [Nat.le_zero.mp h]
  | n + 1, m, h, hp => by
    by_cases e : m = n + 1
    · rw [e]
    · rw [downTo, if_pos (hp n (by omega) (by omega))]
      exact downTo_skip (by omega) fun k h1 h2 => hp k h1 (by omega)
def Fm.eqAt (f : Fm) (n : Nat) : Bool := decide (f.v.getD n 0 = f.P n)
def Fm.less (f : Fm) : Fm := { f with v := f.v.take (downTo f.eqAt f.v.length) }
/-- as few values as may be -/
def Fm.NF (f : Fm) : Prop := ∀ n, f.v.length = n + 1 → f.v.getD n 0 ≠ f.P n
theorem getD_take (l : List Int) (k n : Nat) (h : n < k) : (l.take k).getD n 0 = l.getD n 0 := by
  rw [List.getD_eq_getElem?_getD, List.getD_eq_getElem?_getD, List.getElem?_take, if_pos h]
theorem Fm.less_len (f : Fm) : f.less.v.length = downTo f.eqAt f.v.length := by
  have := downTo_le f.eqAt f.v.length
  show (f.v.take _).length = _
  rw [List.length_take]; omega
theorem Fm.less_le (f : Fm) : f.less.v.length ≤ f.v.length := by rw [f.less_len]; exact downTo_le _ _
theorem Fm.less_nf (f : Fm) : f.less.NF := fun n h => by
  rw [f.less_len] at h
  have := downTo_stop f.eqAt h
  have e : f.less.v.getD n 0 = f.v.getD n 0 := getD_take _ _ _ (by omega)
  rw [e]
  unfold Fm.eqAt at this
  exact of_decide_eq_false this
theorem Fm.den_less (f : Fm) (n : Nat) : f.less.den n = f.den n := by
  unfold Fm.den
  rw [f.less_len]
  have hle := downTo_le f.eqAt f.v.length
  by_cases h1 : n < downTo f.eqAt f.v.length
  · rw [if_pos h1, if_pos (by omega)]
    exact getD_take _ _ _ h1
  · rw [if_neg h1]
    by_cases h2 : n < f.v.length
    · rw [if_pos h2]
      have := downTo_above f.eqAt (by omega : downTo f.eqAt f.v.length ≤ n) h2
      unfold Fm.eqAt at this
      rw [of_decide_eq_true this]; rfl
    · rw [if_neg h2]; rfl
theorem Fm.NF.less {f : Fm} (h : f.NF) : f.less = f := by
  have : downTo f.eqAt f.v.length = f.v.length := by
    have hle := downTo_le f.eqAt f.v.length
    match hn : f.v.length with
    | 0 => rfl
    | n + 1 =>
      have := h n hn
      rw [downTo]
      unfold Fm.eqAt at *
      rw [if_neg (by simpa using this)]
  unfold Fm.less
  rw [this, List.take_length]
/-! ### sums -/
def Fm.plus (f g : Fm) (k : Int) : Fm := { v := (List.range (max f.v.length g.v.length)).map fun n => f.den n + k * g.den n, a := f.a + k * g.a, b := f.b + k * g.b, c := f.c + k * g.c, d := f.d + k * g.d }
theorem getD_map_range (F : Nat → Int) (N n : Nat) (h : n < N) : ((List.range N).map F).getD n 0 = F n := by
  rw [List.getD_eq_getElem?_getD, List.getElem?_map, List.getElem?_range h]; rfl
theorem Fm.den_plus (f g : Fm) (k : Int) (n : Nat) : (f.plus g k).den n = f.den n + k * g.den n := by
  have hl : (f.plus g k).v.length = max f.v.length g.v.length := by simp [Fm.plus]
  rw [Fm.den, hl]
  by_cases h : n < max f.v.length g.v.length
  · rw [if_pos h]
    exact getD_map_range _ _ _ h
  · rw [if_neg h]
    unfold Fm.den
    rw [if_neg (by omega), if_neg (by omega)]
    exact P_add _ _ _ _ _ _ _ _ _ _
/-! ### later by so many -/
def Fm.later (f : Fm) (t : Nat) : Fm :=
  let p := f.P (0 - t); let q := f.P (1 - t); let r := f.P (2 - t); let s := f.P (3 - t)
  { v := List.replicate t 0 ++ f.v, a := p, b := q - p, c := (r - q) - (q - p), d := ((s - r) - (r - q)) - ((r - q) - (q - p)) }
theorem Fm.P_later (f : Fm) (t : Nat) (m : Int) : (f.later t).P m = f.P (m - t) := P_shift f.a f.b f.c f.d t m _ _ _ _ rfl rfl rfl rfl
theorem Fm.den_later (f : Fm) (t n : Nat) : (f.later t).den n = if n < t then 0 else f.den (n - t) := by
  have hl : (f.later t).v.length = t + f.v.length := by simp [Fm.later]
  rw [Fm.den, hl]
  by_cases h1 : n < t
  · rw [if_pos (by omega), if_pos h1]
    show (List.replicate t 0 ++ f.v).getD n 0 = 0
    rw [List.getD_eq_getElem?_getD, List.getElem?_append_left (by simpa using h1), List.getElem?_replicate, if_pos h1]; rfl
  · rw [if_neg h1]
    unfold Fm.den
    by_cases h2 : n < t + f.v.length
    · rw [if_pos h2, if_pos (by omega)]
      show (List.replicate t 0 ++ f.v).getD n 0 = _
      rw [List.getD_eq_getElem?_getD, List.getElem?_append_right (by simp; omega), List.length_replicate, List.getD_eq_getElem?_getD]
    · rw [if_neg h2, if_neg (by omega), f.P_later]
      congr 1
      omega
theorem Fm.later_top (f : Fm) (t : Nat) : (f.later t).d = f.d ∧ (f.later t).c = f.c - f.d * t ∧ (f.d = 0 → f.c = 0 → (f.later t).b = f.b) := P_shift_top f.a f.b f.c f.d t _ _ _ _ rfl rfl rfl rfl
theorem Fm.later_flat (f : Fm) (t : Nat) (h1 : f.b = 0) (h2 : f.c = 0) (h3 : f.d = 0) : (f.later t).a = f.a := by
  show Pn f.a f.b f.c f.d (0 - t) = f.a
  rw [h1, h2, h3]; unfold Pn; simp
/-! ### sums so far -/
def prefs : Int → List Int → List Int
  | _, [] => []
  | s, x :: l => s :: prefs (s + x) l
def sumL (l : List Int) : Int := l.foldl (· + ·) 0
theorem prefs_len : ∀ (s : Int) (l : List Int), (prefs s l).length = l.length
  | _, [] => rfl
  | s, x :: l => by rw [prefs, List.length_cons, prefs_len, List.length_cons]
def isum (F : Nat → Int) : Nat → Int
  | 0 => 0
  | n + 1 => isum F n + F n
theorem isum_congr {F G : Nat → Int} : ∀ n, (∀ k, k < n → F k = G k) → isum F n = isum G n
  | 0, _ => rfl
  | n + 1, h => by rw [isum, isum, isum_congr n fun k hk => h k (by omega), h n (by omega)]
theorem isum_head (F : Nat → Int) : ∀ n, isum F (n + 1) = F 0 + isum (fun k => F (k + 1)) n
  | 0 => by simp [isum]
  | n + 1 => by rw [isum, isum_head F n, isum]; omega
theorem prefs_get : ∀ (l : List Int) (s : Int) (n : Nat), n < l.length → (prefs s l).getD n 0 = s + isum (fun k => l.getD k 0) n
  | [], _, _, h => by cases h
  | x :: l, s, 0, _ => by simp [prefs, isum]
  | x :: l, s, n + 1, h => by
    have := prefs_get l (s + x) n (by simpa using h)
    rw [prefs, List.getD_cons_succ, this, isum_head]
    simp only [List.getD_cons_zero, List.getD_cons_succ]
    omega
def Fm.total (f : Fm) : Int := isum (fun k => f.v.getD k 0) f.v.length
def Fm.sums (f : Fm) : Fm := { v := prefs 0 f.v, a := f.total - Pn 0 f.a f.b f.c f.v.length, b := f.a, c := f.b, d := f.c }
theorem Fm.den_sums (f : Fm) (hd : f.d = 0) (n : Nat) : f.sums.den n = isum f.den n := by
  have hl : f.sums.v.length = f.v.length := prefs_len _ _
  by_cases h : n < f.v.length
  · rw [Fm.den, hl, if_pos h]
    show (prefs 0 f.v).getD n 0 = _
    rw [prefs_get f.v 0 n h, Int.zero_add]
    refine isum_congr n fun k hk => ?_
    unfold Fm.den
    rw [if_pos (by omega)]
  · rw [Fm.den, hl, if_neg h]
    obtain ⟨j, rfl⟩ : ∃ j, n = f.v.length + j := ⟨n - f.v.length, by omega⟩
    clear h
    have hP : ∀ m : Int, f.sums.P m = Pn 0 f.a f.b f.c m + (f.total - Pn 0 f.a f.b f.c f.v.length) := fun m => by
      unfold Fm.P Fm.sums Pn; grind
    induction j with
    | zero =>
      rw [Nat.add_zero, hP]
      have : isum f.den f.v.length = f.total := isum_congr _ fun k hk => by unfold Fm.den; rw [if_pos hk]
      rw [this]; omega
    | succ j ih =>
      rw [← Nat.add_assoc, isum, ← ih, hP, hP]
      have e := P_sum f.a f.b f.c 0 ((f.v.length + j : Nat) : Int)
      have hd2 : f.den (f.v.length + j) = Pn f.a f.b f.c 0 ((f.v.length + j : Nat) : Int) := by
        unfold Fm.den Fm.P; rw [if_neg (by omega), hd]
      rw [hd2]
      have c1 : (((f.v.length + j) + 1 : Nat) : Int) = ((f.v.length + j : Nat) : Int) + 1 := by omega
      rw [c1, e]; omega
/-! ### bounds -/
structure Fm.Bd (f : Fm) (B : Nat) : Prop where
  v : ∀ x ∈ f.v, x.natAbs ≤ B
  a : f.a.natAbs ≤ B
  b : f.b.natAbs ≤ B
  c : f.c.natAbs ≤ B
  d : f.d.natAbs ≤ B
theorem natAbs_add (x y : Int) : (x + y).natAbs ≤ x.natAbs + y.natAbs := Int.natAbs_add_le x y
theorem ch_bd {m : Int} {M : Nat} (h : m.natAbs ≤ M) (h1 : 1 ≤ M) : (ch m 2).natAbs ≤ M * M ∧ (ch m 3).natAbs ≤ M * M * M := by
  have e2 : 2 * (ch m 2).natAbs = m.natAbs * (m - 1).natAbs := by
    have := congrArg Int.natAbs (ch2 m)
    rwa [Int.natAbs_mul, Int.natAbs_mul] at this
  have e3 : 6 * (ch m 3).natAbs = m.natAbs * (m - 1).natAbs * (m - 2).natAbs := by
    have := congrArg Int.natAbs (ch3 m)
    rwa [Int.natAbs_mul, Int.natAbs_mul, Int.natAbs_mul] at this
  have b1 : (m - 1).natAbs ≤ 2 * M := by omega
  have b2 : (m - 2).natAbs ≤ 3 * M := by omega
  have p1 : m.natAbs * (m - 1).natAbs ≤ M * (2 * M) := Nat.mul_le_mul h b1
  have p2 : m.natAbs * (m - 1).natAbs * (m - 2).natAbs ≤ M * (2 * M) * (3 * M) := Nat.mul_le_mul p1 b2
  have q1 : M * (2 * M) = 2 * (M * M) := by grind
  have q2 : M * (2 * M) * (3 * M) = 6 * (M * M * M) := by grind
  omega
theorem Pn_bd {a b c d m : Int} {B M : Nat} (ha : a.natAbs ≤ B) (hb : b.natAbs ≤ B) (hc : c.natAbs ≤ B) (hd : d.natAbs ≤ B) (h : m.natAbs ≤ M) (h1 : 1 ≤ M) : (Pn a b c d m).natAbs ≤ 4 * (B * (M * M * M)) := by
  obtain ⟨c2, c3⟩ := ch_bd h h1
  have m1 : (b * m).natAbs ≤ B * M := by rw [Int.natAbs_mul]; exact Nat.mul_le_mul hb h
  have m2 : (c * ch m 2).natAbs ≤ B * (M * M) := by rw [Int.natAbs_mul]; exact Nat.mul_le_mul hc c2
  have m3 : (d * ch m 3).natAbs ≤ B * (M * M * M) := by rw [Int.natAbs_mul]; exact Nat.mul_le_mul hd c3
  have w1 : 1 ≤ M * M := Nat.mul_le_mul h1 h1
  have w2 : M * M ≤ M * M * M := Nat.le_mul_of_pos_right _ h1
  have w3 : M ≤ M * M := Nat.le_mul_of_pos_right _ h1
  have z0 : B ≤ B * (M * M * M) := Nat.le_mul_of_pos_right _ (by omega)
  have z1 : B * M ≤ B * (M * M * M) := Nat.mul_le_mul_left _ (by omega)
  have z2 : B * (M * M) ≤ B * (M * M * M) := Nat.mul_le_mul_left _ w2
  unfold Pn
  have s1 := natAbs_add (a + b * m + c * ch m 2) (d * ch m 3)
  have s2 := natAbs_add (a + b * m) (c * ch m 2)
  have s3 := natAbs_add a (b * m)
  omega
theorem getD_bd {l : List Int} {B : Nat} (h : ∀ x ∈ l, x.natAbs ≤ B) (n : Nat) : (l.getD n 0).natAbs ≤ B := by
  rw [List.getD_eq_getElem?_getD]
  cases e : l[n]? with
  | none => simp
  | some x => exact h x (List.mem_of_getElem? e)
theorem Fm.den_bd {f : Fm} {B : Nat} (h : f.Bd B) {n M : Nat} (hn : n ≤ M) (h1 : 1 ≤ M) : (f.den n).natAbs ≤ 4 * (B * (M * M * M)) := by
  unfold Fm.den
  split
  · have := getD_bd h.v n
    have w : 1 ≤ M * M * M := Nat.mul_le_mul (Nat.mul_le_mul h1 h1) h1
    have z0 : B ≤ B * (M * M * M) := Nat.le_mul_of_pos_right _ (by omega)
    omega
  · exact Pn_bd h.a h.b h.c h.d (by omega) h1
theorem Fm.Bd.mono {f : Fm} {B C : Nat} (h : f.Bd B) (hc : B ≤ C) : f.Bd C := ⟨fun x hx => Nat.le_trans (h.v x hx) hc, Nat.le_trans h.a hc, Nat.le_trans h.b hc, Nat.le_trans h.c hc, Nat.le_trans h.d hc⟩
theorem Fm.Bd.less {f : Fm} {B : Nat} (h : f.Bd B) : f.less.Bd B := ⟨fun x hx => h.v x (List.mem_of_mem_take hx), h.a, h.b, h.c, h.d⟩
theorem Fm.Bd.plus {f g : Fm} {B C : Nat} (h : f.Bd B) (h2 : g.Bd C) {k : Int} (hk : k = 1 ∨ k = -1) (l1 : f.v.length ≤ 64) (l2 : g.v.length ≤ 64) : (f.plus g k).Bd (1048576 * (B + C)) := by
  have km : ∀ x : Int, (k * x).natAbs = x.natAbs := fun x => by rcases hk with rfl | rfl <;> simp
  have ad : ∀ {x y : Int}, x.natAbs ≤ B → y.natAbs ≤ C → (x + k * y).natAbs ≤ 1048576 * (B + C) := fun {x y} p q => by
    have := natAbs_add x (k * y); rw [km] at this; omega
  refine ⟨fun x hx => ?_, ad h.a h2.a, ad h.b h2.b, ad h.c h2.c, ad h.d h2.d⟩
  obtain ⟨n, hn, rfl⟩ := List.mem_map.mp hx
  have hn := List.mem_range.mp hn
  have p := Fm.den_bd h (n := n) (M := 64) (by omega) (by omega)
  have q := Fm.den_bd h2 (n := n) (M := 64) (by omega) (by omega)
  have := natAbs_add (f.den n) (k * g.den n); rw [km] at this
  omega
theorem Fm.Bd.later {f : Fm} {B : Nat} (h : f.Bd B) {t : Nat} (ht : t ≤ 13) : (f.later t).Bd (131072 * B) := by
  have p := Pn_bd (m := 0 - t) (M := 13) h.a h.b h.c h.d (by omega) (by omega)
  have q := Pn_bd (m := 1 - t) (M := 13) h.a h.b h.c h.d (by omega) (by omega)
  have r := Pn_bd (m := 2 - t) (M := 13) h.a h.b h.c h.d (by omega) (by omega)
  have s := Pn_bd (m := 3 - t) (M := 13) h.a h.b h.c h.d (by omega) (by omega)
  refine ⟨fun x hx => ?_, ?_, ?_, ?_, ?_⟩
  · rcases List.mem_append.mp hx with w | w
    · rw [(List.mem_replicate.mp w).2]; simp
    · have := h.v x w; omega
  all_goals
    unfold Fm.later Fm.P
    dsimp only
    generalize Pn f.a f.b f.c f.d (0 - t) = p at *
    generalize Pn f.a f.b f.c f.d (1 - t) = q at *
    generalize Pn f.a f.b f.c f.d (2 - t) = r at *
    generalize Pn f.a f.b f.c f.d (3 - t) = s at *
    omega
theorem isum_bd {F : Nat → Int} {B : Nat} (h : ∀ k, (F k).natAbs ≤ B) : ∀ n, (isum F n).natAbs ≤ n * B
  | 0 => by simp [isum]
  | n + 1 => by
    have := isum_bd h n
    have := natAbs_add (isum F n) (F n)
    have := h n
    rw [isum, Nat.add_mul]; omega
theorem Fm.Bd.sums {f : Fm} {B : Nat} (h : f.Bd B) (hl : f.v.length ≤ 64) : f.sums.Bd (2097152 * B) := by
  have tb : ∀ n, (isum (fun k => f.v.getD k 0) n).natAbs ≤ n * B := isum_bd fun k => getD_bd h.v k
  refine ⟨fun x hx => ?_, ?_, ?_, ?_, ?_⟩
  · obtain ⟨n, hn, rfl⟩ := List.mem_iff_getElem.mp hx
    have hn2 : n < f.v.length := by
      have e : f.sums.v.length = f.v.length := prefs_len _ _
      omega
    have e := prefs_get f.v 0 n hn2
    have hn' : n < (prefs 0 f.v).length := hn
    rw [List.getD_eq_getElem?_getD, List.getElem?_eq_getElem hn', Option.getD_some, Int.zero_add] at e
    have := tb n
    have w : n * B ≤ 64 * B := Nat.mul_le_mul_right _ (by omega)
    show ((prefs 0 f.v)[n]).natAbs ≤ _
    rw [e]; omega
  · have p := Pn_bd (a := 0) (m := (f.v.length : Int)) (M := 64) (B := B) (by simp) h.a h.b h.c (by omega) (by omega)
    have := tb f.v.length
    have w : f.v.length * B ≤ 64 * B := Nat.mul_le_mul_right _ hl
    show (f.total - Pn 0 f.a f.b f.c f.v.length).natAbs ≤ _
    unfold Fm.total
    omega
  · have := h.a; show f.a.natAbs ≤ _; omega
  · have := h.b; show f.b.natAbs ≤ _; omega
  · have := h.c; show f.c.natAbs ≤ _; omega
end RS
end
section
set_option autoImplicit false
set_option linter.all false
set_option maxRecDepth 100000
set_option maxHeartbeats 4000000
/-! T_FormC: sums that go on, run. -/
namespace RS
def HUGE : Nat := 2 ^ 1000
theorem fitsB {i : Int} (h : i.natAbs < HUGE) : fitsI i = true := by
  unfold fitsI BIG
  rw [decide_eq_true_eq]
  exact Nat.lt_trans h (Nat.pow_lt_pow_right (by decide) (by decide))
theorem huge_big {n : Nat} (h : n < 2 ^ 60) : n < HUGE := Nat.lt_of_lt_of_le h (Nat.pow_le_pow_right (by decide) (by decide))
/-- numbers with which the steps stay small -/
structure Sm (B U : Nat) : Prop where
  b1 : 1 ≤ B
  m1 : 1 ≤ U
  lt : 4 * (B * (U * U * U)) < HUGE
theorem Sm.b {B U : Nat} (h : Sm B U) : B < HUGE ∧ U < HUGE ∧ U * U < HUGE ∧ U * U * U < HUGE ∧ 4 * B < HUGE := by
  obtain ⟨b1, m1, lt⟩ := h
  have w1 : 1 ≤ U * U := Nat.mul_le_mul m1 m1
  have w2 : U * U ≤ U * U * U := Nat.le_mul_of_pos_right _ m1
  have w3 : U ≤ U * U := Nat.le_mul_of_pos_right _ m1
  have z0 : B ≤ B * (U * U * U) := Nat.le_mul_of_pos_right _ (by omega)
  have z1 : U * U * U ≤ B * (U * U * U) := Nat.le_mul_of_pos_left _ b1
  omega
theorem ch_small {m : Int} {U k : Nat} (h : m.natAbs ≤ U) (m1 : 1 ≤ U) (hk : k ≤ 3) : (ch m k).natAbs ≤ U * U * U := by
  obtain ⟨c2, c3⟩ := ch_bd h m1
  have w1 : 1 ≤ U * U := Nat.mul_le_mul m1 m1
  have w2 : U * U ≤ U * U * U := Nat.le_mul_of_pos_right _ m1
  have w3 : U ≤ U * U := Nat.le_mul_of_pos_right _ m1
  have hk' : k = 0 ∨ k = 1 ∨ k = 2 ∨ k = 3 := by omega
  rcases hk' with rfl | rfl | rfl | rfl
  · show (1 : Int).natAbs ≤ _; simp; omega
  · rw [ch1]; omega
  · omega
  · exact c3
abbrev q_sets_over1 : S := (.asgS 2 (.con (.int 1)))
abbrev q_sets_over2_1 : S := (.asgS 2 (.bin .fdiv (.bin .mul (.var 2) (.bin .sub (.var 0) (.var 3))) (.bin .add (.var 3) (.con (.int 1)))))
abbrev q_sets_over2B : S := (.seq q_sets_over2_1 .skip)
abbrev q_sets_over2 : S := (.for (.nm 3) (.itRange (.cons (.var 1) .nil)) q_sets_over2B)
abbrev q_sets_over3 : S := (.ret (.var 2))
abbrev q_sets_overAll : S := (.seq q_sets_over1 (.seq q_sets_over2 (.seq q_sets_over3 .skip)))
theorem q_sets_over_eq : M.sets_overS = q_sets_overAll := rfl
theorem sets_over_run {m : Int} {k U : Nat} (h : m.natAbs ≤ U) (m1 : 1 ≤ U) (hM : U * U * U < HUGE) (hk : k ≤ 3) (s : OSt) : M.sets_over [.int m, .int k] s = .ok (.sh (.int (ch m k))) s := by
  have w1 : 1 ≤ U * U := Nat.mul_le_mul m1 m1
  have w2 : U * U ≤ U * U * U := Nat.le_mul_of_pos_right _ m1
  have w3 : U ≤ U * U := Nat.le_mul_of_pos_right _ m1
  have loop := forL_run (step := fun d ρ s => match bindTg (.nm 3) d ρ with | some ρ1 => exS q_sets_over2B ρ1 s | none => .no) (s := s) (fun j ρ => ∃ x3, ρ = [.sh (.int m), .sh (.int k), .sh (.int (ch m j)), x3]) (fromInts 0 k) 0 [.sh (.int m), .sh (.int k), .sh (.int 1), .no] ⟨.no, rfl⟩ (fun i d ρ hd hI => by
    obtain ⟨x3, rfl⟩ := hI
    obtain ⟨hi, hd2⟩ := List.getElem?_eq_some_iff.mp hd
    have hi2 : i < k := by simpa [fromInts] using hi
    have hd3 : d = .int (i : Nat) := by rw [← hd2]; simp [fromInts]
    subst hd3
    have f1 : fitsI (ch m i) = true := fitsB (Nat.lt_of_le_of_lt (ch_small h m1 (by omega)) hM)
    have f2 : fitsI (m - i) = true := fitsB (by
      have : (m - i).natAbs ≤ U + 3 := by omega
      by_cases hM2 : U < 2 ^ 50
      · exact huge_big (by omega)
      · have : 2 * U ≤ U * U := Nat.mul_le_mul_right _ (by omega)
        omega)
    have f3 : fitsI ((i : Int) + 1) = true := fitsB (huge_big (by omega))
    have nz : ¬ ((i : Int) + 1 = 0) := by omega
    refine ⟨_, ?_, .sh (.int (i : Nat)), rfl⟩
    rw [Nat.zero_add]
    simp [bindTg, exS, ev, R.bind, lift, Slot.val, Rs.d, Rs.isBo, binF, f1, f2, f3, nz, withV, outOf, assignAll, slotOf, ch])
  obtain ⟨ρ', e, x3, rfl⟩ := loop
  have hlen : (fromInts 0 k).length = k := by simp [fromInts]
  rw [hlen, Nat.zero_add] at e
  have hi : evI (.itRange (.cons (.var 1) .nil)) [.sh (.int m), .sh (.int k), .sh (.int 1), .no] s = .ok (fromInts 0 k, none) s := by
    have b2 := rangeF_one (a := (k : Int)) (by omega)
    rw [Int.toNat_natCast] at b2
    exact evI_range (rs := [.sh (.int k)]) (by simp [ev, evs, R.bind, lift, Slot.val]) b2
  have e2 : exS q_sets_over2 [.sh (.int m), .sh (.int k), .sh (.int 1), .no] s = .nx [.sh (.int m), .sh (.int k), .sh (.int (ch m k)), x3] s := by
    rw [exS, hi]; exact e
  show evFn 4 2 M.sets_overS _ s = _
  unfold evFn
  rw [if_pos (show [D.int m, D.int k].length = 2 from rfl), show startE 4 [D.int m, D.int k] = [.sh (.int m), .sh (.int k), .no, .no] from rfl, q_sets_over_eq, exS, show exS q_sets_over1 [.sh (.int m), .sh (.int k), .no, .no] s = .nx [.sh (.int m), .sh (.int k), .sh (.int 1), .no] s by simp [exS, ev, withV, outOf, assignAll, slotOf, Rs.isBo, Rs.d]]
  simp only []
  rw [exS, e2]
  simp [exS, ev, lift, Slot.val, withV, endR]
/-- a row of ints, as tuple or list -/
def Seq (X : D) (l : List Int) : Prop := X = tn l ∨ X = .lst (l.map D.int)
theorem Seq.items {X : D} {l : List Int} (h : Seq X l) : X.items = some (l.map D.int) := by rcases h with rfl | rfl <;> rfl
theorem Seq.len {X : D} {l : List Int} (h : Seq X l) : primF .len [X] = some (.sh (.int l.length)) := by rcases h with rfl | rfl <;> simp [primF, lenF, tn]
theorem Seq.idx {X : D} {l : List Int} (h : Seq X l) {n : Nat} (hn : n < l.length) : idxF X (.int n) = some (.int (l.getD n 0)) := by
  have e : (l.map D.int)[n]? = some (.int (l.getD n 0)) := by rw [List.getElem?_map, List.getD_eq_getElem?_getD, List.getElem?_eq_getElem hn]; rfl
  rcases h with rfl | rfl
  · unfold tn idxF; dsimp only; rw [List.length_map, ixOf_nat hn]; exact e
  · unfold idxF; dsimp only; rw [List.length_map, ixOf_nat hn]; exact e
theorem cut_take {l : List Int} {n : Nat} : cut (l.map D.int) none (some (n : Int)) = (l.take n).map D.int := by
  unfold cut endOf
  dsimp only
  rw [if_neg (by omega), List.drop_zero, Nat.sub_zero, ← List.map_take]
  congr 1
  rw [Int.toNat_natCast, List.length_map]
  by_cases hk : n ≤ l.length
  · rw [Nat.min_eq_left hk]
  · rw [Nat.min_eq_right (by omega), List.take_of_length_le (by omega), List.take_of_length_le (by omega)]
theorem Seq.take {X : D} {l : List Int} (h : Seq X l) (n : Nat) : ∃ r, slcF X none (some (n : Int)) = some r ∧ primF .tuple [r.d] = some (.sh (tn (l.take n))) ∧ Seq r.d (l.take n) ∧ r.isBo = false := by
  rcases h with rfl | rfl
  · exact ⟨.sh (tn (l.take n)), by unfold slcF tn; dsimp only; rw [cut_take], rfl, Or.inl rfl, rfl⟩
  · exact ⟨.fr (.lst ((l.take n).map D.int)), by unfold slcF; dsimp only; rw [cut_take], rfl, Or.inr rfl, rfl⟩
theorem Seq.tup {X : D} {l : List Int} (h : Seq X l) : primF .tuple [X] = some (.sh (tn l)) := by rcases h with rfl | rfl <;> rfl
theorem Seq.list {X : D} {l : List Int} (h : Seq X l) : primF .list [X] = some (.fr (.lst (l.map D.int))) := by rcases h with rfl | rfl <;> rfl
theorem sum_ints (l : List Int) : primF .sum [.lst (l.map D.int)] = some (.sh (.int l.sum)) := by
  show seqInts _ [.lst (l.map D.int)] = _
  unfold seqInts
  dsimp only
  rw [intsOf_map]; rfl
theorem sum_at_run {X : D} {a b c d m : Int} {B U : Nat} (hX : Seq X [a, b, c, d]) (sm : Sm B U) (ha : a.natAbs ≤ B) (hb : b.natAbs ≤ B) (hc : c.natAbs ≤ B) (hd : d.natAbs ≤ B) (hm : m.natAbs ≤ U) (s : OSt) :
    M.sum_at [X, .int m] s = .ok (.sh (.int (Pn a b c d m))) s := by
  obtain ⟨s1, s2, s3, s4, s5⟩ := sm.b
  have so : ∀ k : Nat, k ≤ 3 → M.sets_over [.int m, .int (k : Nat)] s = .ok (.sh (.int (ch m k))) s := fun k hk => sets_over_run hm sm.m1 s4 hk s
  have fc : ∀ k : Nat, k ≤ 3 → fitsI (ch m k) = true := fun k hk => fitsB (Nat.lt_of_le_of_lt (ch_small hm sm.m1 hk) s4)
  have hi : evI (.itEnum (.var 0)) [.sh X, .sh (.int m), .no, .no] s = .ok ([.tup [.int (0 : Nat), .int a], .tup [.int (1 : Nat), .int b], .tup [.int (2 : Nat), .int c], .tup [.int (3 : Nat), .int d]], none) s := by
    have e0 : ∀ l : List D, l = [.int a, .int b, .int c, .int d] → (lift ((some l).map fun l => (enumD 0 l, (none : Option Nat))) s) = .ok ([.tup [.int (0 : Nat), .int a], .tup [.int (1 : Nat), .int b], .tup [.int (2 : Nat), .int c], .tup [.int (3 : Nat), .int d]], none) s := fun l hl => by subst hl; rfl
    have := e0 ([a, b, c, d].map D.int) rfl
    rw [← hX.items] at this
    simpa [evI, ev, R.bind, lift, Slot.val, Rs.isBo, Rs.d] using this
  have st : ∀ (k : Nat) (x : Int), k ≤ 3 → x.natAbs ≤ B → stepP (wipeE (lentE none [.sh X, .sh (.int m), .no, .no]) [2, 3]) (.tup (.cons (.nm 2) (.cons (.nm 3) .nil))) .omit (.bin .mul (.var 3) (.call "sets_over" M.sets_over (.cons (.var 1) (.cons (.var 2) .nil)))) (.tup [.int (k : Nat), .int x]) s = .ok (some (.int (x * ch m k))) s := fun k x hk hx => by
    have fx : fitsI x = true := fitsB (Nat.lt_of_le_of_lt hx s1)
    simp [stepP, bindTg, bindTgs, wipeE, lentE, ev, evs, R.bind, lift, Slot.val, Rs.d, Rs.isBo, callR, freeze, so k hk, binF, fx, fc k hk]
  have e := ev_comp (vs := [2, 3]) (tg := .tup (.cons (.nm 2) (.cons (.nm 3) .nil))) (cnd := .omit) (elt := .bin .mul (.var 3) (.call "sets_over" M.sets_over (.cons (.var 1) (.cons (.var 2) .nil)))) hi rfl (fun d => match d with | .tup [.int k, .int x] => some (.int (x * ch m k.toNat)) | _ => none) (fun dd hdd => by
    simp only [List.mem_cons, List.not_mem_nil, or_false] at hdd
    rcases hdd with rfl | rfl | rfl | rfl
    · exact st 0 a (by decide) ha
    · exact st 1 b (by decide) hb
    · exact st 2 c (by decide) hc
    · exact st 3 d (by decide) hd) (by simp [LIM])
  have e2 := sum_ints [a * ch m 0, b * ch m 1, c * ch m 2, d * ch m 3]
  have e3 : [a * ch m 0, b * ch m 1, c * ch m 2, d * ch m 3].sum = Pn a b c d m := by
    unfold Pn
    simp only [List.sum_cons, List.sum_nil]
    rw [show ch m 0 = 1 from rfl, ch1]; omega
  rw [e3] at e2
  show evFn 4 2 M.sum_atS _ s = _
  unfold evFn M.sum_atS
  rw [if_pos (show [X, D.int m].length = 2 from rfl), show startE 4 [X, D.int m] = [.sh X, .sh (.int m), .no, .no] from rfl, exS, exS, ev, evs, e, bind_mk, evs, bind_mk, bind_mk]
  show endR _ = _
  have e4 : (List.map Rs.d [Rs.fr (.lst (List.filterMap (fun d => match d with | .tup [.int k, .int x] => some (D.int (x * ch m k.toNat)) | _ => none) [D.tup [.int (0 : Nat), .int a], .tup [.int (1 : Nat), .int b], .tup [.int (2 : Nat), .int c], .tup [.int (3 : Nat), .int d]]))]) = [.lst ([a * ch m 0, b * ch m 1, c * ch m 2, d * ch m 3].map D.int)] := rfl
  rw [e4, e2]
  rfl
end RS
end
section
set_option autoImplicit false
set_option linter.all false
set_option maxRecDepth 100000
set_option maxHeartbeats 4000000
/-! T_FormD: formulas, run. -/
namespace RS
def fmD (f : Fm) : D := .tup [tn f.v, tn [f.a, f.b, f.c, f.d]]
/-- a formula whose numbers stay small among arguments to U -/
structure Fm.Go (f : Fm) (B U : Nat) : Prop where
  bd : f.Bd B
  sm : Sm B U
  len : f.v.length ≤ U
  few : f.v.length ≤ 900
theorem exS_seq {a b : S} {ρ ρ1 : Env} {s s1 : OSt} (h : exS a ρ s = .nx ρ1 s1) : exS (.seq a b) ρ s = exS b ρ1 s1 := by rw [exS, h]
theorem ife_false {c : E} {a : S} {ρ : Env} {s s1 : OSt} (h : ev c ρ s = .ok (.sh (.bl false)) s1) : exS (.ife c a .skip) ρ s = .nx ρ s1 := by
  rw [exS, h]; simp [withV, exS]
theorem ev_var {i : Nat} {d : D} {ρ : Env} {s : OSt} (h : ρ.getD i .no = .sh d) : ev (.var i) ρ s = .ok (.sh d) s := by rw [ev, h]; rfl
theorem eqF_int (a b : Int) : eqF (.int a) (.int b) = some (decide (a = b)) := by by_cases h : a = b <;> simp [eqF, D.deep, D.eqv, h]
abbrev q_lessened1 : S := (.asgS 2 (.prim .len (.cons (.var 0) .nil)))
abbrev q_lessened2 : S := (.whl 1000000 (.and (.cmp .gt (.var 2) (.con (.int 0))) (.cmp .eq (.idx (.var 0) (.bin .sub (.var 2) (.con (.int 1)))) (.call "sum_at" M.sum_at (.cons (.var 1) (.cons (.bin .sub (.var 2) (.con (.int 1))) .nil))))) (.seq (.asgS 2 (.bin .sub (.var 2) (.con (.int 1)))) .skip))
abbrev q_lessened3 : S := (.ret (.tup (.cons (.prim .tuple (.cons (.slc (.var 0) .omit (.var 2)) .nil)) (.cons (.prim .tuple (.cons (.var 1) .nil)) .nil))))
abbrev q_lessenedAll : S := (.seq q_lessened1 (.seq q_lessened2 (.seq q_lessened3 .skip)))
theorem q_lessened_eq : M.lessenedS = q_lessenedAll := rfl
abbrev lsTest : E := (.and (.cmp .gt (.var 2) (.con (.int 0))) (.cmp .eq (.idx (.var 0) (.bin .sub (.var 2) (.con (.int 1)))) (.call "sum_at" M.sum_at (.cons (.var 1) (.cons (.bin .sub (.var 2) (.con (.int 1))) .nil)))))
abbrev lsBody : S := (.seq (.asgS 2 (.bin .sub (.var 2) (.con (.int 1)))) .skip)
theorem less_loop {f : Fm} {X Y : D} {B U : Nat} (hX : Seq X f.v) (hY : Seq Y [f.a, f.b, f.c, f.d]) (g : f.Go B U) (s : OSt) : ∀ (n fuel : Nat), n < fuel → n ≤ f.v.length →
    whlL (fun ρ s => ev lsTest ρ s) (fun ρ s => exS lsBody ρ s) fuel [.sh X, .sh Y, .sh (.int n)] s = .nx [.sh X, .sh Y, .sh (.int (downTo f.eqAt n : Nat))] s
  | 0, fuel + 1, _, _ => by
    have e : ev lsTest [.sh X, .sh Y, .sh (.int (0 : Nat))] s = .ok (.sh (.bl false)) s := by
      simp [ev, evs, R.bind, lift, Slot.val, Rs.d, cmpF, ordF, bothInt]
    rw [whlL, e]; rfl
  | n + 1, fuel + 1, h, hn => by
    have ix := hX.idx (n := n) (by omega)
    have sa := sum_at_run (m := (n : Int)) hY g.sm g.bd.a g.bd.b g.bd.c g.bd.d (by have := g.len; omega) s
    have c1 : ((n + 1 : Nat) : Int) - 1 = (n : Int) := by omega
    have p1 : (0 : Int) < ((n + 1 : Nat) : Int) := by omega
    have e : ev lsTest [.sh X, .sh Y, .sh (.int (n + 1 : Nat))] s = .ok (.sh (.bl (f.eqAt n))) s := by
      have e1 : ev (.cmp .gt (.var 2) (.con (.int 0))) [.sh X, .sh Y, .sh (.int (n + 1 : Nat))] s = .ok (.sh (.bl true)) s := by
        generalize ((n + 1 : Nat) : Int) = w at *
        simp [ev, R.bind, lift, Slot.val, Rs.d, cmpF, ordF, bothInt, p1]
      have e2 : ev (.bin .sub (.var 2) (.con (.int 1))) [.sh X, .sh Y, .sh (.int (n + 1 : Nat))] s = .ok (.sh (.int n)) s := by
        rw [← c1]
        generalize ((n + 1 : Nat) : Int) = w at *
        simp [ev, R.bind, lift, Slot.val, Rs.d, binF]
      have e3 : ev (.idx (.var 0) (.bin .sub (.var 2) (.con (.int 1)))) [.sh X, .sh Y, .sh (.int (n + 1 : Nat))] s = .ok (.sh (.int (f.v.getD n 0))) s := by
        rw [ev, ev_var (d := X) rfl, bind_mk, e2, bind_mk]
        simp only [Rs.d, ix, Option.map, lift]
      have e4 : ev (.call "sum_at" M.sum_at (.cons (.var 1) (.cons (.bin .sub (.var 2) (.con (.int 1))) .nil))) [.sh X, .sh Y, .sh (.int (n + 1 : Nat))] s = .ok (.sh (.int (f.P n))) s := by
        rw [ev, evs, ev_var (d := Y) rfl, bind_mk, evs, e2, bind_mk, evs, bind_mk, bind_mk, bind_mk]
        simp only [callR, List.map_cons, List.map_nil, Rs.d, sa]
        rfl
      rw [ev, e1, bind_mk]
      simp only []
      rw [ev, e3, bind_mk, e4, bind_mk]
      simp only [Rs.d, cmpF, eqF_int, Option.map, lift, Fm.eqAt]
    rw [whlL, e, downTo]
    cases f.eqAt n with
    | false => rfl
    | true =>
      have eb : exS lsBody [.sh X, .sh Y, .sh (.int (n + 1 : Nat))] s = .nx [.sh X, .sh Y, .sh (.int n)] s := by
        rw [← c1]
        generalize ((n + 1 : Nat) : Int) = w at *
        simp [exS, ev, R.bind, lift, Slot.val, Rs.d, Rs.isBo, binF, withV, outOf, assignAll, slotOf]
      simp only [if_true]
      rw [eb]
      exact less_loop hX hY g s n fuel (by omega) (by omega)
theorem lessened_run {f : Fm} {X Y : D} {B U : Nat} (hX : Seq X f.v) (hY : Seq Y [f.a, f.b, f.c, f.d]) (g : f.Go B U) (s : OSt) : M.lessened [X, Y] s = .ok (.sh (fmD f.less)) s := by
  have lp := less_loop hX hY g s f.v.length 1000000 (by have := g.few; omega) (Nat.le_refl _)
  obtain ⟨r, t1, t2, t3, t4⟩ := hX.take (downTo f.eqAt f.v.length)
  have ty := hY.tup
  have ln := hX.len
  have e1 : exS q_lessened1 [.sh X, .sh Y, .no] s = .nx [.sh X, .sh Y, .sh (.int f.v.length)] s := by
    simp [exS, ev, evs, R.bind, lift, Slot.val, Rs.d, Rs.isBo, ln, withV, outOf, assignAll, slotOf]
  have e2 : exS q_lessened2 [.sh X, .sh Y, .sh (.int f.v.length)] s = .nx [.sh X, .sh Y, .sh (.int (downTo f.eqAt f.v.length : Nat))] s := by
    rw [exS]; exact lp
  show evFn 3 2 M.lessenedS _ s = _
  unfold evFn
  rw [if_pos (show [X, Y].length = 2 from rfl), show startE 3 [X, Y] = [.sh X, .sh Y, .no] from rfl, q_lessened_eq, exS_seq e1, exS_seq e2]
  have e3 : ev (.slc (.var 0) .omit (.var 2)) [.sh X, .sh Y, .sh (.int (downTo f.eqAt f.v.length : Nat))] s = .ok r s := by
    generalize ((downTo f.eqAt f.v.length : Nat) : Int) = w at *
    simp [ev, R.bind, lift, Slot.val, Rs.d, partOf, t1]
  have e4 : ev (.prim .tuple (.cons (.slc (.var 0) .omit (.var 2)) .nil)) [.sh X, .sh Y, .sh (.int (downTo f.eqAt f.v.length : Nat))] s = .ok (.sh (tn f.less.v)) s := by
    rw [ev, evs, e3, bind_mk, evs, bind_mk, bind_mk]
    show lift (primF .tuple [r.d]) s = _
    rw [t2]; rfl
  have e5 : ev (.prim .tuple (.cons (.var 1) .nil)) [.sh X, .sh Y, .sh (.int (downTo f.eqAt f.v.length : Nat))] s = .ok (.sh (tn [f.a, f.b, f.c, f.d])) s := by
    generalize ((downTo f.eqAt f.v.length : Nat) : Int) = w at *
    simp [ev, evs, R.bind, lift, Slot.val, Rs.d, ty]
  rw [exS, exS, ev, evs, e4, bind_mk, evs, e5, bind_mk, evs, bind_mk, bind_mk, bind_mk]
  rfl
/-! ### what is told -/
theorem fm_i0 (f : Fm) : idxF (fmD f) (.int 0) = some (tn f.v) := rfl
theorem fm_i1 (f : Fm) : idxF (fmD f) (.int 1) = some (tn [f.a, f.b, f.c, f.d]) := rfl
theorem told_so_run {f : Fm} {B U n : Nat} (g : f.Go B U) (hn : n ≤ U) (s : OSt) : M.told_so [fmD f, .int n] s = .ok (.sh (.int (f.den n))) s := by
  have sa := sum_at_run (X := tn [f.a, f.b, f.c, f.d]) (m := (n : Int)) (Or.inl rfl) g.sm g.bd.a g.bd.b g.bd.c g.bd.d (by omega) s
  have ln : primF .len [tn f.v] = some (.sh (.int f.v.length)) := (show Seq (tn f.v) f.v from Or.inl rfl).len
  have i0 := fm_i0 f
  have i1 := fm_i1 f
  show evFn 2 2 M.told_soS _ s = _
  unfold evFn M.told_soS
  rw [if_pos (show [fmD f, D.int n].length = 2 from rfl), show startE 2 [fmD f, D.int n] = [.sh (fmD f), .sh (.int n)] from rfl]
  unfold Fm.den
  by_cases h : n < f.v.length
  · have hx : (n : Int) < (f.v.length : Int) := by omega
    have ix := (show Seq (tn f.v) f.v from Or.inl rfl).idx h
    rw [if_pos h]
    generalize fmD f = Z at *
    generalize tn f.v = V at *
    simp [exS, ev, evs, R.bind, lift, Slot.val, Rs.d, i0, ln, cmpF, ordF, bothInt, hx, ix, withV, endR]
  · have hx : ¬ (n : Int) < (f.v.length : Int) := by omega
    rw [if_neg h]
    generalize fmD f = Z at *
    generalize tn f.v = V at *
    generalize tn [f.a, f.b, f.c, f.d] = W at *
    simp [exS, ev, evs, R.bind, lift, Slot.val, Rs.d, i0, i1, ln, cmpF, ordF, bothInt, hx, callR, freeze, Rs.isBo, sa, withV, endR, Fm.P]
/-! ### sums of two -/
abbrev q_joined_by1 : S := (.asgS 3 (.prim .max (.cons (.prim .len (.cons (.idx (.var 0) (.con (.int 0))) .nil)) (.cons (.prim .len (.cons (.idx (.var 1) (.con (.int 0))) .nil)) .nil))))
abbrev q_joined_by2 : S := (.asgS 4 (.comp [5] (.nm 5) (.itRange (.cons (.var 3) .nil)) .omit (.bin .add (.call "told_so" M.told_so (.cons (.var 0) (.cons (.var 5) .nil))) (.bin .mul (.var 2) (.call "told_so" M.told_so (.cons (.var 1) (.cons (.var 5) .nil)))))))
abbrev q_joined_by3 : S := (.ret (.call "lessened" M.lessened (.cons (.var 4) (.cons (.comp [6, 7] (.tup (.cons (.nm 6) (.cons (.nm 7) .nil))) (.itZip (.idx (.var 0) (.con (.int 1))) (.idx (.var 1) (.con (.int 1)))) .omit (.bin .add (.var 6) (.bin .mul (.var 2) (.var 7)))) .nil))))
abbrev q_joined_byAll : S := (.seq q_joined_by1 (.seq q_joined_by2 (.seq q_joined_by3 .skip)))
theorem q_joined_by_eq : M.joined_byS = q_joined_byAll := rfl
theorem joined_by_run {f h : Fm} {B C U V : Nat} {k : Int} (hk : k = 1 ∨ k = -1) (g : f.Go B U) (g2 : h.Go C U) (g3 : (f.plus h k).Go V U) (s : OSt) : M.joined_by [fmD f, fmD h, .int k] s = .ok (.sh (fmD (f.plus h k).less)) s := by
  have fk : fitsI k = true := by rcases hk with rfl | rfl <;> exact fitsB (huge_big (by decide))
  have hU := g.sm.b
  have ln : primF .len [tn f.v] = some (.sh (.int f.v.length)) := (show Seq (tn f.v) f.v from Or.inl rfl).len
  have ln2 : primF .len [tn h.v] = some (.sh (.int h.v.length)) := (show Seq (tn h.v) h.v from Or.inl rfl).len
  have hmax : (if (h.v.length : Int) > (f.v.length : Int) then (h.v.length : Int) else (f.v.length : Int)) = ((max f.v.length h.v.length : Nat) : Int) := by split <;> omega
  have e1 : exS q_joined_by1 [.sh (fmD f), .sh (fmD h), .sh (.int k), .no, .no, .no, .no, .no] s = .nx [.sh (fmD f), .sh (fmD h), .sh (.int k), .sh (.int (max f.v.length h.v.length : Nat)), .no, .no, .no, .no] s := by
    have i0 := fm_i0 f
    have j0 := fm_i0 h
    have pm : primF .max [.int f.v.length, .int h.v.length] = some (.sh (.int (max f.v.length h.v.length : Nat))) := by
      rw [← hmax]; rfl
    generalize fmD f = Z at *
    generalize fmD h = W at *
    generalize tn f.v = X1 at *
    generalize tn h.v = X2 at *
    generalize ((max f.v.length h.v.length : Nat) : Int) = w at *
    simp [exS, ev, evs, R.bind, lift, Slot.val, Rs.d, Rs.isBo, i0, j0, ln, ln2, pm, withV, outOf, assignAll, slotOf]
  have hi : evI (.itRange (.cons (.var 3) .nil)) [.sh (fmD f), .sh (fmD h), .sh (.int k), .sh (.int (max f.v.length h.v.length : Nat)), .no, .no, .no, .no] s = .ok (fromInts 0 (max f.v.length h.v.length), none) s := by
    have b2 := rangeF_one (a := ((max f.v.length h.v.length : Nat) : Int)) (by have := g.few; have := g2.few; omega)
    rw [Int.toNat_natCast] at b2
    exact evI_range (rs := [.sh (.int (max f.v.length h.v.length : Nat))]) (by simp [ev, evs, R.bind, lift, Slot.val]) b2
  have e := ev_comp (vs := [5]) (tg := .nm 5) (cnd := .omit) (elt := .bin .add (.call "told_so" M.told_so (.cons (.var 0) (.cons (.var 5) .nil))) (.bin .mul (.var 2) (.call "told_so" M.told_so (.cons (.var 1) (.cons (.var 5) .nil))))) hi rfl (fun d => match d with | .int n => some (.int (f.den n.toNat + k * h.den n.toNat)) | _ => none) (fun d hd => by
    obtain ⟨n, hn, rfl⟩ := fromInts_mem hd
    rw [Int.zero_add]
    have hnU : n ≤ U := by have := g.len; have := g2.len; omega
    have t1 := told_so_run g hnU
    have t2 := told_so_run g2 hnU
    have ft : fitsI (h.den n) = true := fitsB (Nat.lt_of_le_of_lt (Fm.den_bd g2.bd hnU g2.sm.m1) g2.sm.lt)
    show stepP _ _ _ _ _ _ = .ok (some (.int (f.den ((n : Nat) : Int).toNat + k * h.den ((n : Nat) : Int).toNat))) s
    rw [Int.toNat_natCast]
    generalize fmD f = Z at *
    generalize fmD h = W at *
    simp [stepP, bindTg, wipeE, lentE, ev, evs, R.bind, lift, Slot.val, Rs.d, Rs.isBo, callR, freeze, t1, t2, binF, fk, ft]) (by unfold fromInts; simp; have := g.few; have := g2.few; unfold LIM; omega)
  have e' : (fromInts 0 (max f.v.length h.v.length)).filterMap (fun d => match d with | .int n => some (D.int (f.den n.toNat + k * h.den n.toNat)) | _ => none) = (f.plus h k).v.map D.int := by
    unfold fromInts Fm.plus
    dsimp only
    rw [List.filterMap_map, List.map_map, ← filterMap_some]
    congr 1
    funext n
    show some (D.int (f.den ((0 : Int) + (n : Nat)).toNat + k * h.den ((0 : Int) + (n : Nat)).toNat)) = _
    rw [Int.zero_add, Int.toNat_natCast]; rfl
  rw [e'] at e
  have e2 : exS q_joined_by2 [.sh (fmD f), .sh (fmD h), .sh (.int k), .sh (.int (max f.v.length h.v.length : Nat)), .no, .no, .no, .no] s = .nx [.sh (fmD f), .sh (fmD h), .sh (.int k), .sh (.int (max f.v.length h.v.length : Nat)), .sh (.lst ((f.plus h k).v.map D.int)), .no, .no, .no] s := by
    rw [exS, e]
    simp [withV, Rs.isBo, Rs.d, outOf, assignAll, slotOf]
  have ha : ev (.idx (.var 0) (.con (.int 1))) [.sh (fmD f), .sh (fmD h), .sh (.int k), .sh (.int (max f.v.length h.v.length : Nat)), .sh (.lst ((f.plus h k).v.map D.int)), .no, .no, .no] s = .ok (.sh (tn [f.a, f.b, f.c, f.d])) s := by
    simp [ev, R.bind, lift, Slot.val, Rs.d, fm_i1]
  have hb : ev (.idx (.var 1) (.con (.int 1))) [.sh (fmD f), .sh (fmD h), .sh (.int k), .sh (.int (max f.v.length h.v.length : Nat)), .sh (.lst ((f.plus h k).v.map D.int)), .no, .no, .no] s = .ok (.sh (tn [h.a, h.b, h.c, h.d])) s := by
    simp [ev, R.bind, lift, Slot.val, Rs.d, fm_i1]
  have bs := g2.sm.b
  have mem4 : ∀ {p : Int × Int}, p ∈ [f.a, f.b, f.c, f.d].zip [h.a, h.b, h.c, h.d] → fitsI p.2 = true := fun {p} hp => by
    have : p = (f.a, h.a) ∨ p = (f.b, h.b) ∨ p = (f.c, h.c) ∨ p = (f.d, h.d) := by simpa using hp
    rcases this with rfl | rfl | rfl | rfl
    · exact fitsB (Nat.lt_of_le_of_lt g2.bd.a bs.1)
    · exact fitsB (Nat.lt_of_le_of_lt g2.bd.b bs.1)
    · exact fitsB (Nat.lt_of_le_of_lt g2.bd.c bs.1)
    · exact fitsB (Nat.lt_of_le_of_lt g2.bd.d bs.1)
  have ec := ev_comp (vs := [6, 7]) (tg := .tup (.cons (.nm 6) (.cons (.nm 7) .nil))) (cnd := .omit) (elt := .bin .add (.var 6) (.bin .mul (.var 2) (.var 7))) (evI_zipT ha hb) rfl (fun d => match d with | .tup [.int x, .int y] => some (.int (x + k * y)) | _ => none) (fun d hd => by
    obtain ⟨p, hp, rfl⟩ := List.mem_map.mp hd
    have fp := mem4 hp
    simp [stepP, bindTg, bindTgs, pairI, wipeE, lentE, ev, evs, R.bind, lift, Slot.val, Rs.d, Rs.isBo, binF, fk, fp]) (by simp [LIM])
  have ec' : ((([f.a, f.b, f.c, f.d].zip [h.a, h.b, h.c, h.d]).map pairI).filterMap (fun d => match d with | .tup [.int x, .int y] => some (D.int (x + k * y)) | _ => none)) = [(f.plus h k).a, (f.plus h k).b, (f.plus h k).c, (f.plus h k).d].map D.int := rfl
  rw [ec'] at ec
  have lr := lessened_run (f := f.plus h k) (X := .lst ((f.plus h k).v.map D.int)) (Y := .lst ([(f.plus h k).a, (f.plus h k).b, (f.plus h k).c, (f.plus h k).d].map D.int)) (Or.inr rfl) (Or.inr rfl) g3 s
  show evFn 8 3 M.joined_byS _ s = _
  unfold evFn
  rw [if_pos (show [fmD f, fmD h, D.int k].length = 3 from rfl), show startE 8 [fmD f, fmD h, D.int k] = [.sh (fmD f), .sh (fmD h), .sh (.int k), .no, .no, .no, .no, .no] from rfl, q_joined_by_eq, exS_seq e1, exS_seq e2, exS, exS, ev, evs]
  have hv : ev (.var 4) [.sh (fmD f), .sh (fmD h), .sh (.int k), .sh (.int (max f.v.length h.v.length : Nat)), .sh (.lst ((f.plus h k).v.map D.int)), .no, .no, .no] s = .ok (.sh (.lst ((f.plus h k).v.map D.int))) s := by simp [ev, lift, Slot.val]
  rw [hv, bind_mk, evs, ec, bind_mk, evs, bind_mk, bind_mk, bind_mk]
  simp only [callR, List.map_cons, List.map_nil, Rs.d]
  rw [show ([D.int (f.plus h k).a, D.int (f.plus h k).b, D.int (f.plus h k).c, D.int (f.plus h k).d] : List D) = [(f.plus h k).a, (f.plus h k).b, (f.plus h k).c, (f.plus h k).d].map D.int from rfl, lr]
  rfl
theorem plus_run {f h : Fm} {B C U V : Nat} (g : f.Go B U) (g2 : h.Go C U) (g3 : (f.plus h 1).Go V U) (s : OSt) : M.plus_formula [fmD f, fmD h] s = .ok (.sh (fmD (f.plus h 1).less)) s := by
  have j := joined_by_run (Or.inl rfl) g g2 g3 s
  show evFn 2 2 M.plus_formulaS _ s = _
  unfold evFn M.plus_formulaS
  rw [if_pos (show [fmD f, fmD h].length = 2 from rfl), show startE 2 [fmD f, fmD h] = [.sh (fmD f), .sh (fmD h)] from rfl]
  simp [exS, ev, evs, R.bind, lift, Slot.val, Rs.d, freeze, Rs.isBo, callR, j, withV, endR]
end RS
end
section
set_option autoImplicit false
set_option linter.all false
set_option maxRecDepth 100000
set_option maxHeartbeats 4000000
/-! T_FormE: formulas later, formulas of sums, run. -/
namespace RS
def diffL (l : List Int) : List Int := (l.zip l.tail).map fun p => p.2 - p.1
theorem zipD_ints (xs ys : List Int) : zipD (xs.map D.int) (ys.map D.int) = (xs.zip ys).map pairI := zipD_map xs ys
theorem cut_tail (l : List Int) : cut (l.map D.int) (some 1) none = l.tail.map D.int := by
  unfold cut endOf
  dsimp only
  rw [if_neg (by decide)]
  cases l with
  | nil => rfl
  | cons x r =>
    simp
    exact List.take_of_length_le (by simp)
/-- differences of the neighbours in a list -/
theorem diff_comp {i j k : Nat} {ρ : Env} {s : OSt} {l : List Int} (hv : ρ.getD k .no = .sh (.lst (l.map D.int))) (no : noOw ρ [i, j] = true) (hl : l.length ≤ 1000)
    (h : ∀ x y : Int, stepP (wipeE ρ [i, j]) (.tup (.cons (.nm i) (.cons (.nm j) .nil))) .omit (.bin .sub (.var j) (.var i)) (pairI (x, y)) s = .ok (some (.int (y - x))) s) :
    ev (.comp [i, j] (.tup (.cons (.nm i) (.cons (.nm j) .nil))) (.itZip (.var k) (.slc (.var k) (.con (.int 1)) .omit)) .omit (.bin .sub (.var j) (.var i))) ρ s = .ok (.fr (.lst ((diffL l).map D.int))) s := by
  have hv2 := ev_var (s := s) hv
  have hb : ev (.slc (.var k) (.con (.int 1)) .omit) ρ s = .ok (.fr (.lst (l.tail.map D.int))) s := by
    rw [ev, hv2, bind_mk, ev, bind_mk, ev, bind_mk]
    simp only [partOf, Rs.d, slcF, cut_tail, lift]
  have hi : evI (.itZip (.var k) (.slc (.var k) (.con (.int 1)) .omit)) ρ s = .ok ((l.zip l.tail).map pairI, none) s := by
    rw [evI, hv2, bind_mk, hb, bind_mk]
    simp only [Rs.isBo, Rs.d, zipF, zipD_map, lift, Option.map, Bool.or_self, Bool.false_eq_true, if_false]
  have e := ev_comp (vs := [i, j]) (tg := .tup (.cons (.nm i) (.cons (.nm j) .nil))) (cnd := .omit) (elt := .bin .sub (.var j) (.var i)) hi no (fun d => match d with | .tup [.int x, .int y] => some (.int (y - x)) | _ => none) (fun d hd => by
    obtain ⟨p, _, rfl⟩ := List.mem_map.mp hd
    exact h p.1 p.2) (by simp; unfold LIM; omega)
  rw [List.filterMap_map] at e
  rw [e]
  unfold diffL
  rw [List.map_map, ← filterMap_some]
  rfl
abbrev q_differences1 : S := (.par [1, 2] (.cons (.lst .nil) (.cons (.prim .list (.cons (.var 0) .nil)) .nil)))
abbrev q_differences2 : S := (.share 2)
abbrev q_differences3 : S := (.whl 1000000 (.cmp .gt (.prim .len (.cons (.var 2) .nil)) (.con (.int 0))) (.seq (.app 1 (.idx (.var 2) (.con (.int 0)))) (.seq (.asgS 2 (.comp [3, 4] (.tup (.cons (.nm 3) (.cons (.nm 4) .nil))) (.itZip (.var 2) (.slc (.var 2) (.con (.int 1)) .omit)) .omit (.bin .sub (.var 4) (.var 3)))) .skip)))
abbrev q_differences4 : S := (.ret (.var 1))
abbrev q_differencesAll : S := (.seq q_differences1 (.seq q_differences2 (.seq q_differences3 (.seq q_differences4 .skip))))
theorem q_differences_eq : M.differencesS = q_differencesAll := rfl
abbrev dfTest : E := (.cmp .gt (.prim .len (.cons (.var 2) .nil)) (.con (.int 0)))
abbrev dfBody : S := (.seq (.app 1 (.idx (.var 2) (.con (.int 0)))) (.seq (.asgS 2 (.comp [3, 4] (.tup (.cons (.nm 3) (.cons (.nm 4) .nil))) (.itZip (.var 2) (.slc (.var 2) (.con (.int 1)) .omit)) .omit (.bin .sub (.var 4) (.var 3)))) .skip))
theorem diff_body {A : D} {F : List D} {x : Int} {l : List Int} {s : OSt} (hF : F.length < 1000) (hl : l.length < 1000) :
    exS dfBody [.sh A, .ow (.lst F), .sh (.lst ((x :: l).map D.int)), .no, .no] s = .nx [.sh A, .ow (.lst (F ++ [.int x])), .sh (.lst ((diffL (x :: l)).map D.int)), .no, .no] s := by
  have e := diff_comp (i := 3) (j := 4) (k := 2) (ρ := [.sh A, .ow (.lst (F ++ [.int x])), .sh (.lst ((x :: l).map D.int)), .no, .no]) (s := s) (l := x :: l) rfl rfl (by rw [List.length_cons]; omega) (fun a b => by
    simp [stepP, bindTg, bindTgs, pairI, wipeE, ev, R.bind, lift, Slot.val, Rs.d, Rs.isBo, binF])
  have ix : idxF (.lst ((x :: l).map D.int)) (.int 0) = some (.int x) := (show Seq (.lst ((x :: l).map D.int)) (x :: l) from Or.inr rfl).idx (n := 0) (by simp)
  have hL : F.length < LIM := by unfold LIM; omega
  have e1 : exS (.app 1 (.idx (.var 2) (.con (.int 0)))) [.sh A, .ow (.lst F), .sh (.lst ((x :: l).map D.int)), .no, .no] s = .nx [.sh A, .ow (.lst (F ++ [.int x])), .sh (.lst ((x :: l).map D.int)), .no, .no] s := by
    generalize D.lst ((x :: l).map D.int) = Z at *
    simp [exS, ev, R.bind, lift, Slot.val, Rs.d, Rs.isBo, ix, withV, hL]
  rw [exS_seq e1, exS, exS, e]
  simp [withV, Rs.isBo, Rs.d, outOf, assignAll, slotOf, exS]
theorem diff_test {A : D} {F : List D} {l : List Int} {s : OSt} : ev dfTest [.sh A, .ow (.lst F), .sh (.lst (l.map D.int)), .no, .no] s = .ok (.sh (.bl (decide (l ≠ [])))) s := by
  have ln := (show Seq (.lst (l.map D.int)) l from Or.inr rfl).len
  have hd : decide ((0 : Int) < (l.length : Nat)) = decide (l ≠ []) := by
    rw [decide_eq_decide]
    cases l <;> simp
  rw [← hd]
  generalize D.lst (l.map D.int) = Z at *
  generalize ((l.length : Nat) : Int) = w at *
  simp [ev, evs, R.bind, lift, Slot.val, Rs.d, ln, cmpF, ordF, bothInt]
theorem diff_turn {A : D} {F : List D} {x : Int} {l : List Int} {s : OSt} (hF : F.length < 1000) (hl : l.length < 1000) (n : Nat) :
    whlL (fun ρ s => ev dfTest ρ s) (fun ρ s => exS dfBody ρ s) (n + 1) [.sh A, .ow (.lst F), .sh (.lst ((x :: l).map D.int)), .no, .no] s = whlL (fun ρ s => ev dfTest ρ s) (fun ρ s => exS dfBody ρ s) n [.sh A, .ow (.lst (F ++ [.int x])), .sh (.lst ((diffL (x :: l)).map D.int)), .no, .no] s := by
  rw [whlL, diff_test, show decide (x :: l ≠ []) = true from rfl]
  simp only []
  rw [diff_body hF hl]
theorem diff_end {A : D} {F : List D} {s : OSt} (n : Nat) :
    whlL (fun ρ s => ev dfTest ρ s) (fun ρ s => exS dfBody ρ s) (n + 1) [.sh A, .ow (.lst F), .sh (.lst (([] : List Int).map D.int)), .no, .no] s = .nx [.sh A, .ow (.lst F), .sh (.lst []), .no, .no] s := by
  rw [whlL, diff_test]; rfl
theorem differences_run (p q r t : Int) (s : OSt) : M.differences [.lst ([p, q, r, t].map D.int)] s = .ok (.fr (.lst ([p, q - p, (r - q) - (q - p), ((t - r) - (r - q)) - ((r - q) - (q - p))].map D.int))) s := by
  show evFn 5 1 M.differencesS _ s = _
  unfold evFn
  have e1 : exS q_differences1 [.sh (.lst ([p, q, r, t].map D.int)), .no, .no, .no, .no] s = .nx [.sh (.lst ([p, q, r, t].map D.int)), .ow (.lst []), .ow (.lst ([p, q, r, t].map D.int)), .no, .no] s := by
    have := (show Seq (.lst ([p, q, r, t].map D.int)) [p, q, r, t] from Or.inr rfl).list
    generalize [p, q, r, t].map D.int = Z at *
    simp [exS, evs, ev, R.bind, lift, Slot.val, Rs.d, freeze, this, outOf, assignAll, slotOf]
  have e2 : exS q_differences2 [.sh (.lst ([p, q, r, t].map D.int)), .ow (.lst []), .ow (.lst ([p, q, r, t].map D.int)), .no, .no] s = .nx [.sh (.lst ([p, q, r, t].map D.int)), .ow (.lst []), .sh (.lst ([p, q, r, t].map D.int)), .no, .no] s := by
    generalize [p, q, r, t].map D.int = Z at *
    simp [exS]
  have e3 : exS q_differences3 [.sh (.lst ([p, q, r, t].map D.int)), .ow (.lst []), .sh (.lst ([p, q, r, t].map D.int)), .no, .no] s = .nx [.sh (.lst ([p, q, r, t].map D.int)), .ow (.lst ([p, q - p, (r - q) - (q - p), ((t - r) - (r - q)) - ((r - q) - (q - p))].map D.int)), .sh (.lst []), .no, .no] s := by
    rw [exS]
    show whlL (fun ρ s => ev dfTest ρ s) (fun ρ s => exS dfBody ρ s) (999995 + 1 + 1 + 1 + 1 + 1) _ s = _
    rw [diff_turn (by decide) (by simp), show diffL [p, q, r, t] = [q - p, r - q, t - r] from rfl, diff_turn (by simp) (by simp), show diffL [q - p, r - q, t - r] = [r - q - (q - p), t - r - (r - q)] from rfl, diff_turn (by simp) (by simp),
      show diffL [r - q - (q - p), t - r - (r - q)] = [t - r - (r - q) - (r - q - (q - p))] from rfl, diff_turn (by simp) (by simp), show diffL [t - r - (r - q) - (r - q - (q - p))] = [] from rfl, diff_end]
    rfl
  rw [if_pos (show [D.lst ([p, q, r, t].map D.int)].length = 1 from rfl), show startE 5 [D.lst ([p, q, r, t].map D.int)] = [.sh (.lst ([p, q, r, t].map D.int)), .no, .no, .no, .no] from rfl, q_differences_eq, exS_seq e1, exS_seq e2, exS_seq e3]
  simp [exS, ev, lift, Slot.val, withV, endR]
/-! ### later -/
abbrev q_shifted1 : S := (.asgT (.tup (.cons (.nm 2) (.cons (.nm 3) .nil))) (.var 0))
abbrev q_shifted2 : S := (.asgS 4 (.call "differences" M.differences (.cons (.comp [5] (.nm 5) (.itRange (.cons (.con (.int 4)) .nil)) .omit (.call "sum_at" M.sum_at (.cons (.var 3) (.cons (.bin .sub (.var 5) (.var 1)) .nil)))) .nil)))
abbrev q_shifted3 : S := (.ret (.call "lessened" M.lessened (.cons (.bin .add (.bin .mul (.lst (.cons (.con (.int 0)) .nil)) (.var 1)) (.prim .list (.cons (.var 2) .nil))) (.cons (.var 4) .nil))))
abbrev q_shiftedAll : S := (.seq q_shifted1 (.seq q_shifted2 (.seq q_shifted3 .skip)))
theorem q_shifted_eq : M.shiftedS = q_shiftedAll := rfl
theorem shifted_run {f : Fm} {t B C U : Nat} (g : f.Go B U) (hU : t + 3 ≤ U) (g2 : (f.later t).Go C U) (s : OSt) : M.shifted [fmD f, .int t] s = .ok (.sh (fmD (f.later t).less)) s := by
  have hU2 := g.sm.b
  have ht : t ≤ 900 := by have := g2.few; have e : (f.later t).v.length = t + f.v.length := by simp [Fm.later]
                          omega
  have e1 : exS q_shifted1 [.sh (fmD f), .sh (.int t), .no, .no, .no, .no] s = .nx [.sh (fmD f), .sh (.int t), .sh (tn f.v), .sh (tn [f.a, f.b, f.c, f.d]), .no, .no] s := by
    unfold fmD
    simp [exS, ev, lift, Slot.val, withV, Rs.isBo, Rs.d, outOf, bindTg, bindTgs]
  have hi : evI (.itRange (.cons (.con (.int 4)) .nil)) [.sh (fmD f), .sh (.int t), .sh (tn f.v), .sh (tn [f.a, f.b, f.c, f.d]), .no, .no] s = .ok (fromInts 0 4, none) s :=
    evI_range (rs := [.sh (.int 4)]) (by simp [evs, ev, R.bind]) (rangeF_one (by decide))
  have e := ev_comp (vs := [5]) (tg := .nm 5) (cnd := .omit) (elt := .call "sum_at" M.sum_at (.cons (.var 3) (.cons (.bin .sub (.var 5) (.var 1)) .nil))) hi rfl (fun d => match d with | .int n => some (.int (f.P (n - t))) | _ => none) (fun d hd => by
    obtain ⟨n, hn, rfl⟩ := fromInts_mem hd
    rw [Int.zero_add]
    have sa := sum_at_run (X := tn [f.a, f.b, f.c, f.d]) (m := (n : Int) - t) (Or.inl rfl) g.sm g.bd.a g.bd.b g.bd.c g.bd.d (by omega) s
    generalize tn [f.a, f.b, f.c, f.d] = Z at *
    simp [stepP, bindTg, wipeE, lentE, ev, evs, R.bind, lift, Slot.val, Rs.d, Rs.isBo, callR, freeze, sa, binF, Fm.P]) (by simp [fromInts, LIM])
  have e' : (fromInts 0 4).filterMap (fun d => match d with | .int n => some (D.int (f.P (n - t))) | _ => none) = [f.P (0 - t), f.P (1 - t), f.P (2 - t), f.P (3 - t)].map D.int := rfl
  rw [e'] at e
  have dr := differences_run (f.P (0 - t)) (f.P (1 - t)) (f.P (2 - t)) (f.P (3 - t)) s
  have e2 : exS q_shifted2 [.sh (fmD f), .sh (.int t), .sh (tn f.v), .sh (tn [f.a, f.b, f.c, f.d]), .no, .no] s = .nx [.sh (fmD f), .sh (.int t), .sh (tn f.v), .sh (tn [f.a, f.b, f.c, f.d]), .sh (.lst ([(f.later t).a, (f.later t).b, (f.later t).c, (f.later t).d].map D.int)), .no] s := by
    rw [exS, ev, evs, e, bind_mk, evs, bind_mk, bind_mk]
    show withV (callR M.differences [Rs.fr (.lst ([f.P (0 - t), f.P (1 - t), f.P (2 - t), f.P (3 - t)].map D.int))] s) _ = _
    unfold callR
    rw [show [Rs.fr (.lst ([f.P (0 - t), f.P (1 - t), f.P (2 - t), f.P (3 - t)].map D.int))].map Rs.d = [.lst ([f.P (0 - t), f.P (1 - t), f.P (2 - t), f.P (3 - t)].map D.int)] from rfl, dr]
    rfl
  have lr := lessened_run (f := f.later t) (X := .lst ((f.later t).v.map D.int)) (Y := .lst ([(f.later t).a, (f.later t).b, (f.later t).c, (f.later t).d].map D.int)) (Or.inr rfl) (Or.inr rfl) g2 s
  show evFn 6 2 M.shiftedS _ s = _
  unfold evFn
  rw [if_pos (show [fmD f, D.int t].length = 2 from rfl), show startE 6 [fmD f, D.int t] = [.sh (fmD f), .sh (.int t), .no, .no, .no, .no] from rfl, q_shifted_eq, exS_seq e1, exS_seq e2]
  have e4 : ev (.bin .add (.bin .mul (.lst (.cons (.con (.int 0)) .nil)) (.var 1)) (.prim .list (.cons (.var 2) .nil))) [.sh (fmD f), .sh (.int t), .sh (tn f.v), .sh (tn [f.a, f.b, f.c, f.d]), .sh (.lst ([(f.later t).a, (f.later t).b, (f.later t).c, (f.later t).d].map D.int)), .no] s = .ok (.fr (.lst ((f.later t).v.map D.int))) s := by
    have ll := (show Seq (tn f.v) f.v from Or.inl rfl).list
    have b1 : (0 : Int) ≤ (t : Int) ∧ (t : Int) ≤ 1000 := by omega
    have rp : (List.replicate t [D.int 0]).flatten = List.replicate t (D.int 0) := by
      clear b1 e' e hi e1 dr e2 lr ll g g2 hU hU2 ht
      induction t with
      | zero => rfl
      | succ n ih => rw [List.replicate_succ, List.flatten_cons, ih]; rfl
    have hL : t + f.v.length ≤ LIM := by have := g.few; unfold LIM; omega
    have vv : (f.later t).v.map D.int = List.replicate t (D.int 0) ++ f.v.map D.int := by simp [Fm.later]
    rw [vv]
    generalize [(f.later t).a, (f.later t).b, (f.later t).c, (f.later t).d].map D.int = Z
    generalize tn f.v = Y at *
    simp [ev, evs, R.bind, lift, Slot.val, Rs.d, freeze, Rs.isBo, binF, b1, ll, rp, hL]
  rw [exS, exS, ev, evs, e4, bind_mk, evs, ev_var (d := .lst ([(f.later t).a, (f.later t).b, (f.later t).c, (f.later t).d].map D.int)) rfl, bind_mk, evs, bind_mk, bind_mk, bind_mk]
  unfold callR
  rw [show [Rs.fr (.lst ((f.later t).v.map D.int)), Rs.sh (.lst ([(f.later t).a, (f.later t).b, (f.later t).c, (f.later t).d].map D.int))].map Rs.d = [.lst ((f.later t).v.map D.int), .lst ([(f.later t).a, (f.later t).b, (f.later t).c, (f.later t).d].map D.int)] from rfl, lr]
  rfl
/-! ### sums so far -/
theorem imms_ints : ∀ l : List Int, D.imms (l.map D.int) = true
  | [] => by simp [D.imms]
  | x :: l => by rw [List.map_cons, D.imms, imms_ints l]; simp [D.imm]
theorem imm_tn (l : List Int) : D.imm (tn l) = true := by rw [tn, D.imm]; exact imms_ints l
theorem imm_fm (f : Fm) : D.imm (fmD f) = true := by rw [fmD, D.imm, D.imms, D.imms, D.imms, imm_tn, imm_tn]; rfl
def endS : Int → List Int → Int
  | s, [] => s
  | s, x :: l => endS (s + x) l
theorem endS_isum : ∀ (l : List Int) (s : Int), endS s l = s + isum (fun k => l.getD k 0) l.length
  | [], s => by simp [endS, isum]
  | x :: l, s => by
    rw [endS, endS_isum l, List.length_cons, isum_head]
    simp only [List.getD_cons_zero, List.getD_cons_succ]
    omega
def sumStep (F : List Int) (x : Int) : List Int := F ++ [F.getLastD 0 + x]
theorem sum_fold : ∀ (l : List Int) (F : List Int) (s : Int), l.foldl sumStep (F ++ [s]) = F ++ prefs s l ++ [endS s l]
  | [], F, s => by simp [prefs, endS]
  | x :: l, F, s => by
    rw [List.foldl_cons]
    have : sumStep (F ++ [s]) x = (F ++ [s]) ++ [s + x] := by unfold sumStep; simp
    rw [this, sum_fold l (F ++ [s]) (s + x), prefs, endS]
    simp
theorem last_idx (F : List Int) (x : Int) : idxF (.lst ((F ++ [x]).map D.int)) (.int (-1)) = some (.int x) := by
  unfold idxF ixOf
  dsimp only
  rw [if_neg (by decide)]
  simp only [List.length_map, List.length_append, List.length_singleton]
  rw [if_pos (by omega)]
  have : (-1 + ((F.length : Int) + 1)).toNat = F.length := by omega
  simp [this]
abbrev q_summed1 : S := (.asgT (.tup (.cons (.nm 1) (.cons (.nm 2) .nil))) (.var 0))
abbrev q_summed2 : S := (.asg 3 (.lst (.cons (.con (.int 0)) .nil)))
abbrev q_summed3_1 : S := (.app 3 (.bin .add (.idx (.var 3) (.neg (.con (.int 1)))) (.var 4)))
abbrev q_summed3B : S := (.seq q_summed3_1 .skip)
abbrev q_summed3 : S := (.for (.nm 4) (.itE (.var 1)) q_summed3B)
abbrev q_summed4 : S := (.asg 5 (.bin .add (.lst (.cons (.con (.int 0)) .nil)) (.prim .list (.cons (.slc (.var 2) .omit (.con (.int 3))) .nil))))
abbrev q_summed5 : S := (.seti 5 (.con (.int 0)) (.bin .sub (.idx (.var 3) (.neg (.con (.int 1)))) (.call "sum_at" M.sum_at (.cons (.var 5) (.cons (.prim .len (.cons (.var 1) .nil)) .nil)))))
abbrev q_summed6 : S := (.ret (.call "lessened" M.lessened (.cons (.slc (.var 3) .omit (.neg (.con (.int 1)))) (.cons (.var 5) .nil))))
abbrev q_summedAll : S := (.seq q_summed1 (.seq q_summed2 (.seq q_summed3 (.seq q_summed4 (.seq q_summed5 (.seq q_summed6 .skip))))))
theorem q_summed_eq : M.summedS = q_summedAll := rfl
theorem sumd_turn {Z : D} {C : D} {F : List Int} {y x : Int} {x4 : Slot} {V : D} {s : OSt} (hF : F.length < 1000) :
    exS q_summed3B [.sh Z, .sh V, .sh C, .ow (.lst ((F ++ [y]).map D.int)), .sh (.int x), .no] s = .nx [.sh Z, .sh V, .sh C, .ow (.lst ((sumStep (F ++ [y]) x).map D.int)), .sh (.int x), .no] s := by
  have ix := last_idx F y
  have hL : ((F ++ [y]).map D.int).length < LIM := by simp; unfold LIM; omega
  have e : sumStep (F ++ [y]) x = (F ++ [y]) ++ [y + x] := by unfold sumStep; simp
  have em : ((F ++ [y]) ++ [y + x]).map D.int = (F ++ [y]).map D.int ++ [.int (y + x)] := List.map_append
  rw [e, em]
  clear em e
  generalize (F ++ [y]).map D.int = L at *
  simp [exS, ev, R.bind, lift, Slot.val, Rs.d, Rs.isBo, negF, ix, binF, withV, hL]
theorem sumd_for {Z C V : D} {s : OSt} : ∀ (l : List Int) (F : List Int) (y : Int) (x4 : Slot), F.length + l.length < 1000 →
    ∃ x4', forL (fun d ρ s => match bindTg (.nm 4) d ρ with | some ρ1 => exS q_summed3B ρ1 s | none => .no) (l.map D.int) [.sh Z, .sh V, .sh C, .ow (.lst ((F ++ [y]).map D.int)), x4, .no] s = .nx [.sh Z, .sh V, .sh C, .ow (.lst ((F ++ prefs y l ++ [endS y l]).map D.int)), x4', .no] s
  | [], F, y, x4, _ => ⟨x4, by simp [forL, prefs, endS]⟩
  | x :: l, F, y, x4, h => by
    rw [List.length_cons] at h
    obtain ⟨x4', ih⟩ := sumd_for (Z := Z) (C := C) (V := V) (s := s) l (F ++ [y]) (y + x) (.sh (.int x)) (by rw [List.length_append, List.length_singleton]; omega)
    refine ⟨x4', ?_⟩
    have e : (match bindTg (.nm 4) (.int x) [.sh Z, .sh V, .sh C, .ow (.lst ((F ++ [y]).map D.int)), x4, .no] with | some ρ1 => exS q_summed3B ρ1 s | none => .no) = .nx [.sh Z, .sh V, .sh C, .ow (.lst (((F ++ [y]) ++ [y + x]).map D.int)), .sh (.int x), .no] s := by
      have := sumd_turn (Z := Z) (C := C) (F := F) (y := y) (x := x) (x4 := x4) (V := V) (s := s) (by omega)
      have e2 : sumStep (F ++ [y]) x = (F ++ [y]) ++ [y + x] := by unfold sumStep; simp
      rw [e2] at this
      exact this
    rw [List.map_cons, forL, e]
    simp only []
    rw [ih, prefs, endS]
    simp
theorem cut_init (F : List Int) (x : Int) : cut ((F ++ [x]).map D.int) none (some (-1)) = F.map D.int := by
  unfold cut endOf
  dsimp only
  rw [if_pos (by decide), List.drop_zero, Nat.sub_zero]
  have : (-1 + (((F ++ [x]).map D.int).length : Int)).toNat = F.length := by simp; omega
  rw [this, List.map_append, List.take_left' (by simp)]
theorem summed_run {f : Fm} {B C U : Nat} (g : f.Go B U) (g2 : f.sums.Go C U) (s : OSt) : M.summed [fmD f] s = .ok (.sh (fmD f.sums.less)) s := by
  have e1 : exS q_summed1 [.sh (fmD f), .no, .no, .no, .no, .no] s = .nx [.sh (fmD f), .sh (tn f.v), .sh (tn [f.a, f.b, f.c, f.d]), .no, .no, .no] s := by
    unfold fmD
    simp [exS, ev, lift, Slot.val, withV, Rs.isBo, Rs.d, outOf, bindTg, bindTgs]
  have e2 : exS q_summed2 [.sh (fmD f), .sh (tn f.v), .sh (tn [f.a, f.b, f.c, f.d]), .no, .no, .no] s = .nx [.sh (fmD f), .sh (tn f.v), .sh (tn [f.a, f.b, f.c, f.d]), .ow (.lst (([] ++ [(0 : Int)]).map D.int)), .no, .no] s := by
    generalize tn [f.a, f.b, f.c, f.d] = Z1
    generalize tn f.v = Z2
    simp [exS, ev, evs, R.bind, freeze, Rs.isBo, Rs.d, withV, outOf, assignAll, slotOf]
  obtain ⟨x4, e⟩ := sumd_for (Z := fmD f) (V := tn f.v) (C := tn [f.a, f.b, f.c, f.d]) (s := s) f.v [] 0 .no (by have := g.few; simp; omega)
  rw [List.nil_append] at e
  have hi : evI (.itE (.var 1)) [.sh (fmD f), .sh (tn f.v), .sh (tn [f.a, f.b, f.c, f.d]), .ow (.lst (([] ++ [(0 : Int)]).map D.int)), .no, .no] s = .ok (f.v.map D.int, none) s := evI_tn (ev_var rfl)
  have e3 : exS q_summed3 [.sh (fmD f), .sh (tn f.v), .sh (tn [f.a, f.b, f.c, f.d]), .ow (.lst (([] ++ [(0 : Int)]).map D.int)), .no, .no] s = .nx [.sh (fmD f), .sh (tn f.v), .sh (tn [f.a, f.b, f.c, f.d]), .ow (.lst ((prefs 0 f.v ++ [f.total]).map D.int)), x4, .no] s := by
    have ht : f.total = endS 0 f.v := by rw [endS_isum, Int.zero_add]; rfl
    rw [exS, hi, ht]; exact e
  have e4 : exS q_summed4 [.sh (fmD f), .sh (tn f.v), .sh (tn [f.a, f.b, f.c, f.d]), .ow (.lst ((prefs 0 f.v ++ [f.total]).map D.int)), x4, .no] s = .nx [.sh (fmD f), .sh (tn f.v), .sh (tn [f.a, f.b, f.c, f.d]), .ow (.lst ((prefs 0 f.v ++ [f.total]).map D.int)), x4, .ow (.lst ([0, f.a, f.b, f.c].map D.int))] s := by
    have c3 : slcF (tn [f.a, f.b, f.c, f.d]) none (some 3) = some (.sh (tn [f.a, f.b, f.c])) := rfl
    have l3 := (show Seq (tn [f.a, f.b, f.c]) [f.a, f.b, f.c] from Or.inl rfl).list
    generalize tn [f.a, f.b, f.c, f.d] = Z1 at *
    generalize tn [f.a, f.b, f.c] = Z3 at *
    generalize (prefs 0 f.v ++ [f.total]).map D.int = Z2
    simp [exS, ev, evs, R.bind, lift, Slot.val, Rs.d, Rs.isBo, freeze, partOf, c3, l3, binF, LIM, withV, outOf, assignAll, slotOf]
  have hU := g.sm.b
  have sa := sum_at_run (X := .lst ([0, f.a, f.b, f.c].map D.int)) (a := 0) (b := f.a) (c := f.b) (d := f.c) (m := (f.v.length : Int)) (Or.inr rfl) g.sm (by simp) g.bd.a g.bd.b g.bd.c (by have := g.len; omega) s
  have li := last_idx (prefs 0 f.v) f.total
  have ln := (show Seq (tn f.v) f.v from Or.inl rfl).len
  have e5 : exS q_summed5 [.sh (fmD f), .sh (tn f.v), .sh (tn [f.a, f.b, f.c, f.d]), .ow (.lst ((prefs 0 f.v ++ [f.total]).map D.int)), x4, .ow (.lst ([0, f.a, f.b, f.c].map D.int))] s = .nx [.sh (fmD f), .sh (tn f.v), .sh (tn [f.a, f.b, f.c, f.d]), .ow (.lst ((prefs 0 f.v ++ [f.total]).map D.int)), x4, .ow (.lst ([f.sums.a, f.sums.b, f.sums.c, f.sums.d].map D.int))] s := by
    have st : ∀ y : Int, ([0, f.a, f.b, f.c].map D.int).set 0 (.int y) = [y, f.a, f.b, f.c].map D.int := fun y => rfl
    have ix0 : ixOf ([0, f.a, f.b, f.c].map D.int).length 0 = some 0 := rfl
    have ef : f.sums.a = f.total - Pn 0 f.a f.b f.c f.v.length := rfl
    have eb : f.sums.b = f.a := rfl
    have ec : f.sums.c = f.b := rfl
    have ed : f.sums.d = f.c := rfl
    rw [ef, eb, ec, ed, ← st (f.total - Pn 0 f.a f.b f.c f.v.length)]
    clear ef eb ec ed st
    generalize tn f.v = Z1 at *
    generalize tn [f.a, f.b, f.c, f.d] = Z3
    generalize (prefs 0 f.v ++ [f.total]).map D.int = Z2 at *
    generalize [0, f.a, f.b, f.c].map D.int = Z4 at *
    simp [exS, ev, evs, R.bind, lift, Slot.val, Rs.d, Rs.isBo, Rs.clean, D.imm, freeze, negF, li, ln, callR, sa, binF, withV, ix0]
  have lr := lessened_run (f := f.sums) (X := .lst (f.sums.v.map D.int)) (Y := .lst ([f.sums.a, f.sums.b, f.sums.c, f.sums.d].map D.int)) (Or.inr rfl) (Or.inr rfl) g2 s
  show evFn 6 1 M.summedS _ s = _
  unfold evFn
  rw [if_pos (show [fmD f].length = 1 from rfl), show startE 6 [fmD f] = [.sh (fmD f), .no, .no, .no, .no, .no] from rfl, q_summed_eq, exS_seq e1, exS_seq e2, exS_seq e3, exS_seq e4, exS_seq e5]
  have ci := cut_init (prefs 0 f.v) f.total
  have im := imm_fm f.sums.less
  have vv : f.sums.v = prefs 0 f.v := rfl
  rw [vv] at lr
  generalize [f.sums.a, f.sums.b, f.sums.c, f.sums.d].map D.int = Z5 at *
  generalize (prefs 0 f.v ++ [f.total]).map D.int = Z2 at *
  generalize (prefs 0 f.v).map D.int = Z6 at *
  generalize fmD f.sums.less = Z7 at *
  simp [exS, ev, evs, R.bind, lift, Slot.val, Rs.d, Rs.isBo, Rs.clean, freeze, negF, partOf, slcF, ci, callR, lr, im, withV, endR]
end RS
end
section
set_option autoImplicit false
set_option linter.all false
set_option maxRecDepth 100000
set_option maxHeartbeats 4000000
/-! T_FormF: the formula of rows. -/
namespace RS
def lastI (r : List Int) : Int := r.getLastD 0
def lasts (Rw : List (List Int)) : List Int := Rw.map lastI
def cutR (Rw : List (List Int)) : List (List Int) := Rw.map List.dropLast
def mxN (l : List Int) : Nat := l.foldl (fun m x => max m x.toNat) 0
def mnN : List Int → Nat
  | [] => 0
  | x :: r => (r.foldl min x).toNat
def NOTH : Fm := ⟨[], 0, 0, 0, 0⟩
def restR (Rw : List (List Int)) (gap : Nat) : List (List Int) := leastL (cutR (Rw.filter fun r => decide (lastI r ≤ (gap : Int))))
def formL : Nat → List (List Int) → Fm
  | 0, Rw => if Rw = [] then NOTH else (Fm.mk (List.replicate (mnN (Rw.map fun r => r.getD 0 0)) 0) 1 0 0 0).less
  | z + 1, Rw => if Rw = [] then NOTH else (List.range (mxN (lasts Rw))).foldl (fun F gap => (F.plus ((formL z (restR Rw gap)).later (gap + 1)).less 1).less) (((formL z (leastL (cutR Rw))).sums.less.later (mxN (lasts Rw))).less)
theorem fold_mx : ∀ (l : List Int) (a : Int), 0 ≤ a → (∀ x ∈ l, 0 ≤ x) → l.foldl max a = ((l.foldl (fun m x => max m x.toNat) a.toNat : Nat) : Int)
  | [], a, h, _ => by simp; omega
  | x :: l, a, h, hl => by
    have hx := hl x List.mem_cons_self
    rw [List.foldl_cons, List.foldl_cons, fold_mx l (max a x) (by omega) fun y hy => hl y (List.mem_cons_of_mem _ hy), show (max a x).toNat = max a.toNat x.toNat by omega]
theorem mx_max : ∀ {l : List Int}, l ≠ [] → (∀ x ∈ l, 0 ≤ x) → maxI l = some (mxN l : Int)
  | [], h, _ => absurd rfl h
  | x :: l, _, hl => by
    have hx := hl x List.mem_cons_self
    rw [maxI, fold_mx l x hx fun y hy => hl y (List.mem_cons_of_mem _ hy), mxN, List.foldl_cons, Nat.zero_max]
theorem fold_mn : ∀ (l : List Int) (a : Int), 0 ≤ a → (∀ x ∈ l, 0 ≤ x) → 0 ≤ l.foldl min a ∧ l.foldl min a ≤ a
  | [], a, h, _ => ⟨h, Int.le_refl _⟩
  | x :: l, a, h, hl => by
    have hx := hl x List.mem_cons_self
    have := fold_mn l (min a x) (by omega) fun y hy => hl y (List.mem_cons_of_mem _ hy)
    rw [List.foldl_cons]; omega
theorem mn_min : ∀ {l : List Int}, l ≠ [] → (∀ x ∈ l, 0 ≤ x) → minI l = some (mnN l : Int)
  | [], h, _ => absurd rfl h
  | x :: l, _, hl => by
    have := fold_mn l x (hl x List.mem_cons_self) fun y hy => hl y (List.mem_cons_of_mem _ hy)
    rw [minI, mnN]
    congr 1; omega
theorem mn_le : ∀ {l : List Int} {m : Nat}, (∀ x ∈ l, 0 ≤ x ∧ x ≤ m) → mnN l ≤ m
  | [], _, _ => Nat.zero_le _
  | x :: l, m, h => by
    have := fold_mn l x (h x List.mem_cons_self).1 fun y hy => (h y (List.mem_cons_of_mem _ hy)).1
    have := (h x List.mem_cons_self).2
    rw [mnN]; omega
theorem mx_le {m : Nat} : ∀ (l : List Int) (a : Nat), a ≤ m → (∀ x ∈ l, x ≤ m) → l.foldl (fun m x => max m x.toNat) a ≤ m
  | [], _, h, _ => h
  | x :: l, a, h, hl => by
    have := hl x List.mem_cons_self
    exact mx_le l _ (by show max a x.toNat ≤ m; omega) fun y hy => hl y (List.mem_cons_of_mem _ hy)
theorem mx_ge : ∀ (l : List Int) (a : Nat), a ≤ l.foldl (fun m x => max m x.toNat) a ∧ ∀ x ∈ l, x ≤ (l.foldl (fun m x => max m x.toNat) a : Nat)
  | [], a => ⟨Nat.le_refl _, by simp⟩
  | y :: l, a => by
    obtain ⟨h1, h2⟩ := mx_ge l (max a y.toNat)
    rw [List.foldl_cons]
    refine ⟨by omega, fun x hx => ?_⟩
    rcases List.mem_cons.mp hx with w | w
    · rw [w]; omega
    · exact h2 x w
theorem row_split {z : Nat} {r : List Int} (h : RowOk (z + 1) r) : r = r.dropLast ++ [lastI r] ∧ RowOk z r.dropLast ∧ 0 ≤ lastI r ∧ lastI r ≤ 12 := by
  have hne : r ≠ [] := fun e => by have := h.len; rw [e] at this; cases this
  have e : r = r.dropLast ++ [lastI r] := by
    unfold lastI
    rw [List.getLastD_eq_getLast?, List.getLast?_eq_some_getLast hne]
    exact (List.dropLast_concat_getLast hne).symm
  have hm : lastI r ∈ r := by rw [e]; simp [lastI]
  exact ⟨e, ⟨by rw [List.length_dropLast, h.len]; omega, fun x hx => h.gap x ((List.dropLast_sublist r).subset hx)⟩, (h.gap _ hm).1, (h.gap _ hm).2⟩
theorem cut_ok {z : Nat} {Rw : List (List Int)} (h : ∀ r ∈ Rw, RowOk (z + 1) r) : ∀ r ∈ cutR Rw, RowOk z r := fun r hr => by
  obtain ⟨q, hq, rfl⟩ := List.mem_map.mp hr
  exact (row_split (h q hq)).2.1
theorem RowOk.ent {z : Nat} {r : List Int} (h : RowOk z r) : Ent (z + 1) r := ⟨h.len, fun x hx => by have := h.gap x hx; omega⟩
theorem least_ok {z : Nat} {Rw : List (List Int)} (h : ∀ r ∈ Rw, RowOk z r) : ∀ r ∈ leastL Rw, RowOk z r := fun r hr => h r ((least_mem fun q hq => (h q hq).ent).mp hr).1
theorem least_len (Rw : List (List Int)) : (leastL Rw).length ≤ Rw.length := Nat.le_trans (List.length_filter_le _ _) (sort_len Rw)
theorem rest_ok {z : Nat} {Rw : List (List Int)} (h : ∀ r ∈ Rw, RowOk (z + 1) r) (gap : Nat) : ∀ r ∈ restR Rw gap, RowOk z r := least_ok (cut_ok fun r hr => h r (List.mem_filter.mp hr).1)
theorem rest_len (Rw : List (List Int)) (gap : Nat) : (restR Rw gap).length ≤ Rw.length := by
  refine Nat.le_trans (least_len _) ?_
  unfold cutR
  rw [List.length_map]
  exact List.length_filter_le _ _
theorem last_le {z : Nat} {Rw : List (List Int)} (h : ∀ r ∈ Rw, RowOk (z + 1) r) : mxN (lasts Rw) ≤ 12 := mx_le _ _ (by decide) fun x hx => by
  obtain ⟨q, hq, rfl⟩ := List.mem_map.mp hx
  have := (row_split (h q hq)).2.2; omega
/-! ### bounds -/
theorem Fm.later_len (f : Fm) (t : Nat) : (f.later t).v.length = t + f.v.length := by simp [Fm.later]
theorem Fm.plus_len (f g : Fm) (k : Int) : (f.plus g k).v.length = max f.v.length g.v.length := by simp [Fm.plus]
theorem Fm.sums_len (f : Fm) : f.sums.v.length = f.v.length := prefs_len _ _
/-- small, with bound 2 ^ e and at most m values -/
structure Fm.Tame (f : Fm) (e m : Nat) : Prop where
  bd : f.Bd (2 ^ e)
  len : f.v.length ≤ m
theorem Fm.Tame.go {f : Fm} {e m : Nat} (h : f.Tame e m) (he : e ≤ 900) (hm : m ≤ 64) : f.Go (2 ^ e) 64 := by
  refine ⟨h.bd, ⟨Nat.one_le_two_pow, by decide, ?_⟩, Nat.le_trans h.len hm, by have := h.len; omega⟩
  have h1 : 2 ^ e ≤ 2 ^ 900 := Nat.pow_le_pow_right (by decide) he
  have h2 : 4 * (2 ^ e * (64 * 64 * 64)) ≤ 4 * (2 ^ 900 * (64 * 64 * 64)) := Nat.mul_le_mul_left _ (Nat.mul_le_mul_right _ h1)
  refine Nat.lt_of_le_of_lt h2 ?_
  unfold HUGE
  decide +kernel
theorem Fm.Tame.mono {f : Fm} {e m e' m' : Nat} (h : f.Tame e m) (he : e ≤ e') (hm : m ≤ m') : f.Tame e' m' := ⟨h.bd.mono (Nat.pow_le_pow_right (by decide) he), Nat.le_trans h.len hm⟩
theorem Fm.Tame.less {f : Fm} {e m : Nat} (h : f.Tame e m) : f.less.Tame e m := ⟨h.bd.less, Nat.le_trans f.less_le h.len⟩
theorem Fm.Tame.later {f : Fm} {e m t : Nat} (h : f.Tame e m) (ht : t ≤ 12) : (f.later t).Tame (e + 17) (t + m) := by
  refine ⟨(h.bd.later (by omega)).mono ?_, by rw [f.later_len]; have := h.len; omega⟩
  rw [Nat.pow_add, Nat.mul_comm]; exact Nat.le_refl _
theorem Fm.Tame.sums {f : Fm} {e m : Nat} (h : f.Tame e m) (hm : m ≤ 64) : f.sums.Tame (e + 21) m := by
  refine ⟨(h.bd.sums (Nat.le_trans h.len hm)).mono ?_, by rw [f.sums_len]; exact h.len⟩
  rw [Nat.pow_add, Nat.mul_comm]; exact Nat.le_refl _
theorem Fm.Tame.plus {f g : Fm} {e m : Nat} {k : Int} (hk : k = 1 ∨ k = -1) (h : f.Tame e m) (h2 : g.Tame e m) (hm : m ≤ 64) : (f.plus g k).Tame (e + 21) m := by
  refine ⟨(h.bd.plus h2.bd hk (Nat.le_trans h.len hm) (Nat.le_trans h2.len hm)).mono ?_, by rw [f.plus_len]; have := h.len; have := h2.len; omega⟩
  rw [Nat.pow_add]; omega
theorem noth_tame (e m : Nat) : NOTH.Tame e m := ⟨⟨by simp [NOTH], Nat.zero_le _, Nat.zero_le _, Nat.zero_le _, Nat.zero_le _⟩, Nat.zero_le _⟩
theorem noth_nf : NOTH.NF := fun n h => by cases h
theorem fold_tame {G : Nat → Fm} {e m : Nat} (hm : m ≤ 64) : ∀ (L : List Nat) (F : Fm) (j : Nat), F.NF → F.Tame (e + 21 * j) m → (∀ x ∈ L, (G x).Tame e m) →
    (L.foldl (fun F x => (F.plus (G x) 1).less) F).NF ∧ (L.foldl (fun F x => (F.plus (G x) 1).less) F).Tame (e + 21 * (j + L.length)) m
  | [], F, j, h, h2, _ => ⟨h, h2⟩
  | x :: L, F, j, h, h2, hG => by
    rw [List.foldl_cons, List.length_cons, show j + (L.length + 1) = (j + 1) + L.length by omega]
    refine fold_tame hm L _ (j + 1) (Fm.less_nf _) ?_ fun y hy => hG y (List.mem_cons_of_mem _ hy)
    exact (Fm.Tame.plus (Or.inl rfl) h2 ((hG x List.mem_cons_self).mono (by omega) (Nat.le_refl _)) hm).less.mono (by omega) (Nat.le_refl _)
theorem form_tame : ∀ (z : Nat) (Rw : List (List Int)), z ≤ 3 → (∀ r ∈ Rw, RowOk z r) → (formL z Rw).NF ∧ (formL z Rw).Tame (300 * z) (12 * (z + 1))
  | 0, Rw, _, h => by
    rw [formL]
    split
    · exact ⟨noth_nf, noth_tame _ _⟩
    · have i1 : (1 : Int).natAbs ≤ 2 ^ (300 * 0) := by decide
      have i0 : (0 : Int).natAbs ≤ 2 ^ (300 * 0) := by decide
      refine ⟨Fm.less_nf _, Fm.Tame.less ⟨⟨fun x hx => ?_, i1, i0, i0, i0⟩, ?_⟩⟩
      · rw [(List.mem_replicate.mp hx).2]; decide
      · show (List.replicate _ (0 : Int)).length ≤ _
        rw [List.length_replicate]
        refine mn_le fun x hx => ?_
        obtain ⟨q, hq, rfl⟩ := List.mem_map.mp hx
        have hr := h q hq
        have hl := hr.len
        match q, hl with
        | [y], _ => have := hr.gap y List.mem_cons_self; simpa using this
  | z + 1, Rw, hz, h => by
    rw [formL]
    split
    · exact ⟨noth_nf, noth_tame _ _⟩
    · have hlast := last_le h
      obtain ⟨a, b⟩ := form_tame z (leastL (cutR Rw)) (by omega) (least_ok (cut_ok h))
      have t0 : (((formL z (leastL (cutR Rw))).sums.less.later (mxN (lasts Rw))).less).Tame (300 * z + 38) (12 * (z + 2)) := ((b.sums (by omega)).less.later hlast).less.mono (by omega) (by omega)
      have hG : ∀ gap ∈ List.range (mxN (lasts Rw)), (((formL z (restR Rw gap)).later (gap + 1)).less).Tame (300 * z + 38) (12 * (z + 2)) := fun gap hg => by
        have hg := List.mem_range.mp hg
        obtain ⟨_, b⟩ := form_tame z (restR Rw gap) (by omega) (rest_ok h gap)
        exact (b.later (t := gap + 1) (by omega)).less.mono (by omega) (by omega)
      obtain ⟨p, q⟩ := fold_tame (G := fun gap => ((formL z (restR Rw gap)).later (gap + 1)).less) (by omega) (List.range (mxN (lasts Rw))) _ 0 (Fm.less_nf _) t0 hG
      exact ⟨p, q.mono (by rw [List.length_range]; omega) (Nat.le_refl _)⟩
end RS
end
section
set_option autoImplicit false
set_option linter.all false
set_option maxRecDepth 100000
set_option maxHeartbeats 4000000
/-! T_FormG: the formula of rows, run. -/
namespace RS
abbrev q_formula_so1 (me : Fn) : S := (.ife (.cmp .eq (.prim .len (.cons (.var 0) .nil)) (.con (.int 0))) (.seq (.ret (.glob "NOTHING" (.tup [(.tup []), (.tup [(.int 0), (.int 0), (.int 0), (.int 0)])]))) .skip) .skip)
abbrev q_formula_so2 (me : Fn) : S := (.ife (.cmp .eq (.var 1) (.con (.int 0))) (.seq (.asgS 2 (.prim .min (.cons (.comp [3] (.nm 3) (.itE (.var 0)) .omit (.idx (.var 3) (.con (.int 0)))) .nil))) (.seq (.ret (.call "lessened" M.lessened (.cons (.bin .mul (.lst (.cons (.con (.int 0)) .nil)) (.var 2)) (.cons (.lst (.cons (.con (.int 1)) (.cons (.con (.int 0)) (.cons (.con (.int 0)) (.cons (.con (.int 0)) .nil))))) .nil)))) .skip)) .skip)
abbrev q_formula_so3 (me : Fn) : S := (.asgS 4 (.prim .max (.cons (.comp [3] (.nm 3) (.itE (.var 0)) .omit (.idx (.var 3) (.neg (.con (.int 1))))) .nil)))
abbrev q_formula_so4 (me : Fn) : S := (.asgS 5 (.call "shifted" M.shifted (.cons (.call "summed" M.summed (.cons (.call "formula_so" me (.cons (.call "least_so" M.least_so (.cons (.comp [3] (.nm 3) (.itE (.var 0)) .omit (.slc (.var 3) .omit (.neg (.con (.int 1))))) .nil)) (.cons (.bin .sub (.var 1) (.con (.int 1))) .nil))) .nil)) (.cons (.var 4) .nil))))
abbrev q_formula_so5_1 (me : Fn) : S := (.asgS 7 (.call "least_so" M.least_so (.cons (.comp [3] (.nm 3) (.itE (.var 0)) (.cmp .le (.idx (.var 3) (.neg (.con (.int 1)))) (.var 6)) (.slc (.var 3) .omit (.neg (.con (.int 1))))) .nil)))
abbrev q_formula_so5_2 (me : Fn) : S := (.asgS 5 (.call "plus_formula" M.plus_formula (.cons (.var 5) (.cons (.call "shifted" M.shifted (.cons (.call "formula_so" me (.cons (.var 7) (.cons (.bin .sub (.var 1) (.con (.int 1))) .nil))) (.cons (.bin .add (.var 6) (.con (.int 1))) .nil))) .nil))))
abbrev q_formula_so5B (me : Fn) : S := (.seq (q_formula_so5_1 me) (.seq (q_formula_so5_2 me) .skip))
abbrev q_formula_so5 (me : Fn) : S := (.for (.nm 6) (.itRange (.cons (.var 4) .nil)) (q_formula_so5B me))
abbrev q_formula_so6 (me : Fn) : S := (.ret (.var 5))
abbrev q_formula_soAll (me : Fn) : S := (.seq (q_formula_so1 me) (.seq (q_formula_so2 me) (.seq (q_formula_so3 me) (.seq (q_formula_so4 me) (.seq (q_formula_so5 me) (.seq (q_formula_so6 me) .skip))))))
theorem q_formula_so_eq (me : Fn) : M.formula_soS me = (q_formula_soAll me) := rfl
theorem rows_items (Rw : List (List Int)) : (rowsD Rw).items = some (Rw.map tn) := rfl
theorem fs_len {Rw : List (List Int)} {ρ : Env} {s : OSt} (h0 : ρ.getD 0 .no = .sh (rowsD Rw)) : ev (.cmp .eq (.prim .len (.cons (.var 0) .nil)) (.con (.int 0))) ρ s = .ok (.sh (.bl (decide (Rw = [])))) s := by
  have hv := ev_var (s := s) h0
  have ln : primF .len [rowsD Rw] = some (.sh (.int Rw.length)) := by simp [primF, rowsD, lenF]
  have hd : decide ((Rw.length : Int) = 0) = decide (Rw = []) := by
    rw [decide_eq_decide]
    cases Rw <;> simp
    omega
  rw [← hd, ev, ev, evs, hv, bind_mk, evs, bind_mk, bind_mk]
  simp only [List.map_cons, List.map_nil, Rs.d, ln, lift]
  rw [bind_mk, ev, bind_mk]
  simp only [Rs.d, cmpF, eqF_int, Option.map, lift]
theorem itE_rows {Rw : List (List Int)} {ρ : Env} {s : OSt} (h0 : ρ.getD 0 .no = .sh (rowsD Rw)) : evI (.itE (.var 0)) ρ s = .ok (Rw.map tn, none) s := by
  rw [evI, ev_var h0, bind_mk]; rfl
theorem map_oneD (F : List Int → D) (Rw : List (List Int)) : ((Rw.map tn).filterMap fun d => some (F (getL d))) = Rw.map F := by
  rw [List.filterMap_map, ← filterMap_some]
  congr 1
  funext r
  show some (F (getL (tn r))) = _
  rw [getL_tn]
theorem idx_lastI {r : List Int} (h : r ≠ []) : idxF (tn r) (.int (-1)) = some (.int (lastI r)) := by
  have e : r = r.dropLast ++ [lastI r] := by
    unfold lastI
    rw [List.getLastD_eq_getLast?, List.getLast?_eq_some_getLast h]
    exact (List.dropLast_concat_getLast h).symm
  have := last_idx r.dropLast (lastI r)
  rw [← e] at this
  exact this
theorem slc_cut {r : List Int} (h : r ≠ []) : slcF (tn r) none (some (-1)) = some (.sh (tn r.dropLast)) := by
  have e : r = r.dropLast ++ [lastI r] := by
    unfold lastI
    rw [List.getLastD_eq_getLast?, List.getLast?_eq_some_getLast h]
    exact (List.dropLast_concat_getLast h).symm
  have := cut_init r.dropLast (lastI r)
  rw [← e] at this
  unfold slcF tn
  dsimp only
  rw [this]
theorem max_ints (l : List Int) : primF .max [.lst (l.map D.int)] = (maxI l).map fun n => .sh (.int n) := by
  show maxF [.lst (l.map D.int)] = _
  unfold maxF seqInts
  dsimp only
  rw [intsOf_map]; rfl
theorem min_ints (l : List Int) : primF .min [.lst (l.map D.int)] = (minI l).map fun n => .sh (.int n) := by
  show minF [.lst (l.map D.int)] = _
  unfold minF seqInts
  dsimp only
  rw [intsOf_map]; rfl
theorem formula_zero {me : Fn} {Rw : List (List Int)} {s : OSt} (h : ∀ r ∈ Rw, RowOk 0 r) (hl : Rw.length ≤ 60) : evFn 8 2 (M.formula_soS me) [rowsD Rw, .int (0 : Nat)] s = .ok (.sh (fmD (formL 0 Rw))) s := by
  unfold evFn
  rw [if_pos (show [rowsD Rw, D.int (0 : Nat)].length = 2 from rfl), show startE 8 [rowsD Rw, D.int (0 : Nat)] = [.sh (rowsD Rw), .sh (.int (0 : Nat)), .no, .no, .no, .no, .no, .no] from rfl, q_formula_so_eq]
  have c1 := fs_len (Rw := Rw) (ρ := [.sh (rowsD Rw), .sh (.int (0 : Nat)), .no, .no, .no, .no, .no, .no]) (s := s) rfl
  by_cases hn : Rw = []
  · rw [decide_eq_true hn] at c1
    have e1 : exS (q_formula_so1 me) [.sh (rowsD Rw), .sh (.int (0 : Nat)), .no, .no, .no, .no, .no, .no] s = .rt (.sh (fmD NOTH)) s := by
      rw [exS, c1]; rfl
    rw [exS, e1, formL, if_pos hn]; rfl
  · rw [decide_eq_false hn] at c1
    rw [exS_seq (ife_false c1)]
    have e := ev_comp (vs := [3]) (tg := .nm 3) (cnd := .omit) (elt := .idx (.var 3) (.con (.int 0))) (itE_rows (s := s) (ρ := [.sh (rowsD Rw), .sh (.int (0 : Nat)), .no, .no, .no, .no, .no, .no]) rfl) rfl (fun d => some (.int ((getL d).getD 0 0))) (fun d hd => by
      obtain ⟨q, hq, rfl⟩ := List.mem_map.mp hd
      have ix := (show Seq (tn q) q from Or.inl rfl).idx (n := 0) (by rw [(h q hq).len]; omega)
      rw [getL_tn]
      have ix : idxF (tn q) (.int 0) = some (.int (q.getD 0 0)) := ix
      generalize q.getD 0 0 = w at *
      simp [stepP, bindTg, wipeE, lentE, ev, R.bind, lift, Slot.val, Rs.d, Rs.isBo, ix]) (by rw [List.length_map]; unfold LIM; omega)
    rw [map_oneD (fun q => .int (q.getD 0 0))] at e
    have em : Rw.map (fun q => D.int (q.getD 0 0)) = (Rw.map fun q => q.getD 0 0).map D.int := by rw [List.map_map]; rfl
    rw [em] at e
    have hnn : ∀ x ∈ (Rw.map fun q => q.getD 0 0), 0 ≤ x := fun x hx => by
      obtain ⟨q, hq, rfl⟩ := List.mem_map.mp hx
      have hr := h q hq
      have hl := hr.len
      match q, hl with
      | [y], _ => have := hr.gap y List.mem_cons_self; simpa using this.1
    have mm := min_ints (Rw.map fun q => q.getD 0 0)
    rw [mn_min (by simpa using hn) hnn] at mm
    have hmn : mnN (Rw.map fun q => q.getD 0 0) ≤ 12 := mn_le fun x hx => by
      refine ⟨hnn x hx, ?_⟩
      obtain ⟨q, hq, rfl⟩ := List.mem_map.mp hx
      have hr := h q hq
      have hl := hr.len
      match q, hl with
      | [y], _ => have := hr.gap y List.mem_cons_self; simpa using this.2
    have ft := form_tame 0 Rw (by decide) h
    have ef : formL 0 Rw = (Fm.mk (List.replicate (mnN (Rw.map fun r => r.getD 0 0)) 0) 1 0 0 0).less := by rw [formL, if_neg hn]
    generalize mnN (Rw.map fun q => q.getD 0 0) = w at *
    have i1 : (1 : Int).natAbs ≤ 2 ^ (300 * 0) := by decide
    have i0 : (0 : Int).natAbs ≤ 2 ^ (300 * 0) := by decide
    have tm : (Fm.mk (List.replicate w 0) 1 0 0 0).Tame (300 * 0) 12 := ⟨⟨fun x hx => by rw [(List.mem_replicate.mp hx).2]; decide, i1, i0, i0, i0⟩, by show (List.replicate w (0 : Int)).length ≤ 12; rw [List.length_replicate]; exact hmn⟩
    have lr := lessened_run (f := Fm.mk (List.replicate w 0) 1 0 0 0) (X := .lst ((List.replicate w (0 : Int)).map D.int)) (Y := .lst ([1, 0, 0, 0].map D.int)) (Or.inr rfl) (Or.inr rfl) (tm.go (by decide) (by decide)) s
    rw [← ef] at lr
    have b1 : (0 : Int) ≤ (w : Int) ∧ (w : Int) ≤ 1000 := by omega
    have rp : ∀ n : Nat, (List.replicate n [D.int 0]).flatten = (List.replicate n (0 : Int)).map D.int := fun n => by
      induction n with
      | zero => rfl
      | succ n ih => rw [List.replicate_succ, List.flatten_cons, ih]; rfl
    have e0 : ev (.cmp .eq (.var 1) (.con (.int 0))) [.sh (rowsD Rw), .sh (.int (0 : Nat)), .no, .no, .no, .no, .no, .no] s = .ok (.sh (.bl true)) s := by
      generalize rowsD Rw = Z
      simp [ev, R.bind, lift, Slot.val, Rs.d, cmpF, eqF, D.deep, D.eqv]
    have e2 : exS (.asgS 2 (.prim .min (.cons (.comp [3] (.nm 3) (.itE (.var 0)) .omit (.idx (.var 3) (.con (.int 0)))) .nil))) [.sh (rowsD Rw), .sh (.int (0 : Nat)), .no, .no, .no, .no, .no, .no] s = .nx [.sh (rowsD Rw), .sh (.int (0 : Nat)), .sh (.int w), .no, .no, .no, .no, .no] s := by
      rw [exS, ev, evs, e, bind_mk, evs, bind_mk, bind_mk]
      simp only [List.map_cons, List.map_nil, Rs.d]
      rw [mm]
      simp [lift, withV, Rs.isBo, Rs.d, outOf, assignAll, slotOf]
    rw [exS, q_formula_so2, exS, e0]
    simp only [withV]
    rw [exS_seq e2]
    have e3 : ev (.bin .mul (.lst (.cons (.con (.int 0)) .nil)) (.var 2)) [.sh (rowsD Rw), .sh (.int (0 : Nat)), .sh (.int w), .no, .no, .no, .no, .no] s = .ok (.fr (.lst ((List.replicate w (0 : Int)).map D.int))) s := by
      rw [← rp]
      generalize rowsD Rw = Z
      simp [ev, evs, R.bind, lift, Slot.val, Rs.d, freeze, Rs.isBo, binF, b1]
    have e4 : ev (.lst (.cons (.con (.int 1)) (.cons (.con (.int 0)) (.cons (.con (.int 0)) (.cons (.con (.int 0)) .nil))))) [.sh (rowsD Rw), .sh (.int (0 : Nat)), .sh (.int w), .no, .no, .no, .no, .no] s = .ok (.fr (.lst ([1, 0, 0, 0].map D.int))) s := by
      generalize rowsD Rw = Z
      simp [ev, evs, R.bind, lift, Slot.val, Rs.d, freeze, Rs.isBo]
    rw [exS, exS, ev, evs, e3, bind_mk, evs, e4, bind_mk, evs, bind_mk, bind_mk, bind_mk]
    unfold callR
    rw [show [Rs.fr (.lst ((List.replicate w (0 : Int)).map D.int)), Rs.fr (.lst ([1, 0, 0, 0].map D.int))].map Rs.d = [.lst ((List.replicate w (0 : Int)).map D.int), .lst ([1, 0, 0, 0].map D.int)] from rfl, lr]
    rfl
theorem cmp_le_row {r : List Int} {gap : Nat} (h : r ≠ []) : ∀ (ρ : Env) (s : OSt), ρ.getD 3 .no = .sh (tn r) → ρ.getD 6 .no = .sh (.int gap) → ev (.cmp .le (.idx (.var 3) (.neg (.con (.int 1)))) (.var 6)) ρ s = .ok (.sh (.bl (decide (lastI r ≤ (gap : Int))))) s := fun ρ s h3 h6 => by
  have ix := idx_lastI h
  have hn : ev (.neg (.con (.int 1))) ρ s = .ok (.sh (.int (-1))) s := by simp [ev, R.bind, Rs.d, negF, lift]
  rw [ev, ev, ev_var h3, bind_mk, hn, bind_mk]
  simp only [Rs.d, ix, Option.map, lift]
  rw [bind_mk, ev_var h6, bind_mk]
  simp only [Rs.d, cmpF, ordF, bothInt, Option.map, lift]
theorem ev_cut_row {r : List Int} (h : r ≠ []) : ∀ (ρ : Env) (s : OSt), ρ.getD 3 .no = .sh (tn r) → ev (.slc (.var 3) .omit (.neg (.con (.int 1)))) ρ s = .ok (.sh (tn r.dropLast)) s := fun ρ s h3 => by
  have sl := slc_cut h
  have hn : ev (.neg (.con (.int 1))) ρ s = .ok (.sh (.int (-1))) s := by simp [ev, R.bind, Rs.d, negF, lift]
  rw [ev, ev_var h3, bind_mk, ev, bind_mk, hn, bind_mk]
  simp only [partOf, Rs.d, sl, lift]
theorem row_ne {z : Nat} {r : List Int} (h : RowOk z r) : r ≠ [] := fun e => by have := h.len; rw [e] at this; cases this
theorem filt_cut (gap : Nat) : ∀ Rw : List (List Int), ((Rw.map tn).filterMap fun d => if decide (lastI (getL d) ≤ (gap : Int)) = true then some (tn (getL d).dropLast) else none) = (cutR (Rw.filter fun r => decide (lastI r ≤ (gap : Int)))).map tn
  | [] => rfl
  | r :: Rw => by
    rw [List.map_cons, List.filterMap_cons, getL_tn, List.filter_cons]
    split
    · rename_i e
      split at e
      · cases e
      · rename_i e2
        rw [if_neg e2]; exact filt_cut gap Rw
    · rename_i e
      split at e
      · rename_i e2
        cases e
        rw [if_pos e2, filt_cut gap Rw]; rfl
      · cases e
abbrev fEnv (Rw : List (List Int)) (z : Nat) (last : Nat) (F : Fm) (x6 x7 : Slot) : Env := [.sh (rowsD Rw), .sh (.int (z + 1 : Nat)), .no, .no, .sh (.int last), .sh (fmD F), x6, x7]
theorem formula_turn {me : Fn} {z last gap : Nat} {Rw : List (List Int)} {F : Fm} {x7 : Slot} {s : OSt} (hz : z ≤ 2) (h : ∀ r ∈ Rw, RowOk (z + 1) r) (hl : Rw.length ≤ 60) (ih : ∀ Rw', (∀ r ∈ Rw', RowOk z r) → Rw'.length ≤ 60 → me [rowsD Rw', .int z] s = .ok (.sh (fmD (formL z Rw'))) s)
    {e : Nat} (he : e + 21 ≤ 900) (he2 : 300 * z + 38 ≤ e) (tF : F.Tame e (12 * (z + 2))) (hg : gap < 12) :
    exS (q_formula_so5B me) (fEnv Rw z last F (.sh (.int gap)) x7) s = .nx (fEnv Rw z last (F.plus ((formL z (restR Rw gap)).later (gap + 1)).less 1).less (.sh (.int gap)) (.sh (rowsD (restR Rw gap)))) s := by
  have ec := ev_comp (vs := [3]) (tg := .nm 3) (cnd := .cmp .le (.idx (.var 3) (.neg (.con (.int 1)))) (.var 6)) (elt := .slc (.var 3) .omit (.neg (.con (.int 1)))) (itE_rows (s := s) (ρ := fEnv Rw z last F (.sh (.int gap)) x7) rfl) rfl (fun d => if decide (lastI (getL d) ≤ (gap : Int)) = true then some (tn (getL d).dropLast) else none) (fun d hd => by
    obtain ⟨q, hq, rfl⟩ := List.mem_map.mp hd
    have hne := row_ne (h q hq)
    rw [getL_tn]
    have bt : bindTg (.nm 3) (tn q) (wipeE (lentE none (fEnv Rw z last F (.sh (.int gap)) x7)) [3]) = some [.sh (rowsD Rw), .sh (.int (z + 1 : Nat)), .no, .sh (tn q), .sh (.int last), .sh (fmD F), .sh (.int gap), x7] := rfl
    unfold stepP
    rw [bt]
    dsimp only
    rw [cmp_le_row hne _ s rfl rfl, bind_mk]
    cases decide (lastI q ≤ (gap : Int)) with
    | false => rfl
    | true =>
      simp only []
      rw [ev_cut_row hne _ s rfl, bind_mk]; rfl) (by rw [List.length_map]; unfold LIM; omega)
  rw [filt_cut] at ec
  have hC : ∀ r ∈ cutR (Rw.filter fun r => decide (lastI r ≤ (gap : Int))), RowOk z r := cut_ok fun r hr => h r (List.mem_filter.mp hr).1
  have hCl : (cutR (Rw.filter fun r => decide (lastI r ≤ (gap : Int)))).length ≤ 60 := by
    unfold cutR
    rw [List.length_map]
    exact Nat.le_trans (List.length_filter_le _ _) hl
  have lr := least_so_runL (fun q hq => (hC q hq).ent) hCl (by omega) s
  have e1 : exS (q_formula_so5_1 me) (fEnv Rw z last F (.sh (.int gap)) x7) s = .nx (fEnv Rw z last F (.sh (.int gap)) (.sh (rowsD (restR Rw gap)))) s := by
    rw [q_formula_so5_1, exS, ev, evs, ec, bind_mk, evs, bind_mk, bind_mk]
    unfold callR
    rw [show ∀ L : List D, [Rs.fr (.lst L)].map Rs.d = [.lst L] from fun L => rfl, lr]
    rfl
  have m1 := ih (restR Rw gap) (rest_ok h gap) (Nat.le_trans (rest_len Rw gap) hl)
  obtain ⟨nf, ft⟩ := form_tame z (restR Rw gap) (by omega) (rest_ok h gap)
  have ftl := ft.later (t := gap + 1) (by omega)
  have s1 := shifted_run (t := gap + 1) (ft.go (by omega) (by omega)) (by omega) (ftl.go (by omega) (by omega)) s
  have g2 : ((formL z (restR Rw gap)).later (gap + 1)).less.Tame e (12 * (z + 2)) := ftl.less.mono (by omega) (by omega)
  have p1 := plus_run (tF.go (by omega) (by omega)) (g2.go (by omega) (by omega)) ((Fm.Tame.plus (Or.inl rfl) tF g2 (by omega)).go (by omega) (by omega)) s
  have e2 : exS (q_formula_so5_2 me) (fEnv Rw z last F (.sh (.int gap)) (.sh (rowsD (restR Rw gap)))) s = .nx (fEnv Rw z last (F.plus ((formL z (restR Rw gap)).later (gap + 1)).less 1).less (.sh (.int gap)) (.sh (rowsD (restR Rw gap)))) s := by
    have z1 : ((z + 1 : Nat) : Int) - 1 = (z : Int) := by omega
    have g1 : (gap : Int) + 1 = ((gap + 1 : Nat) : Int) := by omega
    unfold fEnv
    generalize ((z + 1 : Nat) : Int) = zi at *
    generalize rowsD (restR Rw gap) = RX at *
    generalize rowsD Rw = RW at *
    generalize fmD F = FF at *
    generalize fmD (formL z (restR Rw gap)) = GG at *
    generalize fmD ((formL z (restR Rw gap)).later (gap + 1)).less = HH at *
    generalize fmD (F.plus ((formL z (restR Rw gap)).later (gap + 1)).less 1).less = KK at *
    generalize ((gap + 1 : Nat) : Int) = gi at *
    simp [q_formula_so5_2, exS, ev, evs, R.bind, lift, Slot.val, Rs.d, freeze, Rs.isBo, callR, binF, z1, g1, m1, s1, p1, withV, outOf, assignAll, slotOf]
  rw [q_formula_so5B, exS_seq e1, exS_seq e2, exS]
theorem formula_for {me : Fn} {z last : Nat} {Rw : List (List Int)} {s : OSt} (hz : z ≤ 2) (h : ∀ r ∈ Rw, RowOk (z + 1) r) (hl : Rw.length ≤ 60) (ih : ∀ Rw', (∀ r ∈ Rw', RowOk z r) → Rw'.length ≤ 60 → me [rowsD Rw', .int z] s = .ok (.sh (fmD (formL z Rw'))) s) :
    ∀ (L : List Nat) (F : Fm) (j : Nat) (x6 x7 : Slot), j + L.length ≤ 12 → F.Tame (300 * z + 38 + 21 * j) (12 * (z + 2)) → (∀ g ∈ L, g < 12) →
    ∃ x6' x7', forL (fun d ρ s => match bindTg (.nm 6) d ρ with | some ρ1 => exS (q_formula_so5B me) ρ1 s | none => .no) (L.map fun n => D.int (n : Nat)) (fEnv Rw z last F x6 x7) s =
      .nx (fEnv Rw z last (L.foldl (fun F gap => (F.plus ((formL z (restR Rw gap)).later (gap + 1)).less 1).less) F) x6' x7') s
  | [], F, j, x6, x7, _, _, _ => ⟨x6, x7, by simp [forL]⟩
  | g :: L, F, j, x6, x7, hj, tF, hg => by
    rw [List.length_cons] at hj
    have hg1 := hg g List.mem_cons_self
    have e := formula_turn (last := last) (gap := g) (x7 := x7) (s := s) hz h hl ih (e := 300 * z + 38 + 21 * j) (by omega) (by omega) tF hg1
    obtain ⟨nf, ft⟩ := form_tame z (restR Rw g) (by omega) (rest_ok h g)
    have g2 : ((formL z (restR Rw g)).later (g + 1)).less.Tame (300 * z + 38 + 21 * j) (12 * (z + 2)) := (ft.later (t := g + 1) (by omega)).less.mono (by omega) (by omega)
    have t2 : (F.plus ((formL z (restR Rw g)).later (g + 1)).less 1).less.Tame (300 * z + 38 + 21 * (j + 1)) (12 * (z + 2)) := (Fm.Tame.plus (Or.inl rfl) tF g2 (by omega)).less.mono (by omega) (Nat.le_refl _)
    obtain ⟨a, b, ihL⟩ := formula_for (last := last) (s := s) hz h hl ih L _ (j + 1) (.sh (.int g)) (.sh (rowsD (restR Rw g))) (by omega) t2 fun q hq => hg q (List.mem_cons_of_mem _ hq)
    refine ⟨a, b, ?_⟩
    rw [List.map_cons, forL]
    show (match exS (q_formula_so5B me) (fEnv Rw z last F (.sh (.int g)) x7) s with
      | .nx ρ1 s1 => forL _ _ ρ1 s1 | .ct ρ1 s1 => forL _ _ ρ1 s1 | .bk ρ1 s1 => .nx ρ1 s1 | .rt r s1 => .rt r s1 | .exc c d s1 => .exc c d s1 | .no => .no) = _
    rw [e]
    simp only []
    rw [ihL, List.foldl_cons]
theorem formula_succ {me : Fn} {z : Nat} {Rw : List (List Int)} {s : OSt} (hz : z ≤ 2) (h : ∀ r ∈ Rw, RowOk (z + 1) r) (hl : Rw.length ≤ 60) (ih : ∀ Rw', (∀ r ∈ Rw', RowOk z r) → Rw'.length ≤ 60 → me [rowsD Rw', .int z] s = .ok (.sh (fmD (formL z Rw'))) s) :
    evFn 8 2 (M.formula_soS me) [rowsD Rw, .int (z + 1 : Nat)] s = .ok (.sh (fmD (formL (z + 1) Rw))) s := by
  unfold evFn
  rw [if_pos (show [rowsD Rw, D.int (z + 1 : Nat)].length = 2 from rfl), show startE 8 [rowsD Rw, D.int (z + 1 : Nat)] = [.sh (rowsD Rw), .sh (.int (z + 1 : Nat)), .no, .no, .no, .no, .no, .no] from rfl, q_formula_so_eq]
  have c1 := fs_len (Rw := Rw) (ρ := [.sh (rowsD Rw), .sh (.int (z + 1 : Nat)), .no, .no, .no, .no, .no, .no]) (s := s) rfl
  by_cases hn : Rw = []
  · rw [decide_eq_true hn] at c1
    have e1 : exS (q_formula_so1 me) [.sh (rowsD Rw), .sh (.int (z + 1 : Nat)), .no, .no, .no, .no, .no, .no] s = .rt (.sh (fmD NOTH)) s := by
      rw [exS, c1]; rfl
    rw [exS, e1, formL, if_pos hn]; rfl
  · rw [decide_eq_false hn] at c1
    rw [exS_seq (ife_false c1)]
    have c2 : ev (.cmp .eq (.var 1) (.con (.int 0))) [.sh (rowsD Rw), .sh (.int (z + 1 : Nat)), .no, .no, .no, .no, .no, .no] s = .ok (.sh (.bl false)) s := by
      rw [ev, ev_var (d := .int (z + 1 : Nat)) rfl, bind_mk, ev, bind_mk]
      simp only [Rs.d, cmpF, eqF_int, Option.map, lift]
      rw [decide_eq_false (by omega)]
    rw [exS_seq (ife_false c2)]
    have hne : ∀ q ∈ Rw, q ≠ [] := fun q hq => row_ne (h q hq)
    have e := ev_comp (vs := [3]) (tg := .nm 3) (cnd := .omit) (elt := .idx (.var 3) (.neg (.con (.int 1)))) (itE_rows (s := s) (ρ := [.sh (rowsD Rw), .sh (.int (z + 1 : Nat)), .no, .no, .no, .no, .no, .no]) rfl) rfl (fun d => some (.int (lastI (getL d)))) (fun d hd => by
      obtain ⟨q, hq, rfl⟩ := List.mem_map.mp hd
      have ix := idx_lastI (hne q hq)
      rw [getL_tn]
      generalize lastI q = w at *
      generalize tn q = Z at *
      simp [stepP, bindTg, wipeE, lentE, ev, R.bind, lift, Slot.val, Rs.d, Rs.isBo, negF, ix]) (by rw [List.length_map]; unfold LIM; omega)
    rw [map_oneD (fun q => .int (lastI q))] at e
    have em : Rw.map (fun q => D.int (lastI q)) = (lasts Rw).map D.int := by unfold lasts; rw [List.map_map]; rfl
    rw [em] at e
    have hnn : ∀ x ∈ lasts Rw, 0 ≤ x := fun x hx => by
      obtain ⟨q, hq, rfl⟩ := List.mem_map.mp hx
      exact (row_split (h q hq)).2.2.1
    have mm := max_ints (lasts Rw)
    rw [mx_max (by unfold lasts; simpa using hn) hnn] at mm
    have hlast := last_le h
    have ef : formL (z + 1) Rw = (List.range (mxN (lasts Rw))).foldl (fun F gap => (F.plus ((formL z (restR Rw gap)).later (gap + 1)).less 1).less) (((formL z (leastL (cutR Rw))).sums.less.later (mxN (lasts Rw))).less) := by rw [formL, if_neg hn]
    rw [ef]
    generalize mxN (lasts Rw) = last at *
    have e3 : exS (q_formula_so3 me) [.sh (rowsD Rw), .sh (.int (z + 1 : Nat)), .no, .no, .no, .no, .no, .no] s = .nx [.sh (rowsD Rw), .sh (.int (z + 1 : Nat)), .no, .no, .sh (.int last), .no, .no, .no] s := by
      rw [q_formula_so3, exS, ev, evs, e, bind_mk, evs, bind_mk, bind_mk]
      simp only [List.map_cons, List.map_nil, Rs.d]
      rw [mm]
      simp [lift, withV, Rs.isBo, Rs.d, outOf, assignAll, slotOf]
    rw [exS_seq e3]
    have ec := ev_comp (vs := [3]) (tg := .nm 3) (cnd := .omit) (elt := .slc (.var 3) .omit (.neg (.con (.int 1)))) (itE_rows (s := s) (ρ := [.sh (rowsD Rw), .sh (.int (z + 1 : Nat)), .no, .no, .sh (.int last), .no, .no, .no]) rfl) rfl (fun d => some (tn (getL d).dropLast)) (fun d hd => by
      obtain ⟨q, hq, rfl⟩ := List.mem_map.mp hd
      rw [getL_tn]
      have bt : bindTg (.nm 3) (tn q) (wipeE (lentE none [.sh (rowsD Rw), .sh (.int (z + 1 : Nat)), .no, .no, .sh (.int last), .no, .no, .no]) [3]) = some [.sh (rowsD Rw), .sh (.int (z + 1 : Nat)), .no, .sh (tn q), .sh (.int last), .no, .no, .no] := rfl
      unfold stepP
      rw [bt]
      dsimp only
      rw [show ∀ ρ : Env, ev .omit ρ s = .ok (.sh (.bl true)) s from fun ρ => by simp [ev], bind_mk]
      dsimp only
      rw [ev_cut_row (hne q hq) _ s rfl, bind_mk]; rfl) (by rw [List.length_map]; unfold LIM; omega)
    rw [map_oneD (fun q => tn q.dropLast)] at ec
    have em2 : Rw.map (fun q => tn q.dropLast) = (cutR Rw).map tn := by unfold cutR; rw [List.map_map]; rfl
    rw [em2] at ec
    have hC := cut_ok h
    have hCl : (cutR Rw).length ≤ 60 := by unfold cutR; rw [List.length_map]; exact hl
    have lr := least_so_runL (fun q hq => (hC q hq).ent) hCl (by omega) s
    have m1 := ih (leastL (cutR Rw)) (least_ok hC) (Nat.le_trans (least_len _) hCl)
    obtain ⟨nf, ft⟩ := form_tame z (leastL (cutR Rw)) (by omega) (least_ok hC)
    have fs := ft.sums (by omega)
    have sr := summed_run (ft.go (by omega) (by omega)) (fs.go (by omega) (by omega)) s
    have fl := fs.less.later (t := last) hlast
    have s1 := shifted_run (t := last) (fs.less.go (by omega) (by omega)) (by omega) (fl.go (by omega) (by omega)) s
    have e4 : exS (q_formula_so4 me) [.sh (rowsD Rw), .sh (.int (z + 1 : Nat)), .no, .no, .sh (.int last), .no, .no, .no] s = .nx (fEnv Rw z last (((formL z (leastL (cutR Rw))).sums.less.later last).less) .no .no) s := by
      have z1 : ev (.bin .sub (.var 1) (.con (.int 1))) [.sh (rowsD Rw), .sh (.int (z + 1 : Nat)), .no, .no, .sh (.int last), .no, .no, .no] s = .ok (.sh (.int z)) s := by
        have : ((z + 1 : Nat) : Int) - 1 = (z : Int) := by omega
        rw [ev, ev_var (d := .int (z + 1 : Nat)) rfl, bind_mk, ev, bind_mk]
        simp only [Rs.d, binF, this, lift]
      have l1 : ev (.call "least_so" M.least_so (.cons (.comp [3] (.nm 3) (.itE (.var 0)) .omit (.slc (.var 3) .omit (.neg (.con (.int 1))))) .nil)) [.sh (rowsD Rw), .sh (.int (z + 1 : Nat)), .no, .no, .sh (.int last), .no, .no, .no] s = .ok (.sh (rowsD (leastL (cutR Rw)))) s := by
        rw [ev, evs, ec, bind_mk, evs, bind_mk, bind_mk]
        unfold callR
        rw [show ∀ L : List D, [Rs.fr (.lst L)].map Rs.d = [.lst L] from fun L => rfl, lr]
        rfl
      have l2 : ev (.call "formula_so" me (.cons (.call "least_so" M.least_so (.cons (.comp [3] (.nm 3) (.itE (.var 0)) .omit (.slc (.var 3) .omit (.neg (.con (.int 1))))) .nil)) (.cons (.bin .sub (.var 1) (.con (.int 1))) .nil))) [.sh (rowsD Rw), .sh (.int (z + 1 : Nat)), .no, .no, .sh (.int last), .no, .no, .no] s = .ok (.sh (fmD (formL z (leastL (cutR Rw))))) s := by
        rw [ev, evs, l1, bind_mk, evs, z1, bind_mk, evs, bind_mk, bind_mk, bind_mk]
        unfold callR
        rw [show [Rs.sh (rowsD (leastL (cutR Rw))), Rs.sh (.int z)].map Rs.d = [rowsD (leastL (cutR Rw)), .int z] from rfl, m1]
        rfl
      rw [q_formula_so4, exS, ev, evs, ev, evs, l2, bind_mk, evs, bind_mk, bind_mk]
      unfold callR
      rw [show [Rs.sh (fmD (formL z (leastL (cutR Rw))))].map Rs.d = [fmD (formL z (leastL (cutR Rw)))] from rfl, sr]
      show withV (R.bind (R.bind (R.ok (Rs.sh (fmD (formL z (leastL (cutR Rw))).sums.less)) s) _) _) _ = _
      rw [bind_mk, evs, ev_var (d := .int last) rfl, bind_mk, evs, bind_mk, bind_mk, bind_mk]
      rw [show [Rs.sh (fmD (formL z (leastL (cutR Rw))).sums.less), Rs.sh (.int last)].map Rs.d = [fmD (formL z (leastL (cutR Rw))).sums.less, .int last] from rfl, s1]
      rfl
    rw [exS_seq e4]
    have hi : evI (.itRange (.cons (.var 4) .nil)) (fEnv Rw z last (((formL z (leastL (cutR Rw))).sums.less.later last).less) .no .no) s = .ok ((List.range last).map fun n => D.int (n : Nat), none) s := by
      have b2 := rangeF_one (a := (last : Int)) (by omega)
      rw [Int.toNat_natCast] at b2
      have e0 : fromInts 0 last = (List.range last).map fun n => D.int (n : Nat) := by
        unfold fromInts
        congr 1
        funext n
        rw [Int.zero_add]
      rw [← e0]
      refine evI_range (rs := [.sh (.int last)]) ?_ b2
      rw [evs, ev_var (d := .int last) rfl, bind_mk, evs, bind_mk]
    obtain ⟨a, b, lp⟩ := formula_for (last := last) (s := s) (by omega) h hl ih (List.range last) _ 0 .no .no (by rw [List.length_range]; omega) (fl.less.mono (by omega) (by omega)) fun g hg => by
      have := List.mem_range.mp hg; omega
    have e5 : exS (q_formula_so5 me) (fEnv Rw z last (((formL z (leastL (cutR Rw))).sums.less.later last).less) .no .no) s = .nx (fEnv Rw z last ((List.range last).foldl (fun F gap => (F.plus ((formL z (restR Rw gap)).later (gap + 1)).less 1).less) (((formL z (leastL (cutR Rw))).sums.less.later last).less)) a b) s := by
      rw [q_formula_so5, exS, hi]; exact lp
    rw [exS_seq e5, exS, q_formula_so6, exS, ev_var (d := fmD ((List.range last).foldl (fun F gap => (F.plus ((formL z (restR Rw gap)).later (gap + 1)).less 1).less) (((formL z (leastL (cutR Rw))).sums.less.later last).less))) rfl]
    rfl
theorem formula_run : ∀ (z k : Nat) (Rw : List (List Int)) (s : OSt), z ≤ 3 → z < k → (∀ r ∈ Rw, RowOk z r) → Rw.length ≤ 60 → M.formula_so_ k [rowsD Rw, .int z] s = .ok (.sh (fmD (formL z Rw))) s
  | 0, k + 1, Rw, s, _, _, h, hl => formula_zero h hl
  | z + 1, k + 1, Rw, s, hz, hk, h, hl => formula_succ (by omega) h hl fun Rw' h' hl' => formula_run z k Rw' s (by omega) (by omega) h' hl'
end RS
end
section
set_option autoImplicit false
set_option linter.all false
set_option maxRecDepth 100000
set_option maxHeartbeats 4000000
/-! T_FormH: what the law tells by a formula. -/
namespace RS
theorem over_eq : M.Llaw_over_lots = M.sets_over := rfl
theorem told_by_run {f : Fm} {B U n : Nat} (hb : f.Bd B) (sm : Sm B U) (hn : n ≤ U) (s : OSt) : M.Llaw_told_by [fmD f, .int n] s = .ok (.sh (.int (f.den n))) s := by
  obtain ⟨s1, s2, s3, s4, s5⟩ := sm.b
  have ln : primF .len [tn f.v] = some (.sh (.int f.v.length)) := (show Seq (tn f.v) f.v from Or.inl rfl).len
  have i0 := fm_i0 f
  show evFn 4 2 M.Llaw_told_byS _ s = _
  unfold evFn M.Llaw_told_byS
  rw [if_pos (show [fmD f, D.int n].length = 2 from rfl), show startE 4 [fmD f, D.int n] = [.sh (fmD f), .sh (.int n), .no, .no] from rfl]
  have c : ev (.cmp .lt (.var 1) (.prim .len (.cons (.idx (.var 0) (.con (.int 0))) .nil))) [.sh (fmD f), .sh (.int n), .no, .no] s = .ok (.sh (.bl (decide (n < f.v.length)))) s := by
    have hd : decide ((n : Int) < (f.v.length : Int)) = decide (n < f.v.length) := by rw [decide_eq_decide]; omega
    rw [← hd]
    generalize fmD f = Z at *
    generalize tn f.v = V at *
    simp [ev, evs, R.bind, lift, Slot.val, Rs.d, i0, ln, cmpF, ordF, bothInt]
  unfold Fm.den
  by_cases h : n < f.v.length
  · have ix := (show Seq (tn f.v) f.v from Or.inl rfl).idx h
    rw [decide_eq_true h] at c
    rw [if_pos h]
    have e1 : ev (.idx (.idx (.var 0) (.con (.int 0))) (.var 1)) [.sh (fmD f), .sh (.int n), .no, .no] s = .ok (.sh (.int (f.v.getD n 0))) s := by
      generalize fmD f = Z at *
      generalize tn f.v = V at *
      generalize f.v.getD n 0 = w at *
      simp [ev, evs, R.bind, lift, Slot.val, Rs.d, i0, ix]
    rw [exS, exS, c]
    simp only [withV]
    rw [exS, exS, e1]
    rfl
  · rw [decide_eq_false h] at c
    rw [if_neg h, exS_seq (ife_false c)]
    have hnU : ((n : Nat) : Int).natAbs ≤ U := by omega
    have so : ∀ k : Nat, k ≤ 3 → M.Llaw_over_lots [.int n, .int (k : Nat)] s = .ok (.sh (.int (ch n k))) s := fun k hk => sets_over_run hnU sm.m1 s4 hk s
    have fc : ∀ k : Nat, k ≤ 3 → fitsI (ch n k) = true := fun k hk => fitsB (Nat.lt_of_le_of_lt (ch_small hnU sm.m1 hk) s4)
    have hi : evI (.itEnum (.idx (.var 0) (.con (.int 1)))) [.sh (fmD f), .sh (.int n), .no, .no] s = .ok ([.tup [.int (0 : Nat), .int f.a], .tup [.int (1 : Nat), .int f.b], .tup [.int (2 : Nat), .int f.c], .tup [.int (3 : Nat), .int f.d]], none) s := by
      rw [evI, ev, ev_var (d := fmD f) rfl, bind_mk, ev, bind_mk]
      rfl
    have st : ∀ (k : Nat) (x : Int), k ≤ 3 → x.natAbs ≤ B → stepP (wipeE (lentE none [.sh (fmD f), .sh (.int n), .no, .no]) [2, 3]) (.tup (.cons (.nm 2) (.cons (.nm 3) .nil))) .omit (.bin .mul (.var 3) (.call "_law_over_lots" M.Llaw_over_lots (.cons (.var 1) (.cons (.var 2) .nil)))) (.tup [.int (k : Nat), .int x]) s = .ok (some (.int (x * ch n k))) s := fun k x hk hx => by
      have fx : fitsI x = true := fitsB (Nat.lt_of_le_of_lt hx s1)
      generalize fmD f = Z at *
      simp [stepP, bindTg, bindTgs, wipeE, lentE, ev, evs, R.bind, lift, Slot.val, Rs.d, Rs.isBo, callR, freeze, so k hk, binF, fx, fc k hk]
    have e := ev_comp (vs := [2, 3]) (tg := .tup (.cons (.nm 2) (.cons (.nm 3) .nil))) (cnd := .omit) (elt := .bin .mul (.var 3) (.call "_law_over_lots" M.Llaw_over_lots (.cons (.var 1) (.cons (.var 2) .nil)))) hi rfl (fun d => match d with | .tup [.int k, .int x] => some (.int (x * ch n k.toNat)) | _ => none) (fun dd hdd => by
      simp only [List.mem_cons, List.not_mem_nil, or_false] at hdd
      rcases hdd with rfl | rfl | rfl | rfl
      · exact st 0 f.a (by decide) hb.a
      · exact st 1 f.b (by decide) hb.b
      · exact st 2 f.c (by decide) hb.c
      · exact st 3 f.d (by decide) hb.d) (by simp [LIM])
    have e2 := sum_ints [f.a * ch n 0, f.b * ch n 1, f.c * ch n 2, f.d * ch n 3]
    have e3 : [f.a * ch n 0, f.b * ch n 1, f.c * ch n 2, f.d * ch n 3].sum = f.P n := by
      unfold Fm.P Pn
      simp only [List.sum_cons, List.sum_nil]
      rw [show ch n 0 = 1 from rfl, ch1]; omega
    rw [e3] at e2
    rw [exS, exS, ev, evs, e, bind_mk, evs, bind_mk, bind_mk]
    have e4 : (List.map Rs.d [Rs.fr (.lst (List.filterMap (fun d => match d with | .tup [.int k, .int x] => some (D.int (x * ch n k.toNat)) | _ => none) [D.tup [.int (0 : Nat), .int f.a], .tup [.int (1 : Nat), .int f.b], .tup [.int (2 : Nat), .int f.c], .tup [.int (3 : Nat), .int f.d]]))]) = [.lst ([f.a * ch n 0, f.b * ch n 1, f.c * ch n 2, f.d * ch n 3].map D.int)] := rfl
    rw [e4, e2]
    rfl
end RS
end
section
set_option autoImplicit false
set_option linter.all false
set_option maxRecDepth 100000
set_option maxHeartbeats 4000000
/-! T_FormI: the formula that the law finds from the numbers. -/
namespace RS
theorem nf_down {f : Fm} (h : f.NF) : downTo f.eqAt f.v.length = f.v.length := by
  match hn : f.v.length with
  | 0 => rfl
  | n + 1 =>
    have := h n hn
    rw [downTo]
    unfold Fm.eqAt at *
    rw [if_neg (by simpa using this)]
def Fm.nums (f : Fm) (N : Nat) : List Int := (List.range N).map f.den
def Fm.pl (f : Fm) (t n : Nat) : List Int := (List.range n).map fun i => f.P (t + i : Nat)
theorem pl_len (f : Fm) (t n : Nat) : (f.pl t n).length = n := by simp [Fm.pl]
theorem pl_get (f : Fm) (t n i : Nat) (h : i < n) : (f.pl t n).getD i 0 = f.P (t + i : Nat) := getD_map_range _ _ _ h
theorem pl_cons (f : Fm) (t n : Nat) : f.pl t (n + 1) = f.P (t : Nat) :: f.pl (t + 1) n := by
  unfold Fm.pl
  rw [List.range_succ_eq_map, List.map_cons, List.map_map, Nat.add_zero]
  congr 1
  refine List.map_congr_left fun i _ => ?_
  show f.P (t + (i + 1) : Nat) = f.P (t + 1 + i : Nat)
  rw [show t + (i + 1) = t + 1 + i by omega]
theorem pl_four (f : Fm) (t : Nat) : f.pl t 4 = [f.P t, f.P (t + 1 : Nat), f.P (t + 2 : Nat), f.P (t + 3 : Nat)] := rfl
theorem nums_split {f : Fm} {t : Nat} (h : f.v.length ≤ t) : f.nums (t + 4) = f.nums t ++ f.pl t 4 := by
  unfold Fm.nums Fm.pl
  rw [List.range_add, List.map_append, List.map_map]
  congr 1
  refine List.map_congr_left fun i _ => ?_
  show f.den (t + i) = _
  unfold Fm.den
  rw [if_neg (by omega)]
theorem nums_len (f : Fm) (N : Nat) : (f.nums N).length = N := by simp [Fm.nums]
theorem getD_self : ∀ l : List Int, (List.range l.length).map (fun n => l.getD n 0) = l := fun l => by
  refine List.ext_getElem (by simp) fun i h1 h2 => ?_
  simp [h2]
theorem nums_take {f : Fm} {N : Nat} (h : f.v.length ≤ N) : (f.nums N).take f.v.length = f.v := by
  have : (f.nums N).take f.v.length = (List.range f.v.length).map f.den := by
    unfold Fm.nums
    rw [← List.map_take, List.take_range, Nat.min_eq_left h]
  rw [this]
  refine Eq.trans (List.map_congr_left fun n hn => ?_) (getD_self f.v)
  unfold Fm.den
  rw [if_pos (List.mem_range.mp hn)]
theorem cut_last4 (A B : List Int) (h : B.length = 4) : cut ((A ++ B).map D.int) (some (-4)) none = B.map D.int := by
  unfold cut endOf
  dsimp only
  rw [if_pos (by decide)]
  have e : (-4 + (((A ++ B).map D.int).length : Int)).toNat = A.length := by simp [h]; omega
  rw [e, List.map_append, List.drop_left' (by simp)]
  exact List.take_of_length_le (by simp)
abbrev q_Llaw_due_formula1 : S := (.asgS 1 (.prim .list (.cons (.slc (.var 0) (.neg (.con (.int 4))) .omit) .nil)))
abbrev q_Llaw_due_formula2_1 : S := (.asgS 1 (.bin .add (.lst (.cons (.bin .sub (.bin .add (.bin .sub (.bin .mul (.con (.int 4)) (.idx (.var 1) (.con (.int 0)))) (.bin .mul (.con (.int 6)) (.idx (.var 1) (.con (.int 1))))) (.bin .mul (.con (.int 4)) (.idx (.var 1) (.con (.int 2))))) (.idx (.var 1) (.con (.int 3)))) .nil)) (.var 1)))
abbrev q_Llaw_due_formula2B : S := (.seq q_Llaw_due_formula2_1 .skip)
abbrev q_Llaw_due_formula2 : S := (.for (.nm 2) (.itRange (.cons (.bin .sub (.prim .len (.cons (.var 0) .nil)) (.con (.int 4))) .nil)) q_Llaw_due_formula2B)
abbrev q_Llaw_due_formula3 : S := (.par [3, 4] (.cons (.lst .nil) (.cons (.slc (.var 1) .omit (.con (.int 4))) .nil)))
abbrev q_Llaw_due_formula4 : S := (.share 4)
abbrev q_Llaw_due_formula5_1 : S := (.app 3 (.idx (.var 4) (.con (.int 0))))
abbrev q_Llaw_due_formula5_2 : S := (.asgS 4 (.comp [5, 6] (.tup (.cons (.nm 5) (.cons (.nm 6) .nil))) (.itZip (.var 4) (.slc (.var 4) (.con (.int 1)) .omit)) .omit (.bin .sub (.var 6) (.var 5))))
abbrev q_Llaw_due_formula5B : S := (.seq q_Llaw_due_formula5_1 (.seq q_Llaw_due_formula5_2 .skip))
abbrev q_Llaw_due_formula5 : S := (.for (.nm 2) (.itRange (.cons (.con (.int 4)) .nil)) q_Llaw_due_formula5B)
abbrev q_Llaw_due_formula6 : S := (.asgS 7 (.prim .len (.cons (.var 0) .nil)))
abbrev q_Llaw_due_formula7_1 : S := (.ife (.and (.cmp .gt (.var 7) (.con (.int 0))) (.cmp .eq (.idx (.var 0) (.bin .sub (.var 7) (.con (.int 1)))) (.idx (.var 1) (.bin .sub (.var 7) (.con (.int 1)))))) (.seq (.asgS 7 (.bin .sub (.var 7) (.con (.int 1)))) .skip) .skip)
abbrev q_Llaw_due_formula7B : S := (.seq q_Llaw_due_formula7_1 .skip)
abbrev q_Llaw_due_formula7 : S := (.for (.nm 8) (.itRange (.cons (.prim .len (.cons (.var 0) .nil)) .nil)) q_Llaw_due_formula7B)
abbrev q_Llaw_due_formula8 : S := (.ret (.tup (.cons (.prim .tuple (.cons (.slc (.var 0) .omit (.var 7)) .nil)) (.cons (.prim .tuple (.cons (.var 3) .nil)) .nil))))
abbrev q_Llaw_due_formulaAll : S := (.seq q_Llaw_due_formula1 (.seq q_Llaw_due_formula2 (.seq q_Llaw_due_formula3 (.seq q_Llaw_due_formula4 (.seq q_Llaw_due_formula5 (.seq q_Llaw_due_formula6 (.seq q_Llaw_due_formula7 (.seq q_Llaw_due_formula8 .skip))))))))
theorem q_Llaw_due_formula_eq : M.Llaw_due_formulaS = q_Llaw_due_formulaAll := rfl
theorem due_step {f : Fm} {X : D} {j n : Nat} {x2 : Slot} {s : OSt} {B U : Nat} (hb : f.Bd B) (sm : Sm B U) (hj : j + n ≤ U) (hn : 4 ≤ n) (hn2 : n ≤ 1000) :
    exS q_Llaw_due_formula2B [.sh X, .sh (.lst ((f.pl (j + 1) n).map D.int)), x2, .no, .no, .no, .no, .no, .no] s = .nx [.sh X, .sh (.lst ((f.pl j (n + 1)).map D.int)), x2, .no, .no, .no, .no, .no, .no] s := by
  have sq : Seq (.lst ((f.pl (j + 1) n).map D.int)) (f.pl (j + 1) n) := Or.inr rfl
  have hl := pl_len f (j + 1) n
  have i0 : idxF (.lst ((f.pl (j + 1) n).map D.int)) (.int 0) = some (.int (f.P (j + 1 : Nat))) := (sq.idx (n := 0) (by omega)).trans (by rw [pl_get _ _ _ _ (by omega)])
  have i1 : idxF (.lst ((f.pl (j + 1) n).map D.int)) (.int 1) = some (.int (f.P (j + 2 : Nat))) := (sq.idx (n := 1) (by omega)).trans (by rw [pl_get _ _ _ _ (by omega)])
  have i2 : idxF (.lst ((f.pl (j + 1) n).map D.int)) (.int 2) = some (.int (f.P (j + 3 : Nat))) := (sq.idx (n := 2) (by omega)).trans (by rw [pl_get _ _ _ _ (by omega)])
  have i3 : idxF (.lst ((f.pl (j + 1) n).map D.int)) (.int 3) = some (.int (f.P (j + 4 : Nat))) := (sq.idx (n := 3) (by omega)).trans (by rw [pl_get _ _ _ _ (by omega)])
  have fp : ∀ k : Nat, k ≤ U → fitsI (f.P k) = true := fun k hk => fitsB (Nat.lt_of_le_of_lt (Pn_bd hb.a hb.b hb.c hb.d (by omega) sm.m1) sm.lt)
  have f4 : fitsI 4 = true := fitsB (huge_big (by decide))
  have f6 : fitsI 6 = true := fitsB (huge_big (by decide))
  have g1 := fp (j + 1) (by omega)
  have g2 := fp (j + 2) (by omega)
  have g3 := fp (j + 3) (by omega)
  have pb : 4 * f.P (j + 1 : Nat) - 6 * f.P (j + 2 : Nat) + 4 * f.P (j + 3 : Nat) - f.P (j + 4 : Nat) = f.P (j : Nat) := by
    have := P_back f.a f.b f.c f.d (j : Nat)
    exact this.symm
  have hL : 1 + ((f.pl (j + 1) n).map D.int).length ≤ LIM := by rw [List.length_map, hl]; unfold LIM; omega
  have hL2 : ((f.pl (j + 1) n).map D.int).length + 1 ≤ LIM := by omega
  rw [pl_cons, List.map_cons]
  generalize (f.pl (j + 1) n).map D.int = W at *
  generalize f.P (j + 1 : Nat) = w1 at *
  generalize f.P (j + 2 : Nat) = w2 at *
  generalize f.P (j + 3 : Nat) = w3 at *
  generalize f.P (j + 4 : Nat) = w4 at *
  generalize f.P (j : Nat) = w0 at *
  simp [exS, ev, evs, R.bind, lift, Slot.val, Rs.d, freeze, Rs.isBo, i0, i1, i2, i3, binF, f4, f6, g1, g2, g3, pb, hL, hL2, withV, outOf, assignAll, slotOf]
theorem due_diff {X W : D} {F : List D} {x : Int} {l : List Int} {x2 : Slot} {s : OSt} (hF : F.length < 1000) (hl : l.length < 1000) :
    exS q_Llaw_due_formula5B [.sh X, .sh W, x2, .ow (.lst F), .sh (.lst ((x :: l).map D.int)), .no, .no, .no, .no] s = .nx [.sh X, .sh W, x2, .ow (.lst (F ++ [.int x])), .sh (.lst ((diffL (x :: l)).map D.int)), .no, .no, .no, .no] s := by
  have e := diff_comp (i := 5) (j := 6) (k := 4) (ρ := [.sh X, .sh W, x2, .ow (.lst (F ++ [.int x])), .sh (.lst ((x :: l).map D.int)), .no, .no, .no, .no]) (s := s) (l := x :: l) rfl rfl (by rw [List.length_cons]; omega) (fun a b => by
    simp [stepP, bindTg, bindTgs, pairI, wipeE, ev, R.bind, lift, Slot.val, Rs.d, Rs.isBo, binF])
  have ix : idxF (.lst ((x :: l).map D.int)) (.int 0) = some (.int x) := (show Seq (.lst ((x :: l).map D.int)) (x :: l) from Or.inr rfl).idx (n := 0) (by simp)
  have hL : F.length < LIM := by unfold LIM; omega
  have e1 : exS q_Llaw_due_formula5_1 [.sh X, .sh W, x2, .ow (.lst F), .sh (.lst ((x :: l).map D.int)), .no, .no, .no, .no] s = .nx [.sh X, .sh W, x2, .ow (.lst (F ++ [.int x])), .sh (.lst ((x :: l).map D.int)), .no, .no, .no, .no] s := by
    generalize D.lst ((x :: l).map D.int) = Z at *
    simp [exS, ev, R.bind, lift, Slot.val, Rs.d, Rs.isBo, ix, withV, hL]
  rw [exS_seq e1, exS, exS, e]
  simp [withV, Rs.isBo, Rs.d, outOf, assignAll, slotOf, exS]
theorem due_diff_for {X W : D} {p q r t : Int} {x2 : Slot} {s : OSt} : ∃ x2', forL (fun d ρ s => match bindTg (.nm 2) d ρ with | some ρ1 => exS q_Llaw_due_formula5B ρ1 s | none => .no) (fromInts 0 4) [.sh X, .sh W, x2, .ow (.lst []), .sh (.lst ([p, q, r, t].map D.int)), .no, .no, .no, .no] s =
    .nx [.sh X, .sh W, x2', .ow (.lst ([p, q - p, (r - q) - (q - p), ((t - r) - (r - q)) - ((r - q) - (q - p))].map D.int)), .sh (.lst []), .no, .no, .no, .no] s := by
  refine ⟨.sh (.int (0 + (3 : Nat))), ?_⟩
  have st : ∀ (d : D) (x2 : Slot) (F : List D) (x : Int) (l : List Int), F.length < 1000 → l.length < 1000 →
      (match bindTg (.nm 2) d [.sh X, .sh W, x2, .ow (.lst F), .sh (.lst ((x :: l).map D.int)), .no, .no, .no, .no] with | some ρ1 => exS q_Llaw_due_formula5B ρ1 s | none => .no) = .nx [.sh X, .sh W, .sh d, .ow (.lst (F ++ [.int x])), .sh (.lst ((diffL (x :: l)).map D.int)), .no, .no, .no, .no] s := fun d x2 F x l hF hl => due_diff (x2 := .sh d) hF hl
  rw [show fromInts 0 4 = [.int (0 + (0 : Nat)), .int (0 + (1 : Nat)), .int (0 + (2 : Nat)), .int (0 + (3 : Nat))] from rfl]
  rw [forL, st _ _ _ _ _ (by decide) (by simp), show diffL [p, q, r, t] = [q - p, r - q, t - r] from rfl]
  simp only []
  rw [forL, st _ _ _ _ _ (by simp) (by simp), show diffL [q - p, r - q, t - r] = [r - q - (q - p), t - r - (r - q)] from rfl]
  simp only []
  rw [forL, st _ _ _ _ _ (by simp) (by simp), show diffL [r - q - (q - p), t - r - (r - q)] = [t - r - (r - q) - (r - q - (q - p))] from rfl]
  simp only []
  rw [forL, st _ _ _ _ _ (by simp) (by simp), show diffL [t - r - (r - q) - (r - q - (q - p))] = [] from rfl]
  simp only []
  rw [forL]
  rfl
theorem due_down {L W : List Int} {N m : Nat} {x3 x2 x8 : Slot} {d4 : D} {s : OSt} (hL : L.length = N) (hW : W.length = N) (hm : m ≤ N) :
    exS q_Llaw_due_formula7B [.sh (.lst (L.map D.int)), .sh (.lst (W.map D.int)), x2, x3, .sh d4, .no, .no, .sh (.int m), x8] s =
      .nx [.sh (.lst (L.map D.int)), .sh (.lst (W.map D.int)), x2, x3, .sh d4, .no, .no, .sh (.int (if 0 < m ∧ L.getD (m - 1) 0 = W.getD (m - 1) 0 then m - 1 else m : Nat)), x8] s := by
  match m, hm with
  | 0, _ =>
    have c : ev (.and (.cmp .gt (.var 7) (.con (.int 0))) (.cmp .eq (.idx (.var 0) (.bin .sub (.var 7) (.con (.int 1)))) (.idx (.var 1) (.bin .sub (.var 7) (.con (.int 1)))))) [.sh (.lst (L.map D.int)), .sh (.lst (W.map D.int)), x2, x3, .sh d4, .no, .no, .sh (.int (0 : Nat)), x8] s = .ok (.sh (.bl false)) s := by
      simp [ev, R.bind, lift, Slot.val, Rs.d, cmpF, ordF, bothInt]
    rw [exS_seq (ife_false c), exS]
    rfl
  | m + 1, hm =>
    have c1 : ((m + 1 : Nat) : Int) - 1 = (m : Int) := by omega
    have p1 : (0 : Int) < ((m + 1 : Nat) : Int) := by omega
    have ix := (show Seq (.lst (L.map D.int)) L from Or.inr rfl).idx (n := m) (by omega)
    have iw := (show Seq (.lst (W.map D.int)) W from Or.inr rfl).idx (n := m) (by omega)
    have c : ev (.and (.cmp .gt (.var 7) (.con (.int 0))) (.cmp .eq (.idx (.var 0) (.bin .sub (.var 7) (.con (.int 1)))) (.idx (.var 1) (.bin .sub (.var 7) (.con (.int 1)))))) [.sh (.lst (L.map D.int)), .sh (.lst (W.map D.int)), x2, x3, .sh d4, .no, .no, .sh (.int (m + 1 : Nat)), x8] s = .ok (.sh (.bl (decide (L.getD m 0 = W.getD m 0)))) s := by
      have eq := eqF_int (L.getD m 0) (W.getD m 0)
      generalize decide (L.getD m 0 = W.getD m 0) = b at *
      generalize L.getD m 0 = u at *
      generalize W.getD m 0 = v at *
      generalize D.lst (L.map D.int) = ZL at *
      generalize D.lst (W.map D.int) = ZW at *
      generalize ((m + 1 : Nat) : Int) = w at *
      simp [ev, R.bind, lift, Slot.val, Rs.d, cmpF, ordF, bothInt, p1, binF, c1, ix, iw, eq]
    have hp : (0 < m + 1 ∧ L.getD (m + 1 - 1) 0 = W.getD (m + 1 - 1) 0) ↔ L.getD m 0 = W.getD m 0 := by simp
    by_cases he : L.getD m 0 = W.getD m 0
    · rw [decide_eq_true he] at c
      rw [if_pos (hp.mpr he), exS, exS, c]
      simp only [withV]
      generalize D.lst (L.map D.int) = ZL at *
      generalize D.lst (W.map D.int) = ZW at *
      have c2 : ((m + 1 - 1 : Nat) : Int) = ((m + 1 : Nat) : Int) - 1 := by omega
      rw [c2]
      generalize ((m + 1 : Nat) : Int) = w at *
      simp [exS, ev, R.bind, lift, Slot.val, Rs.d, Rs.isBo, binF, withV, outOf, assignAll, slotOf]
    · rw [decide_eq_false he] at c
      rw [if_neg (fun z => he (hp.mp z)), exS_seq (ife_false c), exS]
theorem due_run {f : Fm} {N B U : Nat} (nf : f.NF) (hb : f.Bd B) (sm : Sm B U) (hN : f.v.length + 4 ≤ N) (hU : N ≤ U) (h9 : N ≤ 900) (s : OSt) : M.Llaw_due_formula [.lst ((f.nums N).map D.int)] s = .ok (.sh (fmD f)) s := by
  obtain ⟨t, rfl⟩ : ∃ t, N = t + 4 := ⟨N - 4, by omega⟩
  have ns := nums_split (f := f) (t := t) (by omega)
  have hlen := nums_len f (t + 4)
  have sqX : Seq (.lst ((f.nums (t + 4)).map D.int)) (f.nums (t + 4)) := Or.inr rfl
  have lnX := sqX.len
  rw [hlen] at lnX
  have e1 : exS q_Llaw_due_formula1 [.sh (.lst ((f.nums (t + 4)).map D.int)), .no, .no, .no, .no, .no, .no, .no, .no] s = .nx [.sh (.lst ((f.nums (t + 4)).map D.int)), .sh (.lst ((f.pl t 4).map D.int)), .no, .no, .no, .no, .no, .no, .no] s := by
    have c4 : slcF (.lst ((f.nums (t + 4)).map D.int)) (some (-4)) none = some (.fr (.lst ((f.pl t 4).map D.int))) := by
      unfold slcF; dsimp only; rw [ns, cut_last4 _ _ (pl_len f t 4)]
    have l4 := (show Seq (.lst ((f.pl t 4).map D.int)) (f.pl t 4) from Or.inr rfl).list
    generalize D.lst ((f.nums (t + 4)).map D.int) = X at *
    generalize (f.pl t 4).map D.int = W at *
    simp [exS, ev, evs, R.bind, lift, Slot.val, Rs.d, Rs.isBo, negF, partOf, c4, l4, withV, outOf, assignAll, slotOf]
  have loop2 := forL_run (step := fun d ρ s => match bindTg (.nm 2) d ρ with | some ρ1 => exS q_Llaw_due_formula2B ρ1 s | none => .no) (s := s) (fun k ρ => ∃ x2, ρ = [.sh (.lst ((f.nums (t + 4)).map D.int)), .sh (.lst ((f.pl (t - k) (4 + k)).map D.int)), x2, .no, .no, .no, .no, .no, .no]) (fromInts 0 t) 0 _ ⟨.no, rfl⟩ (fun i d ρ hd hI => by
    obtain ⟨x2, rfl⟩ := hI
    have hi : i < t := by
      have := (List.getElem?_eq_some_iff.mp hd).1
      simpa [fromInts] using this
    rw [Nat.zero_add]
    have := due_step (f := f) (X := .lst ((f.nums (t + 4)).map D.int)) (j := t - (i + 1)) (n := 4 + i) (x2 := .sh d) (s := s) hb sm (by omega) (by omega) (by omega)
    rw [show t - (i + 1) + 1 = t - i by omega] at this
    exact ⟨_, this, .sh d, rfl⟩)
  obtain ⟨ρ2, l2, x2, rfl⟩ := loop2
  have hft : (fromInts 0 t).length = t := by simp [fromInts]
  rw [hft, Nat.zero_add, Nat.sub_self] at l2
  have i2 : evI (.itRange (.cons (.bin .sub (.prim .len (.cons (.var 0) .nil)) (.con (.int 4))) .nil)) [.sh (.lst ((f.nums (t + 4)).map D.int)), .sh (.lst ((f.pl t 4).map D.int)), .no, .no, .no, .no, .no, .no, .no] s = .ok (fromInts 0 t, none) s := by
    have b2 := rangeF_one (a := (t : Int)) (by omega)
    rw [Int.toNat_natCast] at b2
    refine evI_range (rs := [.sh (.int t)]) ?_ b2
    have c4 : ((t + 4 : Nat) : Int) - 4 = (t : Int) := by omega
    generalize ((t + 4 : Nat) : Int) = w at *
    generalize D.lst ((f.nums (t + 4)).map D.int) = X at *
    generalize D.lst ((f.pl t 4).map D.int) = W at *
    simp [evs, ev, R.bind, lift, Slot.val, Rs.d, lnX, binF, c4]
  have e2 : exS q_Llaw_due_formula2 [.sh (.lst ((f.nums (t + 4)).map D.int)), .sh (.lst ((f.pl t 4).map D.int)), .no, .no, .no, .no, .no, .no, .no] s = .nx [.sh (.lst ((f.nums (t + 4)).map D.int)), .sh (.lst ((f.pl 0 (4 + t)).map D.int)), x2, .no, .no, .no, .no, .no, .no] s := by
    rw [exS, i2]; exact l2
  have tk : (f.pl 0 (4 + t)).take 4 = [f.P (0 : Nat), f.P (1 : Nat), f.P (2 : Nat), f.P (3 : Nat)] := by
    unfold Fm.pl
    rw [← List.map_take, List.take_range, Nat.min_eq_left (by omega)]
    rfl
  have e3 : exS q_Llaw_due_formula3 [.sh (.lst ((f.nums (t + 4)).map D.int)), .sh (.lst ((f.pl 0 (4 + t)).map D.int)), x2, .no, .no, .no, .no, .no, .no] s = .nx [.sh (.lst ((f.nums (t + 4)).map D.int)), .sh (.lst ((f.pl 0 (4 + t)).map D.int)), x2, .ow (.lst []), .ow (.lst ([f.P (0 : Nat), f.P (1 : Nat), f.P (2 : Nat), f.P (3 : Nat)].map D.int)), .no, .no, .no, .no] s := by
    have c4 : slcF (.lst ((f.pl 0 (4 + t)).map D.int)) none (some 4) = some (.fr (.lst ([f.P (0 : Nat), f.P (1 : Nat), f.P (2 : Nat), f.P (3 : Nat)].map D.int))) := by
      unfold slcF; dsimp only
      have := cut_take (l := f.pl 0 (4 + t)) (n := 4)
      rw [tk] at this
      exact congrArg (fun z => some (Rs.fr (.lst z))) this
    generalize D.lst ((f.nums (t + 4)).map D.int) = X at *
    generalize D.lst ((f.pl 0 (4 + t)).map D.int) = W at *
    generalize [f.P (0 : Nat), f.P (1 : Nat), f.P (2 : Nat), f.P (3 : Nat)].map D.int = H at *
    simp [exS, ev, evs, R.bind, lift, Slot.val, Rs.d, freeze, partOf, c4, outOf, assignAll, slotOf]
  have e4 : exS q_Llaw_due_formula4 [.sh (.lst ((f.nums (t + 4)).map D.int)), .sh (.lst ((f.pl 0 (4 + t)).map D.int)), x2, .ow (.lst []), .ow (.lst ([f.P (0 : Nat), f.P (1 : Nat), f.P (2 : Nat), f.P (3 : Nat)].map D.int)), .no, .no, .no, .no] s = .nx [.sh (.lst ((f.nums (t + 4)).map D.int)), .sh (.lst ((f.pl 0 (4 + t)).map D.int)), x2, .ow (.lst []), .sh (.lst ([f.P (0 : Nat), f.P (1 : Nat), f.P (2 : Nat), f.P (3 : Nat)].map D.int)), .no, .no, .no, .no] s := by
    generalize [f.P (0 : Nat), f.P (1 : Nat), f.P (2 : Nat), f.P (3 : Nat)].map D.int = H at *
    generalize (f.pl 0 (4 + t)).map D.int = W at *
    generalize (f.nums (t + 4)).map D.int = X at *
    simp [exS]
  obtain ⟨x2', l5⟩ := due_diff_for (X := .lst ((f.nums (t + 4)).map D.int)) (W := .lst ((f.pl 0 (4 + t)).map D.int)) (p := f.P (0 : Nat)) (q := f.P (1 : Nat)) (r := f.P (2 : Nat)) (t := f.P (3 : Nat)) (x2 := x2) (s := s)
  have hd : ([f.P (0 : Nat), f.P (1 : Nat) - f.P (0 : Nat), (f.P (2 : Nat) - f.P (1 : Nat)) - (f.P (1 : Nat) - f.P (0 : Nat)), ((f.P (3 : Nat) - f.P (2 : Nat)) - (f.P (2 : Nat) - f.P (1 : Nat))) - ((f.P (2 : Nat) - f.P (1 : Nat)) - (f.P (1 : Nat) - f.P (0 : Nat)))] : List Int) = [f.a, f.b, f.c, f.d] := by
    have p0 : f.P (0 : Nat) = f.a := P_0 _ _ _ _
    have p1 : f.P (1 : Nat) = f.a + f.b := P_1 _ _ _ _
    have p2 : f.P (2 : Nat) = f.a + 2 * f.b + f.c := P_2 _ _ _ _
    have p3 : f.P (3 : Nat) = f.a + 3 * f.b + 3 * f.c + f.d := P_3 _ _ _ _
    rw [p0, p1, p2, p3]
    simp only [List.cons.injEq, and_true, true_and]
    omega
  rw [hd] at l5
  have i5 : ∀ ρ : Env, evI (.itRange (.cons (.con (.int 4)) .nil)) ρ s = .ok (fromInts 0 4, none) s := fun ρ => evI_range (rs := [.sh (.int 4)]) (by simp [evs, ev, R.bind]) (rangeF_one (by decide))
  have e5 : exS q_Llaw_due_formula5 [.sh (.lst ((f.nums (t + 4)).map D.int)), .sh (.lst ((f.pl 0 (4 + t)).map D.int)), x2, .ow (.lst []), .sh (.lst ([f.P (0 : Nat), f.P (1 : Nat), f.P (2 : Nat), f.P (3 : Nat)].map D.int)), .no, .no, .no, .no] s = .nx [.sh (.lst ((f.nums (t + 4)).map D.int)), .sh (.lst ((f.pl 0 (4 + t)).map D.int)), x2', .ow (.lst ([f.a, f.b, f.c, f.d].map D.int)), .sh (.lst []), .no, .no, .no, .no] s := by
    rw [exS, i5]; exact l5
  have e6 : exS q_Llaw_due_formula6 [.sh (.lst ((f.nums (t + 4)).map D.int)), .sh (.lst ((f.pl 0 (4 + t)).map D.int)), x2', .ow (.lst ([f.a, f.b, f.c, f.d].map D.int)), .sh (.lst []), .no, .no, .no, .no] s = .nx [.sh (.lst ((f.nums (t + 4)).map D.int)), .sh (.lst ((f.pl 0 (4 + t)).map D.int)), x2', .ow (.lst ([f.a, f.b, f.c, f.d].map D.int)), .sh (.lst []), .no, .no, .sh (.int (t + 4 : Nat)), .no] s := by
    generalize D.lst ((f.nums (t + 4)).map D.int) = X at *
    generalize D.lst ((f.pl 0 (4 + t)).map D.int) = W at *
    generalize ([f.a, f.b, f.c, f.d].map D.int) = H at *
    generalize ((t + 4 : Nat) : Int) = w at *
    simp [exS, ev, evs, R.bind, lift, Slot.val, Rs.d, Rs.isBo, lnX, withV, outOf, assignAll, slotOf]
  have i7 : evI (.itRange (.cons (.prim .len (.cons (.var 0) .nil)) .nil)) [.sh (.lst ((f.nums (t + 4)).map D.int)), .sh (.lst ((f.pl 0 (4 + t)).map D.int)), x2', .ow (.lst ([f.a, f.b, f.c, f.d].map D.int)), .sh (.lst []), .no, .no, .sh (.int (t + 4 : Nat)), .no] s = .ok (fromInts 0 (t + 4), none) s := by
    have b2 := rangeF_one (a := ((t + 4 : Nat) : Int)) (by omega)
    rw [Int.toNat_natCast] at b2
    refine evI_range (rs := [.sh (.int (t + 4 : Nat))]) ?_ b2
    generalize D.lst ((f.nums (t + 4)).map D.int) = X at *
    generalize D.lst ((f.pl 0 (4 + t)).map D.int) = W at *
    generalize ([f.a, f.b, f.c, f.d].map D.int) = H at *
    generalize ((t + 4 : Nat) : Int) = w at *
    simp [evs, ev, R.bind, lift, Slot.val, Rs.d, lnX]
  have loop7 := forL_run (step := fun d ρ s => match bindTg (.nm 8) d ρ with | some ρ1 => exS q_Llaw_due_formula7B ρ1 s | none => .no) (s := s)
    (fun k ρ => ∃ m x8, ρ = [.sh (.lst ((f.nums (t + 4)).map D.int)), .sh (.lst ((f.pl 0 (4 + t)).map D.int)), x2', .ow (.lst ([f.a, f.b, f.c, f.d].map D.int)), .sh (.lst []), .no, .no, .sh (.int (m : Nat)), x8] ∧ f.v.length ≤ m ∧ m ≤ t + 4 ∧ (m ≤ t + 4 - k ∨ m = f.v.length)) (fromInts 0 (t + 4)) 0 _ ⟨t + 4, .no, rfl, by omega, Nat.le_refl _, Or.inl (by omega)⟩ (fun i d ρ hd hI => by
    obtain ⟨m, x8, rfl, h1, h2, h3⟩ := hI
    have hi : i < t + 4 := by
      have := (List.getElem?_eq_some_iff.mp hd).1
      simpa [fromInts] using this
    have := due_down (L := f.nums (t + 4)) (W := f.pl 0 (4 + t)) (N := t + 4) (m := m) (x3 := .ow (.lst ([f.a, f.b, f.c, f.d].map D.int))) (x2 := x2') (x8 := .sh d) (d4 := .lst []) (s := s) hlen (by rw [pl_len]; omega) h2
    refine ⟨_, this, _, .sh d, rfl, ?_⟩
    by_cases hm : m = f.v.length
    · have hno : ¬ (0 < m ∧ (f.nums (t + 4)).getD (m - 1) 0 = (f.pl 0 (4 + t)).getD (m - 1) 0) := by
        rintro ⟨q1, q2⟩
        obtain ⟨l, hl⟩ : ∃ l, f.v.length = l + 1 := ⟨f.v.length - 1, by omega⟩
        have hnf := nf l hl
        rw [show m - 1 = l by omega, pl_get _ _ _ _ (by omega), Nat.zero_add] at q2
        have : (f.nums (t + 4)).getD l 0 = f.den l := getD_map_range _ _ _ (by omega)
        rw [this] at q2
        unfold Fm.den at q2
        rw [if_pos (by omega)] at q2
        exact hnf q2
      rw [if_neg hno]
      exact ⟨h1, h2, Or.inr hm⟩
    · have hyes : 0 < m ∧ (f.nums (t + 4)).getD (m - 1) 0 = (f.pl 0 (4 + t)).getD (m - 1) 0 := by
        refine ⟨by omega, ?_⟩
        rw [pl_get _ _ _ _ (by omega), Nat.zero_add]
        have : (f.nums (t + 4)).getD (m - 1) 0 = f.den (m - 1) := getD_map_range _ _ _ (by omega)
        rw [this]
        unfold Fm.den
        rw [if_neg (by omega)]
      rw [if_pos hyes]
      refine ⟨by omega, by omega, ?_⟩
      rcases h3 with h3 | h3
      · left; omega
      · exact absurd h3 hm)
  obtain ⟨ρ7, l7, m, x8, rfl, h1, h2, h3⟩ := loop7
  have hm : m = f.v.length := by
    have : (fromInts 0 (t + 4)).length = t + 4 := by simp [fromInts]
    rw [this] at h3
    omega
  subst hm
  have e7 : exS q_Llaw_due_formula7 [.sh (.lst ((f.nums (t + 4)).map D.int)), .sh (.lst ((f.pl 0 (4 + t)).map D.int)), x2', .ow (.lst ([f.a, f.b, f.c, f.d].map D.int)), .sh (.lst []), .no, .no, .sh (.int (t + 4 : Nat)), .no] s = .nx [.sh (.lst ((f.nums (t + 4)).map D.int)), .sh (.lst ((f.pl 0 (4 + t)).map D.int)), x2', .ow (.lst ([f.a, f.b, f.c, f.d].map D.int)), .sh (.lst []), .no, .no, .sh (.int (f.v.length : Nat)), x8] s := by
    rw [exS, i7]; exact l7
  show evFn 9 1 M.Llaw_due_formulaS _ s = _
  unfold evFn
  rw [if_pos (show [D.lst ((f.nums (t + 4)).map D.int)].length = 1 from rfl), show startE 9 [D.lst ((f.nums (t + 4)).map D.int)] = [.sh (.lst ((f.nums (t + 4)).map D.int)), .no, .no, .no, .no, .no, .no, .no, .no] from rfl, q_Llaw_due_formula_eq, exS_seq e1, exS_seq e2, exS_seq e3, exS_seq e4, exS_seq e5, exS_seq e6, exS_seq e7]
  obtain ⟨r, t1, t2, t3, t4⟩ := sqX.take f.v.length
  rw [nums_take (by omega)] at t2
  have th := (show Seq (.lst ([f.a, f.b, f.c, f.d].map D.int)) [f.a, f.b, f.c, f.d] from Or.inr rfl).tup
  have hr : ev (.slc (.var 0) .omit (.var 7)) [.sh (.lst ((f.nums (t + 4)).map D.int)), .sh (.lst ((f.pl 0 (4 + t)).map D.int)), x2', .ow (.lst ([f.a, f.b, f.c, f.d].map D.int)), .sh (.lst []), .no, .no, .sh (.int (f.v.length : Nat)), x8] s = .ok r s := by
    rw [ev, ev_var (d := .lst ((f.nums (t + 4)).map D.int)) rfl, bind_mk, ev, bind_mk, ev_var (d := .int (f.v.length : Nat)) rfl, bind_mk]
    simp only [partOf, Rs.d, t1, lift]
  have hp : ev (.prim .tuple (.cons (.slc (.var 0) .omit (.var 7)) .nil)) [.sh (.lst ((f.nums (t + 4)).map D.int)), .sh (.lst ((f.pl 0 (4 + t)).map D.int)), x2', .ow (.lst ([f.a, f.b, f.c, f.d].map D.int)), .sh (.lst []), .no, .no, .sh (.int (f.v.length : Nat)), x8] s = .ok (.sh (tn f.v)) s := by
    rw [ev, evs, hr, bind_mk, evs, bind_mk, bind_mk]
    show lift (primF .tuple [r.d]) s = _
    rw [t2]; rfl
  have hq : ev (.prim .tuple (.cons (.var 3) .nil)) [.sh (.lst ((f.nums (t + 4)).map D.int)), .sh (.lst ((f.pl 0 (4 + t)).map D.int)), x2', .ow (.lst ([f.a, f.b, f.c, f.d].map D.int)), .sh (.lst []), .no, .no, .sh (.int (f.v.length : Nat)), x8] s = .ok (.sh (tn [f.a, f.b, f.c, f.d])) s := by
    generalize ([f.a, f.b, f.c, f.d].map D.int) = H at *
    generalize D.lst ((f.nums (t + 4)).map D.int) = X at *
    generalize D.lst ((f.pl 0 (4 + t)).map D.int) = W at *
    simp [ev, evs, R.bind, lift, Slot.val, Rs.d, th]
  rw [exS, exS, ev, evs, hp, bind_mk, evs, hq, bind_mk, evs, bind_mk, bind_mk, bind_mk]
  rfl
end RS
end
section
set_option autoImplicit false
set_option linter.all false
set_option maxRecDepth 100000
set_option maxHeartbeats 4000000
/-! the check of the number of places -/
namespace RS
theorem check_arity_run {z : Nat} {Rw : List (List Int)} (h : ∀ r ∈ Rw, RowOk z r) (hz : z ≤ 3) (hl : Rw.length ≤ 60) (s : OSt) : M.check_arity [rowsD Rw, .int z] s = .ok (.sh (.int z)) s := by
  have hi : evI (.itE (.var 0)) [.sh (rowsD Rw), .sh (.int z), .no] s = .ok (Rw.map tn, none) s := by
    simp [evI, ev, R.bind, lift, Slot.val, Rs.d, rowsD, D.items]
  have hL : (Rw.map tn).length ≤ LIM := by rw [List.length_map]; unfold LIM; omega
  have c := comp_none (vs := [2]) (tg := .nm 2) (cnd := .cmp .ne (.prim .len (.cons (.var 2) .nil)) (.bin .add (.var 1) (.con (.int 1)))) (elt := .con (.int 1)) hi rfl (fun d hd => by
    obtain ⟨r, hr, rfl⟩ := List.mem_map.mp hd
    have n1 : primF .len [tn r] = some (.sh (.int ((z : Int) + 1))) := by simp [primF, tn, lenF, (h r hr).len]
    generalize (z : Int) = zi at *
    simp [stepP, bindTg, wipeE, ev, evs, R.bind, lift, Slot.val, Rs.d, n1, binF, cmpF, eqF, D.deep, D.eqv]) hL
  have e1 : ev (.cmp .gt (.prim .len (.cons (.comp [2] (.nm 2) (.itE (.var 0)) (.cmp .ne (.prim .len (.cons (.var 2) .nil)) (.bin .add (.var 1) (.con (.int 1)))) (.con (.int 1))) .nil)) (.con (.int 0))) [.sh (rowsD Rw), .sh (.int z), .no] s = .ok (.sh (.bl false)) s := by
    rw [ev, ev, evs, c, bind_mk, evs, bind_mk, bind_mk]
    simp [primF, lenF, lift, Rs.d, ev, R.bind, cmpF, ordF, bothInt]
  have z3 : (z : Int) ≤ 3 := by omega
  have eA : ev (.not (.call "is_from" M.is_from (.cons (.var 1) (.cons (.con (.int 0)) (.cons (.con (.int 3)) .nil))))) [.sh (rowsD Rw), .sh (.int z), .no] s = .ok (.sh (.bl false)) s := by
    simp [ev, evs, R.bind, lift, Slot.val, Rs.d, callR, freeze, Rs.isBo, is_from_run, z3]
  have cond : exS (.ife (.or (.not (.call "is_from" M.is_from (.cons (.var 1) (.cons (.con (.int 0)) (.cons (.con (.int 3)) .nil))))) (.cmp .gt (.prim .len (.cons (.comp [2] (.nm 2) (.itE (.var 0)) (.cmp .ne (.prim .len (.cons (.var 2) .nil)) (.bin .add (.var 1) (.con (.int 1)))) (.con (.int 1))) .nil)) (.con (.int 0)))) (.seq .never .skip) .skip) [.sh (rowsD Rw), .sh (.int z), .no] s = .nx [.sh (rowsD Rw), .sh (.int z), .no] s := by
    rw [exS, ev, eA, bind_mk]
    dsimp only
    rw [e1]
    simp [withV, exS]
  show evFn 3 2 M.check_arityS _ s = _
  unfold evFn M.check_arityS
  rw [if_pos (show [rowsD Rw, D.int z].length = 2 from rfl), exS, show startE 3 [rowsD Rw, D.int z] = [.sh (rowsD Rw), .sh (.int z), .no] from rfl, cond]
  simp [exS, ev, lift, Slot.val, withV, endR]
end RS
end
section
set_option autoImplicit false
set_option linter.all false
set_option maxRecDepth 100000
set_option maxHeartbeats 4000000
/-! T_FormJ: checks of formulas; formulas told. -/
namespace RS
theorem fm_tup (f : Fm) : D.isTup (fmD f) = some true := rfl
theorem fm_len (f : Fm) : primF .len [fmD f] = some (.sh (.int 2)) := rfl
theorem eqv_fm (f g : Fm) : D.eqv (fmD f) (fmD g) = (decide (f.v = g.v) && decide ([f.a, f.b, f.c, f.d] = [g.a, g.b, g.c, g.d])) := by
  rw [fmD, fmD, D.eqv, D.eqvs, D.eqvs, D.eqvs, eqv_tn, eqv_tn, Bool.and_true]
theorem deep_fm (f : Fm) (n : Nat) : D.deep (n + 2) (fmD f) = true := by
  rw [fmD, D.deep, D.deeps, D.deeps, D.deeps, deep_tn, deep_tn]; rfl
theorem eqF_fm (f : Fm) : eqF (fmD f) (fmD f) = some true := by
  unfold eqF
  rw [show DEEP = 58 + 2 from rfl, deep_fm, eqv_fm]
  simp
abbrev q_is_formula1 : S := (.ife (.or (.not (.prim .isTup (.cons (.var 0) .nil))) (.cmp .ne (.prim .len (.cons (.var 0) .nil)) (.con (.int 2)))) (.seq (.ret (.con (.bl false))) .skip) .skip)
abbrev q_is_formula2 : S := (.asgT (.tup (.cons (.nm 1) (.cons (.nm 2) .nil))) (.var 0))
abbrev q_is_formula3 : S := (.ife (.or (.not (.prim .isTup (.cons (.var 1) .nil))) (.or (.not (.prim .isTup (.cons (.var 2) .nil))) (.or (.cmp .gt (.prim .len (.cons (.var 1) .nil)) (.glob "MOST_VALUES" (.int 400))) (.cmp .ne (.prim .len (.cons (.var 2) .nil)) (.con (.int 4)))))) (.seq (.ret (.con (.bl false))) .skip) .skip)
abbrev q_is_formula4 : S := (.ife (.cmp .gt (.prim .len (.cons (.comp [3] (.nm 3) (.itE (.bin .add (.var 1) (.var 2))) (.or (.not (.prim .isInt (.cons (.var 3) .nil))) (.prim .isBool (.cons (.var 3) .nil))) (.con (.int 1))) .nil)) (.con (.int 0))) (.seq (.ret (.con (.bl false))) .skip) .skip)
abbrev q_is_formula5 : S := (.ret (.cmp .eq (.call "lessened" M.lessened (.cons (.var 1) (.cons (.var 2) .nil))) (.var 0)))
abbrev q_is_formulaAll : S := (.seq q_is_formula1 (.seq q_is_formula2 (.seq q_is_formula3 (.seq q_is_formula4 (.seq q_is_formula5 .skip)))))
theorem q_is_formula_eq : M.is_formulaS = q_is_formulaAll := rfl
theorem is_formula_run {f : Fm} {B U : Nat} (g : f.Go B U) (nf : f.NF) (hl : f.v.length ≤ 400) (s : OSt) : M.is_formula [fmD f] s = .ok (.sh (.bl true)) s := by
  show evFn 4 1 M.is_formulaS _ s = _
  unfold evFn
  rw [if_pos (show [fmD f].length = 1 from rfl), show startE 4 [fmD f] = [.sh (fmD f), .no, .no, .no] from rfl, q_is_formula_eq]
  have c1 : ev (.or (.not (.prim .isTup (.cons (.var 0) .nil))) (.cmp .ne (.prim .len (.cons (.var 0) .nil)) (.con (.int 2)))) [.sh (fmD f), .no, .no, .no] s = .ok (.sh (.bl false)) s := by
    have t1 := fm_tup f
    have l1 := fm_len f
    generalize fmD f = Z at *
    simp [ev, evs, R.bind, lift, Slot.val, Rs.d, primF, isOf, t1]
    simp [primF] at l1
    simp [l1, Rs.d, cmpF, eqF, D.deep, D.eqv]
  have e2 : exS q_is_formula2 [.sh (fmD f), .no, .no, .no] s = .nx [.sh (fmD f), .sh (tn f.v), .sh (tn [f.a, f.b, f.c, f.d]), .no] s := by
    unfold fmD
    simp [exS, ev, lift, Slot.val, withV, Rs.isBo, Rs.d, outOf, bindTg, bindTgs]
  have c3 : ev (.or (.not (.prim .isTup (.cons (.var 1) .nil))) (.or (.not (.prim .isTup (.cons (.var 2) .nil))) (.or (.cmp .gt (.prim .len (.cons (.var 1) .nil)) (.glob "MOST_VALUES" (.int 400))) (.cmp .ne (.prim .len (.cons (.var 2) .nil)) (.con (.int 4)))))) [.sh (fmD f), .sh (tn f.v), .sh (tn [f.a, f.b, f.c, f.d]), .no] s = .ok (.sh (.bl false)) s := by
    have t1 : D.isTup (tn f.v) = some true := rfl
    have t2 : D.isTup (tn [f.a, f.b, f.c, f.d]) = some true := rfl
    have l1 : lenF [tn f.v] = some (.sh (.int f.v.length)) := by simp [tn, lenF]
    have l2 : lenF [tn [f.a, f.b, f.c, f.d]] = some (.sh (.int 4)) := rfl
    have b1 : ¬ (400 : Int) < (f.v.length : Int) := by omega
    generalize fmD f = Z at *
    generalize tn f.v = V at *
    generalize tn [f.a, f.b, f.c, f.d] = W at *
    simp [ev, evs, R.bind, lift, Slot.val, Rs.d, primF, isOf, t1, t2, l1, l2, cmpF, ordF, bothInt, b1, eqF, D.deep, D.eqv]
  have hi : evI (.itE (.bin .add (.var 1) (.var 2))) [.sh (fmD f), .sh (tn f.v), .sh (tn [f.a, f.b, f.c, f.d]), .no] s = .ok ((f.v ++ [f.a, f.b, f.c, f.d]).map D.int, none) s := by
    have hL : f.v.length + 4 ≤ LIM := by unfold LIM; omega
    have cc : binF .add (tn f.v) (tn [f.a, f.b, f.c, f.d]) = some (.sh (tn (f.v ++ [f.a, f.b, f.c, f.d]))) := by simp [tn, binF, hL]
    rw [evI, ev, ev_var (d := tn f.v) rfl, bind_mk, ev_var (d := tn [f.a, f.b, f.c, f.d]) rfl, bind_mk]
    simp only [Rs.d, cc, lift]
    rfl
  have c := comp_none (vs := [3]) (tg := .nm 3) (cnd := .or (.not (.prim .isInt (.cons (.var 3) .nil))) (.prim .isBool (.cons (.var 3) .nil))) (elt := .con (.int 1)) hi rfl (fun d hd => by
    obtain ⟨x, hx, rfl⟩ := List.mem_map.mp hd
    generalize fmD f = Z at *
    generalize tn f.v = V at *
    generalize tn [f.a, f.b, f.c, f.d] = W at *
    simp [stepP, bindTg, wipeE, ev, evs, R.bind, lift, Slot.val, Rs.d, primF, isOf, D.isInt, D.isBool]) (by rw [List.length_map, List.length_append]; simp; unfold LIM; omega)
  have c4 : ev (.cmp .gt (.prim .len (.cons (.comp [3] (.nm 3) (.itE (.bin .add (.var 1) (.var 2))) (.or (.not (.prim .isInt (.cons (.var 3) .nil))) (.prim .isBool (.cons (.var 3) .nil))) (.con (.int 1))) .nil)) (.con (.int 0))) [.sh (fmD f), .sh (tn f.v), .sh (tn [f.a, f.b, f.c, f.d]), .no] s = .ok (.sh (.bl false)) s := by
    rw [ev, ev, evs, c, bind_mk, evs, bind_mk, bind_mk]
    simp [primF, lenF, lift, Rs.d, ev, R.bind, cmpF, ordF, bothInt]
  have lr := lessened_run (f := f) (X := tn f.v) (Y := tn [f.a, f.b, f.c, f.d]) (Or.inl rfl) (Or.inl rfl) g s
  rw [nf.less] at lr
  rw [exS_seq (ife_false c1), exS_seq e2, exS_seq (ife_false c3), exS_seq (ife_false c4)]
  have eq := eqF_fm f
  generalize fmD f = Z at *
  generalize tn f.v = V at *
  generalize tn [f.a, f.b, f.c, f.d] = W at *
  simp [exS, ev, evs, R.bind, lift, Slot.val, Rs.d, freeze, Rs.isBo, callR, lr, cmpF, eq, withV, endR]
theorem check_formula_run {f : Fm} {B U : Nat} (g : f.Go B U) (nf : f.NF) (hl : f.v.length ≤ 400) (s : OSt) : M.check_formula [fmD f] s = .ok (.sh (fmD f)) s := by
  have i := is_formula_run g nf hl s
  show evFn 1 1 M.check_formulaS _ s = _
  unfold evFn M.check_formulaS
  rw [if_pos (show [fmD f].length = 1 from rfl), show startE 1 [fmD f] = [.sh (fmD f)] from rfl]
  generalize fmD f = Z at *
  simp [exS, ev, evs, R.bind, lift, Slot.val, Rs.d, freeze, Rs.isBo, callR, i, withV, endR]
theorem formula_of_run {z : Nat} {Rw : List (List Int)} (h : ∀ r ∈ Rw, RowOk z r) (hz : z ≤ 3) (hl : Rw.length ≤ 60) (s : OSt) : M.formula_of [rowsD Rw, .int z] s = .ok (.sh (fmD (formL z Rw))) s := by
  have c := check_rows_run h hz hl s
  have a := check_arity_run h hz hl s
  have f := formula_run z 5 Rw s hz (by omega) h hl
  have f : M.formula_so [rowsD Rw, .int z] s = .ok (.sh (fmD (formL z Rw))) s := f
  show evFn 2 2 M.formula_ofS _ s = _
  unfold evFn M.formula_ofS
  rw [if_pos (show [rowsD Rw, D.int z].length = 2 from rfl), show startE 2 [rowsD Rw, D.int z] = [.sh (rowsD Rw), .sh (.int z)] from rfl]
  generalize fmD (formL z Rw) = Z at *
  generalize rowsD Rw = X at *
  simp [exS, ev, evs, R.bind, lift, Slot.val, Rs.d, freeze, Rs.isBo, callR, c, a, f, withV, endR]
theorem formula_plus_run {f h : Fm} {B C U V : Nat} (g : f.Go B U) (g2 : h.Go C U) (g3 : (f.plus h 1).Go V U) (n1 : f.NF) (n2 : h.NF) (l1 : f.v.length ≤ 400) (l2 : h.v.length ≤ 400) (s : OSt) : M.formula_plus [fmD f, fmD h] s = .ok (.sh (fmD (f.plus h 1).less)) s := by
  have j := plus_run g g2 g3 s
  have c1 := check_formula_run g n1 l1 s
  have c2 := check_formula_run g2 n2 l2 s
  show evFn 2 2 M.formula_plusS _ s = _
  unfold evFn M.formula_plusS
  rw [if_pos (show [fmD f, fmD h].length = 2 from rfl), show startE 2 [fmD f, fmD h] = [.sh (fmD f), .sh (fmD h)] from rfl]
  generalize fmD (f.plus h 1).less = Z at *
  generalize fmD f = X at *
  generalize fmD h = Y at *
  simp [exS, ev, evs, R.bind, lift, Slot.val, Rs.d, freeze, Rs.isBo, callR, c1, c2, j, withV, endR]
theorem minus_run {f h : Fm} {B C U V : Nat} (g : f.Go B U) (g2 : h.Go C U) (g3 : (f.plus h (-1)).Go V U) (s : OSt) : M.minus_formula [fmD f, fmD h] s = .ok (.sh (fmD (f.plus h (-1)).less)) s := by
  have j := joined_by_run (Or.inr rfl) g g2 g3 s
  show evFn 2 2 M.minus_formulaS _ s = _
  unfold evFn M.minus_formulaS
  rw [if_pos (show [fmD f, fmD h].length = 2 from rfl), show startE 2 [fmD f, fmD h] = [.sh (fmD f), .sh (fmD h)] from rfl]
  generalize fmD (f.plus h (-1)).less = Z at *
  generalize fmD f = X at *
  generalize fmD h = Y at *
  simp [exS, ev, evs, R.bind, lift, Slot.val, Rs.d, freeze, Rs.isBo, callR, negF, j, withV, endR]
theorem formula_minus_run {f h : Fm} {B C U V : Nat} (g : f.Go B U) (g2 : h.Go C U) (g3 : (f.plus h (-1)).Go V U) (n1 : f.NF) (n2 : h.NF) (l1 : f.v.length ≤ 400) (l2 : h.v.length ≤ 400) (s : OSt) : M.formula_minus [fmD f, fmD h] s = .ok (.sh (fmD (f.plus h (-1)).less)) s := by
  have j := minus_run g g2 g3 s
  have c1 := check_formula_run g n1 l1 s
  have c2 := check_formula_run g2 n2 l2 s
  show evFn 2 2 M.formula_minusS _ s = _
  unfold evFn M.formula_minusS
  rw [if_pos (show [fmD f, fmD h].length = 2 from rfl), show startE 2 [fmD f, fmD h] = [.sh (fmD f), .sh (fmD h)] from rfl]
  generalize fmD (f.plus h (-1)).less = Z at *
  generalize fmD f = X at *
  generalize fmD h = Y at *
  simp [exS, ev, evs, R.bind, lift, Slot.val, Rs.d, freeze, Rs.isBo, callR, c1, c2, j, withV, endR]
theorem value_at_run {f : Fm} {B U C V n : Nat} (g : f.Go B U) (nf : f.NF) (hl : f.v.length ≤ 400) (g2 : f.Go C V) (hn : n ≤ V) (hn2 : n ≤ 10 ^ 30) (s : OSt) : M.value_at [fmD f, .int n] s = .ok (.sh (.int (f.den n))) s := by
  have c1 := check_formula_run g nf hl s
  have t := told_so_run g2 hn s
  have fr := is_from_run (n : Int) 0 1000000000000000000000000000000 s
  rw [decide_eq_true (by omega)] at fr
  show evFn 2 2 M.value_atS _ s = _
  unfold evFn M.value_atS
  rw [if_pos (show [fmD f, D.int n].length = 2 from rfl), show startE 2 [fmD f, D.int n] = [.sh (fmD f), .sh (.int n)] from rfl]
  generalize fmD f = X at *
  simp [exS, ev, evs, R.bind, lift, Slot.val, Rs.d, freeze, Rs.isBo, callR, c1, fr, t, withV, endR]
def coefs (f : Fm) : List Int := [f.a, f.b, f.c, f.d]
theorem fm_c1 (f : Fm) : idxF (fmD f) (.int 1) = some (tn (coefs f)) := rfl
theorem equal_from_run {f h : Fm} {B C U V : Nat} (g : f.Go B U) (g2 : h.Go C U) (g3 : (f.plus h (-1)).Go V U) (n1 : f.NF) (n2 : h.NF) (l1 : f.v.length ≤ 400) (l2 : h.v.length ≤ 400) (s : OSt) : M.equal_from [fmD f, fmD h] s = .ok (.sh (if coefs h = coefs f then .int ((f.plus h (-1)).less.v.length : Nat) else .non)) s := by
  have j := minus_run g g2 g3 s
  have c1 := check_formula_run g n1 l1 s
  have c2 := check_formula_run g2 n2 l2 s
  have i1 := fm_c1 f
  have i2 := fm_c1 h
  have i3 := fm_i0 (f.plus h (-1)).less
  have ln := (show Seq (tn (f.plus h (-1)).less.v) (f.plus h (-1)).less.v from Or.inl rfl).len
  have en := eqF_tn (coefs h) (coefs f)
  show evFn 2 2 M.equal_fromS _ s = _
  unfold evFn M.equal_fromS
  rw [if_pos (show [fmD f, fmD h].length = 2 from rfl), show startE 2 [fmD f, fmD h] = [.sh (fmD f), .sh (fmD h)] from rfl]
  generalize fmD (f.plus h (-1)).less = Z at *
  generalize fmD f = X at *
  generalize fmD h = Y at *
  generalize tn (f.plus h (-1)).less.v = W at *
  generalize tn (coefs f) = CF at *
  generalize tn (coefs h) = CH at *
  generalize (((f.plus h (-1)).less.v.length : Nat) : Int) = w at *
  by_cases he : coefs h = coefs f
  · rw [decide_eq_true he] at en
    simp [exS, ev, evs, R.bind, lift, Slot.val, Rs.d, freeze, Rs.isBo, callR, c1, c2, i1, i2, cmpF, en, j, i3, ln, withV, endR, he]
  · rw [decide_eq_false he] at en
    simp [exS, ev, evs, R.bind, lift, Slot.val, Rs.d, freeze, Rs.isBo, callR, c1, c2, i1, i2, cmpF, en, j, i3, ln, withV, endR, he]
/-! ### shown -/
theorem fm_show {f : Fm} {e m : Nat} (h : f.Tame e m) (he : e < 1000) (hm : m ≤ 1000) : D.showable (fmD f) = true ∧ D.rlen (fmD f) ≤ 1000000 ∧ D.deep 2 (fmD f) = true := by
  have lt : ∀ x : Int, x.natAbs ≤ 2 ^ e → x.natAbs < 2 ^ 1000 := fun x hx => Nat.lt_of_le_of_lt hx (Nat.pow_lt_pow_right (by decide) he)
  have s1 := showables_ints f.v fun x hx => lt x (h.bd.v x hx)
  have s2 := showables_ints [f.a, f.b, f.c, f.d] fun x hx => by
    have : x = f.a ∨ x = f.b ∨ x = f.c ∨ x = f.d := by simpa using hx
    rcases this with rfl | rfl | rfl | rfl
    · exact lt _ h.bd.a
    · exact lt _ h.bd.b
    · exact lt _ h.bd.c
    · exact lt _ h.bd.d
  refine ⟨?_, ?_, deep_fm f 0⟩
  · rw [fmD, D.showable, D.showables, D.showables, D.showables, tn, tn, D.showable, D.showable, s1, s2]; rfl
  · rw [fmD, D.rlen, D.rlens, D.rlens, D.rlens, tn, tn, D.rlen, D.rlen, rlens_ints, rlens_ints]
    have := h.len
    simp only [List.length_cons, List.length_nil]
    omega
theorem int_show {i : Int} (h : i.natAbs < 2 ^ 1000) : D.showable (.int i) = true := by
  rw [D.showable, decide_eq_true_eq]
  exact Nat.lt_trans h (by unfold SHOW; exact Nat.pow_lt_pow_right (by decide) (by decide))
theorem like_int {i : Int} (h : i.natAbs < 2 ^ 1000) (s : OSt) : M.Llaw_like [.int i, .int i] s = .ok (.sh (.bl true)) s := by
  refine like_run ?_ s
  unfold reprOk
  rw [int_show h, D.rlen]
  simp [D.deep, DEEP]
end RS
end
section
set_option autoImplicit false
set_option linter.all false
set_option maxRecDepth 100000
set_option maxHeartbeats 4000000
/-! T_DrawsG: rows of drawn numbers, each changed by g. -/
namespace RS
theorem draws_compG {ρw : Env} {tg : Tg} {elt : E} {l : Int} (g : Int → Int) (h0 : 0 < l) (h1 : l < 2 ^ 64)
    (hs : ∀ d s x s', M.Llaw_draw [.st, .int l] s = .ok (.sh (.int x)) s' → stepP ρw tg .omit elt d s = .ok (some (.int (g x))) s') : ∀ (items : List D) (acc : List Int) (k : Nat) (s : OSt), St (items.length + k) s → acc.length + items.length ≤ 1000 →
    ∃ (r : List Int) (s' : OSt), compL (stepP ρw tg .omit elt) items (acc.map D.int) s = .ok ((acc ++ r).map D.int) s' ∧ r.length = items.length ∧ (∀ y ∈ r, ∃ x, 0 ≤ x ∧ x < l ∧ y = g x) ∧ St k s'
  | [], acc, k, s, h, _ => ⟨[], s, by simp [compL], rfl, by simp, by simpa using h⟩
  | d :: items, acc, k, s, h, hl => by
    rw [List.length_cons] at h hl
    obtain ⟨x, s1, r, a, b, h2⟩ := draw_run (k := items.length + k) (h.mono (by omega)) h0 h1
    obtain ⟨m, s', e, e2, e3, h'⟩ := draws_compG g h0 h1 hs items (acc ++ [g x]) k s1 h2 (by rw [List.length_append]; simp; omega)
    refine ⟨g x :: m, s', ?_, by rw [List.length_cons, List.length_cons, e2], fun y hy => ?_, h'⟩
    · rw [compL, hs d s x s1 r]
      simp only []
      rw [if_pos (by rw [List.length_map]; unfold LIM; omega)]
      have : acc.map D.int ++ [D.int (g x)] = (acc ++ [g x]).map D.int := by simp
      rw [this, e]
      simp
    · rcases List.mem_cons.mp hy with z | z
      · rw [z]; exact ⟨x, a, b, rfl⟩
      · exact e3 y z
theorem ev_drawsG {vs : List Nat} {tg : Tg} {it elt : E} {ρ : Env} {s s0 : OSt} {items : List D} {l : Int} (g : Int → Int) (k : Nat) (hi : evI it ρ s0 = .ok (items, none) s) (no : noOw ρ vs = true) (h0 : 0 < l) (h1 : l < 2 ^ 64)
    (hs : ∀ d s x s', M.Llaw_draw [.st, .int l] s = .ok (.sh (.int x)) s' → stepP (wipeE ρ vs) tg .omit elt d s = .ok (some (.int (g x))) s') (hk : St (items.length + k) s) (hl : items.length ≤ 1000) :
    ∃ (r : List Int) (s' : OSt), ev (.comp vs tg it .omit elt) ρ s0 = .ok (.fr (.lst (r.map D.int))) s' ∧ r.length = items.length ∧ (∀ y ∈ r, ∃ x, 0 ≤ x ∧ x < l ∧ y = g x) ∧ St k s' := by
  obtain ⟨r, s', e, e2, e3, e4⟩ := draws_compG g h0 h1 hs items [] k s hk (by simpa using hl)
  refine ⟨r, s', ?_, e2, e3, e4⟩
  rw [ev, hi, bind_mk]
  dsimp only
  rw [if_pos no]
  exact Eq.trans (congrArg (fun z => R.bind z fun acc s2 => R.ok (Rs.fr (.lst acc)) s2) e) rfl
end RS
end
section
set_option autoImplicit false
set_option linter.all false
set_option maxRecDepth 100000
set_option maxHeartbeats 4000000
/-! T_LawFm: the law's drawn formulas. -/
namespace RS
abbrev q_Llaw_formula1 : S := (.ife (.cmp .eq (.call "_law_draw" M.Llaw_draw (.cons (.var 0) (.cons (.con (.int 4)) .nil))) (.con (.int 0))) (.seq (.asgS 1 (.call "_law_draw" M.Llaw_draw (.cons (.var 0) (.cons (.con (.int 3)) .nil)))) (.seq (.ret (.call "formula_of" M.formula_of (.cons (.call "_law_lines" M.Llaw_lines (.cons (.var 0) (.cons (.var 1) (.cons (.con (.int 3)) (.cons (.con (.int 2)) .nil))))) (.cons (.var 1) .nil)))) .skip)) .skip)
abbrev q_Llaw_formula2 : S := (.asgS 2 (.prim .tuple (.cons (.comp [3] (.nm 3) (.itRange (.cons (.con (.int 4)) .nil)) .omit (.bin .sub (.call "_law_draw" M.Llaw_draw (.cons (.var 0) (.cons (.con (.int 9)) .nil))) (.con (.int 4)))) .nil)))
abbrev q_Llaw_formula3 : S := (.asgS 4 (.comp [3] (.nm 3) (.itRange (.cons (.call "_law_draw" M.Llaw_draw (.cons (.var 0) (.cons (.con (.int 7)) .nil))) .nil)) .omit (.bin .sub (.call "_law_draw" M.Llaw_draw (.cons (.var 0) (.cons (.con (.int 7)) .nil))) (.con (.int 3)))))
abbrev q_Llaw_formula4_1 : S := (.ife (.and (.cmp .ne (.var 4) (.lst .nil)) (.cmp .eq (.idx (.var 4) (.neg (.con (.int 1)))) (.call "_law_told_by" M.Llaw_told_by (.cons (.tup (.cons (.tup .nil) (.cons (.var 2) .nil))) (.cons (.bin .sub (.prim .len (.cons (.var 4) .nil)) (.con (.int 1))) .nil))))) (.seq (.asgS 4 (.slc (.var 4) .omit (.neg (.con (.int 1))))) .skip) .skip)
abbrev q_Llaw_formula4B : S := (.seq q_Llaw_formula4_1 .skip)
abbrev q_Llaw_formula4 : S := (.for (.nm 5) (.itRange (.cons (.prim .len (.cons (.var 4) .nil)) .nil)) q_Llaw_formula4B)
abbrev q_Llaw_formula5 : S := (.ret (.tup (.cons (.prim .tuple (.cons (.var 4) .nil)) (.cons (.var 2) .nil))))
abbrev q_Llaw_formulaAll : S := (.seq q_Llaw_formula1 (.seq q_Llaw_formula2 (.seq q_Llaw_formula3 (.seq q_Llaw_formula4 (.seq q_Llaw_formula5 .skip)))))
theorem q_Llaw_formula_eq : M.Llaw_formulaS = q_Llaw_formulaAll := rfl
theorem lf_turn {f : Fm} {m : Nat} {x5 : Slot} {st : D} {B U : Nat} {s : OSt} (hb : f.Bd B) (sm : Sm B U) (hm : m ≤ f.v.length) (hU : f.v.length ≤ U) (h9 : f.v.length ≤ 900) :
    exS q_Llaw_formula4B [.sh st, .no, .sh (tn [f.a, f.b, f.c, f.d]), .no, .sh (.lst ((f.v.take m).map D.int)), x5] s =
      .nx [.sh st, .no, .sh (tn [f.a, f.b, f.c, f.d]), .no, .sh (.lst ((f.v.take (if 0 < m ∧ f.eqAt (m - 1) = true then m - 1 else m)).map D.int)), x5] s := by
  have hl : (f.v.take m).length = m := by rw [List.length_take]; omega
  have ne : ev (.cmp .ne (.var 4) (.lst .nil)) [.sh st, .no, .sh (tn [f.a, f.b, f.c, f.d]), .no, .sh (.lst ((f.v.take m).map D.int)), x5] s = .ok (.sh (.bl (decide (m ≠ 0)))) s := by
    have e0 : eqF (.lst ((f.v.take m).map D.int)) (.lst []) = some (decide (m = 0)) := by
      have e : ∀ l : List Int, eqF (.lst (l.map D.int)) (.lst []) = some (decide (l = [])) := fun l => by
        have d1 : D.deep DEEP (.lst (l.map D.int)) = true := by show D.deep (59 + 1) _ = true; rw [D.deep]; exact deeps_ints 59 l
        have d2 : D.deep DEEP (.lst []) = true := rfl
        unfold eqF
        rw [d1, d2, D.eqv]
        have := eqvs_ints l []
        rw [List.map_nil] at this
        rw [this]; rfl
      rw [e, Option.some.injEq, decide_eq_decide, ← List.length_eq_zero_iff, hl]
    rw [ev, ev_var (d := .lst ((f.v.take m).map D.int)) rfl, bind_mk]
    simp only [ev, evs, R.bind, freeze, List.map_nil, Rs.d, if_true, cmpF, e0, Option.map, lift]
    by_cases h : m = 0 <;> simp [h]
  match m, hm with
  | 0, _ =>
    have c : ev (.and (.cmp .ne (.var 4) (.lst .nil)) (.cmp .eq (.idx (.var 4) (.neg (.con (.int 1)))) (.call "_law_told_by" M.Llaw_told_by (.cons (.tup (.cons (.tup .nil) (.cons (.var 2) .nil))) (.cons (.bin .sub (.prim .len (.cons (.var 4) .nil)) (.con (.int 1))) .nil))))) [.sh st, .no, .sh (tn [f.a, f.b, f.c, f.d]), .no, .sh (.lst ((f.v.take 0).map D.int)), x5] s = .ok (.sh (.bl false)) s := by
      rw [ev, ne, bind_mk]; rfl
    rw [exS_seq (ife_false c), exS]
    rfl
  | m + 1, hm =>
    have tk : f.v.take (m + 1) = f.v.take m ++ [f.v.getD m 0] := by
      rw [List.take_succ, List.getD_eq_getElem?_getD, List.getElem?_eq_getElem (by omega)]; rfl
    have li := last_idx (f.v.take m) (f.v.getD m 0)
    have ci := cut_init (f.v.take m) (f.v.getD m 0)
    rw [← tk] at li ci
    have ln := (show Seq (.lst ((f.v.take (m + 1)).map D.int)) (f.v.take (m + 1)) from Or.inr rfl).len
    rw [hl] at ln
    have td := told_by_run (f := Fm.mk [] f.a f.b f.c f.d) (n := m) ⟨by simp, hb.a, hb.b, hb.c, hb.d⟩ sm (by omega) s
    have dn : (Fm.mk [] f.a f.b f.c f.d).den m = f.P m := by unfold Fm.den; rw [if_neg (by simp)]; rfl
    rw [dn] at td
    have td : M.Llaw_told_by [.tup [.tup [], tn [f.a, f.b, f.c, f.d]], .int m] s = .ok (.sh (.int (f.P m))) s := td
    have c1 : ((m + 1 : Nat) : Int) - 1 = (m : Int) := by omega
    have c : ev (.and (.cmp .ne (.var 4) (.lst .nil)) (.cmp .eq (.idx (.var 4) (.neg (.con (.int 1)))) (.call "_law_told_by" M.Llaw_told_by (.cons (.tup (.cons (.tup .nil) (.cons (.var 2) .nil))) (.cons (.bin .sub (.prim .len (.cons (.var 4) .nil)) (.con (.int 1))) .nil))))) [.sh st, .no, .sh (tn [f.a, f.b, f.c, f.d]), .no, .sh (.lst ((f.v.take (m + 1)).map D.int)), x5] s = .ok (.sh (.bl (f.eqAt m))) s := by
      rw [ev, ne, bind_mk]
      have eq := eqF_int (f.v.getD m 0) (f.P m)
      have eE : f.eqAt m = decide (f.v.getD m 0 = f.P m) := rfl
      rw [← eE] at eq
      generalize f.eqAt m = b at *
      generalize f.v.getD m 0 = u at *
      generalize f.P m = v at *
      generalize (f.v.take (m + 1)).map D.int = L at *
      generalize tn [f.a, f.b, f.c, f.d] = W at *
      generalize ((m + 1 : Nat) : Int) = w at *
      simp [ev, evs, R.bind, lift, Slot.val, Rs.d, freeze, Rs.isBo, negF, li, ln, binF, c1, callR, td, cmpF, eq]
    have hp : (0 < m + 1 ∧ f.eqAt (m + 1 - 1) = true) ↔ f.eqAt m = true := by simp
    cases he : f.eqAt m with
    | true =>
      rw [he] at c
      rw [if_pos (hp.mpr he), exS, exS, c]
      simp only [withV, Nat.add_sub_cancel]
      generalize (f.v.take (m + 1)).map D.int = L at *
      generalize (f.v.take m).map D.int = K at *
      generalize tn [f.a, f.b, f.c, f.d] = W at *
      simp [exS, ev, R.bind, lift, Slot.val, Rs.d, Rs.isBo, negF, partOf, slcF, ci, withV, outOf, assignAll, slotOf]
    | false =>
      rw [he] at c
      rw [if_neg (fun z => by have := hp.mp z; rw [he] at this; cases this), exS_seq (ife_false c), exS]
theorem law_formula_run {k : Nat} {s : OSt} (hk : St (20 + k) s) : ∃ f s', M.Llaw_formula [.st] s = .ok (.sh (fmD f)) s' ∧ f.NF ∧ f.Tame 600 36 ∧ St k s' := by
  obtain ⟨d, s1, r1, a1, b1, h1⟩ := draw_run (k := 19 + k) (hk.mono (by omega)) (l := 4) (by decide) (by decide)
  show ∃ f s', evFn 6 1 M.Llaw_formulaS [.st] s = .ok (.sh (fmD f)) s' ∧ _
  have c1 : ev (.cmp .eq (.call "_law_draw" M.Llaw_draw (.cons (.var 0) (.cons (.con (.int 4)) .nil))) (.con (.int 0))) [.sh .st, .no, .no, .no, .no, .no] s = .ok (.sh (.bl (decide (d = 0)))) s1 := by
    have eq := eqF_int d 0
    generalize decide (d = 0) = b at *
    simp [ev, evs, R.bind, lift, Slot.val, Rs.d, freeze, Rs.isBo, callR, r1, cmpF, eq]
  by_cases hd : d = 0
  · rw [decide_eq_true hd] at c1
    obtain ⟨zz, s2, r2, a2, b2, h2⟩ := draw_run (k := 18 + k) (h1.mono (by omega)) (l := 3) (by decide) (by decide)
    obtain ⟨z, rfl⟩ : ∃ z : Nat, zz = z := ⟨zz.toNat, by omega⟩
    have hz : z ≤ 2 := by omega
    obtain ⟨R0, s3, r3, p3, l3, h3⟩ := lines_run (z := z) (m := 3) (h := 2) (k := 5 + k) (by omega) (by decide) (by decide) (by decide) (h2.mono (by omega))
    have hR : ∀ r ∈ R0, RowOk z r := fun r hr => (p3 r hr).ok (by decide)
    have fo := formula_of_run hR (by omega) (by omega) s3
    obtain ⟨nf, ft⟩ := form_tame z R0 (by omega) hR
    refine ⟨formL z R0, s3, ?_, nf, ft.mono (by omega) (by omega), h3.mono (by omega)⟩
    unfold evFn
    rw [if_pos (show [D.st].length = 1 from rfl), show startE 6 [D.st] = [.sh .st, .no, .no, .no, .no, .no] from rfl, q_Llaw_formula_eq, exS, exS, c1]
    simp only [withV]
    generalize fmD (formL z R0) = Z at *
    generalize rowsD R0 = X at *
    have r3 : M.Llaw_lines [.st, .int z, .int 3, .int 2] s2 = .ok (.sh X) s3 := r3
    simp [exS, ev, evs, R.bind, lift, Slot.val, Rs.d, freeze, Rs.isBo, callR, r2, r3, fo, withV, outOf, assignAll, slotOf, endR]
  · rw [decide_eq_false hd] at c1
    have i4 : ∀ ρ : Env, evI (.itRange (.cons (.con (.int 4)) .nil)) ρ s1 = .ok (fromInts 0 4, none) s1 := fun ρ => evI_range (rs := [.sh (.int 4)]) (by simp [evs, ev, R.bind]) (rangeF_one (by decide))
    obtain ⟨hd4, s2, e2, l2, p2, h2⟩ := ev_drawsG (vs := [3]) (tg := .nm 3) (elt := .bin .sub (.call "_law_draw" M.Llaw_draw (.cons (.var 0) (.cons (.con (.int 9)) .nil))) (.con (.int 4))) (ρ := [.sh .st, .no, .no, .no, .no, .no]) (l := 9) (fun x => x - 4) (14 + k) (i4 _) rfl (by decide) (by decide) (fun d s x s' h => by
      simp [stepP, bindTg, wipeE, ev, evs, R.bind, lift, Slot.val, Rs.isBo, Rs.d, callR, freeze, binF, h]) (h1.mono (by simp [fromInts]; omega)) (by simp [fromInts])
    have l2 : hd4.length = 4 := l2
    obtain ⟨a, b, c, d', rfl⟩ : ∃ a b c d, hd4 = [a, b, c, d] := by
      match hd4, l2 with
      | [a, b, c, d], _ => exact ⟨a, b, c, d, rfl⟩
    have sm4 : ∀ y : Int, y ∈ [a, b, c, d'] → y.natAbs ≤ 2 ^ 3 := fun y hy => by
      obtain ⟨x, h1, h2, rfl⟩ := p2 y hy
      omega
    obtain ⟨nn, s3, r3, a3, b3, h3⟩ := draw_run (k := 13 + k) (h2.mono (by omega)) (l := 7) (by decide) (by decide)
    obtain ⟨n, rfl⟩ : ∃ n : Nat, nn = n := ⟨nn.toNat, by omega⟩
    have hfn : (fromInts 0 n).length = n := by simp [fromInts]
    have i5 : evI (.itRange (.cons (.call "_law_draw" M.Llaw_draw (.cons (.var 0) (.cons (.con (.int 7)) .nil))) .nil)) [.sh .st, .no, .sh (tn [a, b, c, d']), .no, .no, .no] s2 = .ok (fromInts 0 n, none) s3 := by
      have b2 := rangeF_one (a := (n : Int)) (by omega)
      rw [Int.toNat_natCast] at b2
      refine evI_range (rs := [.sh (.int (n : Int))]) ?_ b2
      generalize tn [a, b, c, d'] = W
      simp [evs, ev, R.bind, lift, Slot.val, Rs.d, callR, freeze, Rs.isBo, r3]
    obtain ⟨v, s4, e4, l4, p4, h4⟩ := ev_drawsG (vs := [3]) (tg := .nm 3) (elt := .bin .sub (.call "_law_draw" M.Llaw_draw (.cons (.var 0) (.cons (.con (.int 7)) .nil))) (.con (.int 3))) (ρ := [.sh .st, .no, .sh (tn [a, b, c, d']), .no, .no, .no]) (l := 7) (fun x => x - 3) (7 + k) i5 rfl (by decide) (by decide) (fun d s x s' h => by
      generalize tn [a, b, c, d'] = W
      simp [stepP, bindTg, wipeE, ev, evs, R.bind, lift, Slot.val, Rs.isBo, Rs.d, callR, freeze, binF, h]) (h3.mono (by rw [hfn]; omega)) (by rw [hfn]; omega)
    rw [hfn] at l4
    have tf : (Fm.mk v a b c d').Tame 3 6 := ⟨⟨fun x hx => by
      obtain ⟨y, h1, h2, rfl⟩ := p4 x hx
      omega, sm4 a (by simp), sm4 b (by simp), sm4 c (by simp), sm4 d' (by simp)⟩, by show v.length ≤ 6; omega⟩
    have g := tf.go (by decide) (by decide)
    have g1 : exS q_Llaw_formula2 [.sh .st, .no, .no, .no, .no, .no] s1 = .nx [.sh .st, .no, .sh (tn [a, b, c, d']), .no, .no, .no] s2 := by
      rw [exS, ev, evs, e2, bind_mk, evs, bind_mk, bind_mk]
      rfl
    have g2 : exS q_Llaw_formula3 [.sh .st, .no, .sh (tn [a, b, c, d']), .no, .no, .no] s2 = .nx [.sh .st, .no, .sh (tn [a, b, c, d']), .no, .sh (.lst (v.map D.int)), .no] s4 := by
      rw [exS, e4]
      rfl
    have lnv := (show Seq (.lst (v.map D.int)) v from Or.inr rfl).len
    have i6 : evI (.itRange (.cons (.prim .len (.cons (.var 4) .nil)) .nil)) [.sh .st, .no, .sh (tn [a, b, c, d']), .no, .sh (.lst (v.map D.int)), .no] s4 = .ok (fromInts 0 v.length, none) s4 := by
      have b2 := rangeF_one (a := (v.length : Int)) (by omega)
      rw [Int.toNat_natCast] at b2
      refine evI_range (rs := [.sh (.int (v.length : Int))]) ?_ b2
      generalize tn [a, b, c, d'] = W
      generalize D.lst (v.map D.int) = Z at *
      generalize ((v.length : Nat) : Int) = w at *
      simp [evs, ev, R.bind, lift, Slot.val, Rs.d, lnv]
    have loop := forL_run (step := fun d ρ s => match bindTg (.nm 5) d ρ with | some ρ1 => exS q_Llaw_formula4B ρ1 s | none => .no) (s := s4)
      (fun k ρ => ∃ m x5, ρ = [.sh .st, .no, .sh (tn [a, b, c, d']), .no, .sh (.lst ((v.take m).map D.int)), x5] ∧ downTo (Fm.mk v a b c d').eqAt v.length ≤ m ∧ m ≤ v.length ∧ (m ≤ v.length - k ∨ m = downTo (Fm.mk v a b c d').eqAt v.length)) (fromInts 0 v.length) 0 [.sh .st, .no, .sh (tn [a, b, c, d']), .no, .sh (.lst (v.map D.int)), .no]
      ⟨v.length, .no, by rw [List.take_length], downTo_le _ _, Nat.le_refl _, Or.inl (by omega)⟩ (fun i d ρ hd hI => by
      obtain ⟨m, x5, rfl, q1, q2, q3⟩ := hI
      have hi : i < v.length := by
        have := (List.getElem?_eq_some_iff.mp hd).1
        simpa [fromInts] using this
      have t := lf_turn (f := Fm.mk v a b c d') (m := m) (x5 := .sh d) (st := .st) (s := s4) tf.bd g.sm q2 g.len g.few
      refine ⟨_, t, _, .sh d, rfl, ?_⟩
      by_cases hm : m = downTo (Fm.mk v a b c d').eqAt v.length
      · have hno : ¬ (0 < m ∧ (Fm.mk v a b c d').eqAt (m - 1) = true) := by
          rintro ⟨w1, w2⟩
          have := downTo_stop (Fm.mk v a b c d').eqAt (n := v.length) (k := m - 1) (by omega)
          rw [this] at w2; cases w2
        rw [if_neg hno]
        exact ⟨q1, q2, Or.inr hm⟩
      · have hyes : 0 < m ∧ (Fm.mk v a b c d').eqAt (m - 1) = true := ⟨by omega, downTo_above _ (by omega : downTo (Fm.mk v a b c d').eqAt v.length ≤ m - 1) (by omega)⟩
        rw [if_pos hyes]
        refine ⟨by omega, by omega, ?_⟩
        rcases q3 with q3 | q3
        · left; omega
        · exact absurd q3 hm)
    obtain ⟨ρ', e6, m, x5, rfl, q1, q2, q3⟩ := loop
    have hm : m = downTo (Fm.mk v a b c d').eqAt v.length := by
      have : (fromInts 0 v.length).length = v.length := by simp [fromInts]
      rw [this] at q3
      omega
    subst hm
    have g3 : exS q_Llaw_formula4 [.sh .st, .no, .sh (tn [a, b, c, d']), .no, .sh (.lst (v.map D.int)), .no] s4 = .nx [.sh .st, .no, .sh (tn [a, b, c, d']), .no, .sh (.lst ((v.take (downTo (Fm.mk v a b c d').eqAt v.length)).map D.int)), x5] s4 := by
      rw [exS, i6]; exact e6
    refine ⟨(Fm.mk v a b c d').less, s4, ?_, Fm.less_nf _, tf.less.mono (by decide) (by decide), h4.mono (by omega)⟩
    unfold evFn
    rw [if_pos (show [D.st].length = 1 from rfl), show startE 6 [D.st] = [.sh .st, .no, .no, .no, .no, .no] from rfl, q_Llaw_formula_eq, exS_seq (ife_false c1), exS_seq g1, exS_seq g2, exS_seq g3]
    have tp := (show Seq (.lst ((v.take (downTo (Fm.mk v a b c d').eqAt v.length)).map D.int)) (v.take (downTo (Fm.mk v a b c d').eqAt v.length)) from Or.inr rfl).tup
    have ef : fmD (Fm.mk v a b c d').less = .tup [tn (v.take (downTo (Fm.mk v a b c d').eqAt v.length)), tn [a, b, c, d']] := rfl
    rw [ef]
    generalize tn [a, b, c, d'] = W at *
    generalize D.lst ((v.take (downTo (Fm.mk v a b c d').eqAt v.length)).map D.int) = Z at *
    generalize tn (v.take (downTo (Fm.mk v a b c d').eqAt v.length)) = Y at *
    simp [exS, ev, evs, R.bind, lift, Slot.val, Rs.d, freeze, Rs.isBo, tp, withV, endR]
end RS
end
section
set_option autoImplicit false
set_option linter.all false
set_option maxRecDepth 100000
set_option maxHeartbeats 8000000
/-! K16A: two formulas, added and compared. -/
namespace RS
abbrev q_Llaw_right1 : S := (.asgS 3 (.bin .add (.prim .max (.cons (.prim .len (.cons (.idx (.var 1) (.con (.int 0))) .nil)) (.cons (.prim .len (.cons (.idx (.var 2) (.con (.int 0))) .nil)) .nil))) (.con (.int 4))))
abbrev q_Llaw_right2 : S := (.par [4, 5] (.cons (.lst .nil) (.cons (.lst .nil) .nil)))
abbrev q_Llaw_right3 : S := (.share 4)
abbrev q_Llaw_right4 : S := (.share 5)
abbrev q_Llaw_right5_1 : S := (.par [7, 8] (.cons (.call "_law_told_by" M.Llaw_told_by (.cons (.var 1) (.cons (.var 6) .nil))) (.cons (.call "_law_told_by" M.Llaw_told_by (.cons (.var 2) (.cons (.var 6) .nil))) .nil)))
abbrev q_Llaw_right5_2 : S := (.share 7)
abbrev q_Llaw_right5_3 : S := (.share 8)
abbrev q_Llaw_right5_4 : S := (.par [4, 5] (.cons (.bin .add (.var 4) (.lst (.cons (.bin .add (.var 7) (.var 8)) .nil))) (.cons (.bin .add (.var 5) (.lst (.cons (.bin .sub (.var 7) (.var 8)) .nil))) .nil)))
abbrev q_Llaw_right5_5 : S := (.share 4)
abbrev q_Llaw_right5_6 : S := (.share 5)
abbrev q_Llaw_right5B : S := (.seq q_Llaw_right5_1 (.seq q_Llaw_right5_2 (.seq q_Llaw_right5_3 (.seq q_Llaw_right5_4 (.seq q_Llaw_right5_5 (.seq q_Llaw_right5_6 .skip))))))
abbrev q_Llaw_right5 : S := (.for (.nm 6) (.itRange (.cons (.var 3) .nil)) q_Llaw_right5B)
abbrev q_Llaw_right6 : S := (.asgS 9 (.lst (.cons (.call "formula_plus" M.formula_plus (.cons (.var 1) (.cons (.var 2) .nil))) (.cons (.call "formula_minus" M.formula_minus (.cons (.var 1) (.cons (.var 2) .nil))) (.cons (.call "formula_minus" M.formula_minus (.cons (.var 1) (.cons (.var 1) .nil))) .nil)))))
abbrev q_Llaw_right7 : S := (.ife (.not (.call "_law_like" M.Llaw_like (.cons (.var 9) (.cons (.lst (.cons (.call "_law_due_formula" M.Llaw_due_formula (.cons (.var 4) .nil)) (.cons (.call "_law_due_formula" M.Llaw_due_formula (.cons (.var 5) .nil)) (.cons (.tup (.cons (.tup .nil) (.cons (.tup (.cons (.con (.int 0)) (.cons (.con (.int 0)) (.cons (.con (.int 0)) (.cons (.con (.int 0)) .nil))))) .nil))) .nil)))) .nil)))) (.seq (.ret (.con (.bl false))) .skip) .skip)
abbrev q_Llaw_right8 : S := (.asgS 10 (.con .non))
abbrev q_Llaw_right9 : S := (.ife (.cmp .eq (.idx (.var 1) (.con (.int 1))) (.idx (.var 2) (.con (.int 1)))) (.seq (.asgS 10 (.prim .len (.cons (.idx (.call "_law_due_formula" M.Llaw_due_formula (.cons (.var 5) .nil)) (.con (.int 0))) .nil))) .skip) .skip)
abbrev q_Llaw_right10 : S := (.ife (.not (.call "_law_like" M.Llaw_like (.cons (.lst (.cons (.call "equal_from" M.equal_from (.cons (.var 1) (.cons (.var 2) .nil))) (.cons (.call "equal_from" M.equal_from (.cons (.var 1) (.cons (.var 1) .nil))) .nil))) (.cons (.lst (.cons (.var 10) (.cons (.con (.int 0)) .nil))) .nil)))) (.seq (.ret (.con (.bl false))) .skip) .skip)
abbrev q_Llaw_right11_1 : S := (.ife (.not (.call "_law_like" M.Llaw_like (.cons (.call "value_at" M.value_at (.cons (.var 1) (.cons (.var 6) .nil))) (.cons (.call "_law_told_by" M.Llaw_told_by (.cons (.var 1) (.cons (.var 6) .nil))) .nil)))) (.seq (.ret (.con (.bl false))) .skip) .skip)
abbrev q_Llaw_right11B : S := (.seq q_Llaw_right11_1 .skip)
abbrev q_Llaw_right11 : S := (.for (.nm 6) (.itE (.tup (.cons (.call "_law_draw" M.Llaw_draw (.cons (.var 0) (.cons (.con (.int 12)) .nil))) (.cons (.bin .sub (.bin .pow (.con (.int 10)) (.con (.int 30))) (.call "_law_draw" M.Llaw_draw (.cons (.var 0) (.cons (.con (.int 1000)) .nil)))) (.cons (.bin .pow (.con (.int 10)) (.con (.int 30))) .nil))))) q_Llaw_right11B)
abbrev q_Llaw_right12 : S := (.ret (.con (.bl true)))
abbrev q_Llaw_rightAll : S := (.seq q_Llaw_right1 (.seq q_Llaw_right2 (.seq q_Llaw_right3 (.seq q_Llaw_right4 (.seq q_Llaw_right5 (.seq q_Llaw_right6 (.seq q_Llaw_right7 (.seq q_Llaw_right8 (.seq q_Llaw_right9 (.seq q_Llaw_right10 (.seq q_Llaw_right11 (.seq q_Llaw_right12 .skip))))))))))))
theorem q_Llaw_right_eq : M.Llaw_rightS = q_Llaw_rightAll := rfl
theorem cancel_less (f : Fm) : (f.plus f (-1)).less = NOTH := by
  have ha : ∀ x : Int, x + -1 * x = 0 := fun x => by omega
  have hP : ∀ m : Int, (f.plus f (-1)).P m = 0 := fun m => by
    unfold Fm.P Fm.plus
    dsimp only
    rw [P_add]; omega
  have hv : ∀ n, (f.plus f (-1)).v.getD n 0 = 0 := fun n => by
    by_cases h : n < max f.v.length f.v.length
    · exact (getD_map_range _ _ _ h).trans (by omega)
    · have : (f.plus f (-1)).v.length ≤ n := by rw [f.plus_len]; omega
      rw [List.getD_eq_getElem?_getD, List.getElem?_eq_none this]; rfl
  have hd : downTo (f.plus f (-1)).eqAt (f.plus f (-1)).v.length = 0 := by
    rw [downTo_skip (Nat.zero_le _) fun k _ _ => by
      unfold Fm.eqAt
      rw [hP, hv]; rfl]
    rfl
  unfold Fm.less
  rw [hd, List.take_zero]
  unfold Fm.plus NOTH
  dsimp only
  rw [ha, ha, ha, ha]
abbrev rEnv (near far : Fm) (N : Nat) (x4 x5 x6 x7 x8 x9 x10 : Slot) : Env := [.sh .st, .sh (fmD near), .sh (fmD far), .sh (.int N), x4, x5, x6, x7, x8, x9, x10]
theorem nums_snoc (f : Fm) (n : Nat) : f.nums (n + 1) = f.nums n ++ [f.den n] := by
  unfold Fm.nums; rw [List.range_succ, List.map_append]; rfl
theorem rt5_turn {near far J K : Fm} {B U N n : Nat} {x7 x8 x9 x10 : Slot} {s : OSt} (hb : near.Bd B) (hb2 : far.Bd B) (sm : Sm B U) (hn : n ≤ U) (hn9 : n ≤ 900) (hJ : J.den n = near.den n + 1 * far.den n) (hK : K.den n = near.den n + -1 * far.den n) :
    exS q_Llaw_right5B (rEnv near far N (.sh (.lst ((J.nums n).map D.int))) (.sh (.lst ((K.nums n).map D.int))) (.sh (.int n)) x7 x8 x9 x10) s =
      .nx (rEnv near far N (.sh (.lst ((J.nums (n + 1)).map D.int))) (.sh (.lst ((K.nums (n + 1)).map D.int))) (.sh (.int n)) (.sh (.int (near.den n))) (.sh (.int (far.den n))) x9 x10) s := by
  have t1 := told_by_run hb sm hn s
  have t2 := told_by_run hb2 sm hn s
  have e1 : near.den n + far.den n = J.den n := by omega
  have e2 : near.den n - far.den n = K.den n := by omega
  have l1 : ((J.nums n).map D.int).length + 1 ≤ LIM := by rw [List.length_map, nums_len]; unfold LIM; omega
  have l2 : ((K.nums n).map D.int).length + 1 ≤ LIM := by rw [List.length_map, nums_len]; unfold LIM; omega
  rw [nums_snoc, nums_snoc, List.map_append, List.map_append, List.map_singleton, List.map_singleton]
  unfold rEnv
  generalize (J.nums n).map D.int = A at *
  generalize (K.nums n).map D.int = C at *
  generalize fmD near = X at *
  generalize fmD far = Y at *
  simp [exS, ev, evs, R.bind, lift, Slot.val, Rs.d, freeze, Rs.isBo, callR, t1, t2, binF, e1, e2, l1, l2, outOf, assignAll, slotOf]
theorem rt5_for {near far J K : Fm} {B U N : Nat} {x9 x10 : Slot} {s : OSt} (hb : near.Bd B) (hb2 : far.Bd B) (sm : Sm B U) (hN : N ≤ U) (hn9 : N ≤ 900) (hJ : ∀ n, J.den n = near.den n + 1 * far.den n) (hK : ∀ n, K.den n = near.den n + -1 * far.den n) :
    ∃ x6 x7 x8, exS q_Llaw_right5 (rEnv near far N (.sh (.lst [])) (.sh (.lst [])) .no .no .no x9 x10) s = .nx (rEnv near far N (.sh (.lst ((J.nums N).map D.int))) (.sh (.lst ((K.nums N).map D.int))) x6 x7 x8 x9 x10) s := by
  have hi : evI (.itRange (.cons (.var 3) .nil)) (rEnv near far N (.sh (.lst [])) (.sh (.lst [])) .no .no .no x9 x10) s = .ok (fromInts 0 N, none) s := by
    have b2 := rangeF_one (a := (N : Int)) (by omega)
    rw [Int.toNat_natCast] at b2
    refine evI_range (rs := [.sh (.int N)]) ?_ b2
    rw [evs, ev_var (d := .int N) rfl, bind_mk, evs, bind_mk]
  have loop := forL_run (step := fun d ρ s => match bindTg (.nm 6) d ρ with | some ρ1 => exS q_Llaw_right5B ρ1 s | none => .no) (s := s)
    (fun k ρ => ∃ x6 x7 x8, ρ = rEnv near far N (.sh (.lst ((J.nums k).map D.int))) (.sh (.lst ((K.nums k).map D.int))) x6 x7 x8 x9 x10) (fromInts 0 N) 0 _ ⟨.no, .no, .no, rfl⟩ (fun i d ρ hd hI => by
    obtain ⟨x6, x7, x8, rfl⟩ := hI
    obtain ⟨hi, hd2⟩ := List.getElem?_eq_some_iff.mp hd
    have hi2 : i < N := by simpa [fromInts] using hi
    have hd3 : d = .int (i : Nat) := by rw [← hd2]; simp [fromInts]
    subst hd3
    rw [Nat.zero_add]
    exact ⟨_, rt5_turn hb hb2 sm (by omega) (by omega) (hJ i) (hK i), _, _, _, rfl⟩)
  obtain ⟨ρ', e, x6, x7, x8, rfl⟩ := loop
  have : (fromInts 0 N).length = N := by simp [fromInts]
  rw [this, Nat.zero_add] at e
  refine ⟨x6, x7, x8, ?_⟩
  rw [exS, hi]; exact e
theorem like_three {f g h : Fm} {e m : Nat} (t1 : f.Tame e m) (t2 : g.Tame e m) (t3 : h.Tame e m) (he : e < 1000) (hm : m ≤ 1000) (s : OSt) : M.Llaw_like [.lst [fmD f, fmD g, fmD h], .lst [fmD f, fmD g, fmD h]] s = .ok (.sh (.bl true)) s := by
  refine like_run ?_ s
  obtain ⟨a1, a2, a3⟩ := fm_show t1 he hm
  obtain ⟨b1, b2, b3⟩ := fm_show t2 he hm
  obtain ⟨c1, c2, c3⟩ := fm_show t3 he hm
  unfold reprOk
  have d : D.deep DEEP (.lst [fmD f, fmD g, fmD h]) = true := by
    show D.deep (59 + 1) _ = true
    rw [D.deep, D.deeps, D.deeps, D.deeps, D.deeps, deep_fm f 57, deep_fm g 57, deep_fm h 57]; rfl
  rw [d, D.showable, D.showables, D.showables, D.showables, D.showables, a1, b1, c1, D.rlen, D.rlens, D.rlens, D.rlens, D.rlens]
  simp only [Bool.true_and, Bool.and_true, decide_eq_true_eq]
  omega
theorem like_pair2 {x y : D} (hx : x = .non ∨ ∃ n : Nat, x = .int n ∧ n < 1000) (hy : y = .int 0) (s : OSt) : M.Llaw_like [.lst [x, y], .lst [x, y]] s = .ok (.sh (.bl true)) s := by
  refine like_run ?_ s
  subst hy
  rcases hx with rfl | ⟨n, rfl, hn⟩
  · decide +kernel
  · have i1 : D.showable (.int n) = true := int_show (Nat.lt_of_lt_of_le (by omega : ((n : Nat) : Int).natAbs < 2 ^ 20) (Nat.pow_le_pow_right (by decide) (by decide)))
    have i2 : D.showable (.int 0) = true := int_show (Nat.lt_of_lt_of_le (by decide : (0 : Int).natAbs < 2 ^ 20) (Nat.pow_le_pow_right (by decide) (by decide)))
    unfold reprOk
    rw [D.showable, D.showables, D.showables, D.showables, i1, i2, D.rlen, D.rlens, D.rlens, D.rlens, D.rlen, D.rlen]
    simp [D.deep, D.deeps, DEEP]
theorem sm_big {e : Nat} (he : e ≤ 660) : Sm (2 ^ e) (2 ^ 100) := by
  refine ⟨Nat.one_le_two_pow, Nat.one_le_two_pow, ?_⟩
  have h1 : 2 ^ e ≤ 2 ^ 660 := Nat.pow_le_pow_right (by decide) he
  have h2 : 4 * (2 ^ e * (2 ^ 100 * 2 ^ 100 * 2 ^ 100)) ≤ 4 * (2 ^ 660 * (2 ^ 100 * 2 ^ 100 * 2 ^ 100)) := Nat.mul_le_mul_left _ (Nat.mul_le_mul_right _ h1)
  refine Nat.lt_of_le_of_lt h2 ?_
  unfold HUGE
  decide +kernel
theorem rt11_turn {near far : Fm} {e N n : Nat} {x4 x5 x7 x8 x9 x10 : Slot} {s : OSt} (t : near.Tame e 36) (he : e ≤ 660) (nf : near.NF) (hn : n ≤ 10 ^ 30) :
    exS q_Llaw_right11B (rEnv near far N x4 x5 (.sh (.int n)) x7 x8 x9 x10) s = .nx (rEnv near far N x4 x5 (.sh (.int n)) x7 x8 x9 x10) s := by
  have sm := sm_big he
  have hnU : n ≤ 2 ^ 100 := Nat.le_trans hn (by decide)
  have g2 : near.Go (2 ^ e) (2 ^ 100) := ⟨t.bd, sm, Nat.le_trans t.len (by decide), by have := t.len; omega⟩
  have v := value_at_run (t.go (by omega) (by decide)) nf (by have := t.len; omega) g2 hnU hn s
  have tb := told_by_run t.bd sm hnU s
  have lk := like_int (i := near.den n) (Nat.lt_of_le_of_lt (Fm.den_bd t.bd hnU sm.m1) sm.lt) s
  have c : ev (.not (.call "_law_like" M.Llaw_like (.cons (.call "value_at" M.value_at (.cons (.var 1) (.cons (.var 6) .nil))) (.cons (.call "_law_told_by" M.Llaw_told_by (.cons (.var 1) (.cons (.var 6) .nil))) .nil)))) (rEnv near far N x4 x5 (.sh (.int n)) x7 x8 x9 x10) s = .ok (.sh (.bl false)) s := by
    unfold rEnv
    generalize fmD near = X at *
    generalize fmD far = Y at *
    generalize ((n : Nat) : Int) = w at *
    simp [ev, evs, R.bind, lift, Slot.val, Rs.d, freeze, Rs.isBo, callR, v, tb, lk]
  rw [exS_seq (ife_false c), exS]
theorem forL_cons {step : D → Env → OSt → Out} {d : D} {ds : List D} {ρ ρ1 : Env} {s s1 : OSt} (h : step d ρ s = .nx ρ1 s1) : forL step (d :: ds) ρ s = forL step ds ρ1 s1 := by rw [forL, h]
abbrev rtStep : D → Env → OSt → Out := fun d ρ s => match bindTg (.nm 6) d ρ with | some ρ1 => exS q_Llaw_right11B ρ1 s | none => .no
theorem right_run {near far : Fm} {k : Nat} {s : OSt} (hk : St (2 + k) s) (n1 : near.NF) (n2 : far.NF) (t1 : near.Tame 621 36) (t2 : far.Tame 621 36) : ∃ s', M.Llaw_right [.st, fmD near, fmD far] s = .ok (.sh (.bl true)) s' ∧ St k s' := by
  have t2' := t2
  obtain ⟨d1, s1, r1, a1, b1, h1⟩ := draw_run (k := 1 + k) (hk.mono (by omega)) (l := 12) (by decide) (by decide)
  obtain ⟨d2, s2, r2, a2, b2, h2⟩ := draw_run (k := k) (h1.mono (by omega)) (l := 1000) (by decide) (by decide)
  have g1 := t1.go (by decide) (by decide)
  have g2 := t2.go (by decide) (by decide)
  have tp := Fm.Tame.plus (k := 1) (Or.inl rfl) t1 t2 (by decide)
  have tm := Fm.Tame.plus (k := -1) (Or.inr rfl) t1 t2 (by decide)
  have tz := Fm.Tame.plus (k := -1) (Or.inr rfl) t1 t1 (by decide)
  have tJ := tp.less
  have tK := tm.less
  have nJ := (near.plus far 1).less_nf
  have nK := (near.plus far (-1)).less_nf
  have dJ : ∀ n, (near.plus far 1).less.den n = near.den n + 1 * far.den n := fun n => by rw [Fm.den_less, Fm.den_plus]
  have dK : ∀ n, (near.plus far (-1)).less.den n = near.den n + -1 * far.den n := fun n => by rw [Fm.den_less, Fm.den_plus]
  have lJ : (near.plus far 1).less.v.length + 4 ≤ max near.v.length far.v.length + 4 := by have := (near.plus far 1).less_le; rw [Fm.plus_len] at this; omega
  have lK : (near.plus far (-1)).less.v.length + 4 ≤ max near.v.length far.v.length + 4 := by have := (near.plus far (-1)).less_le; rw [Fm.plus_len] at this; omega
  have fl : near.v.length ≤ 36 := t1.len
  have gl : far.v.length ≤ 36 := t2.len
  have pr := formula_plus_run g1 g2 (tp.go (by decide) (by decide)) n1 n2 (by omega) (by omega) s
  have mr := formula_minus_run g1 g2 (tm.go (by decide) (by decide)) n1 n2 (by omega) (by omega) s
  have zr := formula_minus_run g1 g1 (tz.go (by decide) (by decide)) n1 n1 (by omega) (by omega) s
  rw [cancel_less] at zr
  have ef := equal_from_run g1 g2 (tm.go (by decide) (by decide)) n1 n2 (by omega) (by omega) s
  have ez := equal_from_run g1 g1 (tz.go (by decide) (by decide)) n1 n1 (by omega) (by omega) s
  rw [cancel_less, if_pos rfl] at ez
  have ez : M.equal_from [fmD near, fmD near] s = .ok (.sh (.int 0)) s := ez
  have smJ := (tJ.go (by decide) (by decide)).sm
  have duJ := due_run (N := max near.v.length far.v.length + 4) nJ tJ.bd smJ lJ (by omega) (by omega) s
  have duK := due_run (N := max near.v.length far.v.length + 4) nK tK.bd smJ lK (by omega) (by omega) s
  have lk3 := like_three tJ tK (noth_tame 642 36) (by decide) (by decide) s
  obtain ⟨x6, x7, x8, f5⟩ := rt5_for (near := near) (far := far) (J := (near.plus far 1).less) (K := (near.plus far (-1)).less) (N := max near.v.length far.v.length + 4) (x9 := .no) (x10 := .no) (s := s) t1.bd t2.bd g1.sm (by omega) (by omega) dJ dK
  have f1 : exS q_Llaw_right1 [.sh .st, .sh (fmD near), .sh (fmD far), .no, .no, .no, .no, .no, .no, .no, .no] s = .nx (rEnv near far (max near.v.length far.v.length + 4) .no .no .no .no .no .no .no) s := by
    have i0 := fm_i0 near
    have j0 := fm_i0 far
    have ln := (show Seq (tn near.v) near.v from Or.inl rfl).len
    have ln2 := (show Seq (tn far.v) far.v from Or.inl rfl).len
    have hmax : (if (far.v.length : Int) > (near.v.length : Int) then (far.v.length : Int) else (near.v.length : Int)) = ((max near.v.length far.v.length : Nat) : Int) := by split <;> omega
    have pm : primF .max [.int near.v.length, .int far.v.length] = some (.sh (.int (max near.v.length far.v.length : Nat))) := by rw [← hmax]; rfl
    have h4 : ((max near.v.length far.v.length + 4 : Nat) : Int) = ((max near.v.length far.v.length : Nat) : Int) + 4 := by omega
    unfold rEnv
    rw [h4]
    generalize fmD near = X at *
    generalize fmD far = Y at *
    generalize tn near.v = X1 at *
    generalize tn far.v = Y1 at *
    generalize ((max near.v.length far.v.length : Nat) : Int) = w at *
    simp [exS, ev, evs, R.bind, lift, Slot.val, Rs.d, Rs.isBo, i0, j0, ln, ln2, pm, binF, withV, outOf, assignAll, slotOf]
  have f2 : exS (.seq q_Llaw_right2 (.seq q_Llaw_right3 (.seq q_Llaw_right4 .skip))) (rEnv near far (max near.v.length far.v.length + 4) .no .no .no .no .no .no .no) s = .nx (rEnv near far (max near.v.length far.v.length + 4) (.sh (.lst [])) (.sh (.lst [])) .no .no .no .no .no) s := by
    unfold rEnv
    generalize fmD near = X at *
    generalize fmD far = Y at *
    simp [exS, ev, evs, R.bind, freeze, Rs.d, outOf, assignAll, slotOf]
  have f2' : ∀ rest : S, exS (.seq q_Llaw_right2 (.seq q_Llaw_right3 (.seq q_Llaw_right4 rest))) (rEnv near far (max near.v.length far.v.length + 4) .no .no .no .no .no .no .no) s = exS rest (rEnv near far (max near.v.length far.v.length + 4) (.sh (.lst [])) (.sh (.lst [])) .no .no .no .no .no) s := fun rest => by
    unfold rEnv
    generalize fmD near = X at *
    generalize fmD far = Y at *
    simp [exS, ev, evs, R.bind, freeze, Rs.d, outOf, assignAll, slotOf]
  have eN : fmD NOTH = .tup [.tup [], .tup [.int 0, .int 0, .int 0, .int 0]] := rfl
  show ∃ s', evFn 11 3 M.Llaw_rightS [.st, fmD near, fmD far] s = .ok (.sh (.bl true)) s' ∧ St k s'
  refine ⟨s2, ?_, h2⟩
  unfold evFn
  rw [if_pos (show [D.st, fmD near, fmD far].length = 3 from rfl), show startE 11 [D.st, fmD near, fmD far] = [.sh .st, .sh (fmD near), .sh (fmD far), .no, .no, .no, .no, .no, .no, .no, .no] from rfl, q_Llaw_right_eq, exS_seq f1, f2', exS_seq f5]
  have f6 : exS q_Llaw_right6 (rEnv near far (max near.v.length far.v.length + 4) (.sh (.lst (((near.plus far 1).less.nums (max near.v.length far.v.length + 4)).map D.int))) (.sh (.lst (((near.plus far (-1)).less.nums (max near.v.length far.v.length + 4)).map D.int))) x6 x7 x8 .no .no) s =
      .nx (rEnv near far (max near.v.length far.v.length + 4) (.sh (.lst (((near.plus far 1).less.nums (max near.v.length far.v.length + 4)).map D.int))) (.sh (.lst (((near.plus far (-1)).less.nums (max near.v.length far.v.length + 4)).map D.int))) x6 x7 x8 (.sh (.lst [fmD (near.plus far 1).less, fmD (near.plus far (-1)).less, fmD NOTH])) .no) s := by
    clear eN
    unfold rEnv
    generalize ((near.plus far 1).less.nums (max near.v.length far.v.length + 4)).map D.int = A at *
    generalize ((near.plus far (-1)).less.nums (max near.v.length far.v.length + 4)).map D.int = C at *
    generalize fmD (near.plus far 1).less = J at *
    generalize fmD (near.plus far (-1)).less = K at *
    generalize fmD NOTH = Z at *
    generalize fmD near = X at *
    generalize fmD far = Y at *
    simp [exS, ev, evs, R.bind, lift, Slot.val, Rs.d, freeze, Rs.isBo, callR, pr, mr, zr, withV, outOf, assignAll, slotOf]
  rw [exS_seq f6]
  have c7 : ev (.not (.call "_law_like" M.Llaw_like (.cons (.var 9) (.cons (.lst (.cons (.call "_law_due_formula" M.Llaw_due_formula (.cons (.var 4) .nil)) (.cons (.call "_law_due_formula" M.Llaw_due_formula (.cons (.var 5) .nil)) (.cons (.tup (.cons (.tup .nil) (.cons (.tup (.cons (.con (.int 0)) (.cons (.con (.int 0)) (.cons (.con (.int 0)) (.cons (.con (.int 0)) .nil))))) .nil))) .nil)))) .nil)))) (rEnv near far (max near.v.length far.v.length + 4) (.sh (.lst (((near.plus far 1).less.nums (max near.v.length far.v.length + 4)).map D.int))) (.sh (.lst (((near.plus far (-1)).less.nums (max near.v.length far.v.length + 4)).map D.int))) x6 x7 x8 (.sh (.lst [fmD (near.plus far 1).less, fmD (near.plus far (-1)).less, fmD NOTH])) .no) s = .ok (.sh (.bl false)) s := by
    rw [eN] at lk3 ⊢
    unfold rEnv
    generalize D.lst (((near.plus far 1).less.nums (max near.v.length far.v.length + 4)).map D.int) = A at *
    generalize D.lst (((near.plus far (-1)).less.nums (max near.v.length far.v.length + 4)).map D.int) = C at *
    generalize fmD (near.plus far 1).less = J at *
    generalize fmD (near.plus far (-1)).less = K at *
    generalize fmD near = X at *
    generalize fmD far = Y at *
    simp [ev, evs, R.bind, lift, Slot.val, Rs.d, freeze, Rs.isBo, callR, duJ, duK, lk3]
  rw [exS_seq (ife_false c7)]
  have f8 : ∀ rest : S, exS (.seq q_Llaw_right8 (.seq q_Llaw_right9 rest)) (rEnv near far (max near.v.length far.v.length + 4) (.sh (.lst (((near.plus far 1).less.nums (max near.v.length far.v.length + 4)).map D.int))) (.sh (.lst (((near.plus far (-1)).less.nums (max near.v.length far.v.length + 4)).map D.int))) x6 x7 x8 (.sh (.lst [fmD (near.plus far 1).less, fmD (near.plus far (-1)).less, fmD NOTH])) .no) s =
      exS rest (rEnv near far (max near.v.length far.v.length + 4) (.sh (.lst (((near.plus far 1).less.nums (max near.v.length far.v.length + 4)).map D.int))) (.sh (.lst (((near.plus far (-1)).less.nums (max near.v.length far.v.length + 4)).map D.int))) x6 x7 x8 (.sh (.lst [fmD (near.plus far 1).less, fmD (near.plus far (-1)).less, fmD NOTH])) (.sh (if coefs far = coefs near then .int ((near.plus far (-1)).less.v.length : Nat) else .non))) s := fun rest => by
    have i1 := fm_c1 near
    have i2 := fm_c1 far
    have en := eqF_tn (coefs near) (coefs far)
    have k0 := fm_i0 (near.plus far (-1)).less
    have ln := (show Seq (tn (near.plus far (-1)).less.v) (near.plus far (-1)).less.v from Or.inl rfl).len
    have hc : (coefs near = coefs far) = (coefs far = coefs near) := propext ⟨Eq.symm, Eq.symm⟩
    simp only [hc] at en
    clear lk3 c7 f6 f5 f1 f2 f2' pr mr zr ef ez duJ
    unfold rEnv
    generalize D.lst (((near.plus far 1).less.nums (max near.v.length far.v.length + 4)).map D.int) = A at *
    generalize D.lst (((near.plus far (-1)).less.nums (max near.v.length far.v.length + 4)).map D.int) = C at *
    generalize fmD (near.plus far 1).less = J at *
    generalize fmD (near.plus far (-1)).less = K at *
    generalize tn (near.plus far (-1)).less.v = KV at *
    generalize (((near.plus far (-1)).less.v.length : Nat) : Int) = w at *
    generalize fmD NOTH = Z at *
    generalize fmD near = X at *
    generalize fmD far = Y at *
    generalize tn (coefs near) = CN at *
    generalize tn (coefs far) = CF at *
    by_cases h : coefs far = coefs near
    · rw [decide_eq_true h] at en
      simp [exS, ev, evs, R.bind, lift, Slot.val, Rs.d, freeze, Rs.isBo, callR, i1, i2, cmpF, en, duK, k0, ln, withV, outOf, assignAll, slotOf, h]
    · rw [decide_eq_false h] at en
      simp [exS, ev, evs, R.bind, lift, Slot.val, Rs.d, freeze, Rs.isBo, callR, i1, i2, cmpF, en, withV, outOf, assignAll, slotOf, h]
  rw [f8]
  have hx : (if coefs far = coefs near then D.int ((near.plus far (-1)).less.v.length : Nat) else .non) = .non ∨ ∃ n : Nat, (if coefs far = coefs near then D.int ((near.plus far (-1)).less.v.length : Nat) else .non) = .int n ∧ n < 1000 := by
    split
    · exact Or.inr ⟨_, rfl, by omega⟩
    · exact Or.inl rfl
  have lk2 := like_pair2 hx (y := .int 0) rfl s
  have c10 : ∀ x9 x4 x5 : Slot, ev (.not (.call "_law_like" M.Llaw_like (.cons (.lst (.cons (.call "equal_from" M.equal_from (.cons (.var 1) (.cons (.var 2) .nil))) (.cons (.call "equal_from" M.equal_from (.cons (.var 1) (.cons (.var 1) .nil))) .nil))) (.cons (.lst (.cons (.var 10) (.cons (.con (.int 0)) .nil))) .nil)))) (rEnv near far (max near.v.length far.v.length + 4) x4 x5 x6 x7 x8 x9 (.sh (if coefs far = coefs near then .int ((near.plus far (-1)).less.v.length : Nat) else .non))) s = .ok (.sh (.bl false)) s := fun x9 x4 x5 => by
    clear f8 f6 f5 f1 f2 f2' c7 lk3 duJ duK pr mr zr
    unfold rEnv
    generalize (if coefs far = coefs near then D.int ((near.plus far (-1)).less.v.length : Nat) else .non) = Q at *
    generalize fmD near = X at *
    generalize fmD far = Y at *
    simp [ev, evs, R.bind, lift, Slot.val, Rs.d, freeze, Rs.isBo, callR, ef, ez, lk2]
  rw [exS_seq (ife_false (c10 _ _ _))]
  generalize Slot.sh (if coefs far = coefs near then D.int ((near.plus far (-1)).less.v.length : Nat) else .non) = x10
  generalize Slot.sh (.lst [fmD (near.plus far 1).less, fmD (near.plus far (-1)).less, fmD NOTH]) = x9
  generalize Slot.sh (.lst (((near.plus far 1).less.nums (max near.v.length far.v.length + 4)).map D.int)) = x4
  generalize Slot.sh (.lst (((near.plus far (-1)).less.nums (max near.v.length far.v.length + 4)).map D.int)) = x5
  generalize max near.v.length far.v.length + 4 = NN
  obtain ⟨m1, rfl⟩ : ∃ n : Nat, d1 = n := ⟨d1.toNat, by omega⟩
  obtain ⟨m2, hm2⟩ : ∃ n : Nat, 1000000000000000000000000000000 - d2 = (n : Int) := ⟨(1000000000000000000000000000000 - d2).toNat, by omega⟩
  have hi : evI (.itE (.tup (.cons (.call "_law_draw" M.Llaw_draw (.cons (.var 0) (.cons (.con (.int 12)) .nil))) (.cons (.bin .sub (.bin .pow (.con (.int 10)) (.con (.int 30))) (.call "_law_draw" M.Llaw_draw (.cons (.var 0) (.cons (.con (.int 1000)) .nil)))) (.cons (.bin .pow (.con (.int 10)) (.con (.int 30))) .nil))))) (rEnv near far NN x4 x5 x6 x7 x8 x9 x10) s = .ok ([.int (m1 : Nat), .int (m2 : Nat), .int ((10 ^ 30 : Nat) : Int)], none) s2 := by
    have p30 : binF .pow (.int 10) (.int 30) = some (.sh (.int 1000000000000000000000000000000)) := by simp [binF]
    have c30 : ((10 ^ 30 : Nat) : Int) = 1000000000000000000000000000000 := by decide +kernel
    have epow : ∀ (ρ : Env) (s : OSt), ev (.bin .pow (.con (.int 10)) (.con (.int 30))) ρ s = .ok (.sh (.int 1000000000000000000000000000000)) s := fun ρ s => by
      rw [ev, ev, bind_mk, ev, bind_mk]
      simp only [Rs.d, p30, lift]
    have edr : ∀ (l x : Int) (s s' : OSt), M.Llaw_draw [.st, .int l] s = .ok (.sh (.int x)) s' → ev (.call "_law_draw" M.Llaw_draw (.cons (.var 0) (.cons (.con (.int l)) .nil))) (rEnv near far NN x4 x5 x6 x7 x8 x9 x10) s = .ok (.sh (.int x)) s' := fun l x s s' h => by
      rw [ev, evs, ev_var (d := .st) rfl, bind_mk, evs, ev, bind_mk, evs, bind_mk, bind_mk, bind_mk]
      simp only [callR, List.map_cons, List.map_nil, Rs.d, h, bind_mk]
      rfl
    have esub : ev (.bin .sub (.bin .pow (.con (.int 10)) (.con (.int 30))) (.call "_law_draw" M.Llaw_draw (.cons (.var 0) (.cons (.con (.int 1000)) .nil)))) (rEnv near far NN x4 x5 x6 x7 x8 x9 x10) s1 = .ok (.sh (.int m2)) s2 := by
      rw [ev, epow, bind_mk, edr _ _ _ _ r2, bind_mk]
      simp only [Rs.d, binF, hm2, lift]
    rw [c30, evI, ev, evs, edr _ _ _ _ r1, bind_mk, evs, esub, bind_mk, evs, epow, bind_mk, evs, bind_mk, bind_mk, bind_mk, bind_mk]
    rfl
  have fin : exS q_Llaw_right11 (rEnv near far NN x4 x5 x6 x7 x8 x9 x10) s = .nx (rEnv near far NN x4 x5 (.sh (.int ((10 ^ 30 : Nat) : Int))) x7 x8 x9 x10) s2 := by
    have st : ∀ (n : Nat) (x6 : Slot), n ≤ 10 ^ 30 → rtStep (.int n) (rEnv near far NN x4 x5 x6 x7 x8 x9 x10) s2 = .nx (rEnv near far NN x4 x5 (.sh (.int n)) x7 x8 x9 x10) s2 := fun n x6 hn => rt11_turn t1 (by decide) n1 hn
    rw [exS, hi]
    show forL rtStep _ _ _ = _
    rw [forL_cons (st m1 _ (by omega)), forL_cons (st m2 _ (by omega)), forL_cons (st (10 ^ 30) _ (Nat.le_refl _)), forL]
  rw [exS_seq fin]
  simp [exS, ev, withV, endR]
end RS
end
section
set_option autoImplicit false
set_option linter.all false
set_option maxRecDepth 100000
set_option maxHeartbeats 8000000
/-! K16B: the law gives True. -/
namespace RS
abbrev q_law1_1 : S := (.par [3, 4] (.cons (.call "_law_formula" M.Llaw_formula (.cons (.var 1) .nil)) (.cons (.call "_law_formula" M.Llaw_formula (.cons (.var 1) .nil)) .nil)))
abbrev q_law1_2 : S := (.share 3)
abbrev q_law1_3 : S := (.share 4)
abbrev q_law1_4 : S := (.ife (.cmp .eq (.call "_law_draw" M.Llaw_draw (.cons (.var 1) (.cons (.con (.int 2)) .nil))) (.con (.int 0))) (.seq (.asgS 4 (.call "formula_plus" M.formula_plus (.cons (.var 3) (.cons (.tup (.cons (.bin .add (.bin .mul (.tup (.cons (.con (.int 0)) .nil)) (.call "_law_draw" M.Llaw_draw (.cons (.var 1) (.cons (.con (.int 4)) .nil)))) (.tup (.cons (.bin .add (.con (.int 1)) (.call "_law_draw" M.Llaw_draw (.cons (.var 1) (.cons (.con (.int 3)) .nil)))) .nil))) (.cons (.tup (.cons (.con (.int 0)) (.cons (.con (.int 0)) (.cons (.con (.int 0)) (.cons (.con (.int 0)) .nil))))) .nil))) .nil)))) .skip) .skip)
abbrev q_law1_5 : S := (.ife (.not (.call "_law_right" M.Llaw_right (.cons (.var 1) (.cons (.var 3) (.cons (.var 4) .nil))))) (.seq (.ret (.con (.bl false))) .skip) .skip)
abbrev q_law1B : S := (.seq q_law1_1 (.seq q_law1_2 (.seq q_law1_3 (.seq q_law1_4 (.seq q_law1_5 .skip)))))
abbrev q_law1 : S := (.for (.nm 2) (.itRange (.cons (.con (.int 6)) .nil)) q_law1B)
abbrev q_law2 : S := (.asgS 5 (.tup (.cons (.tup (.cons (.con (.int 0)) .nil)) (.cons (.tup (.cons (.con (.int 1)) (.cons (.neg (.con (.int 1))) (.cons (.con (.int 1)) (.cons (.con (.int 0)) .nil))))) .nil))))
abbrev q_law3 : S := (.asg 6 (.lst (.cons (.callK "value_at" M.value_at .nil ["many", "formula"] (.cons (.con (.int 5)) (.cons (.var 5) .nil)) [1, 0]) (.cons (.callK "formula_plus" M.formula_plus .nil ["other", "one"] (.cons (.var 5) (.cons (.tup (.cons (.tup .nil) (.cons (.tup (.cons (.con (.int 0)) (.cons (.con (.int 0)) (.cons (.con (.int 0)) (.cons (.con (.int 1)) .nil))))) .nil))) .nil)) [1, 0]) .nil))))
abbrev q_law4 : S := (.app 6 (.callK "equal_from" M.equal_from .nil ["other", "one"] (.cons (.var 5) (.cons (.var 5) .nil)) [1, 0]))
abbrev q_law5 : S := (.app 6 (.callK "formula_minus" M.formula_minus .nil ["other", "one"] (.cons (.var 5) (.cons (.tup (.cons (.tup (.cons (.con (.int 7)) .nil)) (.cons (.tup (.cons (.con (.int 1)) (.cons (.neg (.con (.int 1))) (.cons (.con (.int 1)) (.cons (.con (.int 0)) .nil))))) .nil))) .nil)) [1, 0]))
abbrev q_law6 : S := (.ret (.call "_law_like" M.Llaw_like (.cons (.var 6) (.cons (.lst (.cons (.con (.int 6)) (.cons (.tup (.cons (.tup (.cons (.con (.int 0)) .nil)) (.cons (.tup (.cons (.con (.int 1)) (.cons (.neg (.con (.int 1))) (.cons (.con (.int 1)) (.cons (.con (.int 1)) .nil))))) .nil))) (.cons (.con (.int 0)) (.cons (.tup (.cons (.tup (.cons (.con (.int 7)) .nil)) (.cons (.tup (.cons (.con (.int 0)) (.cons (.con (.int 0)) (.cons (.con (.int 0)) (.cons (.con (.int 0)) .nil))))) .nil))) .nil))))) .nil))))
abbrev q_lawAll : S := (.seq q_law1 (.seq q_law2 (.seq q_law3 (.seq q_law4 (.seq q_law5 (.seq q_law6 .skip))))))
theorem q_law_eq : M.lawS = q_lawAll := rfl
def someF : Fm := ⟨[0], 1, -1, 1, 0⟩
def oneF : Fm := ⟨[], 0, 0, 0, 1⟩
def sevF : Fm := ⟨[7], 1, -1, 1, 0⟩
def Fm.same (f g : Fm) : Bool := decide (f.v = g.v) && decide (f.a = g.a ∧ f.b = g.b ∧ f.c = g.c ∧ f.d = g.d)
theorem same_eq {f g : Fm} (h : f.same g = true) : f = g := by
  unfold Fm.same at h
  rw [Bool.and_eq_true] at h
  obtain ⟨v, a, b, c, d⟩ := f
  obtain ⟨v2, a2, b2, c2, d2⟩ := g
  have h1 := of_decide_eq_true h.1
  obtain ⟨e1, e2, e3, e4⟩ := of_decide_eq_true h.2
  simp only at h1 e1 e2 e3 e4
  rw [h1, e1, e2, e3, e4]
theorem otherF {j c : Nat} (hj : j ≤ 3) (hc : c ≤ 2) : (Fm.mk (List.replicate j 0 ++ [1 + (c : Int)]) 0 0 0 0).NF ∧ (Fm.mk (List.replicate j 0 ++ [1 + (c : Int)]) 0 0 0 0).Tame 3 4 := by
  have z : (0 : Int).natAbs ≤ 2 ^ 3 := by decide
  refine ⟨fun n h => ?_, ⟨⟨fun x hx => ?_, z, z, z, z⟩, by simp; omega⟩⟩
  · have hn : n = j := by simpa using h.symm
    subst hn
    have e1 : (List.replicate n (0 : Int) ++ [1 + (c : Int)]).getD n 0 = 1 + c := by
      rw [List.getD_eq_getElem?_getD, List.getElem?_append_right (by simp)]; simp
    have e2 : (Fm.mk (List.replicate n 0 ++ [1 + (c : Int)]) 0 0 0 0).P n = 0 := by unfold Fm.P Pn; simp
    rw [e2]
    show (List.replicate n (0 : Int) ++ [1 + (c : Int)]).getD n 0 ≠ 0
    rw [e1]; omega
  · rcases List.mem_append.mp hx with w | w
    · rw [(List.mem_replicate.mp w).2]; decide
    · rw [List.mem_singleton.mp w]; omega
abbrev lEnv (x2 x3 x4 : Slot) : Env := [.no, .sh .st, x2, x3, x4, .no, .no]
theorem turn_run {k : Nat} {x2 x3 x4 : Slot} {s : OSt} (hk : St (50 + k) s) : ∃ x3' x4' s', exS q_law1B (lEnv x2 x3 x4) s = .nx (lEnv x2 x3' x4') s' ∧ St k s' := by
  obtain ⟨near, s1, r1, n1, t1, h1⟩ := law_formula_run (k := 30 + k) (hk.mono (by omega))
  obtain ⟨far, s2, r2, n2, t2, h2⟩ := law_formula_run (k := 10 + k) (h1.mono (by omega))
  obtain ⟨d, s3, r3, a3, b3, h3⟩ := draw_run (k := 9 + k) (h2.mono (by omega)) (l := 2) (by decide) (by decide)
  have g1 : ∀ rest : S, exS (.seq q_law1_1 (.seq q_law1_2 (.seq q_law1_3 rest))) (lEnv x2 x3 x4) s = exS rest (lEnv x2 (.sh (fmD near)) (.sh (fmD far))) s2 := fun rest => by
    generalize fmD near = X at *
    generalize fmD far = Y at *
    simp [exS, ev, evs, R.bind, lift, Slot.val, Rs.d, freeze, Rs.isBo, callR, r1, r2, outOf, assignAll, slotOf]
  have c4 : ev (.cmp .eq (.call "_law_draw" M.Llaw_draw (.cons (.var 1) (.cons (.con (.int 2)) .nil))) (.con (.int 0))) (lEnv x2 (.sh (fmD near)) (.sh (fmD far))) s2 = .ok (.sh (.bl (decide (d = 0)))) s3 := by
    have eq := eqF_int d 0
    generalize decide (d = 0) = b at *
    generalize fmD near = X at *
    generalize fmD far = Y at *
    simp [ev, evs, R.bind, lift, Slot.val, Rs.d, freeze, Rs.isBo, callR, r3, cmpF, eq]
  have step : ∃ far' s4, exS q_law1_4 (lEnv x2 (.sh (fmD near)) (.sh (fmD far))) s2 = .nx (lEnv x2 (.sh (fmD near)) (.sh (fmD far'))) s4 ∧ far'.NF ∧ far'.Tame 621 36 ∧ St (2 + k) s4 := by
    by_cases hd : d = 0
    · rw [decide_eq_true hd] at c4
      obtain ⟨j, s4, r4, a4, b4, h4⟩ := draw_run (k := 8 + k) (h3.mono (by omega)) (l := 4) (by decide) (by decide)
      obtain ⟨j, rfl⟩ : ∃ z : Nat, j = z := ⟨j.toNat, by omega⟩
      obtain ⟨c, s5, r5, a5, b5, h5⟩ := draw_run (k := 7 + k) (h4.mono (by omega)) (l := 3) (by decide) (by decide)
      obtain ⟨c, rfl⟩ : ∃ z : Nat, c = z := ⟨c.toNat, by omega⟩
      obtain ⟨no, to⟩ := otherF (j := j) (c := c) (by omega) (by omega)
      have tp := Fm.Tame.plus (k := 1) (Or.inl rfl) t1 (to.mono (by decide : 3 ≤ 600) (by decide : 4 ≤ 36)) (by decide)
      have fp := formula_plus_run (t1.go (by decide) (by decide)) (to.go (by decide) (by decide)) (tp.go (by decide) (by decide)) n1 no (by have := t1.len; omega) (by have := to.len; omega) s5
      refine ⟨(near.plus (Fm.mk (List.replicate j 0 ++ [1 + (c : Int)]) 0 0 0 0) 1).less, s5, ?_, Fm.less_nf _, tp.less, h5.mono (by omega)⟩
      have rp : (List.replicate j [D.int 0]).flatten = List.replicate j (D.int 0) := by
        clear fp tp to no r4 a4 b4
        induction j with
        | zero => rfl
        | succ n ih => rw [List.replicate_succ, List.flatten_cons, ih]; rfl
      have b1 : (0 : Int) ≤ (j : Int) ∧ (j : Int) ≤ 1000 := by omega
      have hL : j + 1 ≤ LIM := by unfold LIM; omega
      have eo : fmD (Fm.mk (List.replicate j 0 ++ [1 + (c : Int)]) 0 0 0 0) = .tup [.tup (List.replicate j (D.int 0) ++ [.int (1 + (c : Int))]), .tup [.int 0, .int 0, .int 0, .int 0]] := by
        unfold fmD tn; simp
      rw [eo] at fp
      rw [exS, c4]
      simp only [withV]
      generalize fmD (near.plus (Fm.mk (List.replicate j 0 ++ [1 + (c : Int)]) 0 0 0 0) 1).less = Z at *
      generalize fmD near = X at *
      generalize fmD far = Y at *
      simp [exS, ev, evs, R.bind, lift, Slot.val, Rs.d, freeze, Rs.isBo, callR, r4, r5, binF, b1, rp, hL, fp, withV, outOf, assignAll, slotOf]
    · rw [decide_eq_false hd] at c4
      exact ⟨far, s3, ife_false c4, n2, t2.mono (by decide) (by decide), h3.mono (by omega)⟩
  obtain ⟨far', s4, e4, n4, t4, h4⟩ := step
  obtain ⟨s5, r5, h5⟩ := right_run (k := k) h4 n1 n4 (t1.mono (by decide) (by decide)) t4
  have c5 : ev (.not (.call "_law_right" M.Llaw_right (.cons (.var 1) (.cons (.var 3) (.cons (.var 4) .nil))))) (lEnv x2 (.sh (fmD near)) (.sh (fmD far'))) s4 = .ok (.sh (.bl false)) s5 := by
    generalize fmD near = X at *
    generalize fmD far' = Y at *
    simp [ev, evs, R.bind, lift, Slot.val, Rs.d, freeze, Rs.isBo, callR, r5]
  refine ⟨.sh (fmD near), .sh (fmD far'), s5, ?_, h5⟩
  rw [g1, exS_seq e4, exS_seq (ife_false c5), exS]
abbrev lawStep : D → Env → OSt → Out := fun d ρ s => match bindTg (.nm 2) d ρ with
  | some ρ1 => exS q_law1B ρ1 s
  | none => .no
theorem turns : ∀ (ds : List D) (k : Nat) (s : OSt) (x2 x3 x4 : Slot), St (50 * ds.length + k) s → ∃ x2' x3' x4' s', forL lawStep ds (lEnv x2 x3 x4) s = .nx (lEnv x2' x3' x4') s' ∧ St k s'
  | [], k, s, x2, x3, x4, h => ⟨_, _, _, s, by rw [forL], by simpa using h⟩
  | d :: ds, k, s, x2, x3, x4, h => by
    rw [List.length_cons] at h
    obtain ⟨y3, y4, s1, e1, h1⟩ := turn_run (k := 50 * ds.length + k) (x2 := .sh d) (x3 := x3) (x4 := x4) (h.mono (by omega))
    obtain ⟨z2, z3, z4, s2, e2, h2⟩ := turns ds k s1 (.sh d) y3 y4 h1
    refine ⟨z2, z3, z4, s2, ?_, h2⟩
    have e0 : lawStep d (lEnv x2 x3 x4) s = .nx (lEnv (.sh d) y3 y4) s1 := e1
    rw [forL_cons e0]
    exact e2
/-! ### the end of the law -/
theorem tame_of {f : Fm} (h : ((f.v.all fun x => decide (x.natAbs ≤ 8)) && decide (f.a.natAbs ≤ 8 ∧ f.b.natAbs ≤ 8 ∧ f.c.natAbs ≤ 8 ∧ f.d.natAbs ≤ 8) && decide (f.v.length ≤ 8)) = true) : f.Tame 3 8 := by
  rw [Bool.and_eq_true, Bool.and_eq_true] at h
  have h2 := of_decide_eq_true h.1.2
  exact ⟨⟨fun x hx => of_decide_eq_true (List.all_eq_true.mp h.1.1 x hx), h2.1, h2.2.1, h2.2.2.1, h2.2.2.2⟩, of_decide_eq_true h.2⟩
theorem nf_of {f : Fm} (h : f.less = f) : f.NF := by rw [← h]; exact Fm.less_nf f
theorem tS : someF.Tame 3 8 := tame_of (by decide +kernel)
theorem tO : oneF.Tame 3 8 := tame_of (by decide +kernel)
theorem tV : sevF.Tame 3 8 := tame_of (by decide +kernel)
theorem nS : someF.NF := nf_of (same_eq (by decide +kernel))
theorem nO : oneF.NF := nf_of (same_eq (by decide +kernel))
theorem nV : sevF.NF := nf_of (same_eq (by decide +kernel))
theorem v1 (s : OSt) : M.value_at [.tup [.tup [.int 0], .tup [.int 1, .int (-1), .int 1, .int 0]], .int 5] s = .ok (.sh (.int 6)) s := by
  have := value_at_run (f := someF) (n := 5) (tS.go (by decide) (by decide)) nS (by decide) (tS.go (by decide) (by decide)) (by decide) (by decide) s
  rw [show someF.den 5 = 6 from by decide +kernel] at this
  exact this
theorem v2 (s : OSt) : M.formula_plus [.tup [.tup [], .tup [.int 0, .int 0, .int 0, .int 1]], .tup [.tup [.int 0], .tup [.int 1, .int (-1), .int 1, .int 0]]] s = .ok (.sh (.tup [.tup [.int 0], .tup [.int 1, .int (-1), .int 1, .int 1]])) s := by
  have := formula_plus_run (f := oneF) (h := someF) (tO.go (by decide) (by decide)) (tS.go (by decide) (by decide)) ((Fm.Tame.plus (Or.inl rfl) tO tS (by decide)).go (by decide) (by decide)) nO nS (by decide) (by decide) s
  rw [show (oneF.plus someF 1).less = ⟨[0], 1, -1, 1, 1⟩ from same_eq (by decide +kernel)] at this
  exact this
theorem v3 (s : OSt) : M.equal_from [.tup [.tup [.int 0], .tup [.int 1, .int (-1), .int 1, .int 0]], .tup [.tup [.int 0], .tup [.int 1, .int (-1), .int 1, .int 0]]] s = .ok (.sh (.int 0)) s := by
  have := equal_from_run (f := someF) (h := someF) (tS.go (by decide) (by decide)) (tS.go (by decide) (by decide)) ((Fm.Tame.plus (Or.inr rfl) tS tS (by decide)).go (by decide) (by decide)) nS nS (by decide) (by decide) s
  rw [cancel_less, if_pos rfl] at this
  exact this
theorem v4 (s : OSt) : M.formula_minus [.tup [.tup [.int 7], .tup [.int 1, .int (-1), .int 1, .int 0]], .tup [.tup [.int 0], .tup [.int 1, .int (-1), .int 1, .int 0]]] s = .ok (.sh (.tup [.tup [.int 7], .tup [.int 0, .int 0, .int 0, .int 0]])) s := by
  have := formula_minus_run (f := sevF) (h := someF) (tV.go (by decide) (by decide)) (tS.go (by decide) (by decide)) ((Fm.Tame.plus (Or.inr rfl) tV tS (by decide)).go (by decide) (by decide)) nV nS (by decide) (by decide) s
  rw [show (sevF.plus someF (-1)).less = ⟨[7], 0, 0, 0, 0⟩ from same_eq (by decide +kernel)] at this
  exact this
theorem final_like (s : OSt) : M.Llaw_like [.lst [.int 6, .tup [.tup [.int 0], .tup [.int 1, .int (-1), .int 1, .int 1]], .int 0, .tup [.tup [.int 7], .tup [.int 0, .int 0, .int 0, .int 0]]], .lst [.int 6, .tup [.tup [.int 0], .tup [.int 1, .int (-1), .int 1, .int 1]], .int 0, .tup [.tup [.int 7], .tup [.int 0, .int 0, .int 0, .int 0]]]] s = .ok (.sh (.bl true)) s := like_run (by decide +kernel) s
abbrev lawTail (va fp ef fm lk : Fn) : S := (.seq (.asgS 5 (.tup (.cons (.tup (.cons (.con (.int 0)) .nil)) (.cons (.tup (.cons (.con (.int 1)) (.cons (.neg (.con (.int 1))) (.cons (.con (.int 1)) (.cons (.con (.int 0)) .nil))))) .nil)))) (.seq (.asg 6 (.lst (.cons (.callK "value_at" va .nil ["many", "formula"] (.cons (.con (.int 5)) (.cons (.var 5) .nil)) [1, 0]) (.cons (.callK "formula_plus" fp .nil ["other", "one"] (.cons (.var 5) (.cons (.tup (.cons (.tup .nil) (.cons (.tup (.cons (.con (.int 0)) (.cons (.con (.int 0)) (.cons (.con (.int 0)) (.cons (.con (.int 1)) .nil))))) .nil))) .nil)) [1, 0]) .nil)))) (.seq (.app 6 (.callK "equal_from" ef .nil ["other", "one"] (.cons (.var 5) (.cons (.var 5) .nil)) [1, 0])) (.seq (.app 6 (.callK "formula_minus" fm .nil ["other", "one"] (.cons (.var 5) (.cons (.tup (.cons (.tup (.cons (.con (.int 7)) .nil)) (.cons (.tup (.cons (.con (.int 1)) (.cons (.neg (.con (.int 1))) (.cons (.con (.int 1)) (.cons (.con (.int 0)) .nil))))) .nil))) .nil)) [1, 0])) (.seq (.ret (.call "_law_like" lk (.cons (.var 6) (.cons (.lst (.cons (.con (.int 6)) (.cons (.tup (.cons (.tup (.cons (.con (.int 0)) .nil)) (.cons (.tup (.cons (.con (.int 1)) (.cons (.neg (.con (.int 1))) (.cons (.con (.int 1)) (.cons (.con (.int 1)) .nil))))) .nil))) (.cons (.con (.int 0)) (.cons (.tup (.cons (.tup (.cons (.con (.int 7)) .nil)) (.cons (.tup (.cons (.con (.int 0)) (.cons (.con (.int 0)) (.cons (.con (.int 0)) (.cons (.con (.int 0)) .nil))))) .nil))) .nil))))) .nil)))) .skip)))))
theorem tail_run {va fp ef fm lk : Fn} (v1 : ∀ s, va [.tup [.tup [.int 0], .tup [.int 1, .int (-1), .int 1, .int 0]], .int 5] s = .ok (.sh (.int 6)) s)
    (v2 : ∀ s, fp [.tup [.tup [], .tup [.int 0, .int 0, .int 0, .int 1]], .tup [.tup [.int 0], .tup [.int 1, .int (-1), .int 1, .int 0]]] s = .ok (.sh (.tup [.tup [.int 0], .tup [.int 1, .int (-1), .int 1, .int 1]])) s)
    (v3 : ∀ s, ef [.tup [.tup [.int 0], .tup [.int 1, .int (-1), .int 1, .int 0]], .tup [.tup [.int 0], .tup [.int 1, .int (-1), .int 1, .int 0]]] s = .ok (.sh (.int 0)) s)
    (v4 : ∀ s, fm [.tup [.tup [.int 7], .tup [.int 1, .int (-1), .int 1, .int 0]], .tup [.tup [.int 0], .tup [.int 1, .int (-1), .int 1, .int 0]]] s = .ok (.sh (.tup [.tup [.int 7], .tup [.int 0, .int 0, .int 0, .int 0]])) s)
    (fl : ∀ s, lk [.lst [.int 6, .tup [.tup [.int 0], .tup [.int 1, .int (-1), .int 1, .int 1]], .int 0, .tup [.tup [.int 7], .tup [.int 0, .int 0, .int 0, .int 0]]], .lst [.int 6, .tup [.tup [.int 0], .tup [.int 1, .int (-1), .int 1, .int 1]], .int 0, .tup [.tup [.int 7], .tup [.int 0, .int 0, .int 0, .int 0]]]] s = .ok (.sh (.bl true)) s)
    (x2 x3 x4 : Slot) (s : OSt) : exS (lawTail va fp ef fm lk) (lEnv x2 x3 x4) s = .rt (.sh (.bl true)) s := by
  simp [exS, ev, evs, R.bind, lift, Slot.val, Rs.isBo, Rs.d, Rs.clean, D.imm, callR, freeze, permR, negF, withV, outOf, assignAll, slotOf, v1, v2, v3, v4, fl, LIM]
theorem law_run (ns : List Int) : ∃ st', endR (exS M.lawS ((List.replicate 7 Slot.no).set 1 (.sh .st)) (beginSt ns)) = .ok (.sh (.bl true)) st' := by
  have h0 := beginSt_ok ns
  obtain ⟨x2, x3, x4, s1, e1, h1⟩ := turns (fromInts 0 6) 100 (beginSt ns) .no .no .no (h0.mono (by simp [fromInts]))
  have i1 : evI (.itRange (.cons (.con (.int 6)) .nil)) (lEnv .no .no .no) (beginSt ns) = .ok (fromInts 0 6, none) (beginSt ns) :=
    evI_range (rs := [.sh (.int 6)]) (by simp [evs, ev, R.bind]) (rangeF_one (by decide))
  have f1 : exS q_law1 (lEnv .no .no .no) (beginSt ns) = .nx (lEnv x2 x3 x4) s1 := by
    rw [exS, i1]; exact e1
  refine ⟨s1, ?_⟩
  show endR (exS M.lawS (lEnv .no .no .no) (beginSt ns)) = _
  have e : exS M.lawS (lEnv .no .no .no) (beginSt ns) = .rt (.sh (.bl true)) s1 := by
    show exS (.seq q_law1 (lawTail M.value_at M.formula_plus M.equal_from M.formula_minus M.Llaw_like)) _ _ = _
    rw [exS_seq f1]
    exact tail_run v1 v2 v3 v4 final_like _ _ _ _
  rw [e]; rfl
end RS
end
section
set_option Elab.async false
set_option maxRecDepth 100000
open PySem PySem.W PyProof.Rows
set_option maxHeartbeats 0 in
theorem PySem.Challenge.cw_risingsays_k16_whole_formulas_added_and_holds : PySem.Challenge.rw_risingsays_k16_whole_formulas_added_and.Holds := by
  w_on; o_law; k_head; (case hw => w_witness2)
  k_fill
  refine RS.walkG (law := PySem.Challenge.rw_risingsays_k16_whole_formulas_added_and) (x := "script") (n := 7) (j := 1) (b := RS.M.lawS) rfl rfl (fun w h Y => PySem.W.kIn_of Y) ?F (fun ns _ => RS.law_run ns)
  case F =>
    intro w mg fa h KX G hmg
    refine' RS.tops_mk KX G hmg ?a0 ?l0 ?c0 ?k0 ?a1 ?l1 ?c1 ?k1 ?a2 ?l2 ?c2 ?k2 ?a3 ?l3 ?c3 ?k3 ?a4 ?l4 ?c4 ?k4 ?a5 ?l5 ?c5 ?k5 ?a6 ?l6 ?c6 ?k6 ?a7 ?l7 ?c7 ?k7 ?a8 ?l8 ?c8 ?k8 ?a9 ?l9 ?c9 ?k9 ?a10 ?l10 ?c10 ?k10 ?a11 ?l11 ?c11 ?k11 ?a12 ?l12 ?c12 ?k12 ?a13 ?l13 ?c13 ?k13 ?a14 ?l14 ?c14 ?k14 ?a15 ?l15 ?c15 ?k15 ?a16 ?l16 ?c16 ?k16 ?a17 ?l17 ?c17 ?k17 ?a18 ?l18 ?c18 ?k18 ?a19 ?l19 ?c19 ?k19 ?a20 ?l20 ?c20 ?k20 ?a21 ?l21 ?c21 ?k21 ?a22 ?l22 ?c22 ?k22 ?a23 ?l23 ?c23 ?k23 ?a24 ?l24 ?c24 ?k24 ?a25 ?l25 ?c25 ?k25 ?a26 ?l26 ?c26 ?k26 ?a27 ?l27 ?c27 ?k27 ?a28 ?l28 ?c28 ?k28 ?a29 ?l29 ?c29 ?k29 ?a30 ?l30 ?c30 ?k30 ?a31 ?l31 ?c31 ?k31 ?a32 ?l32 ?c32 ?k32 ?a33 ?l33 ?c33 ?k33 ?a34 ?l34 ?c34 ?k34 ?z0 ?z1 ?z2 ?z3 ?z4 ?z5 ?z6 ?z7 ?z8 ?z9 ?z10 ?z11 ?z12 ?z13 ?z14 ?z15 ?z16 ?z17 ?cg0 ?dg0 ?cg1 ?dg1 ?cg2 ?dg2 ?cg3 ?dg3 ?cg4 ?dg4 ?cg5 ?dg5
    (case a0 => k_is); (case l0 => k_is); (case c0 => k_is); (case k0 => k_is); (case a1 => k_is); (case l1 => k_is); (case c1 => k_is); (case k1 => k_is); (case a2 => k_is); (case l2 => k_is); (case c2 => k_is); (case k2 => k_is); (case a3 => k_is); (case l3 => k_is); (case c3 => k_is); (case k3 => k_is); (case a4 => k_is); (case l4 => k_is); (case c4 => k_is); (case k4 => k_is); (case a5 => k_is); (case l5 => k_is); (case c5 => k_is); (case k5 => k_is); (case a6 => k_is); (case l6 => k_is); (case c6 => k_is); (case k6 => k_is); (case a7 => k_is); (case l7 => k_is); (case c7 => k_is); (case k7 => k_is); (case a8 => k_is); (case l8 => k_is); (case c8 => k_is); (case k8 => k_is); (case a9 => k_is); (case l9 => k_is); (case c9 => k_is); (case k9 => k_is); (case a10 => k_is); (case l10 => k_is); (case c10 => k_is); (case k10 => k_is); (case a11 => k_is); (case l11 => k_is); (case c11 => k_is); (case k11 => k_is); (case a12 => k_is); (case l12 => k_is); (case c12 => k_is); (case k12 => k_is); (case a13 => k_is); (case l13 => k_is); (case c13 => k_is); (case k13 => k_is); (case a14 => k_is); (case l14 => k_is); (case c14 => k_is); (case k14 => k_is); (case a15 => k_is); (case l15 => k_is); (case c15 => k_is); (case k15 => k_is); (case a16 => k_is); (case l16 => k_is); (case c16 => k_is); (case k16 => k_is); (case a17 => k_is); (case l17 => k_is); (case c17 => k_is); (case k17 => k_is); (case a18 => k_is); (case l18 => k_is); (case c18 => k_is); (case k18 => k_is); (case a19 => k_is); (case l19 => k_is); (case c19 => k_is); (case k19 => k_is); (case a20 => k_is); (case l20 => k_is); (case c20 => k_is); (case k20 => k_is); (case a21 => k_is); (case l21 => k_is); (case c21 => k_is); (case k21 => k_is); (case a22 => k_is); (case l22 => k_is); (case c22 => k_is); (case k22 => k_is); (case a23 => k_is); (case l23 => k_is); (case c23 => k_is); (case k23 => k_is); (case a24 => k_is); (case l24 => k_is); (case c24 => k_is); (case k24 => k_is); (case a25 => k_is); (case l25 => k_is); (case c25 => k_is); (case k25 => k_is); (case a26 => k_is); (case l26 => k_is); (case c26 => k_is); (case k26 => k_is); (case a27 => k_is); (case l27 => k_is); (case c27 => k_is); (case k27 => k_is); (case a28 => k_is); (case l28 => k_is); (case c28 => k_is); (case k28 => k_is); (case a29 => k_is); (case l29 => k_is); (case c29 => k_is); (case k29 => k_is); (case a30 => k_is); (case l30 => k_is); (case c30 => k_is); (case k30 => k_is); (case a31 => k_is); (case l31 => k_is); (case c31 => k_is); (case k31 => k_is); (case a32 => k_is); (case l32 => k_is); (case c32 => k_is); (case k32 => k_is); (case a33 => k_is); (case l33 => k_is); (case c33 => k_is); (case k33 => k_is); (case a34 => k_is); (case l34 => k_is); (case c34 => k_is); (case k34 => k_is); (case z0 => k_is); (case z1 => k_is); (case z2 => k_is); (case z3 => k_is); (case z4 => k_is); (case z5 => k_is); (case z6 => k_is); (case z7 => k_is); (case z8 => k_is); (case z9 => k_is); (case z10 => k_is); (case z11 => k_is); (case z12 => k_is); (case z13 => k_is); (case z14 => k_is); (case z15 => k_is); (case z16 => k_is); (case z17 => k_is); (case cg0 => k_is); (case dg0 => (refine' RS.isD_tup ?lk1 ?hh1 ?hz1; (case lk1 => k_is); (case hz1 => decide); (case hh1 => (refine' RS.IsDs.cons ?h2_ ?t2_; (case h2_ => (refine' RS.isD_tup ?lk3 ?hh3 ?hz3; (case lk3 => k_is); (case hz3 => decide); (case hh3 => exact RS.IsDs.nil))); (case t2_ => (refine' RS.IsDs.cons ?h4_ ?t4_; (case h4_ => (refine' RS.isD_tup ?lk5 ?hh5 ?hz5; (case lk5 => k_is); (case hz5 => decide); (case hh5 => (refine' RS.IsDs.cons ?h6_ ?t6_; (case h6_ => exact RS.isD_int); (case t6_ => (refine' RS.IsDs.cons ?h7_ ?t7_; (case h7_ => exact RS.isD_int); (case t7_ => (refine' RS.IsDs.cons ?h8_ ?t8_; (case h8_ => exact RS.isD_int); (case t8_ => (refine' RS.IsDs.cons ?h9_ ?t9_; (case h9_ => exact RS.isD_int); (case t9_ => exact RS.IsDs.nil))))))))))); (case t4_ => exact RS.IsDs.nil))))))); (case cg1 => k_is); (case dg1 => exact RS.isD_int); (case cg2 => k_is); (case dg2 => exact RS.isD_int); (case cg3 => k_is); (case dg3 => exact RS.isD_int); (case cg4 => k_is); (case dg4 => exact RS.isD_int); (case cg5 => k_is); (case dg5 => exact RS.isD_int)
end
