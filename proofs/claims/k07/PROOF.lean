import PyProof.Rows.All
import Wide.All
import OpenK.AllK
import Wide.FinOn
import PySem.Challenge.RW_risingsays_k07_numbers_of_fields
import HandS.ForMost
import HandS.Walk
import HandS.Zip
import HandS.Gcd
import HandS.Wide
import HandS.Style
import HandS.TupAny
import HandS.Rev
import HandS.IsInst
import KE.DataCmp
import KE.SortData
import KE.DataEq
import PyProof.ReprRoads
import KE.DataMinMax
section
/-! RSPure: data, small syntax trees, and their evaluation. Core Lean only. -/
set_option autoImplicit false
namespace RS

/-! ## data -/
inductive D where
  | non | bl (b : Bool) | int (i : Int) | str (x : List Nat) | tup (l : List D) | lst (l : List D) | dct (ks vs : List D) | st
  deriving Inhabited

def LIM : Nat := 1000000
def BIG : Nat := 2 ^ 8000
def SHOW : Nat := 2 ^ 1900

mutual
def D.beq : D → D → Bool
  | .non, .non => true
  | .bl a, .bl b => a == b
  | .int a, .int b => a == b
  | .str a, .str b => a == b
  | .tup a, .tup b => D.beqs a b
  | .lst a, .lst b => D.beqs a b
  | .dct a a', .dct b b' => D.beqs a b && D.beqs a' b'
  | .st, .st => true
  | _, _ => false
def D.beqs : List D → List D → Bool
  | [], [] => true
  | x :: xs, y :: ys => D.beq x y && D.beqs xs ys
  | _, _ => false
end
mutual
theorem D.beq_eq : ∀ a b : D, D.beq a b = true → a = b
  | .non, b, h => by cases b <;> simp [D.beq] at h ⊢
  | .bl _, b, h => by cases b <;> simp [D.beq] at h ⊢; exact h
  | .int _, b, h => by cases b <;> simp [D.beq] at h ⊢; exact h
  | .str _, b, h => by cases b <;> simp [D.beq] at h ⊢; exact h
  | .tup x, b, h => by cases b <;> simp [D.beq] at h ⊢; exact D.beqs_eq _ _ h
  | .lst x, b, h => by cases b <;> simp [D.beq] at h ⊢; exact D.beqs_eq _ _ h
  | .dct x y, b, h => by cases b <;> simp [D.beq] at h ⊢; exact ⟨D.beqs_eq _ _ h.1, D.beqs_eq _ _ h.2⟩
  | .st, b, h => by cases b <;> simp [D.beq] at h ⊢
theorem D.beqs_eq : ∀ a b : List D, D.beqs a b = true → a = b
  | [], b, h => by cases b <;> simp [D.beqs] at h ⊢
  | x :: xs, b, h => by
    cases b with
    | nil => simp [D.beqs] at h
    | cons y ys =>
      simp [D.beqs] at h
      rw [D.beq_eq _ _ h.1, D.beqs_eq _ _ h.2]
end
mutual
theorem D.beq_refl : ∀ a : D, D.beq a a = true
  | .non => rfl
  | .bl _ => by simp [D.beq]
  | .int _ => by simp [D.beq]
  | .str _ => by simp [D.beq]
  | .tup x => by simp [D.beq, D.beqs_refl x]
  | .lst x => by simp [D.beq, D.beqs_refl x]
  | .dct x y => by simp [D.beq, D.beqs_refl x, D.beqs_refl y]
  | .st => rfl
theorem D.beqs_refl : ∀ a : List D, D.beqs a a = true
  | [] => rfl
  | x :: xs => by simp [D.beqs, D.beq_refl x, D.beqs_refl xs]
end
instance : DecidableEq D := fun a b => if h : D.beq a b = true then isTrue (D.beq_eq a b h) else isFalse fun e => h (e ▸ D.beq_refl a)

/-- equal as Python compares (True is 1) -/
def b2i (b : Bool) : Int := if b then 1 else 0
mutual
def D.eqv : D → D → Bool
  | .non, .non => true
  | .bl a, .bl b => a == b
  | .bl a, .int j => b2i a == j
  | .int i, .bl b => i == b2i b
  | .int a, .int b => a == b
  | .str a, .str b => a == b
  | .tup a, .tup b => D.eqvs a b
  | .lst a, .lst b => D.eqvs a b
  | _, _ => false
def D.eqvs : List D → List D → Bool
  | [], [] => true
  | x :: xs, y :: ys => D.eqv x y && D.eqvs xs ys
  | _, _ => false
end
mutual
/-- numbers, truth values, None, texts, tuples, lists: no deeper than n -/
def D.deep : Nat → D → Bool
  | _, .non => true
  | _, .bl _ => true
  | _, .int _ => true
  | _, .str _ => true
  | 0, _ => false
  | n + 1, .tup l => D.deeps n l
  | n + 1, .lst l => D.deeps n l
  | _, _ => false
def D.deeps : Nat → List D → Bool
  | _, [] => true
  | n, x :: xs => D.deep n x && D.deeps n xs
end
mutual
/-- no list, no dict, no state within -/
def D.imm : D → Bool
  | .non => true
  | .bl _ => true
  | .int _ => true
  | .str _ => true
  | .tup l => D.imms l
  | _ => false
def D.imms : List D → Bool
  | [] => true
  | x :: xs => D.imm x && D.imms xs
end
mutual
/-- can be shown, and in about how many signs -/
def D.rlen : D → Nat
  | .non => 4
  | .bl _ => 5
  | .int _ => 640
  | .str _ => 0
  | .tup l => 3 + D.rlens l
  | .lst l => 3 + D.rlens l
  | _ => 0
def D.rlens : List D → Nat
  | [] => 0
  | x :: xs => D.rlen x + 2 + D.rlens xs
end
mutual
def D.showable : D → Bool
  | .non => true
  | .bl _ => true
  | .int i => decide (i.natAbs < SHOW)
  | .tup l => D.showables l
  | .lst l => D.showables l
  | _ => false
def D.showables : List D → Bool
  | [] => true
  | x :: xs => D.showable x && D.showables xs
end
mutual
/-- can be put in order, place by place -/
def D.alike : D → D → Bool
  | .bl _, .bl _ => true
  | .int _, .int _ => true
  | .str _, .str _ => true
  | .tup a, .tup b => D.alikes a b
  | .lst a, .lst b => D.alikes a b
  | _, _ => false
def D.alikes : List D → List D → Bool
  | x :: xs, y :: ys => D.alike x y && D.alikes xs ys
  | _, _ => true
end
def natsLt : List Nat → List Nat → Bool
  | [], [] => false
  | [], _ :: _ => true
  | _ :: _, [] => false
  | x :: xs, y :: ys => if x = y then natsLt xs ys else decide (x < y)
mutual
def D.lt : D → D → Bool
  | .bl a, .bl b => !a && b
  | .int a, .int b => decide (a < b)
  | .str a, .str b => natsLt a b
  | .tup a, .tup b => D.lts a b
  | .lst a, .lst b => D.lts a b
  | _, _ => false
def D.lts : List D → List D → Bool
  | [], [] => false
  | [], _ :: _ => true
  | _ :: _, [] => false
  | x :: xs, y :: ys => if D.eqv x y then D.lts xs ys else D.lt x y
end

def D.items : D → Option (List D)
  | .tup l => some l
  | .lst l => some l
  | _ => none

/-! ## the law's draws -/
structure OSt where
  cells : List Int
  lefts : List Int
  pos : Nat

def mixed (cell k : Int) : Int := ((cell % 2147483647) * (48271 + 2 * k * k) + 69621 * k + 11) % 2147483647 * 69621 % 2147483629
def beginSt (script : List Int) : OSt :=
  let c := if script = [] then [0] else script
  ⟨c, c.map fun x => if x ≥ 10 ^ 18 then x else 0, 0⟩
def drawSt (s : OSt) (limit : Int) : Int × OSt :=
  let spot := s.pos % s.cells.length
  let left := s.lefts.getD spot 0
  if left > 0 then (left % limit, ⟨s.cells, s.lefts.set spot (left / limit), s.pos + 1⟩)
  else
    let m := mixed (mixed (s.cells.getD spot 0) s.pos) (40 + s.pos)
    (((m * 2147483647 + mixed m (7 + s.pos)) / 64) % limit, ⟨s.cells, s.lefts, s.pos + 1⟩)
theorem drawSt_lo (s : OSt) (l : Int) (h : 0 < l) : 0 ≤ (drawSt s l).1 := by
  unfold drawSt; dsimp only; split <;> exact Int.emod_nonneg _ (by omega)
theorem drawSt_hi (s : OSt) (l : Int) (h : 0 < l) : (drawSt s l).1 < l := by
  unfold drawSt; dsimp only; split <;> exact Int.emod_lt_of_pos _ h

/-! ## results -/
inductive R (α : Type) where
  | ok (a : α) (s : OSt) | exc (c : String) (d : D) (s : OSt) | no
def R.bind {α β : Type} (x : R α) (f : α → OSt → R β) : R β := match x with
  | .ok a s => f a s
  | .exc c d s => .exc c d s
  | .no => .no
/-- a value: shared, fresh (nobody else holds it), or what slot i owns -/
inductive Rs where
  | sh (d : D) | fr (d : D) | bo (i : Nat) (d : D)
  deriving Inhabited
def Rs.d : Rs → D
  | .sh d => d
  | .fr d => d
  | .bo _ d => d
def Rs.isBo : Rs → Bool
  | .bo _ _ => true
  | _ => false
/-- holds nothing that can be changed, but itself if it is fresh -/
def Rs.clean : Rs → Bool
  | .sh d => d.imm
  | .fr (.lst l) => D.imms l
  | .fr (.dct k v) => D.imms k && D.imms v
  | _ => false
abbrev Fn := List D → OSt → R Rs

inductive Slot where
  | no | sh (d : D) | ow (d : D)
  deriving Inhabited
abbrev Env := List Slot
inductive Out where
  | nx (ρ : Env) (s : OSt) | rt (r : Rs) (s : OSt) | bk (ρ : Env) (s : OSt) | ct (ρ : Env) (s : OSt) | exc (c : String) (d : D) (s : OSt) | no

/-! ## syntax -/
inductive BOp where
  | add | sub | mul | fdiv | mod | pow
  deriving DecidableEq
inductive COp where
  | eq | ne | lt | le | gt | ge | is | isnot | inn | nin
  deriving DecidableEq
inductive Prim where
  | len | tuple | list | sum | max | min | abs | int | sorted | sortedRev | sortedSet | isInt | isBool | isTup | gcd | comb
  deriving DecidableEq
inductive Tg where
  | nm (i : Nat) | nil | cons (a b : Tg) | tup (a : Tg)
inductive E where
  | var (i : Nat) | con (d : D) | glob (x : String) (d : D)
  | nil | cons (a b : E) | omit
  | tup (es : E) | lst (es : E)
  | bin (o : BOp) (a b : E) | neg (a : E)
  | cmp (o : COp) (a b : E) | chain (o1 o2 : COp) (a b c : E)
  | and (a b : E) | or (a b : E) | not (a : E)
  | ife (c a b : E)
  | idx (a i : E) | slc (a lo hi : E) | rev (a : E)
  | call (x : String) (f : Fn) (es : E) | callK (x : String) (f : Fn) (es : E) (ks : List String) (kes : E) (perm : List Nat)
  | prim (p : Prim) (es : E) | reprEq (a b : E)
  | comp (vs : List Nat) (tg : Tg) (it cnd elt : E)
  | itE (a : E) | itRange (es : E) | itZip (a b : E) | itEnum (a : E)
  | stAt (i : Nat) | stLen (i : Nat) | stCell (i : Nat) (k : E) | stLeft (i : Nat) (k : E)
inductive S where
  | skip | seq (a b : S)
  | asg (i : Nat) (e : E) | asgS (i : Nat) (e : E) | asgT (tg : Tg) (e : E) | par (is : List Nat) (es : E)
  | app (i : Nat) (e : E) | ext (i : Nat) (e : E) | seti (i : Nat) (k e : E)
  | expr (e : E) | ret (e : E)
  | ife (c : E) (a b : S)
  | for (tg : Tg) (it : E) (b : S) | whl (fuel : Nat) (c : E) (b : S)
  | brk | cont | share (i : Nat) | never
  | stPut (i : Nat) (e : E) | stPutLeft (i : Nat) (k e : E)

/-! ## meaning of operators -/
def fitsI (i : Int) : Bool := decide (i.natAbs < BIG)
def binF : BOp → D → D → Option Rs
  | .add, .int i, .int j => some (.sh (.int (i + j)))
  | .add, .tup a, .tup b => if a.length + b.length ≤ LIM then some (.sh (.tup (a ++ b))) else none
  | .add, .lst a, .lst b => if a.length + b.length ≤ LIM then some (.fr (.lst (a ++ b))) else none
  | .sub, .int i, .int j => some (.sh (.int (i - j)))
  | .mul, .int i, .int j => if fitsI i && fitsI j then some (.sh (.int (i * j))) else none
  | .mul, .lst a, .int k => if 0 ≤ k ∧ k ≤ 1000 ∧ a.length ≤ 1000 then some (.fr (.lst (List.replicate k.toNat a).flatten)) else none
  | .fdiv, .int i, .int j => if j ≠ 0 ∧ fitsI j = true then some (.sh (.int (i.fdiv j))) else none
  | .mod, .int i, .int j => if j ≠ 0 then some (.sh (.int (i.fmod j))) else none
  | .pow, .int i, .int j => if 0 ≤ j ∧ j ≤ 1000 ∧ i.natAbs < 2 ^ 64 then some (.sh (.int (i ^ j.toNat))) else none
  | _, _, _ => none
def DEEP : Nat := 60
def D.isNon : D → Bool
  | .non => true
  | _ => false
def bothInt : D → D → Option (Int × Int)
  | .int i, .int j => some (i, j)
  | _, _ => none
def D.bl? : D → Option Bool
  | .bl b => some b
  | _ => none
def ordF (f : Int → Int → Bool) (g : D → D → Bool) (a b : D) : Option Bool := match bothInt a b with
  | some (i, j) => some (f i j)
  | none => if D.alike a b && D.deep DEEP a && D.deep DEEP b then some (g a b) else none
def isF (a b : D) : Option Bool := if b.isNon then some a.isNon else match a.bl?, b.bl? with
  | some x, some y => some (x == y)
  | _, _ => none
def inF (a b : D) : Option Bool := match b.items with
  | some l => if D.deep DEEP a && D.deeps DEEP l then some (l.any fun z => D.eqv z a) else none
  | none => none
def eqF (a b : D) : Option Bool := if D.deep DEEP a && D.deep DEEP b then some (D.eqv a b) else none
def cmpF : COp → D → D → Option Bool
  | .eq, a, b => eqF a b
  | .ne, a, b => (eqF a b).map (!·)
  | .lt, a, b => ordF (fun i j => decide (i < j)) D.lt a b
  | .le, a, b => ordF (fun i j => decide (i ≤ j)) (fun x y => !D.lt y x) a b
  | .gt, a, b => ordF (fun i j => decide (j < i)) (fun x y => D.lt y x) a b
  | .ge, a, b => ordF (fun i j => decide (j ≤ i)) (fun x y => !D.lt x y) a b
  | .is, a, b => isF a b
  | .isnot, a, b => (isF a b).map (!·)
  | .inn, a, b => inF a b
  | .nin, a, b => (inF a b).map (!·)
/-- the place that an index names among n things -/
def ixOf (n : Nat) (i : Int) : Option Nat := if 0 ≤ i then (if i < n then some i.toNat else none) else if -(n : Int) ≤ i then some (i + n).toNat else none
def idxF : D → D → Option D
  | .tup l, .int i => (ixOf l.length i).bind fun j => l[j]?
  | .lst l, .int i => (ixOf l.length i).bind fun j => l[j]?
  | _, _ => none
def endOf (n d : Nat) : Option Int → Nat
  | none => d
  | some v => if v < 0 then (v + (n : Int)).toNat else min v.toNat n
def cut (l : List D) (lo hi : Option Int) : List D := (l.drop (endOf l.length 0 lo)).take (endOf l.length l.length hi - endOf l.length 0 lo)
def slcF (d : D) (lo hi : Option Int) : Option Rs := match d with
  | .tup l => some (.sh (.tup (cut l lo hi)))
  | .lst l => some (.fr (.lst (cut l lo hi)))
  | _ => none
def negF : D → Option Rs
  | .int i => some (.sh (.int (-i)))
  | _ => none
def revF : D → Option Rs
  | .lst l => some (.fr (.lst l.reverse))
  | _ => none
def D.toInt? : D → Option Int
  | .int i => some i
  | _ => none
def intsOf : List D → Option (List Int)
  | [] => some []
  | .int i :: r => (intsOf r).map (i :: ·)
  | _ :: _ => none
def insD (x : D) : List D → List D
  | [] => [x]
  | y :: r => if D.lt y x then y :: insD x r else x :: y :: r
/-- in order, equal ones as they were -/
def sortD : List D → List D
  | [] => []
  | x :: r => insD x (sortD r)
def insR (x : D) : List D → List D
  | [] => [x]
  | y :: r => if D.lt x y then y :: insR x r else x :: y :: r
def sortR : List D → List D
  | [] => []
  | x :: r => insR x (sortR r)
def dedup : List D → List D
  | [] => []
  | x :: r => x :: (dedup r).filter fun y => !D.eqv y x
def alikeAll (l : List D) : Bool := l.all fun x => l.all fun y => D.alike x y
def maxI : List Int → Option Int
  | [] => none
  | x :: r => some (r.foldl max x)
def minI : List Int → Option Int
  | [] => none
  | x :: r => some (r.foldl min x)
def combN : Nat → Nat → Nat
  | _, 0 => 1
  | 0, _ + 1 => 0
  | n + 1, k + 1 => combN n k + combN n (k + 1)
def lenF : List D → Option Rs
  | [.tup l] => some (.sh (.int l.length))
  | [.lst l] => some (.sh (.int l.length))
  | _ => none
def tupleF : List D → Option Rs
  | [.tup l] => some (.sh (.tup l))
  | [.lst l] => some (.sh (.tup l))
  | _ => none
def listF : List D → Option Rs
  | [.tup l] => some (.fr (.lst l))
  | [.lst l] => some (.fr (.lst l))
  | _ => none
def seqInts (f : List Int → Option Int) : List D → Option Rs
  | [.tup l] => ((intsOf l).bind f).map fun n => .sh (.int n)
  | [.lst l] => ((intsOf l).bind f).map fun n => .sh (.int n)
  | _ => none
def maxF : List D → Option Rs
  | [.int i, .int j] => some (.sh (.int (if j > i then j else i)))
  | ds => seqInts maxI ds
def minF : List D → Option Rs
  | [.int i, .int j] => some (.sh (.int (if j < i then j else i)))
  | ds => seqInts minI ds
def int1 (f : Int → Int) : List D → Option Rs
  | [.int i] => some (.sh (.int (f i)))
  | _ => none
def sortF (f : List D → List D) : List D → Option Rs
  | [.lst l] => if alikeAll l && D.deeps DEEP l then some (.fr (.lst (f l))) else none
  | [.tup l] => if alikeAll l && D.deeps DEEP l then some (.fr (.lst (f l))) else none
  | _ => none
def isOf (f : D → Option Bool) : List D → Option Rs
  | [d] => (f d).map fun b => .sh (.bl b)
  | _ => none
def D.isInt : D → Option Bool
  | .int _ => some true
  | .bl _ => some true
  | .st => none
  | .dct _ _ => none
  | _ => some false
def D.isBool : D → Option Bool
  | .bl _ => some true
  | .st => none
  | .dct _ _ => none
  | _ => some false
def D.isTup : D → Option Bool
  | .tup _ => some true
  | .st => none
  | .dct _ _ => none
  | _ => some false
def gcdF : List D → Option Rs
  | [.int i, .int j] => some (.sh (.int ((Nat.gcd i.natAbs j.natAbs : Nat) : Int)))
  | _ => none
def combF : List D → Option Rs
  | [.int i, .int j] => if 0 ≤ i ∧ 0 ≤ j ∧ i ≤ 1000 ∧ j ≤ 1000 then some (.sh (.int ((combN i.toNat j.toNat : Nat) : Int))) else none
  | _ => none
def primF : Prim → List D → Option Rs
  | .len => lenF
  | .tuple => tupleF
  | .list => listF
  | .sum => seqInts fun ns => some ns.sum
  | .max => maxF
  | .min => minF
  | .abs => int1 fun i => if i < 0 then -i else i
  | .int => int1 fun i => i
  | .sorted => sortF sortD
  | .sortedRev => sortF sortR
  | .sortedSet => sortF fun l => sortD (dedup l)
  | .isInt => isOf D.isInt
  | .isBool => isOf D.isBool
  | .isTup => isOf D.isTup
  | .gcd => gcdF
  | .comb => combF
def reprOk (d : D) : Bool := d.showable && decide (d.rlen ≤ 16000000) && D.deep DEEP d
def isSt (ρ : Env) (i : Nat) : Bool := match ρ.getD i .no with
  | .sh .st => true
  | _ => false
def cellF (l : List Int) : D → Option Rs
  | .int n => (ixOf l.length n).bind fun j => (l[j]?).map fun x => .sh (.int x)
  | _ => none
def putAt (s : OSt) : D → Option OSt
  | .int n => if 0 ≤ n then some ⟨s.cells, s.lefts, n.toNat⟩ else none
  | _ => none
def putLeft (s : OSt) : D → D → Option OSt
  | .int n, .int x => (ixOf s.lefts.length n).map fun j => ⟨s.cells, s.lefts.set j x, s.pos⟩
  | _, _ => none
def partOf (e : E) (r : Rs) : Option (Option Int) := match e with
  | .omit => some none
  | _ => match r with
    | .sh (.int i) => some (some i)
    | _ => none
def Slot.val : Slot → Nat → Option Rs
  | .no, _ => none
  | .sh d, _ => some (.sh d)
  | .ow d, i => some (.bo i d)
mutual
def bindTg : Tg → D → Env → Option Env
  | .nm i, d, ρ => if i < ρ.length then some (ρ.set i (.sh d)) else none
  | .tup t, .tup ds, ρ => bindTgs t ds ρ
  | _, _, _ => none
def bindTgs : Tg → List D → Env → Option Env
  | .nil, [], ρ => some ρ
  | .cons a b, d :: ds, ρ => (bindTg a d ρ).bind fun ρ' => bindTgs b ds ρ'
  | _, _, _ => none
end
def wipeE (ρ : Env) : List Nat → Env
  | [] => ρ
  | v :: vs => (wipeE ρ vs).set v .no
def noOw (ρ : Env) (vs : List Nat) : Bool := vs.all fun i => match ρ.getD i .no with
  | .ow _ => false
  | _ => true
def compL (step : D → OSt → R (Option D)) : List D → List D → OSt → R (List D)
  | [], acc, s => .ok acc s
  | d :: ds, acc, s => match step d s with
    | .ok none s1 => compL step ds acc s1
    | .ok (some y) s1 => if acc.length < LIM then compL step ds (acc ++ [y]) s1 else .no
    | _ => .no
def lift {α : Type} (o : Option α) (s : OSt) : R α := match o with
  | some a => .ok a s
  | none => .no
def freeze : List Rs → Bool
  | [] => true
  | r :: rs => !r.isBo && freeze rs
def fromInts (a : Int) (n : Nat) : List D := (List.range n).map fun (k : Nat) => D.int (a + k)
def smallR (i : Int) : Bool := decide (i.natAbs < 2 ^ 61)
def rangeF : List D → Option (List D)
  | [.int n] => if smallR n = true then some (fromInts 0 n.toNat) else none
  | [.int a, .int b] => if smallR a = true ∧ smallR b = true then some (fromInts a (b - a).toNat) else none
  | _ => none
def zipD : List D → List D → List D
  | x :: xs, y :: ys => .tup [x, y] :: zipD xs ys
  | _, _ => []
def zipF : D → D → Option (List D)
  | .lst a, .lst b => some (zipD a b)
  | .tup a, .tup b => some (zipD a b)
  | _, _ => none
def enumD : Nat → List D → List D
  | _, [] => []
  | n, x :: xs => .tup [.int n, x] :: enumD (n + 1) xs
def permR (perm : List Nat) (rs : List Rs) : List Rs := perm.map fun i => .sh (rs.getD i (.sh .non)).d
def callR (f : Fn) (rs : List Rs) (s : OSt) : R Rs :=
  (f (rs.map Rs.d) s).bind fun r s' => if r.isBo then .no else if freeze rs || r.clean then .ok r s' else .no
mutual
def ev : E → Env → OSt → R Rs
  | .var i, ρ, s => lift ((ρ.getD i .no).val i) s
  | .con d, _, s => .ok (.sh d) s
  | .glob _ d, _, s => .ok (.sh d) s
  | .omit, _, s => .ok (.sh (.bl true)) s
  | .tup es, ρ, s => (evs es ρ s).bind fun rs s' => if freeze rs then .ok (.sh (.tup (rs.map Rs.d))) s' else .no
  | .lst es, ρ, s => (evs es ρ s).bind fun rs s' => if freeze rs then .ok (.fr (.lst (rs.map Rs.d))) s' else .no
  | .bin o a b, ρ, s => (ev a ρ s).bind fun x s1 => (ev b ρ s1).bind fun y s2 => lift (binF o x.d y.d) s2
  | .neg a, ρ, s => (ev a ρ s).bind fun x s1 => lift (negF x.d) s1
  | .cmp o a b, ρ, s => (ev a ρ s).bind fun x s1 => (ev b ρ s1).bind fun y s2 => lift ((cmpF o x.d y.d).map fun b => .sh (.bl b)) s2
  | .chain o1 o2 a b c, ρ, s => (ev a ρ s).bind fun x s1 => (ev b ρ s1).bind fun y s2 => match cmpF o1 x.d y.d with
    | some true => (ev c ρ s2).bind fun z s3 => lift ((cmpF o2 y.d z.d).map fun b => .sh (.bl b)) s3
    | some false => .ok (.sh (.bl false)) s2
    | none => .no
  | .and a b, ρ, s => (ev a ρ s).bind fun x s1 => match x with
    | .sh (.bl true) => ev b ρ s1
    | .sh (.bl false) => .ok (.sh (.bl false)) s1
    | _ => .no
  | .or a b, ρ, s => (ev a ρ s).bind fun x s1 => match x with
    | .sh (.bl false) => ev b ρ s1
    | .sh (.bl true) => .ok (.sh (.bl true)) s1
    | _ => .no
  | .not a, ρ, s => (ev a ρ s).bind fun x s1 => match x with
    | .sh (.bl b) => .ok (.sh (.bl !b)) s1
    | _ => .no
  | .ife c a b, ρ, s => (ev c ρ s).bind fun x s1 => match x with
    | .sh (.bl true) => ev a ρ s1
    | .sh (.bl false) => ev b ρ s1
    | _ => .no
  | .idx a i, ρ, s => (ev a ρ s).bind fun x s1 => (ev i ρ s1).bind fun y s2 => lift ((idxF x.d y.d).map .sh) s2
  | .slc a lo hi, ρ, s => (ev a ρ s).bind fun x s1 => (ev lo ρ s1).bind fun y s2 => (ev hi ρ s2).bind fun z s3 =>
      match partOf lo y, partOf hi z with
      | some l, some h => lift (slcF x.d l h) s3
      | _, _ => .no
  | .rev a, ρ, s => (ev a ρ s).bind fun x s1 => lift (revF x.d) s1
  | .call _ f es, ρ, s => (evs es ρ s).bind fun rs s' => callR f rs s'
  | .callK _ f _ _ kes perm, ρ, s => ((evs kes ρ s).bind fun rs s1 => if freeze rs then .ok (permR perm rs) s1 else .no).bind fun rs s1 => callR f rs s1
  | .prim p es, ρ, s => (evs es ρ s).bind fun rs s' => lift (primF p (rs.map Rs.d)) s'
  | .reprEq a b, ρ, s => (ev a ρ s).bind fun x s1 => (ev b ρ s1).bind fun y s2 => if x.d = y.d ∧ reprOk x.d = true then .ok (.sh (.bl true)) s2 else .no
  | .comp vs tg it cnd elt, ρ, s => (evI it ρ s).bind fun (items, b) s1 =>
      if noOw ρ vs then
        (compL (fun d s => match bindTg tg d (wipeE (match b with | some i => ρ.set i .no | none => ρ) vs) with
          | some ρ1 => (ev cnd ρ1 s).bind fun c s2 => match c with
            | .sh (.bl true) => (ev elt ρ1 s2).bind fun y s3 => if y.isBo then .no else .ok (some y.d) s3
            | .sh (.bl false) => .ok none s2
            | _ => .no
          | none => .no) items [] s1).bind fun acc s2 => .ok (.fr (.lst acc)) s2
      else .no
  | .stAt i, ρ, s => if isSt ρ i then .ok (.sh (.int s.pos)) s else .no
  | .stLen i, ρ, s => if isSt ρ i then .ok (.sh (.int s.cells.length)) s else .no
  | .stCell i k, ρ, s => if isSt ρ i then (ev k ρ s).bind fun y s1 => lift (cellF s1.cells y.d) s1 else .no
  | .stLeft i k, ρ, s => if isSt ρ i then (ev k ρ s).bind fun y s1 => lift (cellF s1.lefts y.d) s1 else .no
  | .nil, _, _ => .no
  | .cons _ _, _, _ => .no
  | .itE _, _, _ => .no
  | .itRange _, _, _ => .no
  | .itZip _ _, _, _ => .no
  | .itEnum _, _, _ => .no
def evs : E → Env → OSt → R (List Rs)
  | .nil, _, s => .ok [] s
  | .cons a b, ρ, s => (ev a ρ s).bind fun x s1 => (evs b ρ s1).bind fun xs s2 => .ok (x :: xs) s2
  | _, _, _ => .no
/-- what is walked; the slot whose own list it is -/
def evI : E → Env → OSt → R (List D × Option Nat)
  | .itE a, ρ, s => (ev a ρ s).bind fun x s1 => match x with
    | .bo i (.lst l) => .ok (l, some i) s1
    | .bo _ _ => .no
    | x => lift (x.d.items.map fun l => (l, none)) s1
  | .itRange es, ρ, s => (evs es ρ s).bind fun rs s1 => lift ((rangeF (rs.map Rs.d)).map fun l => (l, none)) s1
  | .itZip a b, ρ, s => (ev a ρ s).bind fun x s1 => (ev b ρ s1).bind fun y s2 => if x.isBo || y.isBo then .no else lift ((zipF x.d y.d).map fun l => (l, none)) s2
  | .itEnum a, ρ, s => (ev a ρ s).bind fun x s1 => if x.isBo then .no else lift (x.d.items.map fun l => (enumD 0 l, none)) s1
  | _, _, _ => .no
end

def slotOf : Rs → Option Slot
  | .sh d => some (.sh d)
  | .fr d => some (.ow d)
  | .bo _ _ => none
def assignAll : List Nat → List Rs → Env → Option Env
  | [], [], ρ => some ρ
  | i :: is, r :: rs, ρ => match slotOf r with
    | some sl => if i < ρ.length then assignAll is rs (ρ.set i sl) else none
    | none => none
  | _, _, _ => none
def forL (step : D → Env → OSt → Out) : List D → Env → OSt → Out
  | [], ρ, s => .nx ρ s
  | d :: ds, ρ, s => match step d ρ s with
    | .nx ρ1 s1 => forL step ds ρ1 s1
    | .ct ρ1 s1 => forL step ds ρ1 s1
    | .bk ρ1 s1 => .nx ρ1 s1
    | .rt r s1 => .rt r s1
    | .exc c d s1 => .exc c d s1
    | .no => .no
def whlL (test : Env → OSt → R Rs) (body : Env → OSt → Out) : Nat → Env → OSt → Out
  | 0, _, _ => .no
  | n + 1, ρ, s => match test ρ s with
    | .ok (.sh (.bl true)) s1 => match body ρ s1 with
      | .nx ρ1 s2 => whlL test body n ρ1 s2
      | .ct ρ1 s2 => whlL test body n ρ1 s2
      | .bk ρ1 s2 => .nx ρ1 s2
      | .rt r s2 => .rt r s2
      | .exc c d s2 => .exc c d s2
      | .no => .no
    | .ok (.sh (.bl false)) s1 => .nx ρ s1
    | .exc c d s1 => .exc c d s1
    | _ => .no
def withV (r : R Rs) (f : Rs → OSt → Out) : Out := match r with
  | .ok a s => f a s
  | .exc c d s => .exc c d s
  | .no => .no
def outOf (o : Option Env) (s : OSt) : Out := match o with
  | some ρ => .nx ρ s
  | none => .no
def exS : S → Env → OSt → Out
  | .skip, ρ, s => .nx ρ s
  | .seq a b, ρ, s => match exS a ρ s with
    | .nx ρ1 s1 => exS b ρ1 s1
    | o => o
  | .asg i e, ρ, s => withV (ev e ρ s) fun r s1 => outOf (assignAll [i] [r] ρ) s1
  | .asgS i e, ρ, s => withV (ev e ρ s) fun r s1 => if r.isBo then .no else outOf (assignAll [i] [.sh r.d] ρ) s1
  | .asgT tg e, ρ, s => withV (ev e ρ s) fun r s1 => if r.isBo then .no else outOf (bindTg tg r.d ρ) s1
  | .par is es, ρ, s => match evs es ρ s with
    | .ok rs s1 => outOf (assignAll is rs ρ) s1
    | .exc c d s1 => .exc c d s1
    | .no => .no
  | .app i e, ρ, s => withV (ev e ρ s) fun r s1 => match ρ.getD i .no with
    | .ow (.lst l) => if r.isBo = false ∧ l.length < LIM then .nx (ρ.set i (.ow (.lst (l ++ [r.d])))) s1 else .no
    | _ => .no
  | .ext i e, ρ, s => withV (ev e ρ s) fun r s1 => match ρ.getD i .no with
    | .ow (.lst l) => match r.d with
      | .lst m => if r.isBo = false ∧ l.length + m.length ≤ LIM then .nx (ρ.set i (.ow (.lst (l ++ m)))) s1 else .no
      | _ => .no
    | _ => .no
  | .seti i k e, ρ, s => withV (ev e ρ s) fun r s1 => withV (ev k ρ s1) fun q s2 => match ρ.getD i .no, q.d with
    | .ow (.lst l), .int n => match ixOf l.length n with
      | some j => if r.isBo = false then .nx (ρ.set i (.ow (.lst (l.set j r.d)))) s2 else .no
      | none => .no
    | _, _ => .no
  | .expr e, ρ, s => withV (ev e ρ s) fun _ s1 => .nx ρ s1
  | .ret e, ρ, s => withV (ev e ρ s) fun r s1 => match r with
    | .bo _ d => .rt (.fr d) s1
    | r => .rt r s1
  | .ife c a b, ρ, s => withV (ev c ρ s) fun r s1 => match r with
    | .sh (.bl true) => exS a ρ s1
    | .sh (.bl false) => exS b ρ s1
    | _ => .no
  | .for tg it b, ρ, s => match evI it ρ s with
    | .ok (items, none) s1 => forL (fun d ρ s => match bindTg tg d ρ with
      | some ρ1 => exS b ρ1 s
      | none => .no) items ρ s1
    | .ok (_, some _) _ => .no
    | .exc c d s1 => .exc c d s1
    | .no => .no
  | .whl n c b, ρ, s => whlL (fun ρ s => ev c ρ s) (fun ρ s => exS b ρ s) n ρ s
  | .brk, ρ, s => .bk ρ s
  | .cont, ρ, s => .ct ρ s
  | .share i, ρ, s => match ρ.getD i .no with
    | .ow d => .nx (ρ.set i (.sh d)) s
    | .sh d => .nx (ρ.set i (.sh d)) s
    | .no => .no
  | .never, _, _ => .no
  | .stPut i e, ρ, s => withV (ev e ρ s) fun r s1 => if isSt ρ i then (match putAt s1 r.d with
    | some s2 => .nx ρ s2
    | none => .no) else .no
  | .stPutLeft i k e, ρ, s => withV (ev e ρ s) fun r s1 => withV (ev k ρ s1) fun q s2 => if isSt ρ i then (match putLeft s2 q.d r.d with
    | some s3 => .nx ρ s3
    | none => .no) else .no
def startE (n : Nat) (ds : List D) : Env := ds.map .sh ++ List.replicate (n - ds.length) .no
def endR : Out → R Rs
  | .nx _ s => .ok (.sh .non) s
  | .rt r s => .ok r s
  | .exc c d s => .exc c d s
  | _ => .no
/-- a def: n slots, p parameters -/
def evFn (n p : Nat) (b : S) : Fn := fun ds s => if ds.length = p then endR (exS b (startE n ds) s) else .no
/-- the law's draw -/
def drawFn : Fn := fun ds s => match ds with
  | [.st, .int l] => if 0 < l ∧ l.natAbs < 2 ^ 29 then .ok (.sh (.int (drawSt s l).1)) (drawSt s l).2 else .no
  | _ => .no
end RS
end
section
set_option Elab.async false
set_option linter.all false
set_option maxRecDepth 100000
set_option autoImplicit false
/-! RSBase: how data lie in the abstract heap; what holds of slots, shared and owned things between two steps. -/
namespace RS
open PySem L2

/-! ## data in the heap -/
section
variable (K : PySem.W.Frag) (aS : Addr) (O : Addr → Prop) (H : Hp)
mutual
def Rep : D → V → Prop
  | .non, v => v = .non
  | .bl b, v => v = .bl b
  | .int i, v => v = .int i
  | .str x, v => v = .str ⟨x.toArray⟩
  | .tup l, v => ∃ a xs, v = .ref a ∧ SqT K H a xs ∧ Reps l xs
  | .lst l, v => ∃ a xs, v = .ref a ∧ ¬ O a ∧ H a = some (.lst xs) ∧ Reps l xs
  | .dct _ _, _ => False
  | .st, v => v = .ref aS
def Reps : List D → List V → Prop
  | [], xs => xs = []
  | d :: ds, xs => ∃ v vs, xs = v :: vs ∧ Rep d v ∧ Reps ds vs
end
/-- a fresh or owned thing -/
def Top : D → Addr → Prop
  | .lst l, a => ∃ xs, H a = some (.lst xs) ∧ Reps K aS O H l xs
  | _, _ => False
end

section
variable {K : PySem.W.Frag} {aS : Addr} {O O' : Addr → Prop} {H H' : Hp}
theorem Reps.length : ∀ {ds : List D} {xs : List V}, Reps K aS O H ds xs → xs.length = ds.length
  | [], _, h => by rw [Reps] at h; subst h; rfl
  | _ :: _, _, h => by
    rw [Reps] at h
    obtain ⟨v, vs, rfl, _, h⟩ := h
    simp [Reps.length h]
theorem Reps.cons {d : D} {ds : List D} {v : V} {vs : List V} (h : Rep K aS O H d v) (t : Reps K aS O H ds vs) : Reps K aS O H (d :: ds) (v :: vs) := by
  rw [Reps]; exact ⟨v, vs, rfl, h, t⟩
theorem Reps.nil : Reps K aS O H [] [] := by rw [Reps]
theorem Reps.get : ∀ {ds : List D} {xs : List V} {i : Nat} {d : D}, Reps K aS O H ds xs → ds[i]? = some d → ∃ v, xs[i]? = some v ∧ Rep K aS O H d v
  | [], _, _, _, _, e => by simp at e
  | d :: ds, _, 0, _, h, e => by
    rw [Reps] at h
    obtain ⟨v, vs, rfl, r, _⟩ := h
    simp at e; subst e
    exact ⟨v, rfl, r⟩
  | d :: ds, _, i + 1, x, h, e => by
    rw [Reps] at h
    obtain ⟨v, vs, rfl, _, t⟩ := h
    obtain ⟨u, h1, h2⟩ := Reps.get (i := i) (d := x) t (by simpa using e)
    exact ⟨u, by simpa using h1, h2⟩
theorem Reps.append : ∀ {ds es : List D} {xs ys : List V}, Reps K aS O H ds xs → Reps K aS O H es ys → Reps K aS O H (ds ++ es) (xs ++ ys)
  | [], _, _, _, h, q => by rw [Reps] at h; subst h; exact q
  | _ :: _, _, _, _, h, q => by
    rw [Reps] at h
    obtain ⟨v, vs, rfl, r, t⟩ := h
    exact Reps.cons r (Reps.append t q)
theorem Reps.take : ∀ {ds : List D} {xs : List V} (n : Nat), Reps K aS O H ds xs → Reps K aS O H (ds.take n) (xs.take n)
  | _, _, 0, _ => by simp [Reps]
  | [], _, n + 1, h => by rw [Reps] at h; subst h; simp [Reps]
  | _ :: _, _, n + 1, h => by
    rw [Reps] at h
    obtain ⟨v, vs, rfl, r, t⟩ := h
    exact Reps.cons r (Reps.take n t)
theorem Reps.drop : ∀ {ds : List D} {xs : List V} (n : Nat), Reps K aS O H ds xs → Reps K aS O H (ds.drop n) (xs.drop n)
  | _, _, 0, h => by simpa using h
  | [], _, n + 1, h => by rw [Reps] at h; subst h; simp [Reps]
  | _ :: _, _, n + 1, h => by
    rw [Reps] at h
    obtain ⟨v, vs, rfl, _, t⟩ := h
    simpa using Reps.drop n t
theorem Reps.reverse : ∀ {ds : List D} {xs : List V}, Reps K aS O H ds xs → Reps K aS O H ds.reverse xs.reverse
  | [], _, h => by rw [Reps] at h; subst h; simp [Reps]
  | _ :: _, _, h => by
    rw [Reps] at h
    obtain ⟨v, vs, rfl, r, t⟩ := h
    simpa using Reps.append (Reps.reverse t) (Reps.cons r Reps.nil)
theorem Reps.set : ∀ {ds : List D} {xs : List V} (i : Nat) {d : D} {v : V}, Rep K aS O H d v → Reps K aS O H ds xs → Reps K aS O H (ds.set i d) (xs.set i v)
  | [], _, _, _, _, _, h => by rw [Reps] at h; subst h; simp [Reps]
  | _ :: _, _, 0, _, _, r, h => by
    rw [Reps] at h
    obtain ⟨v, vs, rfl, _, t⟩ := h
    exact Reps.cons r t
  | _ :: _, _, i + 1, _, _, r, h => by
    rw [Reps] at h
    obtain ⟨v, vs, rfl, q, t⟩ := h
    exact Reps.cons q (Reps.set i r t)
theorem Reps.replicate {ds : List D} {xs : List V} (h : Reps K aS O H ds xs) : ∀ n : Nat, Reps K aS O H (List.replicate n ds).flatten (List.replicate n xs).flatten
  | 0 => by simp [Reps]
  | n + 1 => by simpa [List.replicate_succ] using Reps.append h (Reps.replicate h n)
theorem Reps.of_get : ∀ {ds : List D} {xs : List V}, xs.length = ds.length → (∀ (i : Nat) (d : D) (v : V), ds[i]? = some d → xs[i]? = some v → Rep K aS O H d v) → Reps K aS O H ds xs
  | [], xs, hl, _ => by rw [Reps]; exact List.length_eq_zero_iff.mp hl
  | d :: ds, [], hl, _ => by simp at hl
  | d :: ds, v :: vs, hl, h => Reps.cons (h 0 d v rfl rfl) (Reps.of_get (by simpa using hl) fun i x y e1 e2 => h (i + 1) x y (by simpa using e1) (by simpa using e2))
theorem Reps.mem {ds : List D} {xs : List V} (h : Reps K aS O H ds xs) {d : D} (hd : d ∈ ds) : ∃ v, v ∈ xs ∧ Rep K aS O H d v := by
  obtain ⟨i, hi, e⟩ := List.getElem_of_mem hd
  obtain ⟨v, h1, h2⟩ := h.get (i := i) (d := d) (by rw [List.getElem?_eq_getElem hi, e])
  exact ⟨v, List.mem_of_getElem? h1, h2⟩

/-- from one heap to another one, from one set of forbidden places to another one -/
structure Go (K : PySem.W.Frag) (O O' : Addr → Prop) (H H' : Hp) : Prop where
  no : ∀ a, O' a → O a ∨ H a = none
  tup : ∀ a xs, SqT K H a xs → SqT K H' a xs
  lst : ∀ a xs, ¬ O a → H a = some (.lst xs) → H' a = some (.lst xs)
mutual
theorem Rep.go (g : Go K O O' H H') : ∀ (d : D) (v : V), Rep K aS O H d v → Rep K aS O' H' d v
  | .non, _, h => by rw [Rep] at h ⊢; exact h
  | .bl _, _, h => by rw [Rep] at h ⊢; exact h
  | .int _, _, h => by rw [Rep] at h ⊢; exact h
  | .str _, _, h => by rw [Rep] at h ⊢; exact h
  | .tup l, _, h => by
    rw [Rep] at h ⊢
    obtain ⟨a, xs, e, q, t⟩ := h
    exact ⟨a, xs, e, g.tup a xs q, Reps.go g l xs t⟩
  | .lst l, _, h => by
    rw [Rep] at h ⊢
    obtain ⟨a, xs, e, n, q, t⟩ := h
    refine ⟨a, xs, e, fun z => ?_, g.lst a xs n q, Reps.go g l xs t⟩
    rcases g.no a z with z | z
    · exact n z
    · rw [z] at q; cases q
  | .dct _ _, _, h => by rw [Rep] at h; exact h.elim
  | .st, _, h => by rw [Rep] at h ⊢; exact h
theorem Reps.go (g : Go K O O' H H') : ∀ (ds : List D) (xs : List V), Reps K aS O H ds xs → Reps K aS O' H' ds xs
  | [], _, h => by rw [Reps] at h ⊢; exact h
  | d :: ds, _, h => by
    rw [Reps] at h
    obtain ⟨v, vs, e, r, t⟩ := h
    rw [Reps]
    exact ⟨v, vs, e, Rep.go g d v r, Reps.go g ds vs t⟩
end
theorem Go.less (h : ∀ a, O' a → O a) : Go K O O' H H := ⟨fun a z => .inl (h a z), fun _ _ q => q, fun _ _ _ q => q⟩
theorem sqT_upd {a p : Addr} {xs : List V} {o : HO} (hp : H p = none) (h : SqT K H a xs) : SqT K (upd H p o) a xs := by
  rcases h with (h | ⟨ob, h⟩) | h
  · exact .inl (.inl (by rw [upd_ne (ne_of_none h hp)]; exact h))
  · exact .inl (.inr ⟨ob, by rw [upd_ne (ne_of_none h hp)]; exact h⟩)
  · exact .inr h
theorem Go.alloc {p : Addr} {o : HO} (hp : H p = none) (h : ∀ a, O' a → O a ∨ a = p) : Go K O O' H (upd H p o) :=
  ⟨fun a z => (h a z).imp id fun e => by rw [e]; exact hp, fun _ _ q => sqT_upd hp q, fun _ _ _ q => by rw [upd_ne (ne_of_none q hp)]; exact q⟩
/-- an owned thing is written -/
theorem Go.write {p : Addr} {xs ys : List V} (hO : O p) (hp : H p = some (.lst xs)) (h : ∀ a, O' a → O a) : Go K O O' H (upd H p (.lst ys)) := by
  refine ⟨fun a z => .inl (h a z), fun a zs q => ?_, fun a zs n q => ?_⟩
  · rcases q with (q | ⟨ob, q⟩) | q
    · exact .inl (.inl (by rw [upd_ne (ne_of q hp (by intro z; cases z))]; exact q))
    · exact .inl (.inr ⟨ob, by rw [upd_ne (ne_of q hp (by intro z; cases z))]; exact q⟩)
    · exact .inr q
  · have ne : a ≠ p := fun e => n (e ▸ hO)
    rw [upd_ne ne]; exact q
theorem Top.go (g : Go K O O' H H') {d : D} {a : Addr} (h : Top K aS O H d a) (hk : ∀ xs, H a = some (.lst xs) → H' a = some (.lst xs)) : Top K aS O' H' d a := by
  cases d <;> first | exact h.elim | skip
  obtain ⟨xs, e, t⟩ := h
  exact ⟨xs, hk xs e, Reps.go g _ _ t⟩
theorem Top.rep {d : D} {a : Addr} (h : Top K aS O H d a) (n : ¬ O a) : Rep K aS O H d (.ref a) := by
  cases d <;> first | exact h.elim | skip
  obtain ⟨xs, e, t⟩ := h
  rw [Rep]
  exact ⟨a, xs, rfl, n, e, t⟩
/-- data without lists hang on no forbidden place -/
theorem imm_rep : ∀ (d : D) (v : V), d.imm = true → Rep K aS O H d v → Rep K aS O' H d v := by
  have key : ∀ n : Nat, (∀ d : D, sizeOf d ≤ n → ∀ v, d.imm = true → Rep K aS O H d v → Rep K aS O' H d v) ∧ (∀ ds : List D, sizeOf ds ≤ n → ∀ vs, D.imms ds = true → Reps K aS O H ds vs → Reps K aS O' H ds vs) := by
    intro n
    induction n with
    | zero => exact ⟨fun d h => by cases d <;> simp at h, fun ds h => by cases ds <;> simp at h⟩
    | succ n ih =>
      refine ⟨fun d hs v hi h => ?_, fun ds hs vs hi h => ?_⟩
      · cases d <;> simp [D.imm] at hi <;> (rw [Rep] at h ⊢) <;> first | exact h | skip
        obtain ⟨a, xs, e, q, t⟩ := h
        exact ⟨a, xs, e, q, ih.2 _ (by simp at hs; omega) _ hi t⟩
      · cases ds with
        | nil => rw [Reps] at h ⊢; exact h
        | cons d ds =>
          rw [Reps] at h ⊢
          simp [D.imms] at hi
          obtain ⟨v, vs, e, r, t⟩ := h
          simp at hs
          exact ⟨v, vs, e, ih.1 d (by omega) v hi.1 r, ih.2 ds (by omega) vs hi.2 t⟩
  exact fun d v => (key (sizeOf d)).1 d (Nat.le_refl _) v
theorem imms_reps (ds : List D) (vs : List V) (hi : D.imms ds = true) (h : Reps K aS O H ds vs) : Reps K aS O' H ds vs := by
  induction ds generalizing vs with
  | nil => rw [Reps] at h ⊢; exact h
  | cons d ds ih =>
    rw [Reps] at h ⊢
    simp [D.imms] at hi
    obtain ⟨v, vs, e, r, t⟩ := h
    exact ⟨v, vs, e, imm_rep d v hi.1 r, ih vs hi.2 t⟩
end

/-! ## what holds between two steps -/
/-- a def's run: what may not be reached, the heap at the entry, the draws' state -/
structure Cfg where
  O : Addr → Prop
  H0 : Hp
  aS : Addr
  aL : Addr
  aC : Addr
abbrev Shd := List (D × V)
abbrev Own := List (D × Addr)
def Cfg.Ow (c : Cfg) (F : Own) : Addr → Prop := fun a => c.O a ∨ a ∈ F.map (·.2)
def NotTbl : HO → Prop
  | .tbl _ => False
  | _ => True
def Solid : HO → Prop
  | .tbl _ => False
  | .tup _ => False
  | _ => True
structure Keeps (c : Cfg) (H H' : Hp) : Prop where
  obj : ∀ a o, H a = some o → NotTbl o → a ≠ c.aS → a ≠ c.aL → H' a = some o
  there : ∀ a, H' a = none → H a = none
structure StOk (c : Cfg) (H : Hp) (s : OSt) : Prop where
  dict : H c.aS = some (.dK [(.inr "cells", .ref c.aC), (.inr "lefts", .ref c.aL), (.inr "at", .int s.pos)])
  cells : H c.aC = some (.lst (s.cells.map V.int))
  lefts : H c.aL = some (.lst (s.lefts.map V.int))
  ne : c.aC ≠ c.aL
  len : s.lefts.length = s.cells.length
  pos : 0 < s.cells.length
  most : s.cells.length ≤ 1000
structure Bs (K : PySem.W.Frag) (c : Cfg) (T : Shd) (F : Own) (H : Hp) (s : OSt) : Prop where
  tT : ∀ p ∈ T, Rep K c.aS (c.Ow F) H p.1 p.2
  tF : ∀ p ∈ F, Top K c.aS (c.Ow F) H p.1 p.2 ∧ ¬ c.O p.2 ∧ c.H0 p.2 = none
  nd : (F.map (·.2)).Nodup
  st : StOk c H s
  oS : c.O c.aS ∧ c.O c.aL ∧ c.O c.aC
  trk : ∀ a, c.O a → ∃ o, H a = some o ∧ Solid o
  kp : Keeps c c.H0 H

section
variable {K : PySem.W.Frag} {c : Cfg} {T T' : Shd} {F : Own} {H H' : Hp} {s s' : OSt}
theorem Solid.notTbl {o : HO} (h : Solid o) : NotTbl o := by cases o <;> first | exact h | trivial
theorem Keeps.refl : Keeps c H H := ⟨fun _ _ e _ _ _ => e, fun _ e => e⟩
theorem Keeps.trans {H1 : Hp} (a : Keeps c H H1) (b : Keeps c H1 H') : Keeps c H H' := ⟨fun x o e n h1 h2 => b.obj x o (a.obj x o e n h1 h2) n h1 h2, fun x e => a.there x (b.there x e)⟩
theorem Bs.weaken (B : Bs K c T F H s) (h : ∀ p ∈ T', p ∈ T) : Bs K c T' F H s := ⟨fun p hp => B.tT p (h p hp), B.tF, B.nd, B.st, B.oS, B.trk, B.kp⟩
theorem Bs.addT (B : Bs K c T F H s) {d : D} {v : V} (r : Rep K c.aS (c.Ow F) H d v) : Bs K c ((d, v) :: T) F H s :=
  ⟨fun p hp => by
    rcases List.mem_cons.mp hp with e | hp
    · rw [e]; exact r
    · exact B.tT p hp, B.tF, B.nd, B.st, B.oS, B.trk, B.kp⟩
theorem Bs.top_at (B : Bs K c T F H s) {d : D} {a : Addr} (h : (d, a) ∈ F) : ∃ l xs, d = .lst l ∧ H a = some (.lst xs) ∧ Reps K c.aS (c.Ow F) H l xs := by
  have q := (B.tF _ h).1
  cases d <;> first | exact q.elim | skip
  obtain ⟨xs, e, t⟩ := q
  exact ⟨_, xs, rfl, e, t⟩
theorem StOk.upd {p : Addr} {o : HO} (h : StOk c H s) (h1 : c.aS ≠ p) (h2 : c.aL ≠ p) (h3 : c.aC ≠ p) : StOk c (upd H p o) s :=
  ⟨by rw [upd_ne h1]; exact h.dict, by rw [upd_ne h3]; exact h.cells, by rw [upd_ne h2]; exact h.lefts, h.ne, h.len, h.pos, h.most⟩
/-- a new object -/
theorem Bs.alloc (B : Bs K c T F H s) {p : Addr} {o : HO} (hp : H p = none) : Bs K c T F (upd H p o) s := by
  have g : Go K (c.Ow F) (c.Ow F) H (upd H p o) := Go.alloc hp fun a z => .inl z
  have neO : ∀ a, c.O a → a ≠ p := fun a z e => by
    obtain ⟨o', q, _⟩ := B.trk a z
    rw [e, hp] at q; cases q
  refine ⟨fun q hq => Rep.go g _ _ (B.tT q hq), fun q hq => ?_, B.nd, B.st.upd (neO _ B.oS.1) (neO _ B.oS.2.1) (neO _ B.oS.2.2), B.oS, fun a z => ?_, fun a o' e n h1 h2 => ?_, fun a e => ?_⟩
  · obtain ⟨t, n, z⟩ := B.tF q hq
    exact ⟨t.go g fun xs e => by rw [upd_ne (ne_of_none e hp)]; exact e, n, z⟩
  · obtain ⟨o', q, n⟩ := B.trk a z
    exact ⟨o', by rw [upd_ne (neO a z)]; exact q, n⟩
  · rw [upd_ne (ne_of_none (B.kp.obj a o' e n h1 h2) hp)]
    exact B.kp.obj a o' e n h1 h2
  · refine B.kp.there a ?_
    by_cases ea : a = p
    · rw [ea]; exact hp
    · rw [upd_ne ea] at e; exact e
theorem Bs.tup (B : Bs K c T F H s) {p : Addr} {ds : List D} {xs : List V} (hp : H p = none) (r : Reps K c.aS (c.Ow F) H ds xs) : Bs K c ((.tup ds, .ref p) :: T) F (upd H p (.tup xs)) s := by
  refine (B.alloc hp).addT ?_
  rw [Rep]
  exact ⟨p, xs, rfl, SqT.of upd_same, Reps.go (Go.alloc hp fun a z => .inl z) _ _ r⟩
/-- what is not yet tracked becomes an own thing -/
theorem Bs.adopt (B : Bs K c T F H s) {p : Addr} {d : D} (hO : ¬ c.O p) (h0 : c.H0 p = none) (hF : p ∉ F.map (·.2)) (t : Top K c.aS (c.Ow ((d, p) :: F)) H d p)
    (hT : ∀ q ∈ T, Rep K c.aS (c.Ow ((d, p) :: F)) H q.1 q.2) (hF2 : ∀ q ∈ F, Top K c.aS (c.Ow ((d, p) :: F)) H q.1 q.2) : Bs K c T ((d, p) :: F) H s := by
  refine ⟨hT, fun q hq => ?_, ?_, B.st, B.oS, B.trk, B.kp⟩
  · rcases List.mem_cons.mp hq with e | hq
    · rw [e]; exact ⟨t, hO, h0⟩
    · exact ⟨hF2 q hq, (B.tF q hq).2⟩
  · rw [List.map_cons, List.nodup_cons]; exact ⟨hF, B.nd⟩
theorem Bs.lst (B : Bs K c T F H s) {p : Addr} {ds : List D} {xs : List V} (hp : H p = none) (r : Reps K c.aS (c.Ow F) H ds xs) : Bs K c T ((.lst ds, p) :: F) (upd H p (.lst xs)) s := by
  have g : Go K (c.Ow F) (c.Ow ((.lst ds, p) :: F)) H (upd H p (.lst xs)) := Go.alloc hp fun a z => by
    rcases z with z | z
    · exact .inl (.inl z)
    · rw [List.map_cons] at z
      rcases List.mem_cons.mp z with z | z
      · exact .inr z
      · exact .inl (.inr z)
  have nO : ¬ c.O p := fun z => by obtain ⟨o, q, _⟩ := B.trk p z; rw [hp] at q; cases q
  refine (B.alloc hp).adopt nO (B.kp.there p hp) (fun z => ?_) ⟨xs, upd_same, Reps.go g _ _ r⟩ (fun q hq => Rep.go g _ _ (B.tT q hq)) fun q hq => ?_
  · obtain ⟨q, hq, e⟩ := List.mem_map.mp z
    obtain ⟨l, ys, _, e2, _⟩ := B.top_at (d := q.1) (a := q.2) hq
    rw [e, hp] at e2; cases e2
  · exact (B.tF q hq).1.go g fun ys e => by rw [upd_ne (ne_of_none e hp)]; exact e
theorem Bs.share (B : Bs K c T F H s) {d : D} {a : Addr} (h : (d, a) ∈ F) : Bs K c ((d, .ref a) :: T) (F.filter fun p => decide (p.2 ≠ a)) H s := by
  have less : ∀ b, c.Ow (F.filter fun p => decide (p.2 ≠ a)) b → c.Ow F b := fun b z => by
    rcases z with z | z
    · exact .inl z
    · obtain ⟨q, hq, e⟩ := List.mem_map.mp z
      exact .inr (List.mem_map.mpr ⟨q, (List.mem_filter.mp hq).1, e⟩)
  have g : Go K (c.Ow F) (c.Ow (F.filter fun p => decide (p.2 ≠ a))) H H := Go.less less
  refine ⟨fun q hq => ?_, fun q hq => ?_, ?_, B.st, B.oS, B.trk, B.kp⟩
  · rcases List.mem_cons.mp hq with e | hq
    · rw [e]
      obtain ⟨t, n, _⟩ := B.tF _ h
      refine (t.go g fun _ e => e).rep fun z => ?_
      rcases z with z | z
      · exact n z
      · obtain ⟨q, hq, e⟩ := List.mem_map.mp z
        exact of_decide_eq_true (List.mem_filter.mp hq).2 e
    · exact Rep.go g _ _ (B.tT q hq)
  · obtain ⟨t, n, z⟩ := B.tF q (List.mem_filter.mp hq).1
    exact ⟨t.go g fun _ e => e, n, z⟩
  · exact List.Sublist.nodup (List.Sublist.map _ List.filter_sublist) B.nd
/-- the data of one owned thing changed -/
def putO (F : Own) (a : Addr) (d : D) : Own := F.map fun p => if p.2 = a then (d, a) else p
theorem putO_addr (F : Own) (a : Addr) (d : D) : (putO F a d).map (·.2) = F.map (·.2) := by
  unfold putO
  rw [List.map_map]
  apply List.map_congr_left
  intro p _
  show (if p.2 = a then (d, a) else p).2 = p.2
  split
  · rename_i e; exact e.symm
  · rfl
theorem putO_ow (F : Own) (a : Addr) (d : D) : c.Ow (putO F a d) = c.Ow F := by
  funext b; unfold Cfg.Ow; rw [putO_addr]
theorem mem_putO {F : Own} {a : Addr} {d e : D} (h : (e, a) ∈ F) : (d, a) ∈ putO F a d := List.mem_map.mpr ⟨(e, a), h, by simp⟩
theorem mem_putO_ne {F : Own} {a b : Addr} {d e : D} (h : (e, b) ∈ F) (n : b ≠ a) : (e, b) ∈ putO F a d := List.mem_map.mpr ⟨(e, b), h, by simp [n]⟩
theorem Bs.mut (B : Bs K c T F H s) {d : D} {a : Addr} {ds : List D} {ys : List V} (h : (d, a) ∈ F) (r : Reps K c.aS (c.Ow F) H ds ys) :
    Bs K c T (putO F a (.lst ds)) (upd H a (.lst ys)) s := by
  obtain ⟨l, xs, rfl, ha, _⟩ := B.top_at h
  obtain ⟨_, nO, h0⟩ := B.tF _ h
  have mem : a ∈ F.map (·.2) := List.mem_map.mpr ⟨_, h, rfl⟩
  have g : Go K (c.Ow F) (c.Ow F) H (upd H a (.lst ys)) := Go.write (.inr mem) ha fun _ z => z
  have neO : ∀ b, c.O b → b ≠ a := fun b z e => nO (e ▸ z)
  refine ⟨fun q hq => by rw [putO_ow]; exact Rep.go g _ _ (B.tT q hq), fun q hq => ?_, by rw [putO_addr]; exact B.nd, B.st.upd (neO _ B.oS.1) (neO _ B.oS.2.1) (neO _ B.oS.2.2), B.oS, fun b z => ?_, fun b o e n h1 h2 => ?_, fun b e => ?_⟩
  · rw [putO_ow]
    obtain ⟨p, hp, e⟩ := List.mem_map.mp hq
    by_cases c1 : p.2 = a
    · rw [if_pos c1] at e
      rw [← e]
      exact ⟨⟨ys, upd_same, Reps.go g _ _ r⟩, nO, h0⟩
    · rw [if_neg c1] at e
      rw [← e]
      obtain ⟨t, n, z⟩ := B.tF p hp
      exact ⟨t.go g fun zs e => by rw [upd_ne c1]; exact e, n, z⟩
  · obtain ⟨o, q, n⟩ := B.trk b z
    exact ⟨o, by rw [upd_ne (neO b z)]; exact q, n⟩
  · have ne : b ≠ a := fun z => by rw [z, h0] at e; cases e
    rw [upd_ne ne]
    exact B.kp.obj b o e n h1 h2
  · by_cases eb : b = a
    · rw [eb]; exact h0
    · rw [upd_ne eb] at e; exact B.kp.there b e
/-- behind a call -/
theorem Bs.call (B : Bs K c T F H s) (k : Keeps c H H') (st : StOk c H' s') : Bs K c T F H' s' := by
  have nS : ∀ a, ¬ c.O a → a ≠ c.aS ∧ a ≠ c.aL := fun a n => ⟨fun e => n (e ▸ B.oS.1), fun e => n (e ▸ B.oS.2.1)⟩
  have kt : ∀ a o, H a = some o → NotTbl o → (∀ kvs, o ≠ .dK kvs) → a ≠ c.aL → H' a = some o := fun a o e n d h2 => k.obj a o e n (fun z => by rw [z, B.st.dict] at e; exact d _ (Option.some.inj e).symm) h2
  have g : Go K (c.Ow F) (c.Ow F) H H' := by
    refine ⟨fun a z => .inl z, fun a xs q => ?_, fun a xs n q => ?_⟩
    · have ne : ∀ o, H a = some o → (∀ ys, o ≠ .lst ys) → a ≠ c.aL := fun o e d z => by rw [z, B.st.lefts] at e; exact d _ (Option.some.inj e).symm
      rcases q with (q | ⟨ob, q⟩) | q
      · exact .inl (.inl (kt a _ q trivial (fun _ z => by cases z) (ne _ q fun _ z => by cases z)))
      · exact .inl (.inr ⟨ob, kt a _ q trivial (fun _ z => by cases z) (ne _ q fun _ z => by cases z)⟩)
      · exact .inr q
    · have n' : ¬ c.O a := fun z => n (.inl z)
      exact k.obj a _ q trivial (nS a n').1 (nS a n').2
  refine ⟨fun q hq => Rep.go g _ _ (B.tT q hq), fun q hq => ?_, B.nd, st, B.oS, fun a z => ?_, B.kp.trans k⟩
  · obtain ⟨t, n, z⟩ := B.tF q hq
    exact ⟨t.go g fun xs e => k.obj _ _ e trivial (nS _ n).1 (nS _ n).2, n, z⟩
  · by_cases h1 : a = c.aS
    · exact ⟨.dK _, by rw [h1]; exact st.dict, trivial⟩
    · by_cases h2 : a = c.aL
      · exact ⟨.lst _, by rw [h2]; exact st.lefts, trivial⟩
      · obtain ⟨o, q, n⟩ := B.trk a z
        exact ⟨o, k.obj a o q n.notTbl h1 h2, n⟩
end
end RS
end
section
set_option Elab.async false
set_option linter.all false
set_option maxRecDepth 100000
set_option autoImplicit false
/-! RSOps: the operators, built-ins and subscripts by data. -/
namespace RS
open PySem L2

/-! ## data of the library -/
mutual
def D.py : D → PyData
  | .non => .none
  | .bl b => .bool b
  | .int i => .int i
  | .str x => .str ⟨x.toArray⟩
  | .tup l => .tuple (D.pys l)
  | .lst l => .list (D.pys l)
  | .dct _ _ => .none
  | .st => .none
def D.pys : List D → List PyData
  | [] => []
  | x :: xs => D.py x :: D.pys xs
end
theorem D.pys_map : ∀ l : List D, D.pys l = l.map D.py
  | [] => rfl
  | x :: xs => by rw [D.pys, D.pys_map xs]; rfl
section
variable (K : PySem.W.Frag) (aS : Addr) (O : Addr → Prop) (H : Hp)
/-- a value at hand: what its list is does not matter (shared, fresh, owned) -/
def Tv : D → V → Prop
  | .lst l, v => ∃ a xs, v = .ref a ∧ H a = some (.lst xs) ∧ Reps K aS O H l xs
  | d, v => Rep K aS O H d v
end
section
variable {K : PySem.W.Frag} {aS : Addr} {O : Addr → Prop} {H : Hp}
theorem Rep.tv : ∀ {d : D} {v : V}, Rep K aS O H d v → Tv K aS O H d v
  | .lst l, v, h => by
    rw [Rep] at h
    obtain ⟨a, xs, e, _, q, t⟩ := h
    exact ⟨a, xs, e, q, t⟩
  | .non, _, h => h
  | .bl _, _, h => h
  | .int _, _, h => h
  | .str _, _, h => h
  | .tup _, _, h => h
  | .dct _ _, _, h => h
  | .st, _, h => h
theorem Tv.int {i : Int} {v : V} (h : Tv K aS O H (.int i) v) : v = .int i := by
  have h : Rep K aS O H (.int i) v := h
  rw [Rep] at h; exact h
theorem Tv.bl {i : Bool} {v : V} (h : Tv K aS O H (.bl i) v) : v = .bl i := by
  have h : Rep K aS O H (.bl i) v := h
  rw [Rep] at h; exact h
theorem Tv.non {v : V} (h : Tv K aS O H .non v) : v = .non := by
  have h : Rep K aS O H .non v := h
  rw [Rep] at h; exact h
theorem Tv.str {x : List Nat} {v : V} (h : Tv K aS O H (.str x) v) : v = .str ⟨x.toArray⟩ := by
  have h : Rep K aS O H (.str x) v := h
  rw [Rep] at h; exact h
theorem Tv.tup {l : List D} {v : V} (h : Tv K aS O H (.tup l) v) : ∃ a xs, v = .ref a ∧ SqT K H a xs ∧ Reps K aS O H l xs := by
  have h : Rep K aS O H (.tup l) v := h
  rw [Rep] at h; exact h
theorem Tv.lst {l : List D} {v : V} (h : Tv K aS O H (.lst l) v) : ∃ a xs, v = .ref a ∧ H a = some (.lst xs) ∧ Reps K aS O H l xs := h
theorem Tv.st {v : V} (h : Tv K aS O H .st v) : v = .ref aS := by
  have h : Rep K aS O H .st v := h
  rw [Rep] at h; exact h
theorem Tv.dct {k v : List D} {x : V} (h : Tv K aS O H (.dct k v) x) : False := by
  have h : Rep K aS O H (.dct k v) x := h
  rw [Rep] at h; exact h
theorem Rep.int' {i : Int} : Rep K aS O H (.int i) (.int i) := by rw [Rep]
theorem Rep.bl' {b : Bool} : Rep K aS O H (.bl b) (.bl b) := by rw [Rep]
theorem Rep.non' : Rep K aS O H .non .non := by rw [Rep]

mutual
theorem Rep.dp : ∀ (n : Nat) (d : D) (v : V), D.deep n d = true → Rep K aS O H d v → Dp K H v d.py
  | _, .non, v, _, h => by rw [Rep] at h; rw [h, D.py]; exact .non
  | _, .bl b, v, _, h => by rw [Rep] at h; rw [h, D.py]; exact .bl b
  | _, .int i, v, _, h => by rw [Rep] at h; rw [h, D.py]; exact .int i
  | _, .str x, v, _, h => by rw [Rep] at h; rw [h, D.py]; exact .str _
  | n + 1, .tup l, v, hd, h => by
    rw [Rep] at h
    obtain ⟨a, xs, e, q, t⟩ := h
    rw [e, D.py]
    exact .tup q (Reps.dp n l xs (by simpa [D.deep] using hd) t)
  | n + 1, .lst l, v, hd, h => by
    rw [Rep] at h
    obtain ⟨a, xs, e, _, q, t⟩ := h
    rw [e, D.py]
    exact .lst (SqL.of q) (Reps.dp n l xs (by simpa [D.deep] using hd) t)
  | 0, .tup _, _, hd, _ => by simp [D.deep] at hd
  | 0, .lst _, _, hd, _ => by simp [D.deep] at hd
  | 0, .dct _ _, _, hd, _ => by simp [D.deep] at hd
  | n + 1, .dct _ _, _, hd, _ => by simp [D.deep] at hd
  | 0, .st, _, hd, _ => by simp [D.deep] at hd
  | n + 1, .st, _, hd, _ => by simp [D.deep] at hd
theorem Reps.dp : ∀ (n : Nat) (ds : List D) (xs : List V), D.deeps n ds = true → Reps K aS O H ds xs → DpAll K H xs (D.pys ds)
  | _, [], xs, _, h => by rw [Reps] at h; rw [h, D.pys]; exact .nil
  | n, d :: ds, xs, hd, h => by
    rw [Reps] at h
    obtain ⟨v, vs, e, r, t⟩ := h
    simp [D.deeps] at hd
    rw [e, D.pys]
    exact .cons (Rep.dp n d v hd.1 r) (Reps.dp n ds vs hd.2 t)
end
theorem Tv.dp : ∀ {n : Nat} {d : D} {v : V}, D.deep n d = true → Tv K aS O H d v → Dp K H v d.py
  | n + 1, .lst l, v, hd, h => by
    obtain ⟨a, xs, e, q, t⟩ := h
    rw [e, D.py]
    exact .lst (SqL.of q) (Reps.dp n l xs (by simpa [D.deep] using hd) t)
  | 0, .lst l, v, hd, h => by simp [D.deep] at hd
  | n, .non, v, hd, h => Rep.dp (aS := aS) (O := O) n _ v hd h
  | n, .bl _, v, hd, h => Rep.dp (aS := aS) (O := O) n _ v hd h
  | n, .int _, v, hd, h => Rep.dp (aS := aS) (O := O) n _ v hd h
  | n, .str _, v, hd, h => Rep.dp (aS := aS) (O := O) n _ v hd h
  | n, .tup _, v, hd, h => Rep.dp (aS := aS) (O := O) n _ v hd h
  | n, .dct _ _, v, hd, h => Rep.dp (aS := aS) (O := O) n _ v hd h
  | n, .st, v, hd, h => Rep.dp (aS := aS) (O := O) n _ v hd h
end
mutual
theorem deep_depth : ∀ (n : Nat) (d : D), D.deep n d = true → d.py.depth ≤ n
  | n, .non, _ => by rw [D.py]; simp [PyData.depth]
  | n, .bl _, _ => by rw [D.py]; simp [PyData.depth]
  | n, .int _, _ => by rw [D.py]; simp [PyData.depth]
  | n, .str _, _ => by rw [D.py]; simp [PyData.depth]
  | n + 1, .tup l, h => by
    rw [D.py]; have := deeps_depth n l (by simpa [D.deep] using h); simp [PyData.depth]; omega
  | n + 1, .lst l, h => by
    rw [D.py]; have := deeps_depth n l (by simpa [D.deep] using h); simp [PyData.depth]; omega
  | 0, .tup _, h => by simp [D.deep] at h
  | 0, .lst _, h => by simp [D.deep] at h
  | 0, .dct _ _, h => by simp [D.deep] at h
  | n + 1, .dct _ _, h => by simp [D.deep] at h
  | 0, .st, h => by simp [D.deep] at h
  | n + 1, .st, h => by simp [D.deep] at h
theorem deeps_depth : ∀ (n : Nat) (ds : List D), D.deeps n ds = true → PyData.depthAll (D.pys ds) ≤ n
  | _, [], _ => by rw [D.pys]; simp [PyData.depthAll]
  | n, d :: ds, h => by
    simp [D.deeps] at h
    have h1 := deep_depth n d h.1
    have h2 := deeps_depth n ds h.2
    rw [D.pys]; simp [PyData.depthAll]; omega
end
mutual
theorem deep_plain : ∀ (n : Nat) (d : D), D.deep n d = true → d.py.plain = true
  | n, .non, _ => by rw [D.py]; rfl
  | n, .bl _, _ => by rw [D.py]; rfl
  | n, .int _, _ => by rw [D.py]; rfl
  | n, .str _, _ => by rw [D.py]; rfl
  | n + 1, .tup l, h => by rw [D.py, PyData.plain]; exact deeps_plain n l (by simpa [D.deep] using h)
  | n + 1, .lst l, h => by rw [D.py, PyData.plain]; exact deeps_plain n l (by simpa [D.deep] using h)
  | 0, .tup _, h => by simp [D.deep] at h
  | 0, .lst _, h => by simp [D.deep] at h
  | 0, .dct _ _, h => by simp [D.deep] at h
  | n + 1, .dct _ _, h => by simp [D.deep] at h
  | 0, .st, h => by simp [D.deep] at h
  | n + 1, .st, h => by simp [D.deep] at h
theorem deeps_plain : ∀ (n : Nat) (ds : List D), D.deeps n ds = true → PyData.plainAll (D.pys ds) = true
  | _, [], _ => by rw [D.pys]; rfl
  | n, d :: ds, h => by
    simp [D.deeps] at h
    rw [D.pys, PyData.plainAll, deep_plain n d h.1, deeps_plain n ds h.2]; rfl
end
theorem str_beq (x y : List Nat) : ((⟨x.toArray⟩ : Str) == ⟨y.toArray⟩) = (x == y) := by
  by_cases h : x = y
  · subst h; simp
  · have h' : ¬ (⟨x.toArray⟩ : Str) = ⟨y.toArray⟩ := fun e => h (by injection e with e; simpa using e)
    rw [beq_eq_false_iff_ne.mpr h, beq_eq_false_iff_ne.mpr h']
mutual
theorem eqv_py : ∀ (n m : Nat) (d e : D), D.deep n d = true → D.deep m e = true → PyData.eqv d.py e.py = D.eqv d e
  | n, m, .non, e, h1, h2 => by cases e <;> cases m <;> simp_all [D.py, PyData.eqv, D.eqv, D.deep]
  | n, m, .bl a, e, h1, h2 => by cases e <;> cases m <;> simp_all [D.py, PyData.eqv, D.eqv, D.deep, b2i]
  | n, m, .int a, e, h1, h2 => by cases e <;> cases m <;> simp_all [D.py, PyData.eqv, D.eqv, D.deep, b2i]
  | n, m, .str a, e, h1, h2 => by cases e <;> cases m <;> simp_all [D.py, PyData.eqv, D.eqv, D.deep, str_beq]
  | n + 1, m, .tup a, e, h1, h2 => by
    cases e <;> cases m <;> simp_all [D.py, PyData.eqv, D.eqv, D.deep]
    exact eqvs_py _ _ _ _ h1 h2
  | n + 1, m, .lst a, e, h1, h2 => by
    cases e <;> cases m <;> simp_all [D.py, PyData.eqv, D.eqv, D.deep]
    exact eqvs_py _ _ _ _ h1 h2
  | 0, _, .tup _, _, h, _ => by simp [D.deep] at h
  | 0, _, .lst _, _, h, _ => by simp [D.deep] at h
  | 0, _, .dct _ _, _, h, _ => by simp [D.deep] at h
  | n + 1, _, .dct _ _, _, h, _ => by simp [D.deep] at h
  | 0, _, .st, _, h, _ => by simp [D.deep] at h
  | n + 1, _, .st, _, h, _ => by simp [D.deep] at h
theorem eqvs_py : ∀ (n m : Nat) (ds es : List D), D.deeps n ds = true → D.deeps m es = true → PyData.eqvAll (D.pys ds) (D.pys es) = D.eqvs ds es
  | _, _, [], [], _, _ => by simp [D.pys, PyData.eqvAll, D.eqvs]
  | _, _, [], _ :: _, _, _ => by simp [D.pys, PyData.eqvAll, D.eqvs]
  | _, _, _ :: _, [], _, _ => by simp [D.pys, PyData.eqvAll, D.eqvs]
  | n, m, d :: ds, e :: es, h1, h2 => by
    simp [D.deeps] at h1 h2
    rw [D.pys, D.pys, PyData.eqvAll, D.eqvs, eqv_py n m d e h1.1 h2.1, eqvs_py n m ds es h1.2 h2.2]
end
end RS
end
section
set_option Elab.async false
set_option linter.all false
set_option maxRecDepth 100000
set_option autoImplicit false
set_option maxHeartbeats 1000000
namespace RS
open PySem L2
open PySem.W (alike dataLt keyToks keyToksAll toks_eqv lex_pre)
mutual
theorem alike_py : ∀ d e : D, D.alike d e = true → alike d.py e.py = true
  | .bl _, e, h => by cases e <;> first | (rw [D.py, D.py]; rfl) | cases h
  | .int _, e, h => by cases e <;> first | (rw [D.py, D.py]; rfl) | cases h
  | .str _, e, h => by cases e <;> first | (rw [D.py, D.py]; rfl) | cases h
  | .tup a, e, h => by
    cases e <;> first | cases h | skip
    rw [D.py, D.py, alike]; exact alikes_py _ _ (by rw [D.alike] at h; exact h)
  | .lst a, e, h => by
    cases e <;> first | cases h | skip
    rw [D.py, D.py, alike]; exact alikes_py _ _ (by rw [D.alike] at h; exact h)
  | .non, e, h => by cases e <;> cases h
  | .dct _ _, e, h => by cases e <;> cases h
  | .st, e, h => by cases e <;> cases h
theorem alikes_py : ∀ d e : List D, D.alikes d e = true → PySem.W.alikeAll (D.pys d) (D.pys e) = true
  | [], e, _ => by rw [D.pys]; unfold PySem.W.alikeAll; rfl
  | x :: xs, [], _ => by rw [D.pys, D.pys]; rfl
  | x :: xs, y :: ys, h => by
    rw [D.alikes, Bool.and_eq_true] at h
    rw [D.pys, D.pys, PySem.W.alikeAll, alike_py x y h.1, alikes_py xs ys h.2]; rfl
end
theorem itemLt_inl (a b : Int) : PyProof.Rows.lexLt PyProof.Rows.itemOrd [.inl a] [.inl b] = decide (a < b) := by
  show (decide (a < b) || (!decide (b < a) && false)) = _
  simp
theorem natsLt_eq : ∀ a b : List Nat, PyProof.Rows.strKind.blt a b = natsLt a b := by
  intro a
  induction a with
  | nil => intro b; cases b <;> rfl
  | cons x xs ih =>
    intro b
    cases b with
    | nil => rfl
    | cons y ys =>
      rw [natsLt, ← ih ys]
      show decide (x :: xs < y :: ys) = _
      by_cases h : x = y
      · subst h; simp
      · simp [h, List.cons_lt_cons_iff]
mutual
theorem lt_py : ∀ (n m : Nat) (d e : D), D.alike d e = true → D.deep n d = true → D.deep m e = true → dataLt d.py e.py = D.lt d e
  | _, _, .bl a, .bl b, _, _, _ => by
    rw [D.py, D.py]
    cases a <;> cases b <;> rfl
  | _, _, .bl a, .non, h, _, _ => by cases h
  | _, _, .bl a, .int _, h, _, _ => by cases h
  | _, _, .bl a, .str _, h, _, _ => by cases h
  | _, _, .bl a, .tup _, h, _, _ => by cases h
  | _, _, .bl a, .lst _, h, _, _ => by cases h
  | _, _, .bl a, .dct _ _, h, _, _ => by cases h
  | _, _, .bl a, .st, h, _, _ => by cases h
  | _, _, .int a, e, h, _, _ => by
    cases e <;> first | cases h | skip
    rw [D.py, D.py]; exact itemLt_inl _ _
  | _, _, .str a, .non, h, _, _ => by cases h
  | _, _, .str a, .bl _, h, _, _ => by cases h
  | _, _, .str a, .int _, h, _, _ => by cases h
  | _, _, .str a, .tup _, h, _, _ => by cases h
  | _, _, .str a, .lst _, h, _, _ => by cases h
  | _, _, .str a, .dct _ _, h, _, _ => by cases h
  | _, _, .str a, .st, h, _, _ => by cases h
  | _, _, .str a, .str b, _, _, _ => by
    rw [D.py, D.py]
    show (PyProof.Rows.strKind.blt _ _ || (!PyProof.Rows.strKind.blt _ _ && false)) = natsLt a b
    rw [← natsLt_eq]
    simp
  | n + 1, m + 1, .tup a, e, h, h1, h2 => by
    cases e <;> first | cases h | skip
    rw [D.py, D.py]
    exact lts_py n m _ _ (by rw [D.alike] at h; exact h) (by rw [D.deep] at h1; exact h1) (by rw [D.deep] at h2; exact h2)
  | n + 1, m + 1, .lst a, e, h, h1, h2 => by
    cases e <;> first | cases h | skip
    rw [D.py, D.py]
    exact lts_py n m _ _ (by rw [D.alike] at h; exact h) (by rw [D.deep] at h1; exact h1) (by rw [D.deep] at h2; exact h2)
  | 0, _, .tup _, _, _, h, _ => by simp [D.deep] at h
  | 0, _, .lst _, _, _, h, _ => by simp [D.deep] at h
  | n + 1, 0, .tup _, e, h, _, h2 => by cases e <;> first | cases h | simp [D.deep] at h2
  | n + 1, 0, .lst _, e, h, _, h2 => by cases e <;> first | cases h | simp [D.deep] at h2
  | _, _, .non, e, h, _, _ => by cases e <;> cases h
  | _, _, .dct _ _, e, h, _, _ => by cases e <;> cases h
  | _, _, .st, e, h, _, _ => by cases e <;> cases h
theorem lts_py : ∀ (n m : Nat) (d e : List D), D.alikes d e = true → D.deeps n d = true → D.deeps m e = true → PyProof.Rows.lexLt PyProof.Rows.itemOrd (keyToksAll (D.pys d)) (keyToksAll (D.pys e)) = D.lts d e
  | _, _, [], [], _, _, _ => by rw [D.pys]; rfl
  | _, _, [], _ :: _, _, _, _ => by rw [D.pys, D.pys]; rfl
  | _, _, _ :: _, [], _, _, _ => by rw [D.pys, D.pys]; rfl
  | n, m, x :: xs, y :: ys, h, h1, h2 => by
    rw [D.alikes, Bool.and_eq_true] at h
    rw [D.deeps, Bool.and_eq_true] at h1 h2
    have ih := lts_py n m xs ys h.2 h1.2 h2.2
    have t := toks_eqv x.py y.py (alike_py x y h.1)
    have e := eqv_py n m x y h1.1 h2.1
    rw [D.pys, D.pys, keyToksAll, keyToksAll, PyProof.Rows.lex_self (O := PyProof.Rows.itemOrd), D.lts]
    by_cases c : D.eqv x y = true
    · rw [if_pos c, t.1 (by rw [e]; exact c), lex_pre]; exact ih
    · rw [if_neg c, t.2 (by rw [e]; simpa using c)]
      exact lt_py n m x y h.1 h1.1 h2.1
end
theorem alike_ne : ∀ d e : D, D.alike d e = true → d.py ≠ .none
  | .bl _, _, _ => by rw [D.py]; intro z; cases z
  | .int _, _, _ => by rw [D.py]; intro z; cases z
  | .str _, _, _ => by rw [D.py]; intro z; cases z
  | .tup _, _, _ => by rw [D.py]; intro z; cases z
  | .lst _, _, _ => by rw [D.py]; intro z; cases z
  | .non, e, h => by cases e <;> cases h
  | .dct _ _, e, h => by cases e <;> cases h
  | .st, e, h => by cases e <;> cases h
mutual
theorem alike_symm : ∀ d e : D, D.alike d e = true → D.alike e d = true
  | .bl _, e, h => by cases e <;> first | rfl | cases h
  | .int _, e, h => by cases e <;> first | rfl | cases h
  | .str _, e, h => by cases e <;> first | rfl | cases h
  | .tup a, e, h => by cases e <;> first | cases h | (rw [D.alike] at h ⊢; exact alikes_symm _ _ h)
  | .lst a, e, h => by cases e <;> first | cases h | (rw [D.alike] at h ⊢; exact alikes_symm _ _ h)
  | .non, e, h => by cases e <;> cases h
  | .dct _ _, e, h => by cases e <;> cases h
  | .st, e, h => by cases e <;> cases h
theorem alikes_symm : ∀ d e : List D, D.alikes d e = true → D.alikes e d = true
  | [], e, _ => by cases e <;> rfl
  | x :: xs, [], _ => rfl
  | x :: xs, y :: ys, h => by
    rw [D.alikes, Bool.and_eq_true] at h
    rw [D.alikes, alike_symm x y h.1, alikes_symm xs ys h.2]; rfl
end
end RS
end
section
set_option Elab.async false
set_option linter.all false
set_option maxRecDepth 100000
set_option autoImplicit false
set_option maxHeartbeats 1000000
namespace RS
open PySem L2
/-- what an operator hands on -/
def Give (K : PySem.W.Frag) (aS : Addr) (O : Addr → Prop) (H : Hp) (r : Rs) (Q : VK) : Prop := match r with
  | .sh d => (∀ v, Rep K aS O H d v → Q v H) ∧ (∀ ds p xs, d = .tup ds → H p = none → Reps K aS O H ds xs → Q (.ref p) (upd H p (.tup xs)))
  | .fr d => ∀ ds p xs, d = .lst ds → H p = none → Reps K aS O H ds xs → Q (.ref p) (upd H p (.lst xs))
  | .bo _ _ => False
theorem lim_line : LIM ≤ sizeLine := by rw [sizeLine_eq]; decide
section
variable {K : PySem.W.Frag} {aS : Addr} {O : Addr → Prop} {H : Hp} {Q : VK}
theorem Give.int {i : Int} (g : Give K aS O H (.sh (.int i)) Q) : Q (.int i) H := g.1 _ Rep.int'
theorem Give.bl {b : Bool} (g : Give K aS O H (.sh (.bl b)) Q) : Q (.bl b) H := g.1 _ Rep.bl'
end

/-! ## binary operators -/
def bopOf : BOp → Operator
  | .add => .Add | .sub => .Sub | .mul => .Mult | .fdiv => .FloorDiv | .mod => .Mod | .pow => .Pow
def rBin (K : PySem.W.Frag) (o : BOp) : R2 := fun x y H Q => ∃ aS O d e r, Tv K aS O H d x ∧ Tv K aS O H e y ∧ binF o d e = some r ∧ Give K aS O H r Q
theorem log2_of_lt {n k : Nat} (hk : 0 < k) (h : n < 2 ^ k) : n.log2 < k := by
  by_cases h0 : n = 0
  · subst h0; simpa using hk
  · exact (Nat.log2_lt h0).mpr h
theorem fits_log {i : Int} (h : fitsI i = true) : i.natAbs.log2 < 8000 := log2_of_lt (by decide) (of_decide_eq_true h)
section
variable {X : Cx}
theorem op_fdivD : OpR X (binaryOp .FloorDiv) (rI (fun _ j => j ≠ 0 ∧ j.natAbs.log2 < 9000) fun i j => .int (i.fdiv j)) :=
  opI fun _ _ _ _ _ _ _ hc q => PyProof.Rows.floordiv_int hc.1 q (.inl (PyProof.noPylong_of_log2 hc.2))
theorem op_bin (o : BOp) : OpR X (binaryOp (bopOf o)) (rBin X.K o) := by
  intro pins s σ H x y v u Q I rx ry ⟨aS, O, d, e, r, hd, he, hb, g⟩
  cases o
  · cases d <;> cases e <;> simp [binF] at hb
    · subst hb
      rw [hd.int] at rx; rw [he.int] at ry
      exact op_add pins s σ H _ _ v u Q I rx ry ⟨_, _, rfl, rfl, g.int⟩
    · obtain ⟨hl, hb⟩ := hb
      subst hb
      obtain ⟨a, xs, rfl, ha, ta⟩ := hd.tup
      obtain ⟨b, ys, rfl, hb, tb⟩ := he.tup
      refine op_catA pins s σ H _ _ v u Q I rx ry ⟨a, b, xs, ys, rfl, rfl, ha, hb, ?_, fun e => ?_, fun _ e => ?_, fun _ _ p hp => g.2 _ p _ rfl hp (ta.append tb)⟩
      · rw [ta.length, tb.length]; exact Nat.le_trans hl lim_line
      · subst e
        have := ta.length
        have e2 := List.length_eq_zero_iff.mp this.symm
        subst e2
        exact g.1 _ (by simpa using (show Rep X.K aS O H (.tup _) _ from he))
      · subst e
        have := tb.length
        have e2 := List.length_eq_zero_iff.mp this.symm
        subst e2
        exact g.1 _ (by simpa using (show Rep X.K aS O H (.tup _) _ from hd))
    · obtain ⟨hl, hb⟩ := hb
      subst hb
      obtain ⟨a, xs, rfl, ha, ta⟩ := hd.lst
      obtain ⟨b, ys, rfl, hb, tb⟩ := he.lst
      refine op_cat pins s σ H _ _ v u Q I rx ry ⟨a, b, xs, ys, rfl, rfl, ha, hb, ?_, fun p hp => g _ p _ rfl hp (ta.append tb)⟩
      rw [ta.length, tb.length]; exact Nat.le_trans hl lim_line
  · cases d <;> cases e <;> simp [binF] at hb
    subst hb
    rw [hd.int] at rx; rw [he.int] at ry
    exact op_sub pins s σ H _ _ v u Q I rx ry ⟨_, _, rfl, rfl, g.int⟩
  · cases d <;> cases e <;> simp [binF] at hb
    · obtain ⟨⟨h1, h2⟩, hb⟩ := hb
      subst hb
      rw [hd.int] at rx; rw [he.int] at ry
      refine op_mulW pins s σ H _ _ v u Q I rx ry ⟨_, _, rfl, rfl, ?_, g.int⟩
      have := fits_log h1; have := fits_log h2
      unfold CMulW; omega
    · obtain ⟨⟨h1, h2, h3⟩, hb⟩ := hb
      subst hb
      obtain ⟨a, xs, rfl, ha, ta⟩ := hd.lst
      rw [he.int] at ry
      refine op_rep pins s σ H _ _ v u Q I rx ry ⟨a, _, xs, rfl, rfl, ha, by omega, by omega, ?_, fun p hp => g _ p _ rfl hp (ta.replicate _)⟩
      rw [ta.length, sizeLine_eq]
      have h4 : (_ : Int).toNat ≤ 1000 := Int.toNat_le.mpr h2
      exact Nat.le_trans (Nat.mul_le_mul h3 h4) (by decide)
  · cases d <;> cases e <;> simp [binF] at hb
    obtain ⟨⟨h1, h2⟩, hb⟩ := hb
    subst hb
    rw [hd.int] at rx; rw [he.int] at ry
    exact op_fdivD pins s σ H _ _ v u Q I rx ry ⟨_, _, rfl, rfl, ⟨h1, Nat.lt_trans (fits_log h2) (by decide)⟩, g.int⟩
  · cases d <;> cases e <;> simp [binF] at hb
    obtain ⟨h1, hb⟩ := hb
    subst hb
    rw [hd.int] at rx; rw [he.int] at ry
    exact op_modN pins s σ H _ _ v u Q I rx ry ⟨_, _, rfl, rfl, h1, g.int⟩
  · cases d <;> cases e <;> simp [binF] at hb
    obtain ⟨⟨h1, h2, h3⟩, hb⟩ := hb
    subst hb
    rw [hd.int] at rx; rw [he.int] at ry
    exact op_pow pins s σ H _ _ v u Q I rx ry ⟨_, _, rfl, rfl, ⟨h1, by omega, h3⟩, g.int⟩

end

/-! ## comparisons -/
def copOf : COp → CmpOp
  | .eq => .Eq | .ne => .NotEq | .lt => .Lt | .le => .LtE | .gt => .Gt | .ge => .GtE | .is => .Is | .isnot => .IsNot | .inn => .In | .nin => .NotIn
def rCmp (K : PySem.W.Frag) (o : COp) : R2 := fun x y H Q => ∃ aS O d e b, Tv K aS O H d x ∧ Tv K aS O H e y ∧ cmpF o d e = some b ∧ Q (.bl b) H
theorem Tv.isNon {K : PySem.W.Frag} {aS : Addr} {O : Addr → Prop} {H : Hp} {d : D} {v : V} (h : Tv K aS O H d v) : decide (v = .non) = d.isNon := by
  cases d
  · rw [h.non]; rfl
  · rw [h.bl]; rfl
  · rw [h.int]; rfl
  · rw [h.str]; rfl
  · obtain ⟨a, xs, rfl, _⟩ := h.tup; rfl
  · obtain ⟨a, xs, rfl, _⟩ := h.lst; rfl
  · exact h.dct.elim
  · rw [h.st]; rfl
theorem any_eqv (n m : Nat) (l : List D) (a : D) (h1 : D.deeps n l = true) (h2 : D.deep m a = true) : ((D.pys l).any fun y => PyData.eqv y a.py) = l.any fun z => D.eqv z a := by
  induction l with
  | nil => rfl
  | cons x xs ih =>
    simp [D.deeps] at h1
    rw [D.pys, List.any_cons, List.any_cons, ih h1.2, eqv_py n m x a h1.1 h2]
theorem lst_deep {l : List D} (h : D.deeps DEEP l = true) : D.deep (DEEP + 1) (.lst l) = true := by rw [D.deep]; exact h
theorem tup_deep {l : List D} (h : D.deeps DEEP l = true) : D.deep (DEEP + 1) (.tup l) = true := by rw [D.deep]; exact h
theorem bothInt_some {d e : D} {p : Int × Int} (h : bothInt d e = some p) : d = .int p.1 ∧ e = .int p.2 := by
  unfold bothInt at h
  split at h
  · cases h; exact ⟨rfl, rfl⟩
  · cases h
theorem isNon_eq {d : D} (h : d.isNon = true) : d = .non := by cases d <;> first | rfl | cases h
theorem bl_some {d : D} {b : Bool} (h : d.bl? = some b) : d = .bl b := by cases d <;> first | (cases h; rfl) | cases h
theorem items_some {d : D} {l : List D} (h : d.items = some l) : d = .tup l ∨ d = .lst l := by
  cases d <;> first | (cases h; simp; done) | cases h
theorem b2 {a b : Bool} {x y : D} (h : (if (a && b) = true then some x else none) = some y) : a = true ∧ b = true ∧ x = y := by
  split at h
  · rename_i q; rw [Bool.and_eq_true] at q; exact ⟨q.1, q.2, Option.some.inj h⟩
  · cases h
section
variable {X : Cx}
theorem op_ord (hu : X.A.units + 64 < cLine) (o : COp) (f : Int → Int → Bool) (g : D → D → Bool) (hc : ∀ a b, cmpF o a b = ordF f g a b)
    (hi : OpR X (compareOp (copOf o)) (rI0 fun i j => .bl (f i j)))
    (hg : ∀ {s : Shared} {v u : Value} {d e : D} {as bs : List Addr} {Q : Value → Shared → Prop}, Reads s.heap v d.py as → Reads s.heap u e.py bs → D.alike d e = true → D.deep DEEP d = true → D.deep DEEP e = true →
      X.A.units + min d.py.depth e.py.depth < cLine → Q (.bool (g d e)) s → wpAny (model X.prog X.w) X.A (compareOp (copOf o) v u) Q X.xe s) : OpR X (compareOp (copOf o)) (rCmp X.K o) := by
  intro pins s σ H x y v u Q I rx ry ⟨aS, O, d, e, b, hd, he, hb, q⟩
  have hb0 := hb
  rw [hc] at hb
  unfold ordF at hb
  split at hb
  · rename_i i j hij
    obtain ⟨rfl, rfl⟩ := bothInt_some hij
    cases hb
    rw [hd.int] at rx; rw [he.int] at ry
    exact hi pins s σ H _ _ v u Q I rx ry ⟨_, _, rfl, rfl, q⟩
  · split at hb
    · rename_i h
      rw [Bool.and_eq_true, Bool.and_eq_true] at h
      cases hb
      obtain ⟨as, r1⟩ := Dp.reads I _ x v (hd.dp h.1.2) rx
      obtain ⟨bs, r2⟩ := Dp.reads I _ y u (he.dp h.2) ry
      have h3 := deep_depth _ _ h.1.2
      have : DEEP = 60 := rfl
      exact hg r1 r2 h.1.1 h.1.2 h.2 (by omega) ⟨.bl _, H, I, rfl, q⟩
    · cases hb
theorem op_cmp (hu : X.A.units + 64 < cLine) (o : COp) : OpR X (compareOp (copOf o)) (rCmp X.K o) := by
  have reads : ∀ {pins s σ H x y v u aS O} {d e : D}, Inv X pins σ H s → RelV x v → RelV y u → D.deep DEEP d = true → D.deep DEEP e = true → Tv X.K aS O H d x → Tv X.K aS O H e y → ∃ as bs, Reads s.heap v d.py as ∧ Reads s.heap u e.py bs ∧ X.A.units + min d.py.depth e.py.depth < cLine := by
    intro pins s σ H x y v u aS O d e I rx ry h1 h2 t1 t2
    obtain ⟨as, r1⟩ := Dp.reads I _ x v (t1.dp h1) rx
    obtain ⟨bs, r2⟩ := Dp.reads I _ y u (t2.dp h2) ry
    have h3 := deep_depth _ _ h1
    have : DEEP = 60 := rfl
    exact ⟨as, bs, r1, r2, by omega⟩
  have isC : ∀ (op : CmpOp) (neg : Bool), OpR X (compareOp op) (fun x y H Q => y = .non ∧ Q (.bl (if neg then !decide (x = .non) else decide (x = .non))) H) →
      OpR X (compareOp op) (fun x y H Q => ∃ a b : Bool, x = .bl a ∧ y = .bl b ∧ Q (.bl (if neg then !decide (a = b) else decide (a = b))) H) →
      OpR X (compareOp op) (fun x y H Q => ∃ aS O d e b, Tv X.K aS O H d x ∧ Tv X.K aS O H e y ∧ isF d e = some b ∧ Q (.bl (if neg then !b else b)) H) := by
    intro op neg h1 h2 pins s σ H x y v u Q I rx ry ⟨aS, O, d, e, b, hd, he, hb, q⟩
    unfold isF at hb
    split at hb
    · rename_i hn
      cases hb
      have e2 := isNon_eq hn
      subst e2
      have e3 := he.non
      refine h1 pins s σ H x y v u Q I rx ry ⟨e3, ?_⟩
      rw [hd.isNon]; exact q
    · split at hb
      · rename_i a b' ha hb'
        cases hb
        rw [bl_some ha] at hd
        rw [bl_some hb'] at he
        refine h2 pins s σ H x y v u Q I rx ry ⟨a, b', hd.bl, he.bl, ?_⟩
        rw [← Bool.beq_eq_decide_eq]; exact q
      · cases hb
  cases o
  · intro pins s σ H x y v u Q I rx ry ⟨aS, O, d, e, b, hd, he, hb, q⟩
    have hb : eqF d e = some b := hb
    unfold eqF at hb
    split at hb
    · rename_i h
      rw [Bool.and_eq_true] at h
      obtain ⟨as, bs, r1, r2, hz⟩ := reads I rx ry h.1 h.2 hd he
      refine SeqAt.eq_plain r1 r2 (deep_plain _ _ h.1) (deep_plain _ _ h.2) hz ⟨.bl b, H, I, ?_, q⟩
      rw [eqv_py _ _ _ _ h.1 h.2]; cases hb; rfl
    · cases hb
  · intro pins s σ H x y v u Q I rx ry ⟨aS, O, d, e, b, hd, he, hb, q⟩
    have hb : (eqF d e).map (!·) = some b := hb
    unfold eqF at hb
    split at hb
    · rename_i h
      rw [Bool.and_eq_true] at h
      obtain ⟨as, bs, r1, r2, hz⟩ := reads I rx ry h.1 h.2 hd he
      refine SeqAt.ne_plain r1 r2 (deep_plain _ _ h.1) (deep_plain _ _ h.2) hz ⟨.bl b, H, I, ?_, q⟩
      rw [eqv_py _ _ _ _ h.1 h.2]; cases hb; rfl
    · cases hb
  · exact op_ord hu .lt _ _ (fun _ _ => rfl) op_lt fun r1 r2 ha h1 h2 hz q => PySem.W.lt_data r1 r2 (alike_py _ _ ha) (alike_ne _ _ ha) hz (by rw [lt_py _ _ _ _ ha h1 h2]; exact q)
  · exact op_ord hu .le _ _ (fun _ _ => rfl) op_le fun r1 r2 ha h1 h2 hz q => PySem.W.le_data r1 r2 (alike_py _ _ ha) (alike_ne _ _ ha) hz (by rw [lt_py _ _ _ _ (alike_symm _ _ ha) h2 h1]; exact q)
  · exact op_ord hu .gt _ _ (fun _ _ => rfl) op_gt fun r1 r2 ha h1 h2 hz q => PySem.W.gt_data r1 r2 (alike_py _ _ ha) (alike_ne _ _ ha) hz (by rw [lt_py _ _ _ _ (alike_symm _ _ ha) h2 h1]; exact q)
  · exact op_ord hu .ge _ _ (fun _ _ => rfl) op_ge fun r1 r2 ha h1 h2 hz q => PySem.W.ge_data r1 r2 (alike_py _ _ ha) (alike_ne _ _ ha) hz (by rw [lt_py _ _ _ _ ha h1 h2]; exact q)
  · exact isC .Is false op_isN op_isBl
  · intro pins s σ H x y v u Q I rx ry ⟨aS, O, d, e, b, hd, he, hb, q⟩
    have hb : (isF d e).map (!·) = some b := hb
    cases hi : isF d e with
    | none => rw [hi] at hb; cases hb
    | some c =>
      rw [hi] at hb; cases hb
      exact isC .IsNot true op_notN op_notBl pins s σ H x y v u Q I rx ry ⟨aS, O, d, e, c, hd, he, hi, q⟩
  · intro pins s σ H x y v u Q I rx ry ⟨aS, O, d, e, b, hd, he, hb, q⟩
    have hb : inF d e = some b := hb
    unfold inF at hb
    split at hb
    · rename_i l hl
      split at hb
      · rename_i h
        rw [Bool.and_eq_true] at h
        cases hb
        have h3 := deep_depth _ _ h.1; have h4 : DEEP = 60 := rfl
        obtain ⟨as, r1⟩ := Dp.reads I _ x v (hd.dp h.1) rx
        rcases items_some hl with z | z <;> subst z
        · obtain ⟨bs, r2⟩ := Dp.reads I _ y u (he.dp (tup_deep h.2)) ry
          rw [D.py] at r2
          refine SeqAt.in_tuple_data r2 r1 (deeps_plain _ _ h.2) (deep_plain _ _ h.1) (by omega) ⟨.bl _, H, I, ?_, q⟩
          rw [any_eqv _ _ _ _ h.2 h.1]; rfl
        · obtain ⟨bs, r2⟩ := Dp.reads I _ y u (he.dp (lst_deep h.2)) ry
          rw [D.py] at r2
          refine SeqAt.in_list_data r2 r1 (deeps_plain _ _ h.2) (deep_plain _ _ h.1) (by omega) ⟨.bl _, H, I, ?_, q⟩
          rw [any_eqv _ _ _ _ h.2 h.1]; rfl
      · cases hb
    · cases hb
  · intro pins s σ H x y v u Q I rx ry ⟨aS, O, d, e, b, hd, he, hb, q⟩
    have hb : (inF d e).map (!·) = some b := hb
    unfold inF at hb
    split at hb
    · rename_i l hl
      split at hb
      · rename_i h
        rw [Bool.and_eq_true] at h
        cases hb
        have h3 := deep_depth _ _ h.1; have h4 : DEEP = 60 := rfl
        obtain ⟨as, r1⟩ := Dp.reads I _ x v (hd.dp h.1) rx
        rcases items_some hl with z | z <;> subst z
        · obtain ⟨bs, r2⟩ := Dp.reads I _ y u (he.dp (tup_deep h.2)) ry
          rw [D.py] at r2
          refine SeqAt.notIn_tuple_data r2 r1 (deeps_plain _ _ h.2) (deep_plain _ _ h.1) (by omega) ⟨.bl _, H, I, ?_, q⟩
          rw [any_eqv _ _ _ _ h.2 h.1]; rfl
        · obtain ⟨bs, r2⟩ := Dp.reads I _ y u (he.dp (lst_deep h.2)) ry
          rw [D.py] at r2
          refine SeqAt.notIn_list_data r2 r1 (deeps_plain _ _ h.2) (deep_plain _ _ h.1) (by omega) ⟨.bl _, H, I, ?_, q⟩
          rw [any_eqv _ _ _ _ h.2 h.1]; rfl
      · cases hb
    · cases hb
end
end RS
end
section
set_option Elab.async false
set_option linter.all false
set_option maxRecDepth 100000
set_option autoImplicit false
set_option maxHeartbeats 1000000
namespace RS
open PySem L2
open PyProof.Rows (IntsAre)
section
variable {K : PySem.W.Frag} {aS : Addr} {O : Addr → Prop} {H : Hp}
theorem intsOf_reps : ∀ {l : List D} {ns : List Int} {xs : List V}, intsOf l = some ns → Reps K aS O H l xs → xs = ns.map V.int
  | [], _, _, h, r => by rw [Reps] at r; cases h; exact r
  | d :: l, ns, xs, h, r => by
    rw [Reps] at r
    obtain ⟨v, vs, rfl, rv, t⟩ := r
    cases d <;> first | cases h | skip
    simp only [intsOf, Option.map_eq_some_iff] at h
    obtain ⟨ms, h1, rfl⟩ := h
    rw [Rep] at rv
    rw [rv, intsOf_reps h1 t]; rfl
end
section
variable (K : PySem.W.Frag) (aS : Addr) (O : Addr → Prop) (H : Hp)
def Tvs : List D → List V → Prop
  | [], vs => vs = []
  | d :: ds, vs => ∃ x xs, vs = x :: xs ∧ Tv K aS O H d x ∧ Tvs ds xs
end
theorem ints_read {h : Heap} : ∀ {its : List Value} {ns : List Int}, IntsAre its ns → ∃ as, ReadsAll h its (ns.map PyData.int) as
  | _, _, .nil => ⟨_, .nil⟩
  | _, _, .cons n t h => by
    obtain ⟨as, r⟩ := ints_read h
    exact ⟨_, .cons (.int n t) r⟩
theorem ints_alike (ns : List Int) : PySem.W.AlikeAll (ns.map PyData.int) :=
  ⟨fun x hx y hy => by
    obtain ⟨a, _, rfl⟩ := List.mem_map.mp hx
    obtain ⟨b, _, rfl⟩ := List.mem_map.mp hy
    rfl, fun x hx => by
    obtain ⟨a, _, rfl⟩ := List.mem_map.mp hx
    intro z; cases z⟩
theorem ints_depth : ∀ ns : List Int, PyData.depthAll (ns.map PyData.int) = 0
  | [] => by simp [PyData.depthAll]
  | n :: ns => by simp [PyData.depthAll, PyData.depth, ints_depth ns]
/-! ## subscripts -/
def rIdx (K : PySem.W.Frag) : R2 := fun x y H Q => ∃ aS O d e r, Tv K aS O H d x ∧ Tv K aS O H e y ∧ idxF d e = some r ∧ ∀ v, Rep K aS O H r v → Q v H
section
variable {X : Cx}
theorem ix_idx : IxR X (rIdx X.K) := by
  intro value slice pins s σ H x y v u Q I rx ry ⟨aS, O, d, e, r, hd, he, hb, q⟩ hs
  cases e <;> first | (cases d <;> cases hb; done) | skip
  rename_i i
  have e2 := he.int; subst e2
  have main : ∀ {l : List D} {xs : List V}, Reps X.K aS O H l xs → ((ixOf l.length i).bind fun j => l[j]?) = some r → ∃ w, atI xs i = some w ∧ Rep X.K aS O H r w := by
    intro l xs t h
    rw [Option.bind_eq_some_iff] at h
    obtain ⟨j, h1, h2⟩ := h
    obtain ⟨w, h3, h4⟩ := t.get h2
    refine ⟨w, ?_, h4⟩
    unfold atI
    rw [t.length]
    show (ixOf l.length i).bind _ = _
    rw [h1]; exact h3
  cases d <;> first | cases hb | skip
  · obtain ⟨a, xs, rfl, ha, t⟩ := hd.tup
    obtain ⟨w, h1, h2⟩ := main t hb
    exact ix_seq value slice pins s σ H _ _ v u Q I rx ry (.inr (.inl ⟨a, xs, i, w, rfl, rfl, ha, h1, q w h2⟩)) hs
  · obtain ⟨a, xs, rfl, ha, t⟩ := hd.lst
    obtain ⟨w, h1, h2⟩ := main t hb
    exact ix_seq value slice pins s σ H _ _ v u Q I rx ry (.inl ⟨a, xs, i, w, rfl, rfl, SqL.of ha, h1, q w h2⟩) hs
theorem sIx_end (n d : Nat) (o : Option Int) : HT.sIx n d o = endOf n d o := by
  cases o with
  | none => rfl
  | some v =>
    unfold HT.sIx endOf
    rfl
def rSlc (K : PySem.W.Frag) : V → Option Int → Option Int → Hp → VK → Prop := fun x lo hi H Q => ∃ aS O d r, Tv K aS O H d x ∧ slcF d lo hi = some r ∧ Give K aS O H r Q
theorem cut_reps {aS : Addr} {O : Addr → Prop} {H : Hp} {l : List D} {xs : List V} (t : Reps X.K aS O H l xs) (lo hi : Option Int) : Reps X.K aS O H (cut l lo hi) (cutV xs lo hi) := by
  unfold cut cutV
  rw [t.length, sIx_end, sIx_end]
  exact (t.drop _).take _
theorem sl_slc : SlR X (rSlc X.K) := by
  intro pins s σ H x v vl vu lo hi sl Q I rx hs pl pu ⟨aS, O, d, r, hd, hb, g⟩
  cases d <;> first | cases hb | skip
  · obtain ⟨a, xs, rfl, ha, t⟩ := hd.tup
    refine sl_tupA pins s σ H _ v vl vu lo hi sl Q I rx hs pl pu ⟨a, xs, rfl, ha, fun h => ?_, fun _ p hp => g.2 _ p _ rfl hp (cut_reps t lo hi)⟩
    refine g.1 _ ?_
    rw [t.length, sIx_end, sIx_end] at h
    unfold cut
    rw [h.1, h.2]
    simpa using (show Rep X.K aS O H (.tup _) _ from hd)
  · obtain ⟨a, xs, rfl, ha, t⟩ := hd.lst
    exact sl_list pins s σ H _ v vl vu lo hi sl Q I rx hs pl pu ⟨a, xs, rfl, SqL.of ha, fun p hp => g _ p _ rfl hp (cut_reps t lo hi)⟩

/-! ## built-ins -/
def rPrim (K : PySem.W.Frag) (p : Prim) : List V → Hp → VK → Prop := fun vs H Q => ∃ aS O ds r, Tvs K aS O H ds vs ∧ primF p ds = some r ∧ Give K aS O H r Q
theorem tvs1 {K : PySem.W.Frag} {aS : Addr} {O : Addr → Prop} {H : Hp} {d : D} {vs : List V} (h : Tvs K aS O H [d] vs) : ∃ x, vs = [x] ∧ Tv K aS O H d x := by
  obtain ⟨x, xs, rfl, h1, h2⟩ := h
  rw [show xs = [] from h2]
  exact ⟨x, rfl, h1⟩
theorem tvs2 {K : PySem.W.Frag} {aS : Addr} {O : Addr → Prop} {H : Hp} {d e : D} {vs : List V} (h : Tvs K aS O H [d, e] vs) : ∃ x y, vs = [x, y] ∧ Tv K aS O H d x ∧ Tv K aS O H e y := by
  obtain ⟨x, xs, rfl, h1, h2⟩ := h
  obtain ⟨y, rfl, h3⟩ := tvs1 h2
  exact ⟨x, y, rfl, h1, h3⟩
/-- a sequence at hand: a list or a tuple -/
theorem Tv.seq {K : PySem.W.Frag} {aS : Addr} {O : Addr → Prop} {H : Hp} {d : D} {l : List D} {x : V} (h : Tv K aS O H d x) (e : d.items = some l) : ∃ a xs, x = .ref a ∧ Reps K aS O H l xs ∧ ((d = .tup l ∧ SqT K H a xs) ∨ (d = .lst l ∧ H a = some (.lst xs))) := by
  rcases items_some e with z | z <;> subst z
  · obtain ⟨a, xs, e1, e2, t⟩ := h.tup
    exact ⟨a, xs, e1, t, .inl ⟨rfl, e2⟩⟩
  · obtain ⟨a, xs, e1, e2, t⟩ := h.lst
    exact ⟨a, xs, e1, t, .inr ⟨rfl, e2⟩⟩
theorem pr_len : CallR X (.builtin "len") (rPrim X.K .len) := by
  intro pins s σ H xs us Q I r ⟨aS, O, ds, rr, ht, hb, g⟩
  have hb : lenF ds = some rr := hb
  unfold lenF at hb
  split at hb <;> first | (cases hb; done) | skip
  · obtain ⟨x, rfl, t⟩ := tvs1 ht
    cases hb
    obtain ⟨a, ys, rfl, ha, t⟩ := t.tup
    have := g.int
    rw [← t.length] at this
    exact call_len_seq pins s σ H _ us Q I r ⟨a, ys, rfl, .inr ha, this⟩
  · obtain ⟨x, rfl, t⟩ := tvs1 ht
    cases hb
    obtain ⟨a, ys, rfl, ha, t⟩ := t.lst
    have := g.int
    rw [← t.length] at this
    exact call_len_seq pins s σ H _ us Q I r ⟨a, ys, rfl, .inl (SqL.of ha), this⟩
theorem pr_tuple : CallR X (.type "tuple") (rPrim X.K .tuple) := by
  intro pins s σ H xs us Q I r ⟨aS, O, ds, rr, ht, hb, g⟩
  have hb : tupleF ds = some rr := hb
  unfold tupleF at hb
  split at hb <;> first | (cases hb; done) | skip
  · obtain ⟨x, rfl, t⟩ := tvs1 ht
    cases hb
    have t0 := t
    obtain ⟨a, ys, rfl, ha, t⟩ := t.tup
    exact call_tuple_of pins s σ H _ us Q I r ⟨a, ys, rfl, .inr ⟨ha, g.1 _ t0⟩⟩
  · obtain ⟨x, rfl, t⟩ := tvs1 ht
    cases hb
    obtain ⟨a, ys, rfl, ha, t⟩ := t.lst
    exact call_tuple_of pins s σ H _ us Q I r ⟨a, ys, rfl, .inl ⟨SqL.of ha, fun p hp => g.2 _ p _ rfl hp t⟩⟩
theorem pr_list : CallR X (.type "list") (rPrim X.K .list) := by
  intro pins s σ H xs us Q I r ⟨aS, O, ds, rr, ht, hb, g⟩
  have hb : listF ds = some rr := hb
  unfold listF at hb
  split at hb <;> first | (cases hb; done) | skip
  · obtain ⟨x, rfl, t⟩ := tvs1 ht
    cases hb
    obtain ⟨a, ys, rfl, ha, t⟩ := t.tup
    exact call_list_of pins s σ H _ us Q I r ⟨a, ys, rfl, .inr ha, fun p hp => g _ p _ rfl hp t⟩
  · obtain ⟨x, rfl, t⟩ := tvs1 ht
    cases hb
    obtain ⟨a, ys, rfl, ha, t⟩ := t.lst
    exact call_list_of pins s σ H _ us Q I r ⟨a, ys, rfl, .inl (SqL.of ha), fun p hp => g _ p _ rfl hp t⟩
theorem preSum_take (ns : List Int) : ∀ n, n ≤ ns.length → PySem.preSum (fun i => ns.getD i 0) n = (ns.take n).sum
  | 0, _ => by simp [PySem.preSum]
  | n + 1, h => by
    have hn : n < ns.length := h
    rw [PySem.preSum, preSum_take ns n (by omega), List.take_succ_eq_append_getElem hn, List.getD_eq_getElem?_getD, List.getElem?_eq_getElem hn, List.sum_append, List.sum_cons, List.sum_nil]
    simp only [Option.getD_some, Int.add_zero]
theorem sum_tuple {prog : Program} {w : World} {A : Around} {E : Value → Shared → Prop} {s : Shared} {l : Addr} {its : List Value} {ns : List Int} {Q : Value → Shared → Prop} (hh : A.handled = none) (hl : s.heap.IsTuple l its.toArray) (hi : IntsAre its ns)
    (h : ∀ h' tk t', (∀ b o, s.heap.get? b = some o → h'.get? b = some o) → Q (.int ns.sum t') { s with heap := h', toks := tk }) : wpAny (model prog w) A (call (.builtin "sum") [.ref l]) Q E s := by
  have hlt : l < s.heap.objs.size := by obtain ⟨_, e, _⟩ := hl; exact Heap.lt_size e
  refine call_sum_walkG (wpAny_pyIter_tuple hl ?_)
  refine ⟨_, _, _, _, _, _, fun i => ns.getD i 0, rfl, Walks.tuple (A := A.in1) hh _ l (Nat.ne_of_lt hlt) its.toArray, ⟨⟨_, Heap.get?_push_size _ rfl, rfl, rfl⟩, hl.push _⟩, fun b hb => ?_, fun i v hv => ?_, fun h' tk t' hk => ?_⟩
  · show b < (s.heap.push _).objs.size
    rw [Heap.size_push]
    rcases List.mem_cons.mp hb with e | hb
    · subst e; exact Nat.lt_succ_self _
    · rw [List.mem_singleton.mp hb]; exact Nat.lt_succ_of_lt hlt
  · have hv : its[i]? = some v := by simpa using hv
    have : ∀ {its : List Value} {ns : List Int} {i : Nat} {v : Value}, IntsAre its ns → its[i]? = some v → ∃ t, v = .int (ns.getD i 0) t := by
      intro its ns i v hi
      induction hi generalizing i with
      | nil => intro e; simp at e
      | cons n t h ih =>
        intro e
        cases i with
        | zero => simp at e; exact ⟨_, by rw [← e]; rfl⟩
        | succ i => simp at e; simpa using ih e
    exact this hi hv
  · have h1 := hi.length
    have := h h' tk t' fun b o e => hk b o (by simp; exact Nat.ne_of_lt (Heap.lt_size e)) (Heap.get?_push_of_some _ e)
    rw [show its.toArray.size = ns.length by rw [List.size_toArray, h1], preSum_take ns _ (Nat.le_refl _), List.take_length]
    exact this
theorem pr_sum (hc : X.calm = true) : CallR X (.builtin "sum") (rPrim X.K .sum) := by
  intro pins s σ H xs us Q I r ⟨aS, O, ds, rr, ht, hb, g⟩
  have hb : seqInts (fun ns => some ns.sum) ds = some rr := hb
  unfold seqInts at hb
  split at hb <;> first | (cases hb; done) | skip
  · obtain ⟨x, rfl, t⟩ := tvs1 ht
    obtain ⟨a, ys, rfl, ha, t⟩ := t.tup
    rw [Option.map_eq_some_iff] at hb
    obtain ⟨n, hn, rfl⟩ := hb
    rw [Option.bind_eq_some_iff] at hn
    obtain ⟨ns, h1, h2⟩ := hn
    cases h2
    have e := intsOf_reps h1 t
    subst e
    obtain ⟨its, rv, ht, _⟩ := I.tuple ha
    rw [Vals.ref1 r]
    exact sum_tuple (I.ok.hd hc) (show s.heap.IsTuple a its.toArray from ht) rv.ints fun h' tk t' hk => ⟨.int _, H, I.kept hk, ⟨_, rfl⟩, g.int⟩
  · obtain ⟨x, rfl, t⟩ := tvs1 ht
    obtain ⟨a, ys, rfl, ha, t⟩ := t.lst
    rw [Option.map_eq_some_iff] at hb
    obtain ⟨n, hn, rfl⟩ := hb
    rw [Option.bind_eq_some_iff] at hn
    obtain ⟨ns, h1, h2⟩ := hn
    cases h2
    have e := intsOf_reps h1 t
    subst e
    exact cr_sum hc pins s σ H _ us Q I r ⟨a, ns, rfl, SqL.of ha, g.int⟩
theorem pr_abs : CallR X (.builtin "abs") (rPrim X.K .abs) := by
  intro pins s σ H xs us Q I r ⟨aS, O, ds, rr, ht, hb, g⟩
  have hb : int1 (fun i => if i < 0 then -i else i) ds = some rr := hb
  unfold int1 at hb
  split at hb <;> first | (cases hb; done) | skip
  obtain ⟨x, rfl, t⟩ := tvs1 ht
  cases hb
  rw [t.int] at r
  exact call_abs pins s σ H _ us Q I r ⟨_, rfl, g.int⟩
theorem pr_int : CallR X (.type "int") (rPrim X.K .int) := by
  intro pins s σ H xs us Q I r ⟨aS, O, ds, rr, ht, hb, g⟩
  have hb : int1 (fun i => i) ds = some rr := hb
  unfold int1 at hb
  split at hb <;> first | (cases hb; done) | skip
  obtain ⟨x, rfl, t⟩ := tvs1 ht
  cases hb
  rw [t.int] at r
  exact call_int1 pins s σ H _ us Q I r (.inl ⟨_, rfl, g.int⟩)
theorem pr_gcd : CallR X (.builtin "math.gcd") (rPrim X.K .gcd) := by
  intro pins s σ H xs us Q I r ⟨aS, O, ds, rr, ht, hb, g⟩
  have hb : gcdF ds = some rr := hb
  unfold gcdF at hb
  split at hb <;> first | (cases hb; done) | skip
  obtain ⟨x, y, rfl, t1, t2⟩ := tvs2 ht
  cases hb
  rw [t1.int, t2.int] at r
  exact cr_gcd pins s σ H _ us Q I r ⟨_, _, rfl, g.int⟩
def D.tyName : D → String
  | .non => "NoneType" | .bl _ => "bool" | .int _ => "int" | .str _ => "str" | .tup _ => "tuple" | .lst _ => "list" | _ => ""
/-- the type of a value at hand -/
theorem Tv.ty {aS : Addr} {O : Addr → Prop} {H : Hp} {d : D} {x : V} (h : Tv X.K aS O H d x) (hS : d ≠ .st) : ∃ T : String, TyX X.K H x (.type T) ∧ T = d.tyName := by
  cases d
  · rw [h.non]; exact ⟨_, .base .non, rfl⟩
  · rw [h.bl]; exact ⟨_, .base (.bl _), rfl⟩
  · rw [h.int]; exact ⟨_, .base (.int _), rfl⟩
  · rw [h.str]; exact ⟨_, .base (.str _), rfl⟩
  · obtain ⟨a, xs, rfl, ha, _⟩ := h.tup
    refine ⟨"tuple", ?_, rfl⟩
    rcases ha with (ha | ⟨o, ha⟩) | ⟨o, its, n, hk, hc, _⟩
    · exact .base (.tup ha)
    · exact .fTuple ha
    · exact .kTuple hk hc
  · obtain ⟨a, xs, rfl, ha, _⟩ := h.lst
    exact ⟨_, .base (.lst ha), rfl⟩
  · exact h.dct.elim
  · exact (hS rfl).elim
def rIs (K : PySem.W.Frag) (T : String) (f : D → Option Bool) : List V → Hp → VK → Prop := fun vs H Q => ∃ aS O d x b, vs = [x, .ty T] ∧ Tv K aS O H d x ∧ f d = some b ∧ Q (.bl b) H
theorem pr_is (T : String) (f : D → Option Bool) (hf : ∀ d b, f d = some b → d ≠ .st ∧ kitB d.tyName T = some b) :
    CallR X (.builtin "isinstance") (rIs X.K T f) := by
  intro pins s σ H xs us Q I r ⟨aS, O, d, x, b, ex, t, hb, q⟩
  subst ex
  obtain ⟨h1, h2⟩ := hf d b hb
  obtain ⟨T', ty, e⟩ := t.ty h1
  exact call_isi pins s σ H _ us Q I r ⟨x, .ty T, .type T', .type T, b, rfl, .ty T, ty, kit_ty (by rw [e]; exact h2), q⟩
theorem pr_isInt : CallR X (.builtin "isinstance") (rIs X.K "int" D.isInt) := pr_is _ _ fun d b h => by
  cases d <;> first | cases h | skip
  all_goals (refine ⟨(by intro z; cases z), ?_⟩; dsimp only [D.tyName]; decide +kernel)
theorem pr_isBool : CallR X (.builtin "isinstance") (rIs X.K "bool" D.isBool) := pr_is _ _ fun d b h => by
  cases d <;> first | cases h | skip
  all_goals (refine ⟨(by intro z; cases z), ?_⟩; dsimp only [D.tyName]; decide +kernel)
theorem pr_isTup : CallR X (.builtin "isinstance") (rIs X.K "tuple" D.isTup) := pr_is _ _ fun d b h => by
  cases d <;> first | cases h | skip
  all_goals (refine ⟨(by intro z; cases z), ?_⟩; dsimp only [D.tyName]; decide +kernel)
/-! ### the greatest, the least -/
theorem max_tuple {prog : Program} {w : World} {A : Around} {E : Value → Shared → Prop} {s : Shared} {l : Addr} {its : List Value} {n : Int} {ns : List Int} {Q : Value → Shared → Prop} (hh : A.handled = none) (hu : A.units + 64 < cLine) (hl : s.heap.IsTuple l its.toArray) (hi : IntsAre its (n :: ns))
    (h : ∀ h' tk t', (∀ b o, s.heap.get? b = some o → h'.get? b = some o) → Q (.int (ns.foldl max n) t') { s with heap := h', toks := tk }) : wpAny (model prog w) A (call (.builtin "max") [.ref l]) Q E s := by
  obtain ⟨as, hr⟩ := ints_read hi
  refine PySem.W.max_tuple_data hh hl (x := .int n) (xs := ns.map .int) (by simpa using hr) (ints_alike (n :: ns)) (by have := ints_depth (n :: ns); simp only [List.map_cons] at this; omega) fun i v h' tk bs _ r k => ?_
  rw [PySem.W.maxD_ints] at r
  cases r
  exact h h' tk _ k
theorem min_tuple {prog : Program} {w : World} {A : Around} {E : Value → Shared → Prop} {s : Shared} {l : Addr} {its : List Value} {n : Int} {ns : List Int} {Q : Value → Shared → Prop} (hh : A.handled = none) (hu : A.units + 64 < cLine) (hl : s.heap.IsTuple l its.toArray) (hi : IntsAre its (n :: ns))
    (h : ∀ h' tk t', (∀ b o, s.heap.get? b = some o → h'.get? b = some o) → Q (.int (ns.foldl min n) t') { s with heap := h', toks := tk }) : wpAny (model prog w) A (call (.builtin "min") [.ref l]) Q E s := by
  obtain ⟨as, hr⟩ := ints_read hi
  refine PySem.W.min_tuple_data hh hl (x := .int n) (xs := ns.map .int) (by simpa using hr) (ints_alike (n :: ns)) (by have := ints_depth (n :: ns); simp only [List.map_cons] at this; omega) fun i v h' tk bs _ r k => ?_
  rw [PySem.W.minD_ints] at r
  cases r
  exact h h' tk _ k
theorem foldl_max (n : Int) : ∀ ns : List Int, ns.foldl max n ∈ n :: ns ∧ ∀ y ∈ n :: ns, y ≤ ns.foldl max n := by
  intro ns
  induction ns generalizing n with
  | nil => simp
  | cons m ns ih =>
    obtain ⟨h1, h2⟩ := ih (max n m)
    refine ⟨?_, fun y hy => ?_⟩
    · rw [List.foldl_cons]
      rcases List.mem_cons.mp h1 with e | e
      · rw [e]
        rcases Int.le_total n m with h | h
        · rw [Int.max_eq_right h]; simp
        · rw [Int.max_eq_left h]; simp
      · simp [e]
    · rw [List.foldl_cons]
      have hm := h2 (max n m) (by simp)
      rcases List.mem_cons.mp hy with e | e
      · rw [e]; exact Int.le_trans (Int.le_max_left _ _) hm
      · rcases List.mem_cons.mp e with e | e
        · rw [e]; exact Int.le_trans (Int.le_max_right _ _) hm
        · exact h2 y (by simp [e])
theorem foldl_min (n : Int) : ∀ ns : List Int, ns.foldl min n ∈ n :: ns ∧ ∀ y ∈ n :: ns, ns.foldl min n ≤ y := by
  intro ns
  induction ns generalizing n with
  | nil => simp
  | cons m ns ih =>
    obtain ⟨h1, h2⟩ := ih (min n m)
    refine ⟨?_, fun y hy => ?_⟩
    · rw [List.foldl_cons]
      rcases List.mem_cons.mp h1 with e | e
      · rw [e]
        rcases Int.le_total n m with h | h
        · rw [Int.min_eq_left h]; simp
        · rw [Int.min_eq_right h]; simp
      · simp [e]
    · rw [List.foldl_cons]
      have hm := h2 (min n m) (by simp)
      rcases List.mem_cons.mp hy with e | e
      · rw [e]; exact Int.le_trans hm (Int.min_le_left _ _)
      · rcases List.mem_cons.mp e with e | e
        · rw [e]; exact Int.le_trans hm (Int.min_le_right _ _)
        · exact h2 y (by simp [e])
theorem pr_max (hc : X.calm = true) (hu : X.A.units + 64 < cLine) : CallR X (.builtin "max") (rPrim X.K .max) := by
  intro pins s σ H xs us Q I r ⟨aS, O, ds, rr, ht, hb, g⟩
  have hb : maxF ds = some rr := hb
  unfold maxF at hb
  split at hb
  · obtain ⟨x, y, rfl, t1, t2⟩ := tvs2 ht
    cases hb
    rw [t1.int, t2.int] at r
    exact call_max2 hc pins s σ H _ us Q I r ⟨_, _, rfl, g.int⟩
  · unfold seqInts at hb
    split at hb <;> first | (cases hb; done) | skip
    · obtain ⟨x, rfl, t⟩ := tvs1 ht
      obtain ⟨a, ys, rfl, ha, t⟩ := t.tup
      rw [Option.map_eq_some_iff] at hb
      obtain ⟨n, hn, rfl⟩ := hb
      rw [Option.bind_eq_some_iff] at hn
      obtain ⟨ns, h1, h2⟩ := hn
      cases ns <;> first | cases h2 | skip
      have e := intsOf_reps h1 t
      subst e
      obtain ⟨its, rv, ht, _⟩ := I.tuple ha
      rw [Vals.ref1 r]
      exact max_tuple (I.ok.hd hc) hu (show s.heap.IsTuple a its.toArray from ht) rv.ints fun h' tk t' hk => ⟨.int _, H, I.kept hk, ⟨_, rfl⟩, g.int⟩
    · obtain ⟨x, rfl, t⟩ := tvs1 ht
      obtain ⟨a, ys, rfl, ha, t⟩ := t.lst
      rw [Option.map_eq_some_iff] at hb
      obtain ⟨n, hn, rfl⟩ := hb
      rw [Option.bind_eq_some_iff] at hn
      obtain ⟨ns, h1, h2⟩ := hn
      cases ns <;> first | cases h2 | skip
      have e := intsOf_reps h1 t
      subst e
      rename_i k ks
      refine cr_max hc pins s σ H _ us Q I r ⟨a, k :: ks, rfl, SqL.of ha, by simp, fun m h3 h4 => ?_⟩
      obtain ⟨h5, h6⟩ := foldl_max k ks
      have : m = ks.foldl max k := Int.le_antisymm (h6 m h3) (h4 _ h5)
      rw [this]; exact g.int
theorem pr_min (hc : X.calm = true) (hu : X.A.units + 64 < cLine) : CallR X (.builtin "min") (rPrim X.K .min) := by
  intro pins s σ H xs us Q I r ⟨aS, O, ds, rr, ht, hb, g⟩
  have hb : minF ds = some rr := hb
  unfold minF at hb
  split at hb
  · obtain ⟨x, y, rfl, t1, t2⟩ := tvs2 ht
    cases hb
    rw [t1.int, t2.int] at r
    exact call_min2 hc pins s σ H _ us Q I r ⟨_, _, rfl, g.int⟩
  · unfold seqInts at hb
    split at hb <;> first | (cases hb; done) | skip
    · obtain ⟨x, rfl, t⟩ := tvs1 ht
      obtain ⟨a, ys, rfl, ha, t⟩ := t.tup
      rw [Option.map_eq_some_iff] at hb
      obtain ⟨n, hn, rfl⟩ := hb
      rw [Option.bind_eq_some_iff] at hn
      obtain ⟨ns, h1, h2⟩ := hn
      cases ns <;> first | cases h2 | skip
      have e := intsOf_reps h1 t
      subst e
      obtain ⟨its, rv, ht, _⟩ := I.tuple ha
      rw [Vals.ref1 r]
      exact min_tuple (I.ok.hd hc) hu (show s.heap.IsTuple a its.toArray from ht) rv.ints fun h' tk t' hk => ⟨.int _, H, I.kept hk, ⟨_, rfl⟩, g.int⟩
    · obtain ⟨x, rfl, t⟩ := tvs1 ht
      obtain ⟨a, ys, rfl, ha, t⟩ := t.lst
      rw [Option.map_eq_some_iff] at hb
      obtain ⟨n, hn, rfl⟩ := hb
      rw [Option.bind_eq_some_iff] at hn
      obtain ⟨ns, h1, h2⟩ := hn
      cases ns <;> first | cases h2 | skip
      have e := intsOf_reps h1 t
      subst e
      rename_i k ks
      refine cr_min hc pins s σ H _ us Q I r ⟨a, k :: ks, rfl, SqL.of ha, by simp, fun m h3 h4 => ?_⟩
      obtain ⟨h5, h6⟩ := foldl_min k ks
      have : m = ks.foldl min k := Int.le_antisymm (h4 _ h5) (h6 m h3)
      rw [this]; exact g.int
end
end RS
end
section
set_option Elab.async false
set_option linter.all false
set_option maxRecDepth 100000
set_option autoImplicit false
set_option maxHeartbeats 1000000
namespace RS
open PySem L2
theorem int_len {i : Int} (h : i.natAbs < SHOW) : (Str.ofString (toString i)).length ≤ 640 := by
  have h1 : i.natAbs < 10 ^ 600 := Nat.lt_of_lt_of_le h (by decide +kernel)
  have h2 := int_text_length_le10 (a := i) (k := 600) (by decide) h1
  have e : (Str.ofString (toString i)).length = (toString i).length := ofString_length _
  omega
theorem textFrom_le : ∀ (ts : List Str) (k : Nat) (acc : Str), (textFrom k acc ts).length ≤ acc.length + piled ts
  | [], _, _ => by show _ ≤ _ + piled []; rw [piled_nil]; exact Nat.le_refl _
  | t :: ts, k, acc => by
    have ih := textFrom_le ts (k + 1) (acc ++ (if k > 0 then ", " else "" : String) ++ t)
    have e : (acc ++ (if k > 0 then ", " else "" : String) ++ t).length ≤ acc.length + 2 + t.length := by
      rw [strLen_append, strLen_append]
      have : (Str.ofString (if k > 0 then ", " else "")).length ≤ 2 := by split <;> decide
      omega
    rw [piled_cons]
    show (textFrom (k + 1) _ ts).length ≤ _
    omega
theorem listText_le (ts : List Str) : (listText ts).length ≤ 3 + piled ts := by
  unfold listText
  rw [strLen_append]
  have h := textFrom_le ts 0 "["
  have h1 : (("[" : String) : Str).length = 1 := by decide
  have h2 : (("]" : String) : Str).length = 1 := by decide
  rw [h1] at h
  rw [h2]; omega
theorem tupleText_le (ts : List Str) : (tupleText ts).length ≤ 3 + piled ts := by
  unfold tupleText
  rw [strLen_append, strLen_append]
  have h1 : (("(" : String) : Str).length = 1 := by decide
  have h2 : (Str.ofString (if ts.length == 1 then ",)" else ")")).length ≤ 2 := by split <;> decide
  have h3 : (Str.join ", " ts).length ≤ piled ts := by
    by_cases h : ts = []
    · subst h; decide
    · have := join_length_add ts h; omega
  have h1' : ("(" : Str).length = 1 := by decide
  omega
mutual
theorem shown_le : ∀ d : D, D.showable d = true → d.py.shown.length ≤ d.rlen
  | .non, _ => by rw [D.py]; decide
  | .bl b, _ => by rw [D.py]; cases b <;> decide
  | .int i, h => by
    rw [D.py, D.rlen]
    exact int_len (of_decide_eq_true h)
  | .tup l, h => by
    rw [D.py, D.rlen]
    have := showns_le l (by rw [D.showable] at h; exact h)
    have q := tupleText_le (PyData.shownAll (D.pys l))
    simp only [PyData.shown]
    omega
  | .lst l, h => by
    rw [D.py, D.rlen]
    have := showns_le l (by rw [D.showable] at h; exact h)
    have q := listText_le (PyData.shownAll (D.pys l))
    simp only [PyData.shown]
    omega
  | .str _, h => by cases h
  | .dct _ _, h => by cases h
  | .st, h => by cases h
theorem showns_le : ∀ ds : List D, D.showables ds = true → piled (PyData.shownAll (D.pys ds)) ≤ D.rlens ds
  | [], _ => by rw [D.pys, D.rlens]; simp [PyData.shownAll, piled_nil]
  | d :: ds, h => by
    rw [D.showables, Bool.and_eq_true] at h
    have h1 := shown_le d h.1
    have h2 := showns_le ds h.2
    rw [D.pys, D.rlens, PyData.shownAll, piled_cons]
    omega
end
mutual
theorem showable_py : ∀ d : D, D.showable d = true → d.py.showable = true ∧ d.py.hasDict = false
  | .non, _ => by rw [D.py]; exact ⟨rfl, rfl⟩
  | .bl _, _ => by rw [D.py]; exact ⟨rfl, rfl⟩
  | .int i, h => by
    rw [D.py]
    refine ⟨?_, rfl⟩
    rw [PyData.showable]
    exact decide_eq_true (Nat.lt_of_lt_of_le (log2_of_lt (k := 1900) (by decide) (of_decide_eq_true h)) (by decide))
  | .tup l, h => by
    rw [D.py, PyData.showable, PyData.hasDict]
    exact showables_py l (by rw [D.showable] at h; exact h)
  | .lst l, h => by
    rw [D.py, PyData.showable, PyData.hasDict]
    exact showables_py l (by rw [D.showable] at h; exact h)
  | .str _, h => by cases h
  | .dct _ _, h => by cases h
  | .st, h => by cases h
theorem showables_py : ∀ ds : List D, D.showables ds = true → PyData.showableAll (D.pys ds) = true ∧ PyData.hasDictAll (D.pys ds) = false
  | [], _ => by rw [D.pys]; exact ⟨rfl, rfl⟩
  | d :: ds, h => by
    rw [D.showables, Bool.and_eq_true] at h
    have h1 := showable_py d h.1
    have h2 := showables_py ds h.2
    rw [D.pys, PyData.showableAll, PyData.hasDictAll, h1.1, h1.2, h2.1, h2.2]
    exact ⟨rfl, rfl⟩
end
def rRepr (K : PySem.W.Frag) : List V → Hp → VK → Prop := fun vs H Q => ∃ aS O d x, vs = [x] ∧ Tv K aS O H d x ∧ reprOk d = true ∧ Q (.str d.py.shown) H
theorem pr_repr {X : Cx} (hg : X.A.guards = some []) (hu : X.A.units + 70 < cLine) : CallR X (.builtin "repr") (rRepr X.K) := by
  intro pins s σ H xs us Q I r ⟨aS, O, d, x, ex, t, hb, q⟩
  subst ex
  obtain ⟨u, rfl, ru⟩ := vals1 r
  unfold reprOk at hb
  rw [Bool.and_eq_true, Bool.and_eq_true] at hb
  obtain ⟨⟨h1, h2⟩, h3⟩ := hb
  have h2 : d.rlen ≤ 16000000 := of_decide_eq_true h2
  have hs := showable_py d h1
  have hl : d.py.shown.length ≤ sizeLine := by
    have := shown_le d h1
    rw [sizeLine_eq]; omega
  obtain ⟨as, rd⟩ := Dp.reads I _ x u (t.dp h3) ru
  have hd := deep_depth _ _ h3
  have : DEEP = 60 := rfl
  have fin : ∀ h' tk, (∀ b o, s.heap.get? b = some o → h'.get? b = some o) → ∀ y, EP X pins σ Q (.str d.py.shown y) { s with heap := h', toks := tk } := fun h' tk k y => ⟨.str _, H, I.kept k, ⟨_, rfl⟩, q⟩
  have ref : ∀ a, u = .ref a → wpAny (model X.prog X.w) X.A (call (.builtin "repr") [u]) (EP X pins σ Q) X.xe s := by
    intro a e
    subst e
    exact repr_of_reads' rd hs.1 (PyData.noDict_hsm hs.2) hg (by omega) (fun _ _ e => e) (fun h' y tk k => fin h' tk k y) hl
  cases d with
  | non =>
    rw [t.non] at ru; cases ru
    have : (D.non).py.shown = "None" := by rw [D.py]; simp only [PyData.shown]
    refine PySem.P.repr_of_none ?_
    rw [← this]; exact fin s.heap _ (fun _ _ e => e) _
  | bl b =>
    rw [t.bl] at ru; cases ru
    have : (D.bl b).py.shown = (if b then Str.ofString "True" else Str.ofString "False") := by rw [D.py]; simp only [PyData.shown]
    refine PySem.P.repr_of_bool ?_
    rw [← this]; exact fin s.heap _ (fun _ _ e => e) _
  | int i =>
    rw [t.int] at ru; obtain ⟨tk, rfl⟩ := ru
    have e : (D.int i).py.shown = (toString i : String) := by rw [D.py]; simp only [PyData.shown]
    refine PySem.P.repr_of_int (Nat.lt_of_lt_of_le (log2_of_lt (k := 1900) (by decide) (of_decide_eq_true h1)) (by decide)) ?_
    rw [← e]; exact fin s.heap _ (fun _ _ e => e) _
  | tup l => obtain ⟨a, ys, rfl, _⟩ := t.tup; cases ru; exact ref _ rfl
  | lst l => obtain ⟨a, ys, rfl, _⟩ := t.lst; cases ru; exact ref _ rfl
  | str _ => cases h1
  | dct _ _ => cases h1
  | st => cases h1
end RS
end
section
set_option Elab.async false
set_option linter.all false
set_option maxRecDepth 100000
set_option autoImplicit false
set_option maxHeartbeats 1000000
/-! RSPt: what holds at a point of a def's run; readings of expressions by the evaluator. -/
namespace RS
open PySem L2
structure Sl (T : Shd) (F gF : Own) (σ : L2.St) (ρ : Env) : Prop where
  len : ρ.length = σ.length
  sh : ∀ (i : Nat) (d : D), ρ[i]? = some (.sh d) → ∃ v, σ[i]? = some (some v) ∧ (d, v) ∈ T
  ow : ∀ (i : Nat) (d : D), ρ[i]? = some (.ow d) → ∃ a, σ[i]? = some (some (.ref a)) ∧ (d, a) ∈ F ∧ a ∉ gF.map (·.2)
  inj : ∀ (i j : Nat) (d e : D) (a : Addr), ρ[i]? = some (.ow d) → ρ[j]? = some (.ow e) → σ[i]? = some (some (.ref a)) → σ[j]? = some (some (.ref a)) → i = j
structure Opn (K : PySem.W.Frag) (c : Cfg) (gT : Shd) (gF : Own) (σ : L2.St) (H : Hp) (ρ : Env) (s : OSt) (T : Shd) (F : Own) : Prop where
  B : Bs K c T F H s
  hT : ∀ p ∈ gT, p ∈ T
  hF : ∀ p ∈ gF, p ∈ F
  nd : (gF.map (·.2)).Nodup
  sl : Sl T F gF σ ρ
def Pt (K : PySem.W.Frag) (c : Cfg) (gT : Shd) (gF : Own) (σ : L2.St) (H : Hp) (ρ : Env) (s : OSt) : Prop := ∃ T F, Opn K c gT gF σ H ρ s T F
section
variable {K : PySem.W.Frag} {c : Cfg} {gT gT' : Shd} {gF gF' : Own} {σ : L2.St} {H H' : Hp} {ρ : Env} {s s' : OSt} {T : Shd} {F : Own}
theorem Sl.mono {T' : Shd} (sl : Sl T F gF σ ρ) (h : ∀ p ∈ T, p ∈ T') (hf : ∀ a, a ∈ gF'.map (·.2) → a ∈ gF.map (·.2)) : Sl T' F gF' σ ρ :=
  ⟨sl.len, fun i d e => let ⟨v, a, b⟩ := sl.sh i d e; ⟨v, a, h _ b⟩, fun i d e => let ⟨a, x, y, z⟩ := sl.ow i d e; ⟨a, x, y, fun q => z (hf a q)⟩, sl.inj⟩
theorem Opn.less (o : Opn K c gT gF σ H ρ s T F) (h : ∀ p ∈ gT', p ∈ gT) (hf : List.Sublist gF' gF) : Opn K c gT' gF' σ H ρ s T F :=
  ⟨o.B, fun p hp => o.hT p (h p hp), fun p hp => o.hF p (hf.subset hp), (hf.map (·.2)).nodup o.nd, o.sl.mono (fun _ q => q) fun a q => (hf.map (·.2)).subset q⟩
theorem Pt.less (P : Pt K c gT gF σ H ρ s) (h : ∀ p ∈ gT', p ∈ gT) (hf : List.Sublist gF' gF) : Pt K c gT' gF' σ H ρ s :=
  let ⟨T, F, o⟩ := P; ⟨T, F, o.less h hf⟩
theorem Opn.step {T' : Shd} (o : Opn K c gT gF σ H ρ s T F) (h1 : ∀ p ∈ T, p ∈ T') (h2 : ∀ p ∈ gT', p ∈ T') (B : Bs K c T' F H' s') : Opn K c gT' gF σ H' ρ s' T' F :=
  ⟨B, h2, o.hF, o.nd, o.sl.mono h1 fun _ q => q⟩
theorem Opn.addT (o : Opn K c gT gF σ H ρ s T F) {d : D} {v : V} (r : Rep K c.aS (c.Ow F) H d v) : Opn K c ((d, v) :: gT) gF σ H ρ s ((d, v) :: T) F :=
  o.step (fun p q => List.mem_cons_of_mem _ q) (fun p q => by
    rcases List.mem_cons.mp q with e | q
    · rw [e]; exact List.mem_cons_self
    · exact List.mem_cons_of_mem _ (o.hT p q)) (o.B.addT r)
theorem Opn.fresh (o : Opn K c gT gF σ H ρ s T F) {d : D} {p : Addr} (B : Bs K c T ((d, p) :: F) H' s') : Opn K c gT ((d, p) :: gF) σ H' ρ s' T ((d, p) :: F) := by
  have nd := B.nd
  rw [List.map_cons, List.nodup_cons] at nd
  refine ⟨B, o.hT, fun q hq => ?_, ?_, ⟨o.sl.len, o.sl.sh, fun i e h => ?_, o.sl.inj⟩⟩
  · rcases List.mem_cons.mp hq with e | hq
    · rw [e]; exact List.mem_cons_self
    · exact List.mem_cons_of_mem _ (o.hF q hq)
  · rw [List.map_cons, List.nodup_cons]
    refine ⟨fun z => nd.1 ?_, o.nd⟩
    obtain ⟨q, hq, e⟩ := List.mem_map.mp z
    exact List.mem_map.mpr ⟨q, o.hF q hq, e⟩
  · obtain ⟨a, h1, h2, h3⟩ := o.sl.ow i e h
    refine ⟨a, h1, List.mem_cons_of_mem _ h2, fun z => ?_⟩
    rw [List.map_cons] at z
    rcases List.mem_cons.mp z with z | z
    · exact nd.1 (List.mem_map.mpr ⟨_, h2, z⟩)
    · exact h3 z
theorem Pt.forget {d : D} {a : Addr} (P : Pt K c gT ((d, a) :: gF) σ H ρ s) : Pt K c ((d, .ref a) :: gT) gF σ H ρ s := by
  obtain ⟨T, F, o⟩ := P
  have nd := o.nd
  rw [List.map_cons, List.nodup_cons] at nd
  refine ⟨(d, .ref a) :: T, F.filter fun p => decide (p.2 ≠ a), o.B.share (o.hF _ List.mem_cons_self), fun p q => ?_, fun p q => ?_, nd.2, o.sl.len, fun i e h => ?_, fun i e h => ?_, o.sl.inj⟩
  · rcases List.mem_cons.mp q with e | q
    · rw [e]; exact List.mem_cons_self
    · exact List.mem_cons_of_mem _ (o.hT p q)
  · exact List.mem_filter.mpr ⟨o.hF p (List.mem_cons_of_mem _ q), decide_eq_true fun e => nd.1 (List.mem_map.mpr ⟨p, q, e⟩)⟩
  · obtain ⟨v, h1, h2⟩ := o.sl.sh i e h
    exact ⟨v, h1, List.mem_cons_of_mem _ h2⟩
  · obtain ⟨b, h1, h2, h3⟩ := o.sl.ow i e h
    rw [List.map_cons] at h3
    exact ⟨b, h1, List.mem_filter.mpr ⟨h2, decide_eq_true fun z => h3 (z ▸ List.mem_cons_self)⟩, fun z => h3 (List.mem_cons_of_mem _ z)⟩
end
/-! ## results -/
def Rs.exT : Rs → V → Shd → Shd
  | .sh d, v, T => (d, v) :: T
  | _, _, T => T
def Rs.exF : Rs → V → Own → Own
  | .fr d, .ref a, F => (d, a) :: F
  | _, _, F => F
def Vw (σ : L2.St) (ρ : Env) : Rs → V → Prop
  | .sh _, _ => True
  | .fr _, v => ∃ a, v = .ref a
  | .bo i d, v => ∃ a, v = .ref a ∧ σ[i]? = some (some (.ref a)) ∧ ρ[i]? = some (.ow d)
def Hd (gT : Shd) (gF : Own) (σ : L2.St) (ρ : Env) : Rs → V → Prop
  | .sh d, v => (d, v) ∈ gT
  | .fr d, v => ∃ a, v = .ref a ∧ (d, a) ∈ gF
  | .bo i d, v => ∃ a, v = .ref a ∧ σ[i]? = some (some (.ref a)) ∧ ρ[i]? = some (.ow d)
section
variable {K : PySem.W.Frag} {c : Cfg} {gT gT' gT0 : Shd} {gF gF' gF0 : Own} {σ : L2.St} {H H' : Hp} {ρ : Env} {s s' : OSt} {T : Shd} {F : Own} {r : Rs} {v : V}
theorem Vw.hd (h : Vw σ ρ r v) : Hd (r.exT v gT) (r.exF v gF) σ ρ r v := by
  cases r with
  | sh d => exact List.mem_cons_self
  | fr d => obtain ⟨a, rfl⟩ := h; exact ⟨a, rfl, List.mem_cons_self⟩
  | bo i d => exact h
theorem Rs.subT (r : Rs) (v : V) (gT : Shd) : ∀ p ∈ gT, p ∈ r.exT v gT := by
  intro p hp
  cases r <;> first | exact List.mem_cons_of_mem _ hp | exact hp
theorem Rs.subF (r : Rs) (v : V) (gF : Own) : List.Sublist gF (r.exF v gF) := by
  cases r <;> (try exact List.Sublist.refl _)
  cases v <;> first | exact List.Sublist.refl _ | exact List.sublist_cons_self _ _
theorem Hd.mono (h : Hd gT gF σ ρ r v) (h1 : ∀ p ∈ gT, p ∈ gT') (h2 : ∀ p ∈ gF, p ∈ gF') : Hd gT' gF' σ ρ r v := by
  cases r with
  | sh d => exact h1 _ h
  | fr d => obtain ⟨a, e, q⟩ := h; exact ⟨a, e, h2 _ q⟩
  | bo i d => exact h
theorem Hd.ext (h : Hd gT gF σ ρ r v) (q : Rs) (u : V) : Hd (q.exT u gT) (q.exF u gF) σ ρ r v := h.mono (q.subT u gT) fun p hp => (q.subF u gF).subset hp
theorem top_tv {aS : Addr} {O : Addr → Prop} {d : D} {a : Addr} (h : Top K aS O H d a) : Tv K aS O H d (.ref a) := by
  cases d <;> first | exact h.elim | skip
  obtain ⟨xs, e, t⟩ := h
  exact ⟨a, xs, rfl, e, t⟩
theorem Opn.tv (o : Opn K c gT gF σ H ρ s T F) (h : Hd gT gF σ ρ r v) : Tv K c.aS (c.Ow F) H r.d v := by
  cases r with
  | sh d => exact (o.B.tT _ (o.hT _ h)).tv
  | fr d => obtain ⟨a, rfl, q⟩ := h; exact top_tv (o.B.tF _ (o.hF _ q)).1
  | bo i d =>
    obtain ⟨a, rfl, h1, h2⟩ := h
    obtain ⟨b, h3, h4, _⟩ := o.sl.ow i d h2
    rw [h1] at h3; cases h3
    exact top_tv (o.B.tF _ h4).1
/-- what is wanted behind an expression -/
def Post (K : PySem.W.Frag) (c : Cfg) (gT : Shd) (gF : Own) (σ : L2.St) (ρ : Env) (s : OSt) (r : Rs) (Q : VK) : Prop := ∀ v H', Pt K c (r.exT v gT) (r.exF v gF) σ H' ρ s → Vw σ ρ r v → Q v H'
theorem Post.sh {d : D} {Q : VK} (p : Post K c gT0 gF0 σ ρ s (.sh d) Q) (o : Opn K c gT gF σ H ρ s T F) (h1 : ∀ p ∈ gT0, p ∈ gT) (h2 : List.Sublist gF0 gF) (h : Rep K c.aS (c.Ow F) H d v) : Q v H :=
  p v H ⟨_, _, (o.addT h).less (fun q hq => by
    rcases List.mem_cons.mp hq with e | hq
    · rw [e]; exact List.mem_cons_self
    · exact List.mem_cons_of_mem _ (h1 q hq)) h2⟩ trivial
theorem Give.of {Q : VK} (o : Opn K c gT gF σ H ρ s T F) (h1 : ∀ p ∈ gT0, p ∈ gT) (h2 : List.Sublist gF0 gF) (p : Post K c gT0 gF0 σ ρ s r Q) (hb : r.isBo = false) : Give K c.aS (c.Ow F) H r Q := by
  cases r with
  | sh d =>
    refine ⟨fun v hv => p.sh o h1 h2 hv, fun ds q xs e hq t => ?_⟩
    subst e
    refine p _ _ ⟨_, _, (o.step (T' := (.tup ds, .ref q) :: T) (gT' := (.tup ds, .ref q) :: gT) (fun _ z => List.mem_cons_of_mem _ z) (fun z hz => ?_) (o.B.tup hq t)).less (fun z hz => ?_) h2⟩ trivial
    · rcases List.mem_cons.mp hz with e | hz
      · rw [e]; exact List.mem_cons_self
      · exact List.mem_cons_of_mem _ (o.hT z hz)
    · rcases List.mem_cons.mp hz with e | hz
      · rw [e]; exact List.mem_cons_self
      · exact List.mem_cons_of_mem _ (h1 z hz)
  | fr d =>
    intro ds q xs e hq t
    subst e
    exact p _ _ ⟨_, _, (o.fresh (o.B.lst hq t)).less h1 (h2.cons_cons _)⟩ ⟨q, rfl⟩
  | bo i d => cases hb
/-- a reading -/
def rd (K : PySem.W.Frag) (f : Env → OSt → R Rs) : TE := fun σ H Q => ∃ c gT gF ρ s r s', Pt K c gT gF σ H ρ s ∧ f ρ s = .ok r s' ∧ Post K c gT gF σ ρ s' r Q
def rdT (K : PySem.W.Frag) (f : Env → OSt → R Rs) : TT := fun σ H Q => ∃ c gT gF ρ s b s', Pt K c gT gF σ H ρ s ∧ f ρ s = .ok (.sh (.bl b)) s' ∧ ∀ H', Pt K c gT gF σ H' ρ s' → Q b H'
end
def exTs : List Rs → List V → Shd → Shd
  | r :: rs, v :: vs, T => exTs rs vs (r.exT v T)
  | _, _, T => T
def exFs : List Rs → List V → Own → Own
  | r :: rs, v :: vs, F => exFs rs vs (r.exF v F)
  | _, _, F => F
def Hds (gT : Shd) (gF : Own) (σ : L2.St) (ρ : Env) : List Rs → List V → Prop
  | [], vs => vs = []
  | r :: rs, vs => ∃ x xs, vs = x :: xs ∧ Hd gT gF σ ρ r x ∧ Hds gT gF σ ρ rs xs
def rdA (K : PySem.W.Frag) (f : Env → OSt → R (List Rs)) : TA := fun σ H Q => ∃ c gT gF ρ s rs s', Pt K c gT gF σ H ρ s ∧ f ρ s = .ok rs s' ∧ ∀ vs H', Pt K c (exTs rs vs gT) (exFs rs vs gF) σ H' ρ s' → Hds (exTs rs vs gT) (exFs rs vs gF) σ ρ rs vs → Q vs H'
section
variable {K : PySem.W.Frag} {c : Cfg} {gT gT' gT0 : Shd} {gF gF' gF0 : Own} {σ : L2.St} {H H' : Hp} {ρ : Env} {s s' : OSt} {T : Shd} {F : Own} {rs : List Rs} {vs : List V}
theorem subTs : ∀ (rs : List Rs) (vs : List V) (gT : Shd), ∀ p ∈ gT, p ∈ exTs rs vs gT
  | [], _, _, _, h => h
  | _ :: _, [], _, _, h => h
  | r :: rs, v :: vs, gT, p, h => subTs rs vs _ p (r.subT v gT p h)
theorem subFs : ∀ (rs : List Rs) (vs : List V) (gF : Own), List.Sublist gF (exFs rs vs gF)
  | [], _, _ => List.Sublist.refl _
  | _ :: _, [], _ => List.Sublist.refl _
  | r :: rs, v :: vs, gF => (r.subF v gF).trans (subFs rs vs _)
theorem Opn.tvs (o : Opn K c gT gF σ H ρ s T F) : ∀ {rs : List Rs} {vs : List V}, Hds gT gF σ ρ rs vs → Tvs K c.aS (c.Ow F) H (rs.map Rs.d) vs
  | [], _, h => h
  | _ :: _, _, h => by
    obtain ⟨x, xs, rfl, h1, h2⟩ := h
    exact ⟨x, xs, rfl, o.tv h1, Opn.tvs o h2⟩
theorem Hds.length : ∀ {rs : List Rs} {vs : List V}, Hds gT gF σ ρ rs vs → vs.length = rs.length
  | [], _, h => by rw [show _ = [] from h]; rfl
  | _ :: _, _, h => by
    obtain ⟨x, xs, rfl, _, h2⟩ := h
    simp [Hds.length h2]
/-- fresh things given away: all are shared then -/
theorem Pt.share1 {r : Rs} {v : V} (P : Pt K c (r.exT v gT) (r.exF v gF) σ H ρ s) (h : Vw σ ρ r v) (hb : r.isBo = false) : Pt K c ((r.d, v) :: gT) gF σ H ρ s := by
  cases r with
  | sh d => exact P
  | fr d => obtain ⟨a, rfl⟩ := h; exact P.forget
  | bo i d => cases hb
end
theorem _root_.L2.PE.via {X : Cx} {e : Expr} {t t' : TE} (h : PE X e t) (i : ∀ σ H Q, t' σ H Q → t σ H Q) : PE X e t' := ⟨fun pins s σ H Q I q => h.run pins s σ H Q I (i σ H Q q)⟩
theorem _root_.L2.PT.via {X : Cx} {e : Expr} {t t' : TT} (h : PT X e t) (i : ∀ σ H Q, t' σ H Q → t σ H Q) : PT X e t' := ⟨fun pins s σ H Q I q => h.run pins s σ H Q I (i σ H Q q)⟩
theorem _root_.L2.PW.via {X : Cx} {e : Expr} {t t' : TT} (h : PW X e t) (i : ∀ σ H Q, t' σ H Q → t σ H Q) : PW X e t' := ⟨fun wh pins s σ H Q I q => h.run wh pins s σ H Q I (i σ H Q q)⟩
theorem _root_.L2.PA.via {X : Cx} {es : List Expr} {t t' : TA} (h : PA X es t) (i : ∀ σ H Q, t' σ H Q → t σ H Q) : PA X es t' := ⟨fun pos pins s σ H Q I q => h.run pos pins s σ H Q I (i σ H Q q)⟩
theorem _root_.L2.PS.via {X : Cx} {st : Stmt} {t t' : TS} (h : PS X st t) (i : ∀ D σ H, t' D σ H → t D σ H) : PS X st t' := ⟨fun pins s σ H D I q => h.run pins s σ H D I (i D σ H q)⟩
theorem _root_.L2.PSs.via {X : Cx} {st : List Stmt} {t t' : TS} (h : PSs X st t) (i : ∀ D σ H, t' D σ H → t D σ H) : PSs X st t' := ⟨fun pins s σ H D I q => h.run pins s σ H D I (i D σ H q)⟩
theorem bind_ok {α β : Type} {x : R α} {f : α → OSt → R β} {b : β} {s : OSt} (h : x.bind f = .ok b s) : ∃ a s1, x = .ok a s1 ∧ f a s1 = .ok b s := by
  cases x with
  | ok a s1 => exact ⟨a, s1, rfl, h⟩
  | exc => cases h
  | no => cases h
theorem lift_ok {α : Type} {o : Option α} {a : α} {s s' : OSt} (h : lift o s = .ok a s') : o = some a ∧ s' = s := by
  cases o with
  | none => cases h
  | some b => cases h; exact ⟨rfl, rfl⟩
end RS
end
section
set_option Elab.async false
set_option linter.all false
set_option maxRecDepth 100000
set_option autoImplicit false
set_option maxHeartbeats 1000000
/-! RSMatch: whether the model's trees are the small ones; what a def's surroundings must give; calls. -/
namespace RS
open PySem L2
structure MC where
  N : List Str
  sc : Scope
  st : Str → Bool
def strIs (x : String) (y : Str) : Bool := decide (Str.ofString x = y)
def visB (sc : Scope) (x : Str) : Bool := match sc.names.lookup x with
  | some .local => true
  | some .cell => true
  | some .free => true
  | _ => false
def glB (sc : Scope) (x : Str) : Bool := match sc.names.lookup x with
  | some .globalImplicit => true
  | _ => false
def locB (mc : MC) (x : Str) : Bool := match mc.sc.names.lookup x with
  | some .local => true
  | some .cell => mc.st x
  | _ => false
def dbgB (x : Str) : Bool := !(x == ("__debug__" : Str)) && !(x == ("__classdict__" : Str))
def conB : D → Const → Bool
  | .non, .none => true
  | .bl a, .bool b => a == b
  | .int a, .int b => a == b
  | .str l, .str s => l == s.cps.toList
  | _, _ => false
def plainE : Expr → Bool
  | .Set _ _ _ => false
  | .Starred _ _ => false
  | .Slice _ _ _ _ => false
  | _ => true
def bltNames : List String := ["len", "tuple", "list", "sum", "max", "min", "abs", "int", "sorted", "set", "isinstance", "repr", "range", "zip", "enumerate", "bool", "dict", "reversed"]
def primNm : Prim → String
  | .len => "len" | .tuple => "tuple" | .list => "list" | .sum => "sum" | .max => "max" | .min => "min" | .abs => "abs" | .int => "int" | .sorted => "sorted"
  | .gcd => "gcd" | .comb => "comb" | _ => ""
def primPlain : Prim → Bool
  | .len => true | .tuple => true | .list => true | .sum => true | .max => true | .min => true | .abs => true | .int => true | .gcd => true
  | _ => false
def isTy : Prim → Option String
  | .isInt => some "int" | .isBool => some "bool" | .isTup => some "tuple" | _ => none
mutual
def mtTg (mc : MC) : Tg → Expr → Bool
  | .nm i, .Name x _ => decide (mc.N[i]? = some x) && locB mc x
  | .tup t, .Tuple es _ _ => mtTgs mc t es
  | _, _ => false
def mtTgs (mc : MC) : Tg → List Expr → Bool
  | .nil, [] => true
  | .cons a b, e :: es => plainE e && mtTg mc a e && mtTgs mc b es
  | _, _ => false
end
def tgSlots : Tg → List Nat
  | .nm i => [i]
  | .tup t => tgSlots t
  | .cons a b => tgSlots a ++ tgSlots b
  | .nil => []
def ownOf (N : List Str) (vs : List Nat) : List (Str × Nat) := vs.map fun i => ((N[i]?).getD ⟨#[]⟩, i)
def isTup : Expr → Bool
  | .Tuple _ _ _ => true
  | _ => false
def callB (mc : MC) (x : String) (y : Str) : Bool := strIs x y && glB mc.sc y && dbgB y
def elen : E → Nat
  | .cons _ b => elen b + 1
  | _ => 0
def nmB (mc : MC) (i : Nat) : Expr → Bool
  | .Name x _ => decide (mc.N[i]? = some x) && visB mc.sc x && dbgB x
  | _ => false
mutual
def mtE : E → MC → Expr → Bool
  | .var i, mc, .Name x _ => decide (mc.N[i]? = some x) && visB mc.sc x && dbgB x
  | .con d, _, .Constant k _ _ => conB d k
  | .glob x _, mc, .Name y _ => strIs x y && glB mc.sc y && dbgB y
  | .tup es, mc, .Tuple l _ _ => decide (elen es ≤ 1000) && mtEs es mc l
  | .lst es, mc, .List l _ => decide (elen es ≤ 1000) && mtEs es mc l
  | .bin o a b, mc, .BinOp x op y _ => decide (op = bopOf o) && mtE a mc x && mtE b mc y
  | .neg a, mc, .UnaryOp op x _ => decide (op = .USub) && mtE a mc x
  | .cmp o a b, mc, .Compare x [op] [y] _ => decide (op = copOf o) && plainE y && mtE a mc x && mtE b mc y
  | .chain o1 o2 a b c, mc, .Compare x [p, q] [y, z] _ => decide (p = copOf o1) && decide (q = copOf o2) && plainE y && plainE z && mtE a mc x && mtE b mc y && mtE c mc z
  | .and a b, mc, .BoolOp op (x :: y :: r) pos => decide (op = .And) && mtE a mc x && (match r with | [] => mtE b mc y | _ => mtE b mc (.BoolOp .And (y :: r) pos))
  | .or a b, mc, .BoolOp op (x :: y :: r) pos => decide (op = .Or) && mtE a mc x && (match r with | [] => mtE b mc y | _ => mtE b mc (.BoolOp .Or (y :: r) pos))
  | .not a, mc, .UnaryOp op x _ => decide (op = .Not) && mtE a mc x
  | .ife c a b, mc, .IfExp t x y _ => mtE c mc t && mtE a mc x && mtE b mc y
  | .slc a lo hi, mc, .Subscript x (.Slice l h none _) _ => mtE a mc x && (match l with | none => (match lo with | .omit => true | _ => false) | some l => mtE lo mc l) && (match h with | none => (match hi with | .omit => true | _ => false) | some h => mtE hi mc h)
  | .rev a, mc, .Subscript x (.Slice none none (some (.UnaryOp op (.Constant (.int 1) _ _) _)) _) _ => decide (op = .USub) && mtE a mc x
  | .idx a i, mc, .Subscript x y _ => plainE y && mtE a mc x && mtE i mc y
  | .call x _ es, mc, .Call (.Name y _) l [] _ => callB mc x y && mtEs es mc l && !l.isEmpty
  | .callK x _ .nil ks kes _, mc, .Call (.Name y _) [] kws _ => callB mc x y && decide (kws.map (·.arg) = ks.map fun k => some (Str.ofString k)) && mtEs kes mc (kws.map (·.value))
  | .prim p es, mc, .Call (.Name y _) l [] _ => if primPlain p then callB mc (primNm p) y && mtEs es mc l && !l.isEmpty
      else match isTy p, es, l with
        | some t, .cons a .nil, [x, .Name z _] => callB mc "isinstance" y && callB mc t z && plainE x && mtE a mc x
        | _, _, _ => false
  | .reprEq a b, mc, .Compare (.Call (.Name x _) [u] [] _) [op] [.Call (.Name y _) [v] [] _] _ => decide (op = .Eq) && callB mc "repr" x && callB mc "repr" y && plainE u && plainE v && mtE a mc u && mtE b mc v
  | .comp vs tg it cnd elt, mc, .ListComp x [⟨t, i, ifs, as⟩] scope _ => decide (as = 0) && plainE i && mtI it mc t i && blkC mc.N mc.sc scope (ownOf mc.N vs) &&
      (let mc' : MC := ⟨mc.N, relS scope mc.sc, fun y => scope.names.lookup y == some .cell⟩
       mtTg mc' tg t && (tgSlots tg).all (fun i => vs.contains i) && mtE elt mc' x && (match ifs with | [] => (match cnd with | .omit => true | _ => false) | [c] => mtE cnd mc' c | _ => false))
  | .stAt i, mc, .Subscript (.Name x p) (.Constant (.str y) _ _) _ => nmB mc i (.Name x p) && strIs "at" y
  | .stLen i, mc, .Call (.Name f _) [.Subscript (.Name x p) (.Constant (.str y) _ _) _] [] _ => callB mc "len" f && nmB mc i (.Name x p) && strIs "cells" y
  | .stCell i k, mc, .Subscript (.Subscript (.Name x p) (.Constant (.str y) _ _) _) e _ => nmB mc i (.Name x p) && strIs "cells" y && plainE e && mtE k mc e
  | .stLeft i k, mc, .Subscript (.Subscript (.Name x p) (.Constant (.str y) _ _) _) e _ => nmB mc i (.Name x p) && strIs "lefts" y && plainE e && mtE k mc e
  | _, _, _ => false
def mtEs : E → MC → List Expr → Bool
  | .nil, _, [] => true
  | .cons a b, mc, x :: r => plainE x && mtE a mc x && mtEs b mc r
  | _, _, _ => false
def mtI : E → MC → Expr → Expr → Bool
  | .itE a, mc, _, x => plainE x && mtE a mc x
  | .itRange es, mc, _, .Call (.Name y _) l [] _ => callB mc "range" y && mtEs es mc l && (match l with | [_] => true | [_, _] => true | _ => false)
  | .itZip a b, mc, t, .Call (.Name y _) [u, v] [] _ => isTup t && callB mc "zip" y && plainE u && plainE v && mtE a mc u && mtE b mc v
  | _, _, _, _ => false
end

/-! ## calls of defs: a promise by an evaluator's function -/
structure Lv where
  prog : Program
  w : World
  K : PySem.W.Frag
  mg : Str → Option Value
  base : Heap
  A : Around
def lvOf (X : Cx) : Lv := ⟨X.prog, X.w, X.K, X.mg, X.base, X.A⟩
structure Pre (K : PySem.W.Frag) (c : Cfg) (H : Hp) (s : OSt) : Prop where
  st : StOk c H s
  oS : c.O c.aS ∧ c.O c.aL ∧ c.O c.aC
  trk : ∀ a, c.O a → ∃ o, H a = some o ∧ Solid o
def SpEnd (K : PySem.W.Frag) (c : Cfg) (H : Hp) (s' : OSt) (Q : VK) : Rs → Prop
  | .sh d => ∀ v H', Keeps c H H' → StOk c H' s' → Rep K c.aS c.O H' d v → Q v H'
  | .fr d => ∀ a H', Keeps c H H' → StOk c H' s' → H a = none → Top K c.aS (fun b => c.O b ∨ b = a) H' d a → Q (.ref a) H'
  | .bo _ _ => False
def spF (K : PySem.W.Frag) (fn : Fn) (n : Nat) : List V → Hp → VK → Prop := fun vs H Q =>
  ∃ c ds st r st', vs.length = n ∧ Reps K c.aS c.O H ds vs ∧ Pre K c H st ∧ fn ds st = .ok r st' ∧ SpEnd K c H st' Q r
/-- the def at f, called where nothing is being shown, does what fn says -/
structure FnG (P : Program) (w : World) (K : PySem.W.Frag) (mg : Str → Option Value) (base : Heap) (k : Nat) (f : Addr) (fd : FuncData) (ps : List Str) (fn : Fn) : Prop where
  go : ∀ (A : Around) (outer : List PySem.Env) (s : Shared) (H : Hp) (args : Args) (us : List Value) (vs : List V) (Q : VK), Room k A → A.guards = some [] → Env0 P w K mg base A outer s H →
    BindsTo s fd args (ps.zip us) → Vals vs us → spF K fn ps.length vs H Q → codeAny (model P w) A (.call (.ref f) args) (CR CX0 outer P w H s Q E0) s
theorem FnG.up {P : Program} {w : World} {K : PySem.W.Frag} {mg : Str → Option Value} {base : Heap} {j k : Nat} {f : Addr} {fd : FuncData} {ps : List Str} {fn : Fn} (F : FnG P w K mg base j f fd ps fn) (h : j ≤ k) : FnG P w K mg base k f fd ps fn :=
  ⟨fun A outer s H args us vs Q hr => F.go A outer s H args us vs Q (hr.mono h)⟩
def CallOk (L : Lv) (nm : String) (fn : Fn) : Prop := ∃ k ad fd ps, L.mg (Str.ofString nm) = some (.ref ad) ∧ PySem.W.keepIn L.K (.ref ad) = true ∧ Binds L.K fd ps [] ∧ FnG L.prog L.w L.K L.mg L.base k ad fd ps fn ∧ Room k L.A ∧ ∀ ds s r s', fn ds s = .ok r s' → ds.length = ps.length
/-- a call with keywords alone: the i-th parameter gets the perm i-th of them -/
def CallKOk (L : Lv) (nm : String) (fn : Fn) (ks : List String) (perm : List Nat) : Prop := ∃ k ad fd ps, L.mg (Str.ofString nm) = some (.ref ad) ∧ PySem.W.keepIn L.K (.ref ad) = true ∧
  (∀ (s : Shared) (ws : List Value), L.K.In s.heap → ws.length = ks.length → BindsTo s fd ⟨[], (ks.map Str.ofString).zip ws⟩ (ps.zip (perm.map fun i => ws.getD i .none))) ∧ (∀ i ∈ perm, i < ks.length) ∧
  FnG L.prog L.w L.K L.mg L.base k ad fd ps fn ∧ Room k L.A ∧ ∀ ds s r s', fn ds s = .ok r s' → ds.length = ps.length
def GlobOk (L : Lv) (nm : String) (d : D) : Prop := ∃ v u, L.mg (Str.ofString nm) = some u ∧ RelV v u ∧ ∀ aS O H, Rep L.K aS O H d v
def okE (L : Lv) : E → Prop
  | .var _ => True
  | .con _ => True
  | .glob x d => GlobOk L x d
  | .nil => True
  | .cons a b => okE L a ∧ okE L b
  | .omit => True
  | .tup es => okE L es
  | .lst es => okE L es
  | .bin _ a b => okE L a ∧ okE L b
  | .neg a => okE L a
  | .cmp _ a b => okE L a ∧ okE L b
  | .chain _ _ a b c => okE L a ∧ okE L b ∧ okE L c
  | .and a b => okE L a ∧ okE L b
  | .or a b => okE L a ∧ okE L b
  | .not a => okE L a
  | .ife c a b => okE L c ∧ okE L a ∧ okE L b
  | .idx a i => okE L a ∧ okE L i
  | .slc a l h => okE L a ∧ okE L l ∧ okE L h
  | .rev a => okE L a
  | .call x f es => CallOk L x f ∧ okE L es
  | .callK x f _ ks kes perm => CallKOk L x f ks perm ∧ okE L kes
  | .prim p es => (p = .gcd → L.mg "gcd" = some (.builtin "math.gcd")) ∧ okE L es
  | .reprEq a b => okE L a ∧ okE L b
  | .comp _ _ it c e => okE L it ∧ okE L c ∧ okE L e
  | .itE a => okE L a
  | .itRange es => okE L es
  | .itZip a b => okE L a ∧ okE L b
  | .itEnum a => okE L a
  | .stAt _ => True
  | .stLen _ => True
  | .stCell _ k => okE L k
  | .stLeft _ k => okE L k
structure CtxOk (X : Cx) (mc : MC) : Prop where
  nd : X.N.Nodup
  calm : X.calm = true
  blt : ∀ x ∈ bltNames, X.mg (Str.ofString x) = none
  gd : X.A.guards = some []
  un : X.A.units + 100 < cLine
  N : mc.N = X.N
  sc : mc.sc = X.env.scope
  st : ∀ x, mc.st x = true → X.fn x = true
  kind : X.env.scope.kind = .function
section
variable {X : Cx} {mc : MC}
theorem CtxOk.vis (ok : CtxOk X mc) {x : Str} (h : visB mc.sc x = true) : Vis X.env.scope x := by
  rw [ok.sc] at h
  unfold visB at h
  unfold Vis
  split at h <;> first | cases h | skip
  · rename_i e; exact .inl e
  · rename_i e; exact .inr (.inl e)
  · rename_i e; exact .inr (.inr e)
theorem CtxOk.gl (ok : CtxOk X mc) {x : Str} (h : glB mc.sc x = true) : Gl X x := by
  rw [ok.sc] at h
  unfold glB at h
  show X.env.scope.names.lookup x = _
  split at h <;> first | cases h | skip
  rename_i e; exact e
theorem CtxOk.loc (ok : CtxOk X mc) {x : Str} (h : locB mc x = true) : L2.Loc X.env.scope x ∧ (X.fn x = true ∨ X.env.scope.names.lookup x = some .local) := by
  unfold locB at h
  rw [ok.sc] at h
  unfold L2.Loc
  split at h <;> first | cases h | skip
  · rename_i e; exact ⟨.inl e, .inr e⟩
  · rename_i e; exact ⟨.inr e, .inl (ok.st x h)⟩
theorem dbg1 {x : Str} (h : dbgB x = true) : (x == ("__debug__" : Str)) = false := by
  unfold dbgB at h
  rw [Bool.and_eq_true] at h
  simpa using h.1
theorem dbg2 {x : Str} (h : dbgB x = true) : (x == ("__classdict__" : Str)) = false := by
  unfold dbgB at h
  rw [Bool.and_eq_true] at h
  simpa using h.2
theorem strIs_eq {x : String} {y : Str} (h : strIs x y = true) : y = Str.ofString x := (of_decide_eq_true h).symm
theorem callB_of (ok : CtxOk X mc) {x : String} {y : Str} (h : callB mc x y = true) : y = Str.ofString x ∧ Gl X y ∧ (y == ("__debug__" : Str)) = false := by
  unfold callB at h
  rw [Bool.and_eq_true, Bool.and_eq_true] at h
  exact ⟨strIs_eq h.1.1, ok.gl h.1.2, dbg1 h.2⟩
end
/-- a call runs the def -/
theorem run_g {X : Cx} {k : Nat} {f : Addr} {fd : FuncData} {ps : List Str} {fn : Fn} {pins : List (Addr × Obj)} {σ : L2.St} {H : Hp} {s : Shared} {Q : VK} {us : List Value} {vs : List V}
    (F : FnG X.prog X.w X.K X.mg X.base k f fd ps fn) (hr : Room k X.A) (hg : X.A.guards = some []) (hb : Binds X.K fd ps []) (I : Inv X pins σ H s) (r : Vals vs us) (h : spF X.K fn ps.length vs H Q) :
    wpAny (model X.prog X.w) X.A (call (.ref f) us) (EP X pins σ Q) X.xe s := by
  have hl : us.length = ps.length := by
    obtain ⟨_, _, _, _, _, h1, _⟩ := h
    rw [← r.length]; exact h1
  have hb' : BindsTo s fd ⟨us, []⟩ (ps.zip us) := by
    have := hb s us I.kIn (by simpa using hl)
    simpa using this
  refine wpAny_call (codeAny_mono (F.go X.A X.stack s H ⟨us, []⟩ us vs Q hr hg I.env0 hb' r h) fun res s' hq => ?_)
  cases res with
  | error e => exact False.elim hq
  | ok fl =>
    cases fl with
    | ret u => exact I.after hq
    | next => exact False.elim hq
    | brk => exact False.elim hq
    | cont => exact False.elim hq
/-- a call's reading -/
def tCallG (K : PySem.W.Frag) (fn : Fn) (n : Nat) (t : TA) : TE := fun σ H Q => t σ H fun vs H1 => spF K fn n vs H1 Q
theorem pe_g {X : Cx} {k : Nat} {f : Addr} {fd : FuncData} {ps : List Str} {fn : Fn} {x : Str} {p pos : Pos} {e : Expr} {es : List Expr} {t : TA}
    (F : FnG X.prog X.w X.K X.mg X.base k f fd ps fn) (hr : Room k X.A) (hgd : X.A.guards = some []) (hg : Gl X x) (hm : X.mg x = some (.ref f)) (hk : PySem.W.keepIn X.K (.ref f) = true) (hb : Binds X.K fd ps [])
    (ha : PA X (e :: es) t) (hdb : (x == ("__debug__" : Str)) = false) (he : starEach (e :: es) X.env = (false, eval e X.env) :: starEach es X.env) (hpl : (backTo pos (starEach es X.env)).any (·.1) = false) :
    PE X (.Call (.Name x p) (e :: es) [] pos) (tCallG X.K fn ps.length t) := by
  refine ⟨fun pins s σ H Q I h => wpAny_Call_Name_kw (ld_glob I hg hm ?_ hdb)⟩
  refine PySem.W.callWith_K (h₀ := X.base) I.ok.mod.kin hk (thn (ha.run pos pins s σ H _ I h) fun us s1 ⟨vs, H1, I1, r, q⟩ => ⟨I1.kIn, ?_⟩) he hpl
  exact run_g F hr hgd hb I1 r q
end RS
end
section
set_option Elab.async false
set_option linter.all false
set_option maxRecDepth 100000
set_option autoImplicit false
set_option maxHeartbeats 2000000
/-! RSExpr: every expression that matches does what the evaluator says. -/
namespace RS
open PySem L2
structure Snd (X : Cx) (e : Expr) (f : Env → OSt → R Rs) : Prop where
  pe : PE X e (rd X.K f)
  pt : PT X e (rdT X.K f)
  pw : ∀ op vs pos, e = .BoolOp op vs pos → PW X e (rdT X.K f)
section
variable {X : Cx} {mc : MC}
theorem rdT_of {f : Env → OSt → R Rs} {σ : L2.St} {H : Hp} {Q : Bool → Hp → Prop} (h : rdT X.K f σ H Q) : tB (rd X.K f) σ H Q := by
  obtain ⟨c, gT, gF, ρ, s, b, s', P, e, q⟩ := h
  refine ⟨c, gT, gF, ρ, s, _, s', P, e, fun v H' P' _ => ?_⟩
  obtain ⟨T, F, o⟩ := P'
  have := o.B.tT _ (o.hT _ List.mem_cons_self)
  rw [Rep] at this
  exact ⟨b, this, q H' ⟨T, F, o.less (fun _ z => List.mem_cons_of_mem _ z) (List.Sublist.refl _)⟩⟩
theorem Snd.of_pe {e : Expr} {f : Env → OSt → R Rs} (h : PE X e (rd X.K f)) (he : ∀ whole, isTrue e X.env whole = (do let v ← whole; standAt e.pos; holding [v] (truthy v))) (hb : ∀ op vs pos, e ≠ .BoolOp op vs pos) : Snd X e f :=
  ⟨h, (pt_val h he).via fun σ H Q q => rdT_of q, fun op vs pos z => (hb op vs pos z).elim⟩
/-! ### names, constants -/
theorem snd_var (ok : CtxOk X mc) {i : Nat} {x : Str} {pos : Pos} (hN : mc.N[i]? = some x) (hv : visB mc.sc x = true) (hd : dbgB x = true) : PE X (.Name x pos) (rd X.K (ev (.var i))) := by
  refine (pe_var (i := i) (by rw [← ok.N]; exact hN) (ok.vis hv) (dbg1 hd) (dbg2 hd)).via fun σ H Q h => ?_
  obtain ⟨c, gT, gF, ρ, s, r, s', P, e, q⟩ := h
  rw [ev] at e
  obtain ⟨e, rfl⟩ := lift_ok e
  obtain ⟨T, F, o⟩ := P
  cases hs : ρ.getD i .no with
  | no => rw [hs] at e; cases e
  | sh d =>
    rw [hs] at e; cases e
    have hs' : ρ[i]? = some (.sh d) := by
      rw [List.getD_eq_getElem?_getD] at hs
      cases q : ρ[i]? with
      | none => rw [q] at hs; cases hs
      | some y => rw [q] at hs; rw [show y = .sh d from hs]
    obtain ⟨v, h1, h2⟩ := o.sl.sh i d hs'
    exact ⟨v, h1, q v H ⟨T, F, o.B, fun p hp => by
      rcases List.mem_cons.mp hp with e | hp
      · rw [e]; exact h2
      · exact o.hT p hp, o.hF, o.nd, o.sl⟩ trivial⟩
  | ow d =>
    rw [hs] at e; cases e
    have hs' : ρ[i]? = some (.ow d) := by
      rw [List.getD_eq_getElem?_getD] at hs
      cases q : ρ[i]? with
      | none => rw [q] at hs; cases hs
      | some y => rw [q] at hs; rw [show y = .ow d from hs]
    obtain ⟨a, h1, h2, _⟩ := o.sl.ow i d hs'
    exact ⟨.ref a, h1, q _ H ⟨T, F, o⟩ ⟨a, rfl, h1, hs'⟩⟩
theorem rd_const {d : D} {v : V} {σ : L2.St} {H : Hp} {Q : VK} {f : Env → OSt → R Rs} (hf : ∀ ρ s, f ρ s = .ok (.sh d) s) (hr : ∀ aS O H, Rep X.K aS O H d v) (h : rd X.K f σ H Q) : Q v H := by
  obtain ⟨c, gT, gF, ρ, s, r, s', ⟨T, F, o⟩, e, q⟩ := h
  rw [hf] at e
  cases e
  exact q v H ⟨_, _, o.addT (hr _ _ _)⟩ trivial
theorem snd_con {d : D} {k : Const} {n : Nat} {pos : Pos} (h : conB d k = true) : PE X (.Constant k n pos) (rd X.K (ev (.con d))) := by
  have hf : ∀ ρ s, ev (.con d) ρ s = .ok (.sh d) s := fun ρ s => by rw [ev]
  cases d <;> cases k <;> first | cases h | skip
  · exact pe_non.via fun σ H Q q => rd_const hf (fun _ _ _ => Rep.non') q
  · have := beq_iff_eq.mp h; subst this
    exact pe_bl.via fun σ H Q q => rd_const hf (fun _ _ _ => Rep.bl') q
  · have := beq_iff_eq.mp h; subst this
    exact pe_int.via fun σ H Q q => rd_const hf (fun _ _ _ => Rep.int') q
  · rename_i l x
    have hl : l = x.cps.toList := by simpa [conB] using h
    refine pe_str.via fun σ H Q q => rd_const (v := .str x) hf (fun _ _ _ => ?_) q
    rw [Rep, hl]
theorem snd_glob (ok : CtxOk X mc) {x : String} {y : Str} {d : D} {pos : Pos} (h : GlobOk (lvOf X) x d) (hb : callB mc x y = true) : PE X (.Name y pos) (rd X.K (ev (.glob x d))) := by
  obtain ⟨v, u, hm, r, rep⟩ := h
  obtain ⟨rfl, hg, hd⟩ := callB_of ok hb
  exact (pe_glob hg hm r hd).via fun σ H Q q => rd_const (fun ρ s => by rw [ev]) rep q
/-! ### two in a row -/
theorem rd_two {fa fb : Env → OSt → R Rs} {g : Rs → Rs → Option Rs} {σ : L2.St} {H : Hp} {Q : VK} {W : V → V → Hp → Prop}
    (h : rd X.K (fun ρ s => (fa ρ s).bind fun x s1 => (fb ρ s1).bind fun y s2 => lift (g x y) s2) σ H Q)
    (k : ∀ c gT gF gT0 gF0 ρ s rx ry r T F x y H2, Opn X.K c gT gF σ H2 ρ s T F → (∀ p ∈ gT0, p ∈ gT) → List.Sublist gF0 gF → Hd gT gF σ ρ rx x → Hd gT gF σ ρ ry y → g rx ry = some r → Post X.K c gT0 gF0 σ ρ s r Q → W x y H2) :
    rd X.K fa σ H fun x H1 => rd X.K fb σ H1 fun y H2 => W x y H2 := by
  obtain ⟨c, gT, gF, ρ, s, r, s', P, e, q⟩ := h
  obtain ⟨rx, s1, e1, e⟩ := bind_ok e
  obtain ⟨ry, s2, e2, e⟩ := bind_ok e
  obtain ⟨e3, rfl⟩ := lift_ok e
  refine ⟨c, gT, gF, ρ, s, rx, s1, P, e1, fun x H1 P1 V1 => ⟨c, _, _, ρ, s1, ry, _, P1, e2, fun y H2 P2 V2 => ?_⟩⟩
  obtain ⟨T, F, o⟩ := P2
  exact k c _ _ gT gF ρ _ rx ry r T F x y H2 o (fun p hp => ry.subT y _ p (rx.subT x gT p hp)) ((rx.subF x gF).trans (ry.subF y _)) (V1.hd.ext ry y) V2.hd e3 q
theorem rd_one {fa : Env → OSt → R Rs} {g : Rs → Option Rs} {σ : L2.St} {H : Hp} {Q : VK} {W : V → Hp → Prop}
    (h : rd X.K (fun ρ s => (fa ρ s).bind fun x s1 => lift (g x) s1) σ H Q)
    (k : ∀ c gT gF gT0 gF0 ρ s rx r T F x H2, Opn X.K c gT gF σ H2 ρ s T F → (∀ p ∈ gT0, p ∈ gT) → List.Sublist gF0 gF → Hd gT gF σ ρ rx x → g rx = some r → Post X.K c gT0 gF0 σ ρ s r Q → W x H2) :
    rd X.K fa σ H fun x H1 => W x H1 := by
  obtain ⟨c, gT, gF, ρ, s, r, s', P, e, q⟩ := h
  obtain ⟨rx, s1, e1, e⟩ := bind_ok e
  obtain ⟨e3, rfl⟩ := lift_ok e
  refine ⟨c, gT, gF, ρ, s, rx, _, P, e1, fun x H1 P1 V1 => ?_⟩
  obtain ⟨T, F, o⟩ := P1
  exact k c _ _ gT gF ρ _ rx r T F x H1 o (fun p hp => rx.subT x gT p hp) (rx.subF x gF) V1.hd e3 q
theorem binF_bo {o : BOp} {d e : D} {r : Rs} (h : binF o d e = some r) : r.isBo = false := by
  cases o <;> cases d <;> cases e <;> simp [binF] at h <;> first | (obtain ⟨_, h⟩ := h; subst h; rfl) | (subst h; rfl)
theorem snd_bin {o : BOp} {a b : Expr} {ea eb : E} {pos : Pos} (ha : PE X a (rd X.K (ev ea))) (hb : PE X b (rd X.K (ev eb))) : PE X (.BinOp a (bopOf o) b pos) (rd X.K (ev (.bin o ea eb))) := by
  refine (pe_op (op_bin o) ha hb).via fun σ H Q h => ?_
  refine rd_two (g := fun x y => binF o x.d y.d) (by simpa only [ev] using h) ?_
  intro c gT gF gT0 gF0 ρ s rx ry r T F x y H2 op h1 h2 hx hy e q
  exact ⟨c.aS, c.Ow F, rx.d, ry.d, r, op.tv hx, op.tv hy, e, Give.of op h1 h2 q (binF_bo e)⟩
theorem snd_cmp (ok : CtxOk X mc) {o : COp} {a b : Expr} {ea eb : E} {pos : Pos} (hp : plainE b = true) (ha : PE X a (rd X.K (ev ea))) (hb : PE X b (rd X.K (ev eb))) : PE X (.Compare a [copOf o] [b] pos) (rd X.K (ev (.cmp o ea eb))) := by
  have hm : behindInMarks (copOf o) b = false := by cases b <;> first | rfl | cases hp
  refine (pe_cmpR (op_cmp (by have := ok.un; omega) o) ha hb hm).via fun σ H Q h => ?_
  refine rd_two (g := fun x y => (cmpF o x.d y.d).map fun b => .sh (.bl b)) (by simpa only [ev] using h) ?_
  intro c gT gF gT0 gF0 ρ s rx ry r T F x y H2 op h1 h2 hx hy e q
  rw [Option.map_eq_some_iff] at e
  obtain ⟨b', e, rfl⟩ := e
  exact ⟨c.aS, c.Ow F, rx.d, ry.d, b', op.tv hx, op.tv hy, e, q.sh op h1 h2 Rep.bl'⟩
theorem tst_cmp (ok : CtxOk X mc) {o : COp} {a b : Expr} {ea eb : E} {pos : Pos} (hp : plainE b = true) (ha : PE X a (rd X.K (ev ea))) (hb : PE X b (rd X.K (ev eb))) : PT X (.Compare a [copOf o] [b] pos) (rdT X.K (ev (.cmp o ea eb))) := by
  have hm : behindInMarks (copOf o) b = false := by cases b <;> first | rfl | cases hp
  refine (pt_cmpR (op_cmp (by have := ok.un; omega) o) ha hb hm).via fun σ H Q h => ?_
  refine rd_two (g := fun x y => (cmpF o x.d y.d).map fun b => .sh (.bl b)) (W := fun x y H => rCmp X.K o x y H fun x H' => ∃ k, x = .bl k ∧ Q k H') (Q := fun x H' => ∃ k, x = .bl k ∧ Q k H') (by have h2 := rdT_of h; unfold tB at h2; simpa only [ev] using h2) ?_
  intro c gT gF gT0 gF0 ρ s rx ry r T F x y H2 op h1 h2 hx hy e q
  rw [Option.map_eq_some_iff] at e
  obtain ⟨b', e, rfl⟩ := e
  exact ⟨c.aS, c.Ow F, rx.d, ry.d, b', op.tv hx, op.tv hy, e, q.sh op h1 h2 Rep.bl'⟩
theorem negF_some {d : D} {r : Rs} (h : negF d = some r) : ∃ i, d = .int i ∧ r = .sh (.int (-i)) := by
  cases d <;> first | (cases h; exact ⟨_, rfl, rfl⟩) | cases h
theorem snd_neg {a : Expr} {ea : E} {pos : Pos} (ha : PE X a (rd X.K (ev ea))) : PE X (.UnaryOp .USub a pos) (rd X.K (ev (.neg ea))) := by
  refine (pe_un un_neg ha).via fun σ H Q h => ?_
  refine rd_one (g := fun x => negF x.d) (by simpa only [ev] using h) ?_
  intro c gT gF gT0 gF0 ρ s rx r T F x H2 op h1 h2 hx e q
  obtain ⟨i, hd, rfl⟩ := negF_some e
  have t := op.tv hx
  rw [hd] at t
  exact ⟨i, t.int, q.sh op h1 h2 Rep.int'⟩
theorem snd_idx {a b : Expr} {ea eb : E} {pos : Pos} (hp : plainE b = true) (ha : PE X a (rd X.K (ev ea))) (hb : PE X b (rd X.K (ev eb))) : PE X (.Subscript a b pos) (rd X.K (ev (.idx ea eb))) := by
  have hs : PlainIx b := fun o i => by cases b <;> first | rfl | cases hp
  refine (pe_ix ix_idx ha hb hs).via fun σ H Q h => ?_
  refine rd_two (g := fun x y => (idxF x.d y.d).map .sh) (by simpa only [ev] using h) ?_
  intro c gT gF gT0 gF0 ρ s rx ry r T F x y H2 op h1 h2 hx hy e q
  rw [Option.map_eq_some_iff] at e
  obtain ⟨d, e, rfl⟩ := e
  exact ⟨c.aS, c.Ow F, rx.d, ry.d, d, op.tv hx, op.tv hy, e, fun v hv => q.sh op h1 h2 hv⟩
end
end RS
end
section
set_option Elab.async false
set_option linter.all false
set_option maxRecDepth 100000
set_option autoImplicit false
set_option maxHeartbeats 2000000
namespace RS
open PySem L2
section
variable {X : Cx} {mc : MC}
theorem Post.up {K : PySem.W.Frag} {c : Cfg} {gT gT' : Shd} {gF gF' : Own} {σ : L2.St} {ρ : Env} {s : OSt} {r : Rs} {Q : VK} (p : Post K c gT gF σ ρ s r Q) (h1 : ∀ p ∈ gT, p ∈ gT') (h2 : List.Sublist gF gF') : Post K c gT' gF' σ ρ s r Q := by
  intro v H' P V
  refine p v H' (P.less (fun q hq => ?_) ?_) V
  · cases r <;> first
      | (rcases List.mem_cons.mp hq with e | hq
         · rw [e]; exact List.mem_cons_self
         · exact List.mem_cons_of_mem _ (h1 q hq))
      | exact h1 q hq
  · cases r <;> (try exact h2)
    cases v <;> first | exact h2 | exact h2.cons_cons _
/-! ### and, or, not, if-else -/
theorem bool_of {r : Rs} {f : Bool → R Rs} {y : Rs} {s : OSt} (h : (match r with | .sh (.bl true) => f true | .sh (.bl false) => f false | _ => .no) = .ok y s) : ∃ b, r = .sh (.bl b) ∧ f b = .ok y s := by
  split at h
  · exact ⟨true, rfl, h⟩
  · exact ⟨false, rfl, h⟩
  · cases h
theorem rep_bl {K : PySem.W.Frag} {c : Cfg} {gT : Shd} {gF : Own} {σ : L2.St} {H : Hp} {ρ : Env} {s : OSt} {b : Bool} {v : V} (P : Pt K c ((.bl b, v) :: gT) gF σ H ρ s) : v = .bl b ∧ Pt K c gT gF σ H ρ s := by
  refine ⟨?_, P.less (fun _ z => List.mem_cons_of_mem _ z) (List.Sublist.refl _)⟩
  obtain ⟨T, F, o⟩ := P
  have := o.B.tT _ (o.hT _ List.mem_cons_self)
  rw [Rep] at this
  exact this
theorem Pt.bl {K : PySem.W.Frag} {c : Cfg} {gT : Shd} {gF : Own} {σ : L2.St} {H : Hp} {ρ : Env} {s : OSt} (b : Bool) (P : Pt K c gT gF σ H ρ s) : Pt K c ((.bl b, .bl b) :: gT) gF σ H ρ s := by
  obtain ⟨T, F, o⟩ := P
  exact ⟨_, _, o.addT Rep.bl'⟩
theorem sel_ok {x : R Rs} {f g : OSt → R Rs} {y : Rs} {s : OSt} (h : (x.bind fun r s1 => match r with | .sh (.bl true) => f s1 | .sh (.bl false) => g s1 | _ => .no) = .ok y s) : ∃ b s1, x = .ok (.sh (.bl b)) s1 ∧ (if b = true then f s1 else g s1) = .ok y s := by
  obtain ⟨r, s1, h1, h⟩ := bind_ok h
  split at h
  · exact ⟨true, s1, h1, h⟩
  · exact ⟨false, s1, h1, h⟩
  · cases h
theorem sel_ok' {x : R Rs} {f g : OSt → R Rs} {y : Rs} {s : OSt} (h : (x.bind fun r s1 => match r with | .sh (.bl false) => f s1 | .sh (.bl true) => g s1 | _ => .no) = .ok y s) : ∃ b s1, x = .ok (.sh (.bl b)) s1 ∧ (if b = true then g s1 else f s1) = .ok y s := by
  obtain ⟨r, s1, h1, h⟩ := bind_ok h
  split at h
  · exact ⟨false, s1, h1, h⟩
  · exact ⟨true, s1, h1, h⟩
  · cases h
theorem snd_and {a b : Expr} {r : List Expr} {ea eb : E} {pos : Pos} (ha : Snd X a (ev ea)) (hb : PE X (.BoolOp .And (b :: r) pos) (rd X.K (ev eb))) (hw : PW X (.BoolOp .And (b :: r) pos) (rdT X.K (ev eb))) : Snd X (.BoolOp .And (a :: b :: r) pos) (ev (.and ea eb)) := by
  have w : PW X (.BoolOp .And (a :: b :: r) pos) (rdT X.K (ev (.and ea eb))) := by
    refine (pw_and ha.pt hw).via fun σ H Q h => ?_
    obtain ⟨c, gT, gF, ρ, s, k, s', P, e, q⟩ := h
    rw [ev] at e
    obtain ⟨d, s1, e1, e⟩ := sel_ok e
    refine ⟨c, gT, gF, ρ, s, d, s1, P, e1, fun H' P' => ?_⟩
    cases d with
    | true => exact ⟨c, gT, gF, ρ, s1, k, s', P', e, q⟩
    | false => cases e; exact q H' P'
  refine ⟨(pe_and ha.pe hb).via fun σ H Q h => ?_, w.pt, fun _ _ _ _ => w⟩
  obtain ⟨c, gT, gF, ρ, s, y, s', P, e, q⟩ := h
  rw [ev] at e
  obtain ⟨d, s1, e1, e⟩ := sel_ok e
  refine ⟨c, gT, gF, ρ, s, _, s1, P, e1, fun v H' P' _ => ?_⟩
  obtain ⟨rfl, P'⟩ := rep_bl P'
  refine ⟨d, rfl, ?_⟩
  cases d with
  | true => exact ⟨c, gT, gF, ρ, s1, y, s', P', e, q⟩
  | false => cases e; exact q _ H' (P'.bl false) trivial
theorem snd_or {a b : Expr} {r : List Expr} {ea eb : E} {pos : Pos} (ha : Snd X a (ev ea)) (hb : PE X (.BoolOp .Or (b :: r) pos) (rd X.K (ev eb))) (hw : PW X (.BoolOp .Or (b :: r) pos) (rdT X.K (ev eb))) : Snd X (.BoolOp .Or (a :: b :: r) pos) (ev (.or ea eb)) := by
  have w : PW X (.BoolOp .Or (a :: b :: r) pos) (rdT X.K (ev (.or ea eb))) := by
    refine (pw_or ha.pt hw).via fun σ H Q h => ?_
    obtain ⟨c, gT, gF, ρ, s, k, s', P, e, q⟩ := h
    rw [ev] at e
    obtain ⟨d, s1, e1, e⟩ := sel_ok' e
    refine ⟨c, gT, gF, ρ, s, d, s1, P, e1, fun H' P' => ?_⟩
    cases d with
    | false => exact ⟨c, gT, gF, ρ, s1, k, s', P', e, q⟩
    | true => cases e; exact q H' P'
  refine ⟨(pe_or ha.pe hb).via fun σ H Q h => ?_, w.pt, fun _ _ _ _ => w⟩
  obtain ⟨c, gT, gF, ρ, s, y, s', P, e, q⟩ := h
  rw [ev] at e
  obtain ⟨d, s1, e1, e⟩ := sel_ok' e
  refine ⟨c, gT, gF, ρ, s, _, s1, P, e1, fun v H' P' _ => ?_⟩
  obtain ⟨rfl, P'⟩ := rep_bl P'
  refine ⟨d, rfl, ?_⟩
  cases d with
  | false => exact ⟨c, gT, gF, ρ, s1, y, s', P', e, q⟩
  | true => cases e; exact q _ H' (P'.bl true) trivial
theorem not_ok {x : R Rs} {y : Rs} {s : OSt} (h : (x.bind fun r s1 => match r with | .sh (.bl b) => .ok (.sh (.bl !b)) s1 | _ => .no) = .ok y s) : ∃ b, x = .ok (.sh (.bl b)) s ∧ y = .sh (.bl !b) := by
  obtain ⟨r, s1, h1, h⟩ := bind_ok h
  split at h
  · cases h; exact ⟨_, h1, rfl⟩
  · cases h
theorem snd_not {a : Expr} {ea : E} {pos : Pos} (ha : Snd X a (ev ea)) : Snd X (.UnaryOp .Not a pos) (ev (.not ea)) := by
  refine ⟨(pe_not ha.pe).via fun σ H Q h => ?_, (pt_not ha.pt).via fun σ H Q h => ?_, fun _ _ _ z => by cases z⟩
  · obtain ⟨c, gT, gF, ρ, s, y, s', P, e, q⟩ := h
    rw [ev] at e
    obtain ⟨b, e1, rfl⟩ := not_ok e
    refine ⟨c, gT, gF, ρ, s, _, _, P, e1, fun v H' P' _ => ?_⟩
    obtain ⟨rfl, P'⟩ := rep_bl P'
    exact ⟨b, rfl, q _ H' (P'.bl _) trivial⟩
  · obtain ⟨c, gT, gF, ρ, s, k, s', P, e, q⟩ := h
    rw [ev] at e
    obtain ⟨b, e1, e2⟩ := not_ok e
    cases e2
    exact ⟨c, gT, gF, ρ, s, b, _, P, e1, q⟩
theorem pt_ife {t a b : Expr} {tt ta tb : TT} {pos : Pos} (ht : PT X t tt) (ha : PT X a ta) (hb : PT X b tb) : PT X (.IfExp t a b pos) (fun σ H Q => tt σ H fun c H1 => if c = true then ta σ H1 Q else tb σ H1 Q) := by
  refine ⟨fun pins s σ H Q I h => ?_⟩
  show wpAny _ _ (isTrue t X.env (eval t X.env) >>= fun d => if d = true then isTrue a X.env (eval a X.env) else isTrue b X.env (eval b X.env)) _ _ s
  refine wpAny_bind (thn (ht.run pins s σ H _ I h) fun d s1 ⟨H1, I1, q1⟩ => ?_)
  cases d with
  | true => exact ha.run pins s1 σ H1 Q I1 q1
  | false => exact hb.run pins s1 σ H1 Q I1 q1
theorem snd_ife {t a b : Expr} {et ea eb : E} {pos : Pos} (ht : Snd X t (ev et)) (ha : Snd X a (ev ea)) (hb : Snd X b (ev eb)) : Snd X (.IfExp t a b pos) (ev (.ife et ea eb)) := by
  refine ⟨(pe_ifExp ht.pt ha.pe hb.pe).via fun σ H Q h => ?_, (pt_ife ht.pt ha.pt hb.pt).via fun σ H Q h => ?_, fun _ _ _ z => by cases z⟩
  · obtain ⟨c, gT, gF, ρ, s, y, s', P, e, q⟩ := h
    rw [ev] at e
    obtain ⟨d, s1, e1, e⟩ := sel_ok e
    refine ⟨c, gT, gF, ρ, s, d, s1, P, e1, fun H' P' => ?_⟩
    cases d with
    | true => exact ⟨c, gT, gF, ρ, s1, y, s', P', e, q⟩
    | false => exact ⟨c, gT, gF, ρ, s1, y, s', P', e, q⟩
  · obtain ⟨c, gT, gF, ρ, s, k, s', P, e, q⟩ := h
    rw [ev] at e
    obtain ⟨d, s1, e1, e⟩ := sel_ok e
    refine ⟨c, gT, gF, ρ, s, d, s1, P, e1, fun H' P' => ?_⟩
    cases d with
    | true => exact ⟨c, gT, gF, ρ, s1, k, s', P', e, q⟩
    | false => exact ⟨c, gT, gF, ρ, s1, k, s', P', e, q⟩
/-! ### a chain of two comparisons -/
theorem chain_ok {ea eb ec : E} {o1 o2 : COp} {ρ : Env} {s s' : OSt} {r : Rs} (e : ev (.chain o1 o2 ea eb ec) ρ s = .ok r s') : ∃ rx s1 ry s2 k, ev ea ρ s = .ok rx s1 ∧ ev eb ρ s1 = .ok ry s2 ∧ cmpF o1 rx.d ry.d = some k ∧
    (if k = true then ∃ rz b, ev ec ρ s2 = .ok rz s' ∧ cmpF o2 ry.d rz.d = some b ∧ r = .sh (.bl b) else s' = s2 ∧ r = .sh (.bl false)) := by
  rw [ev] at e
  obtain ⟨rx, s1, e1, e⟩ := bind_ok e
  obtain ⟨ry, s2, e2, e⟩ := bind_ok e
  refine ⟨rx, s1, ry, s2, ?_⟩
  split at e
  · rename_i hk
    obtain ⟨rz, s3, e3, e⟩ := bind_ok e
    obtain ⟨e4, rfl⟩ := lift_ok e
    rw [Option.map_eq_some_iff] at e4
    obtain ⟨b, hb, rfl⟩ := e4
    exact ⟨true, e1, e2, hk, rz, b, e3, hb, rfl⟩
  · rename_i hk
    cases e
    exact ⟨false, e1, e2, hk, rfl, rfl⟩
  · cases e
theorem chain_rd (ok : CtxOk X mc) {ea eb ec : E} {o1 o2 : COp} {σ : L2.St} {H : Hp} {Q : VK} (h : rd X.K (ev (.chain o1 o2 ea eb ec)) σ H Q) : tChain (rCmp X.K o1) (rCmp X.K o2) (rd X.K (ev ea)) (rd X.K (ev eb)) (rd X.K (ev ec)) σ H Q := by
  obtain ⟨c, gT, gF, ρ, s, r, s', P, e, q⟩ := h
  obtain ⟨rx, s1, ry, s2, k, e1, e2, hk, e3⟩ := chain_ok e
  refine ⟨c, gT, gF, ρ, s, rx, s1, P, e1, fun x H1 P1 V1 => ⟨c, _, _, ρ, s1, ry, s2, P1, e2, fun y H2 P2 V2 => ?_⟩⟩
  have P2' := P2
  obtain ⟨T, F, o⟩ := P2
  refine ⟨c.aS, c.Ow F, rx.d, ry.d, k, o.tv (V1.hd.ext ry y), o.tv V2.hd, hk, k, rfl, ?_⟩
  cases k with
  | true =>
    obtain ⟨rz, b, e3, e4, rfl⟩ := e3
    refine ⟨c, _, _, ρ, s2, rz, s', P2', e3, fun z H3 P3 V3 => ?_⟩
    obtain ⟨T', F', o'⟩ := P3
    refine ⟨c.aS, c.Ow F', ry.d, rz.d, b, o'.tv (V2.hd.ext rz z), o'.tv V3.hd, e4, q.sh o' (fun p hp => rz.subT z _ p (ry.subT y _ p (rx.subT x gT p hp))) ((rx.subF x gF).trans ((ry.subF y _).trans (rz.subF z _))) Rep.bl'⟩
  | false =>
    obtain ⟨rfl, rfl⟩ := e3
    exact q.sh o (fun p hp => ry.subT y _ p (rx.subT x gT p hp)) ((rx.subF x gF).trans (ry.subF y _)) Rep.bl'
theorem snd_chain (ok : CtxOk X mc) {o1 o2 : COp} {a b d : Expr} {ea eb ed : E} {pos : Pos} (hp : plainE d = true) (ha : PE X a (rd X.K (ev ea))) (hb : PE X b (rd X.K (ev eb))) (hd : PE X d (rd X.K (ev ed))) : Snd X (.Compare a [copOf o1, copOf o2] [b, d] pos) (ev (.chain o1 o2 ea eb ed)) := by
  have hm : lastMarks [copOf o1, copOf o2] [b, d] = false := by
    show behindInMarks (copOf o2) d = false
    cases d <;> first | rfl | cases hp
  have hu : X.A.units + 64 < cLine := by have := ok.un; omega
  refine ⟨(pe_chain (op_cmp hu o1) (op_cmp hu o2) ha hb hd hm).via fun σ H Q h => chain_rd ok h, (pt_chain (op_cmp hu o1) (op_cmp hu o2) ha hb hd hm).via fun σ H Q h => ?_, fun _ _ _ z => by cases z⟩
  exact chain_rd ok (rdT_of h)
/-! ### slices -/
theorem partOf_some {e : E} {r : Rs} {o : Option Int} (h : partOf e r = some o) : (e = .omit ∧ o = none) ∨ ∃ i, e ≠ .omit ∧ r = .sh (.int i) ∧ o = some i := by
  unfold partOf at h
  split at h
  · cases h; exact .inl ⟨rfl, rfl⟩
  · rename_i ne
    split at h
    · cases h; exact .inr ⟨_, ne, rfl, rfl⟩
    · cases h
/-- a slice's part: left out, or an int -/
def rdO (K : PySem.W.Frag) (e : E) : TO := fun σ H Q => ∃ c gT gF ρ s r s' o, Pt K c gT gF σ H ρ s ∧ ev e ρ s = .ok r s' ∧ partOf e r = some o ∧ ∀ H', Pt K c gT gF σ H' ρ s' → Q o H'
theorem po_omit : PO X none (rdO X.K .omit) := by
  have := po_none (X := X)
  refine ⟨fun pins s σ H Q I h => this.run pins s σ H Q I ?_⟩
  obtain ⟨c, gT, gF, ρ, st, r, s', o, P, e, p, q⟩ := h
  rw [ev] at e
  cases e
  cases p
  exact q H P
theorem po_int {e : E} {x : Expr} (hx : PE X x (rd X.K (ev e))) (hne : e ≠ .omit) : PO X (some x) (rdO X.K e) := by
  have := po_some hx
  refine ⟨fun pins s σ H Q I h => this.run pins s σ H Q I ?_⟩
  obtain ⟨c, gT, gF, ρ, st, r, s', o, P, e1, p, q⟩ := h
  rcases partOf_some p with ⟨z, _⟩ | ⟨i, _, rfl, rfl⟩
  · exact (hne z).elim
  · refine ⟨c, gT, gF, ρ, st, _, s', P, e1, fun v H' P' _ => ?_⟩
    have P0 := P'
    obtain ⟨T, F, o⟩ := P'
    have := o.B.tT _ (o.hT _ List.mem_cons_self)
    rw [Rep] at this
    exact ⟨i, this, q H' (P0.less (fun _ z => List.mem_cons_of_mem _ z) (List.Sublist.refl _))⟩
theorem slcF_bo {d : D} {l h : Option Int} {r : Rs} (e : slcF d l h = some r) : r.isBo = false := by
  cases d <;> first | (cases e; rfl) | cases e
theorem snd_slc {a : Expr} {ea el eh : E} {lo hi : Option Expr} {p2 pos : Pos} (ha : PE X a (rd X.K (ev ea))) (hl : PO X lo (rdO X.K el)) (hh : PO X hi (rdO X.K eh)) : PE X (.Subscript a (.Slice lo hi none p2) pos) (rd X.K (ev (.slc ea el eh))) := by
  refine (pe_slice sl_slc ha hl hh).via fun σ H Q h => ?_
  obtain ⟨c, gT, gF, ρ, s, r, s', P, e, q⟩ := h
  rw [ev] at e
  obtain ⟨rx, s1, e1, e⟩ := bind_ok e
  obtain ⟨ry, s2, e2, e⟩ := bind_ok e
  obtain ⟨rz, s3, e3, e⟩ := bind_ok e
  split at e
  · rename_i l u hl hu
    obtain ⟨e4, rfl⟩ := lift_ok e
    refine ⟨c, gT, gF, ρ, s, rx, s1, P, e1, fun x H1 P1 V1 => ⟨c, _, _, ρ, s1, ry, s2, l, P1, e2, hl, fun H2 P2 => ⟨c, _, _, ρ, s2, rz, _, u, P2, e3, hu, fun H3 P3 => ?_⟩⟩⟩
    obtain ⟨T, F, o⟩ := P3
    exact ⟨c.aS, c.Ow F, rx.d, r, o.tv V1.hd, e4, Give.of o (rx.subT x gT) (rx.subF x gF) q (slcF_bo e4)⟩
  · cases e
theorem snd_rev {a : Expr} {ea : E} {k : Nat} {p1 p2 p3 pos : Pos} (ha : PE X a (rd X.K (ev ea))) : PE X (.Subscript a (.Slice none none (some (.UnaryOp .USub (.Constant (.int 1) k p1) p2)) p3) pos) (rd X.K (ev (.rev ea))) := by
  refine (pe_revL ha).via fun σ H Q h => ?_
  refine rd_one (g := fun x => revF x.d) (by simpa only [ev] using h) ?_
  intro c gT gF gT0 gF0 ρ s rx r T F x H2 op h1 h2 hx e q
  have t := op.tv hx
  have hb : r.isBo = false := by cases hd : rx.d <;> rw [hd] at e <;> first | (cases e; rfl) | cases e
  have g := Give.of op h1 h2 q hb
  cases hd : rx.d <;> rw [hd] at e t <;> first | (cases e; done) | skip
  cases e
  obtain ⟨b, xs, rfl, hb, tt⟩ := t.lst
  exact ⟨b, xs, rfl, SqL.of hb, fun p hp => g _ p _ rfl hp tt.reverse⟩
end
end RS
end
section
set_option Elab.async false
set_option linter.all false
set_option maxRecDepth 100000
set_option autoImplicit false
set_option maxHeartbeats 2000000
namespace RS
open PySem L2
theorem star_cons {e : Expr} {es : List Expr} {env : PySem.Env} (h : plainE e = true) : starEach (e :: es) env = (false, eval e env) :: starEach es env := by
  cases e <;> first | rfl | cases h
/-- all argument trees without a star -/
def plainEs : List Expr → Bool
  | [] => true
  | e :: es => plainE e && plainEs es
theorem mtEs_plain (mc : MC) : ∀ (e : E) (es : List Expr), mtEs e mc es = true → plainEs es = true
  | .nil, [], _ => rfl
  | .cons a b, x :: r, h => by
    rw [mtEs, Bool.and_eq_true, Bool.and_eq_true] at h
    rw [plainEs, h.1.1, mtEs_plain mc b r h.2]; rfl
  | .cons a b, [], h => by simp [mtEs] at h
  | .nil, _ :: _, h => by simp [mtEs] at h
  | .var _, _, h => by simp [mtEs] at h
  | .con _, _, h => by simp [mtEs] at h
  | .glob _ _, _, h => by simp [mtEs] at h
  | .omit, _, h => by simp [mtEs] at h
  | .tup _, _, h => by simp [mtEs] at h
  | .lst _, _, h => by simp [mtEs] at h
  | .bin _ _ _, _, h => by simp [mtEs] at h
  | .neg _, _, h => by simp [mtEs] at h
  | .cmp _ _ _, _, h => by simp [mtEs] at h
  | .chain _ _ _ _ _, _, h => by simp [mtEs] at h
  | .and _ _, _, h => by simp [mtEs] at h
  | .or _ _, _, h => by simp [mtEs] at h
  | .not _, _, h => by simp [mtEs] at h
  | .ife _ _ _, _, h => by simp [mtEs] at h
  | .idx _ _, _, h => by simp [mtEs] at h
  | .slc _ _ _, _, h => by simp [mtEs] at h
  | .rev _, _, h => by simp [mtEs] at h
  | .call _ _ _, _, h => by simp [mtEs] at h
  | .callK _ _ _ _ _ _, _, h => by simp [mtEs] at h
  | .prim _ _, _, h => by simp [mtEs] at h
  | .reprEq _ _, _, h => by simp [mtEs] at h
  | .comp _ _ _ _ _, _, h => by simp [mtEs] at h
  | .itE _, _, h => by simp [mtEs] at h
  | .itRange _, _, h => by simp [mtEs] at h
  | .itZip _ _, _, h => by simp [mtEs] at h
  | .itEnum _, _, h => by simp [mtEs] at h
theorem star_plain (env : PySem.Env) (pos : Pos) : ∀ es : List Expr, plainEs es = true → (backTo pos (starEach es env)).any (·.1) = false
  | [], _ => rfl
  | e :: es, h => by
    rw [plainEs, Bool.and_eq_true] at h
    rw [star_cons h.1]
    show (false || (backTo pos (starEach es env)).any (·.1)) = false
    rw [star_plain env pos es h.2]; rfl
section
variable {X : Cx} {mc : MC}
/-! ### argument lists -/
theorem args_nil : PA X [] (rdA X.K (evs .nil)) := pa_nil.via fun σ H Q h => by
  obtain ⟨c, gT, gF, ρ, s, rs, s', P, e, q⟩ := h
  rw [evs] at e
  cases e
  exact q [] H P rfl
theorem args_cons {e : Expr} {es : List Expr} {ea eb : E} (hp : plainE e = true) (ha : PE X e (rd X.K (ev ea))) (hb : PA X es (rdA X.K (evs eb))) : PA X (e :: es) (rdA X.K (evs (.cons ea eb))) := by
  refine (pa_cons ha hb (star_cons hp)).via fun σ H Q h => ?_
  obtain ⟨c, gT, gF, ρ, s, rs, s', P, e, q⟩ := h
  rw [evs] at e
  obtain ⟨rx, s1, e1, e⟩ := bind_ok e
  obtain ⟨ry, s2, e2, e⟩ := bind_ok e
  cases e
  refine ⟨c, gT, gF, ρ, s, rx, s1, P, e1, fun x H1 P1 V1 => ⟨c, _, _, ρ, s1, ry, _, P1, e2, fun vs H2 P2 V2 => ?_⟩⟩
  exact q (x :: vs) H2 P2 ⟨x, vs, rfl, V1.hd.mono (subTs ry vs _) fun p hp => (subFs ry vs _).subset hp, V2⟩
/-- what was fresh is shared -/
theorem Pt.shares {K : PySem.W.Frag} {c : Cfg} {σ : L2.St} {H : Hp} {ρ : Env} {s : OSt} : ∀ (rs : List Rs) (vs : List V) (gT : Shd) (gF : Own), vs.length = rs.length → (∀ (i : Nat) (d : D) (v : V), rs[i]? = some (.fr d) → vs[i]? = some v → ∃ a, v = .ref a) → Pt K c (exTs rs vs gT) (exFs rs vs gF) σ H ρ s →
    ∃ gT', Pt K c gT' gF σ H ρ s ∧ (∀ p ∈ gT, p ∈ gT') ∧ ∀ (i : Nat) (r : Rs) (v : V), rs[i]? = some r → vs[i]? = some v → r.isBo = false → (r.d, v) ∈ gT'
  | [], [], gT, gF, _, _, P => ⟨gT, P, fun _ h => h, fun i r v h => by simp at h⟩
  | [], _ :: _, _, _, hl, _, _ => by simp at hl
  | _ :: _, [], _, _, hl, _, _ => by simp at hl
  | r :: rs, v :: vs, gT, gF, hl, hv, P => by
    obtain ⟨gT', P', h1, h2⟩ := Pt.shares rs vs (r.exT v gT) (r.exF v gF) (by simpa using hl) (fun i d w a b => hv (i + 1) d w (by simpa using a) (by simpa using b)) P
    have fin : ∀ gT'', Pt K c gT'' gF σ H ρ s → (∀ p ∈ gT', p ∈ gT'') → (r.isBo = false → (r.d, v) ∈ gT'') → ∃ gT', Pt K c gT' gF σ H ρ s ∧ (∀ p ∈ gT, p ∈ gT') ∧ ∀ (i : Nat) (q : Rs) (w : V), (r :: rs)[i]? = some q → (v :: vs)[i]? = some w → q.isBo = false → (q.d, w) ∈ gT' := fun gT'' P'' k1 k2 =>
      ⟨gT'', P'', fun p hp => k1 p (h1 p (r.subT v gT p hp)), fun i q w a b nb => by
        cases i with
        | zero => simp at a b; subst a b; exact k2 nb
        | succ i => exact k1 _ (h2 i q w (by simpa using a) (by simpa using b) nb)⟩
    cases r with
    | sh d => exact fin gT' P' (fun _ h => h) fun _ => h1 _ List.mem_cons_self
    | bo i d => exact fin gT' P' (fun _ h => h) fun z => by cases z
    | fr d =>
      obtain ⟨a, rfl⟩ := hv 0 d v rfl rfl
      exact fin _ (Pt.forget (gF := gF) P') (fun p hp => List.mem_cons_of_mem _ hp) fun _ => List.mem_cons_self
theorem Hds.refs {gT : Shd} {gF : Own} {σ : L2.St} {ρ : Env} : ∀ {rs : List Rs} {vs : List V}, Hds gT gF σ ρ rs vs → ∀ (i : Nat) (d : D) (v : V), rs[i]? = some (.fr d) → vs[i]? = some v → ∃ a, v = .ref a
  | [], _, _, i, d, v, h, _ => by simp at h
  | r :: rs, _, h, 0, d, v, h1, h2 => by
    obtain ⟨x, xs, rfl, q, _⟩ := h
    simp at h1 h2
    subst h1 h2
    obtain ⟨a, e, _⟩ := q
    exact ⟨a, e⟩
  | r :: rs, _, h, i + 1, d, v, h1, h2 => by
    obtain ⟨x, xs, rfl, _, q⟩ := h
    exact Hds.refs q i d v (by simpa using h1) (by simpa using h2)
theorem freeze_get : ∀ {rs : List Rs}, freeze rs = true → ∀ (i : Nat) (r : Rs), rs[i]? = some r → r.isBo = false
  | [], _, i, r, h => by simp at h
  | r :: rs, hf, 0, q, h => by
    rw [freeze, Bool.and_eq_true] at hf
    simp at h; subst h
    simpa using hf.1
  | r :: rs, hf, i + 1, q, h => by
    rw [freeze, Bool.and_eq_true] at hf
    exact freeze_get hf.2 i q (by simpa using h)
/-- a frozen argument list: its data at hand, all shared -/
theorem args_share {K : PySem.W.Frag} {c : Cfg} {gT : Shd} {gF : Own} {σ : L2.St} {H : Hp} {ρ : Env} {s : OSt} {rs : List Rs} {vs : List V} (P : Pt K c (exTs rs vs gT) (exFs rs vs gF) σ H ρ s) (h : Hds (exTs rs vs gT) (exFs rs vs gF) σ ρ rs vs) (hf : freeze rs = true) :
    ∃ gT' T F, Opn K c gT' gF σ H ρ s T F ∧ (∀ p ∈ gT, p ∈ gT') ∧ Reps K c.aS (c.Ow F) H (rs.map Rs.d) vs := by
  obtain ⟨gT', ⟨T, F, o⟩, h1, h2⟩ := Pt.shares rs vs gT gF h.length h.refs P
  refine ⟨gT', T, F, o, h1, Reps.of_get (by simpa using h.length) fun i d v e1 e2 => ?_⟩
  rw [List.getElem?_map] at e1
  cases hr : rs[i]? with
  | none => rw [hr] at e1; cases e1
  | some r =>
    rw [hr] at e1; cases e1
    exact o.B.tT _ (o.hT _ (h2 i r v hr e2 (freeze_get hf i r hr)))
theorem evs_len : ∀ (e : E) {ρ : Env} {s s' : OSt} {rs : List Rs}, evs e ρ s = .ok rs s' → rs.length = elen e := by
  intro e
  induction e with
  | cons a b _ ih =>
    intro ρ s s' rs h
    rw [evs] at h
    obtain ⟨rx, s1, _, h⟩ := bind_ok h
    obtain ⟨ry, s2, h2, h⟩ := bind_ok h
    cases h
    rw [elen, List.length_cons, ih h2]
  | nil => intro ρ s s' rs h; rw [evs] at h; cases h; rfl
  | _ => intro ρ s s' rs h; simp [evs] at h
theorem len_line {n : Nat} (h : n ≤ 1000) : n ≤ sizeLine := by rw [sizeLine_eq]; omega
theorem snd_tup {es : List Expr} {e : E} {k : Nat} {pos : Pos} (hl : elen e ≤ 1000) (h : PA X es (rdA X.K (evs e))) : PE X (.Tuple es k pos) (rd X.K (ev (.tup e))) := by
  refine (pe_tup h).via fun σ H Q h => ?_
  obtain ⟨c, gT, gF, ρ, s, r, s', P, e, q⟩ := h
  rw [ev] at e
  obtain ⟨rs, s1, e1, e⟩ := bind_ok e
  split at e <;> first | (cases e; done) | skip
  rename_i hf
  cases e
  refine ⟨c, gT, gF, ρ, s, rs, _, P, e1, fun vs H1 P1 V1 => ?_⟩
  obtain ⟨gT', T, F, o, h1, t⟩ := args_share P1 V1 hf
  refine ⟨by rw [V1.length, evs_len _ e1]; exact len_line hl, fun p hp => ?_⟩
  exact (Give.of o h1 (List.Sublist.refl _) q rfl).2 _ p vs rfl hp t
theorem snd_lst {es : List Expr} {e : E} {pos : Pos} (hl : elen e ≤ 1000) (h : PA X es (rdA X.K (evs e))) : PE X (.List es pos) (rd X.K (ev (.lst e))) := by
  refine (pe_lst h).via fun σ H Q h => ?_
  obtain ⟨c, gT, gF, ρ, s, r, s', P, e, q⟩ := h
  rw [ev] at e
  obtain ⟨rs, s1, e1, e⟩ := bind_ok e
  split at e <;> first | (cases e; done) | skip
  rename_i hf
  cases e
  refine ⟨c, gT, gF, ρ, s, rs, _, P, e1, fun vs H1 P1 V1 => ?_⟩
  obtain ⟨gT', T, F, o, h1, t⟩ := args_share P1 V1 hf
  refine ⟨by rw [V1.length, evs_len _ e1]; exact len_line hl, fun p hp => ?_⟩
  exact Give.of o h1 (List.Sublist.refl _) q rfl _ p vs rfl hp t
/-! ### calls of defs -/
def boAddr : List Rs → List V → List Addr
  | .bo _ _ :: rs, .ref a :: vs => a :: boAddr rs vs
  | _ :: rs, _ :: vs => boAddr rs vs
  | _, _ => []
theorem boAddr_freeze : ∀ {rs : List Rs} {vs : List V}, freeze rs = true → boAddr rs vs = []
  | [], _, _ => by simp [boAddr]
  | r :: rs, [], _ => by cases r <;> simp [boAddr]
  | r :: rs, v :: vs, h => by
    rw [freeze, Bool.and_eq_true] at h
    cases r <;> first | (simp [Rs.isBo] at h; done) | (simp [boAddr, boAddr_freeze h.2])
theorem mem_boAddr : ∀ {rs : List Rs} {vs : List V} {i k : Nat} {d : D} {a : Addr}, rs[i]? = some (.bo k d) → vs[i]? = some (.ref a) → a ∈ boAddr rs vs
  | [], _, _, _, _, _, h, _ => by simp at h
  | _ :: _, [], _, _, _, _, _, h => by simp at h
  | r :: rs, v :: vs, 0, k, d, a, h1, h2 => by
    simp at h1 h2; subst h1 h2
    simp [boAddr]
  | r :: rs, v :: vs, i + 1, k, d, a, h1, h2 => by
    have := mem_boAddr (rs := rs) (vs := vs) (i := i) (by simpa using h1) (by simpa using h2)
    cases r <;> first
      | (simpa [boAddr] using this)
      | (cases v <;> simp [boAddr, this])
theorem of_boAddr : ∀ {rs : List Rs} {vs : List V} {a : Addr}, a ∈ boAddr rs vs → ∃ (i k : Nat) (d : D), rs[i]? = some (.bo k d) ∧ vs[i]? = some (.ref a)
  | [], _, _, h => by simp [boAddr] at h
  | r :: rs, [], _, h => by cases r <;> simp [boAddr] at h
  | r :: rs, v :: vs, a, h => by
    have step : a ∈ boAddr rs vs → ∃ (i k : Nat) (d : D), (r :: rs)[i]? = some (.bo k d) ∧ (v :: vs)[i]? = some (.ref a) := fun h => by
      obtain ⟨i, k, d, h1, h2⟩ := of_boAddr h
      exact ⟨i + 1, k, d, by simpa using h1, by simpa using h2⟩
    cases r with
    | bo k d =>
      cases v with
      | ref b =>
        simp only [boAddr, List.mem_cons] at h
        rcases h with h | h
        · subst h; exact ⟨0, k, d, rfl, rfl⟩
        · exact step h
      | _ => exact step (by simpa [boAddr] using h)
    | sh d => exact step (by simpa [boAddr] using h)
    | fr d => exact step (by simpa [boAddr] using h)
theorem Hds.get {gT : Shd} {gF : Own} {σ : L2.St} {ρ : Env} : ∀ {rs : List Rs} {vs : List V}, Hds gT gF σ ρ rs vs → ∀ (i : Nat) (r : Rs) (v : V), rs[i]? = some r → vs[i]? = some v → Hd gT gF σ ρ r v
  | [], _, _, i, d, v, h, _ => by simp at h
  | r :: rs, _, h, 0, d, v, h1, h2 => by
    obtain ⟨x, xs, rfl, q, _⟩ := h
    simp at h1 h2
    subst h1 h2
    exact q
  | r :: rs, _, h, i + 1, d, v, h1, h2 => by
    obtain ⟨x, xs, rfl, _, q⟩ := h
    exact Hds.get q i d v (by simpa using h1) (by simpa using h2)
/-- behind a call that hands back a fresh thing -/
theorem Bs.callFresh {K : PySem.W.Frag} {c : Cfg} {T : Shd} {F : Own} {H H' : Hp} {s s' : OSt} (B : Bs K c T F H s) (k : Keeps c H H') (st : StOk c H' s') {a : Addr} {d : D} (ha : H a = none) (t : Top K c.aS (c.Ow ((d, a) :: F)) H' d a) : Bs K c T ((d, a) :: F) H' s' := by
  have B' := B.call k st
  have nO : ¬ c.O a := fun z => by obtain ⟨o, q, _⟩ := B.trk a z; rw [ha] at q; cases q
  have nF : a ∉ F.map (·.2) := fun z => by
    obtain ⟨q, hq, e⟩ := List.mem_map.mp z
    obtain ⟨l, ys, _, e2, _⟩ := B.top_at (d := q.1) (a := q.2) hq
    rw [e, ha] at e2; cases e2
  have nS : ∀ b, ¬ c.O b → b ≠ c.aS ∧ b ≠ c.aL := fun b n => ⟨fun e => n (e ▸ B.oS.1), fun e => n (e ▸ B.oS.2.1)⟩
  have g : Go K (c.Ow F) (c.Ow ((d, a) :: F)) H H' := by
    refine ⟨fun b z => ?_, fun b xs q => ?_, fun b xs n q => ?_⟩
    · rcases z with z | z
      · exact .inl (.inl z)
      · rw [List.map_cons] at z
        rcases List.mem_cons.mp z with z | z
        · exact .inr (by rw [z]; exact ha)
        · exact .inl (.inr z)
    · have neS : ∀ o, H b = some o → (∀ kvs, o ≠ .dK kvs) → b ≠ c.aS := fun o e n z => by rw [z, B.st.dict] at e; exact n _ (Option.some.inj e).symm
      have neL : ∀ o, H b = some o → (∀ ys, o ≠ .lst ys) → b ≠ c.aL := fun o e n z => by rw [z, B.st.lefts] at e; exact n _ (Option.some.inj e).symm
      rcases q with (q | ⟨ob, q⟩) | q
      · exact .inl (.inl (k.obj b _ q trivial (neS _ q fun _ z => by cases z) (neL _ q fun _ z => by cases z)))
      · exact .inl (.inr ⟨ob, k.obj b _ q trivial (neS _ q fun _ z => by cases z) (neL _ q fun _ z => by cases z)⟩)
      · exact .inr q
    · have n' : ¬ c.O b := fun z => n (.inl z)
      exact k.obj b _ q trivial (nS b n').1 (nS b n').2
  refine B'.adopt nO (B.kp.there a ha) nF t (fun q hq => Rep.go g _ _ (B.tT q hq)) fun q hq => ?_
  obtain ⟨t1, n1, _⟩ := B.tF q hq
  exact t1.go g fun xs e => k.obj _ _ e trivial (nS _ n1).1 (nS _ n1).2
theorem call_rd {fn : Fn} {n : Nat} {fa : Env → OSt → R (List Rs)} {σ : L2.St} {H : Hp} {Q : VK} (hn : ∀ ds s r s', fn ds s = .ok r s' → ds.length = n) (h : rd X.K (fun ρ s => (fa ρ s).bind fun rs s' => callR fn rs s') σ H Q) : tCallG X.K fn n (rdA X.K fa) σ H Q := by
  obtain ⟨c, gT, gF, ρ, s, r, s', P, e, q⟩ := h
  obtain ⟨rs, s1, e1, e⟩ := bind_ok e
  unfold callR at e
  obtain ⟨r', s2, e2, e⟩ := bind_ok e
  split at e <;> first | (cases e; done) | skip
  rename_i hbo
  split at e <;> first | (cases e; done) | skip
  rename_i hcl
  cases e
  refine ⟨c, gT, gF, ρ, s, rs, s1, P, e1, fun vs H1 P1 V1 => ?_⟩
  obtain ⟨gT', ⟨T, F, o⟩, h1, h2⟩ := Pt.shares rs vs gT gF V1.length V1.refs P1
  have hl := V1.length
  have inF : ∀ (i k : Nat) (d : D) (a : Addr), rs[i]? = some (.bo k d) → vs[i]? = some (.ref a) → (d, a) ∈ F := fun i k d a e1 e2 => by
    obtain ⟨b, eb, h3, h4⟩ := V1.get i _ _ e1 e2
    cases eb
    obtain ⟨b, h5, h6, _⟩ := o.sl.ow k d h4
    rw [h3] at h5; cases h5; exact h6
  have boF : ∀ a, a ∈ boAddr rs vs → ∃ d, (d, a) ∈ F := fun a ha => by
    obtain ⟨i, k, d, e1, e2⟩ := of_boAddr ha
    exact ⟨d, inF i k d a e1 e2⟩
  have nbo : ∀ a, c.O a → a ∉ boAddr rs vs := fun a ha z => by
    obtain ⟨d, hd⟩ := boF a z
    exact (o.B.tF _ hd).2.1 ha
  have less : ∀ a, (c.Ow F a ∧ a ∉ boAddr rs vs) → c.Ow F a := fun _ z => z.1
  refine ⟨⟨fun a => c.Ow F a ∧ a ∉ boAddr rs vs, H1, c.aS, c.aL, c.aC⟩, rs.map Rs.d, s1, r, s', ?_, ?_, ⟨?_, ?_, ?_⟩, e2, ?_⟩
  · rw [hl, ← List.length_map (f := Rs.d)]; exact hn _ _ _ _ e2
  · refine Reps.of_get (by simpa using hl) fun i d v k1 k2 => ?_
    rw [List.getElem?_map] at k1
    cases hr : rs[i]? with
    | none => rw [hr] at k1; cases k1
    | some r =>
      rw [hr] at k1; cases k1
      by_cases hb : r.isBo = true
      · cases r <;> first | (cases hb; done) | skip
        rename_i k d
        obtain ⟨a, rfl, _, _⟩ := V1.get i _ _ hr k2
        have t := (o.B.tF _ (inF i k d a hr k2)).1
        exact (t.go (Go.less less) fun _ e => e).rep fun z => z.2 (mem_boAddr hr k2)
      · exact Rep.go (Go.less less) _ _ (o.B.tT _ (o.hT _ (h2 i r v hr k2 (by simpa using hb))))
  · exact ⟨o.B.st.dict, o.B.st.cells, o.B.st.lefts, o.B.st.ne, o.B.st.len, o.B.st.pos, o.B.st.most⟩
  · exact ⟨⟨.inl o.B.oS.1, nbo _ o.B.oS.1⟩, ⟨.inl o.B.oS.2.1, nbo _ o.B.oS.2.1⟩, ⟨.inl o.B.oS.2.2, nbo _ o.B.oS.2.2⟩⟩
  · intro a ha
    rcases ha.1 with z | z
    · exact o.B.trk a z
    · obtain ⟨p, hp, e⟩ := List.mem_map.mp z
      obtain ⟨l, xs, _, e2, _⟩ := o.B.top_at (d := p.1) (a := p.2) hp
      exact ⟨.lst xs, by rw [← e]; exact e2, trivial⟩
  · cases r with
    | bo k d => exact (hbo rfl).elim
    | sh d =>
      intro v H' k st rep
      have k' : Keeps c H1 H' := ⟨k.obj, k.there⟩
      have st' : StOk c H' s' := ⟨st.dict, st.cells, st.lefts, st.ne, st.len, st.pos, st.most⟩
      have rep' : Rep X.K c.aS (c.Ow F) H' d v := by
        rw [Bool.or_eq_true] at hcl
        rcases hcl with z | z
        · exact Rep.go (Go.less fun a ha => ⟨ha, by rw [boAddr_freeze z]; simp⟩) _ _ rep
        · exact imm_rep d v z rep
      refine q v H' ⟨_, _, (Opn.addT ⟨o.B.call k' st', o.hT, o.hF, o.nd, o.sl⟩ rep').less (fun p hp => ?_) (List.Sublist.refl _)⟩ trivial
      rcases List.mem_cons.mp hp with e | hp
      · rw [e]; exact List.mem_cons_self
      · exact List.mem_cons_of_mem _ (h1 p hp)
    | fr d =>
      intro a H' k st ha t
      have k' : Keeps c H1 H' := ⟨k.obj, k.there⟩
      have st' : StOk c H' s' := ⟨st.dict, st.cells, st.lefts, st.ne, st.len, st.pos, st.most⟩
      have t' : Top X.K c.aS (c.Ow ((d, a) :: F)) H' d a := by
        have up : ∀ b, c.Ow ((d, a) :: F) b → c.Ow F b ∨ b = a := fun b z => by
          rcases z with z | z
          · exact .inl (.inl z)
          · rw [List.map_cons] at z
            rcases List.mem_cons.mp z with z | z
            · exact .inr z
            · exact .inl (.inr z)
        rw [Bool.or_eq_true] at hcl
        rcases hcl with z | z
        · refine t.go (Go.less fun b hb => ?_) fun _ e => e
          rcases up b hb with w | w
          · exact .inl ⟨w, by rw [boAddr_freeze z]; simp⟩
          · exact .inr w
        · cases d <;> first | exact t.elim | skip
          obtain ⟨xs, e, tt⟩ := t
          exact ⟨xs, e, imms_reps _ _ z tt⟩
      have B := Bs.callFresh o.B k' st' ha t'
      refine q _ H' ⟨T, (d, a) :: F, (Opn.fresh (gF := gF) ⟨o.B, o.hT, o.hF, o.nd, o.sl⟩ B).less h1 (List.Sublist.refl _)⟩ ⟨a, rfl⟩
theorem exTs_sh : ∀ (ds : List D) (vs : List V) (gT gT' : Shd), (∀ p ∈ gT, p ∈ gT') → (∀ p ∈ ds.zip vs, p ∈ gT') → ∀ p ∈ exTs (ds.map Rs.sh) vs gT, p ∈ gT'
  | [], _, _, _, h, _ => h
  | _ :: _, [], _, _, h, _ => h
  | d :: ds, v :: vs, gT, gT', h, h2 => by
    rw [List.map_cons, exTs]
    refine exTs_sh ds vs _ gT' (fun p hp => ?_) fun p hp => h2 p (by rw [List.zip_cons_cons]; exact List.mem_cons_of_mem _ hp)
    rcases List.mem_cons.mp hp with e | hp
    · rw [e]; exact h2 _ (by rw [List.zip_cons_cons]; exact List.mem_cons_self)
    · exact h p hp
theorem exFs_sh : ∀ (ds : List D) (vs : List V) (gF : Own), exFs (ds.map Rs.sh) vs gF = gF
  | [], _, _ => by simp [exFs]
  | _ :: _, [], _ => by simp [exFs]
  | d :: ds, v :: vs, gF => by rw [List.map_cons, exFs]; exact exFs_sh ds vs gF
theorem hds_sh {gF : Own} {σ : L2.St} {ρ : Env} : ∀ (ds : List D) (vs : List V) (gT : Shd), vs.length = ds.length → (∀ p ∈ ds.zip vs, p ∈ gT) → Hds gT gF σ ρ (ds.map Rs.sh) vs
  | [], [], _, _, _ => rfl
  | [], _ :: _, _, h, _ => by simp at h
  | _ :: _, [], _, h, _ => by simp at h
  | d :: ds, v :: vs, gT, h, h2 => ⟨v, vs, rfl, h2 _ (by rw [List.zip_cons_cons]; exact List.mem_cons_self), hds_sh ds vs gT (by simpa using h) fun p hp => h2 p (by rw [List.zip_cons_cons]; exact List.mem_cons_of_mem _ hp)⟩
theorem zip_sub : ∀ (ds : List D) (vs : List V) (gT : Shd), ∀ p ∈ ds.zip vs, p ∈ exTs (ds.map Rs.sh) vs gT
  | [], _, _, p, h => by simp at h
  | _ :: _, [], _, p, h => by simp at h
  | d :: ds, v :: vs, gT, p, h => by
    rw [List.map_cons, exTs]
    rw [List.zip_cons_cons] at h
    rcases List.mem_cons.mp h with e | h
    · rw [e]; exact subTs _ _ _ _ List.mem_cons_self
    · exact zip_sub ds vs _ p h
/-- the keywords' values put in the parameters' order -/
theorem perm_rd {perm : List Nat} {es : E} {n : Nat} {σ : L2.St} {H : Hp} {Q : List V → Hp → Prop} (hn : elen es = n) (hp : ∀ i ∈ perm, i < n)
    (h : rdA X.K (fun ρ s => (evs es ρ s).bind fun rs s1 => if freeze rs then .ok (permR perm rs) s1 else .no) σ H Q) : rdA X.K (evs es) σ H fun ws H1 => Q (perm.map fun i => ws.getD i .non) H1 := by
  obtain ⟨c, gT, gF, ρ, s, rs', s', P, e, q⟩ := h
  obtain ⟨rs, s1, e1, e⟩ := bind_ok e
  split at e <;> first | (cases e; done) | skip
  rename_i hf
  cases e
  refine ⟨c, gT, gF, ρ, s, rs, _, P, e1, fun ws H1 P1 V1 => ?_⟩
  obtain ⟨gT', P', h1, h2⟩ := Pt.shares rs ws gT gF V1.length V1.refs P1
  have hl : rs.length = n := by rw [← hn]; exact evs_len es e1
  have hlw := V1.length
  have ep : permR perm rs = (perm.map fun i => (rs.getD i (.sh .non)).d).map Rs.sh := by unfold permR; rw [List.map_map]; rfl
  have mem : ∀ p ∈ (perm.map fun i => (rs.getD i (.sh .non)).d).zip (perm.map fun i => ws.getD i .non), p ∈ gT' := fun p hp' => by
    rw [List.zip_map'] at hp'
    obtain ⟨i, hi, rfl⟩ := List.mem_map.mp hp'
    have hi1 := hp i hi
    have e1 : rs[i]? = some rs[i] := List.getElem?_eq_getElem (by omega)
    have e2 : ws[i]? = some (ws[i]'(by omega)) := List.getElem?_eq_getElem (by omega)
    rw [List.getD_eq_getElem?_getD, List.getD_eq_getElem?_getD, e1, e2]
    exact h2 i _ _ e1 e2 (freeze_get hf i _ e1)
  rw [ep] at q
  refine q _ H1 ?_ (hds_sh _ _ _ (by simp) (zip_sub _ _ _))
  rw [exFs_sh]
  exact P'.less (exTs_sh _ _ _ _ h1 mem) (List.Sublist.refl _)
end
end RS
end
section
set_option Elab.async false
set_option linter.all false
set_option maxRecDepth 100000
set_option autoImplicit false
set_option maxHeartbeats 2000000
namespace RS
open PySem L2
theorem map_bo {α : Type} {o : Option α} {f : α → Rs} {r : Rs} (hf : ∀ a, (f a).isBo = false) (h : o.map f = some r) : r.isBo = false := by
  rw [Option.map_eq_some_iff] at h
  obtain ⟨a, _, rfl⟩ := h
  exact hf a
theorem seqInts_bo {f : List Int → Option Int} {ds : List D} {r : Rs} (h : seqInts f ds = some r) : r.isBo = false := by
  unfold seqInts at h
  split at h <;> first | exact map_bo (fun _ => rfl) h | cases h
theorem primF_bo {p : Prim} (hp : primPlain p = true) {ds : List D} {r : Rs} (h : primF p ds = some r) : r.isBo = false := by
  cases p <;> first | (cases hp; done) | skip
  · have h : lenF ds = some r := h
    unfold lenF at h
    split at h <;> first | (cases h; rfl) | cases h
  · have h : tupleF ds = some r := h
    unfold tupleF at h
    split at h <;> first | (cases h; rfl) | cases h
  · have h : listF ds = some r := h
    unfold listF at h
    split at h <;> first | (cases h; rfl) | cases h
  · exact seqInts_bo (show seqInts _ ds = some r from h)
  · have h : maxF ds = some r := h
    unfold maxF at h
    split at h
    · cases h; rfl
    · exact seqInts_bo h
  · have h : minF ds = some r := h
    unfold minF at h
    split at h
    · cases h; rfl
    · exact seqInts_bo h
  · have h : int1 _ ds = some r := h
    unfold int1 at h
    split at h <;> first | (cases h; rfl) | cases h
  · have h : int1 _ ds = some r := h
    unfold int1 at h
    split at h <;> first | (cases h; rfl) | cases h
  · have h : gcdF ds = some r := h
    unfold gcdF at h
    split at h <;> first | (cases h; rfl) | cases h
section
variable {X : Cx} {mc : MC}
theorem prim_rd {p : Prim} {es : E} (hp : primPlain p = true) {σ : L2.St} {H : Hp} {Q : VK} (h : rd X.K (ev (.prim p es)) σ H Q) : tCB (rPrim X.K p) (rdA X.K (evs es)) σ H Q := by
  obtain ⟨c, gT, gF, ρ, s, r, s', P, e, q⟩ := h
  rw [ev] at e
  obtain ⟨rs, s1, e1, e⟩ := bind_ok e
  obtain ⟨e2, rfl⟩ := lift_ok e
  refine ⟨c, gT, gF, ρ, s, rs, _, P, e1, fun vs H1 P1 V1 => ?_⟩
  obtain ⟨T, F, o⟩ := P1
  exact ⟨c.aS, c.Ow F, rs.map Rs.d, r, o.tvs V1, e2, Give.of o (subTs rs vs gT) (subFs rs vs gF) q (primF_bo hp e2)⟩
theorem blt_at (ok : CtxOk X mc) {x : String} (h : x ∈ bltNames) : X.mg (Str.ofString x) = none := ok.blt x h
theorem snd_prim (ok : CtxOk X mc) {p : Prim} {es : E} {y : Str} {l : List Expr} {k pos : Pos} (hp : primPlain p = true) (hy : callB mc (primNm p) y = true) (hl : plainEs l = true) (hne : l ≠ []) (ha : PA X l (rdA X.K (evs es)))
    (hgcd : p = .gcd → X.mg "gcd" = some (.builtin "math.gcd")) : PE X (.Call (.Name y k) l [] pos) (rd X.K (ev (.prim p es))) := by
  obtain ⟨rfl, hg, hd⟩ := callB_of ok hy
  cases l with
  | nil => exact (hne rfl).elim
  | cons e l =>
    rw [plainEs, Bool.and_eq_true] at hl
    have st := star_cons (env := X.env) (es := l) hl.1
    have sp := star_plain X.env pos l hl.2
    have hu : X.A.units + 64 < cLine := by have := ok.un; omega
    have b : ∀ x : String, x ∈ bltNames → X.mg (Str.ofString x) = none := ok.blt
    cases p <;> first | (cases hp; done) | skip
    · exact (pe_callB pr_len hg (b _ (by decide)) (by decide +kernel) ha (by decide +kernel) hd st sp).via fun σ H Q h => prim_rd hp h
    · exact (pe_callTy pr_tuple hg (b _ (by decide)) (by decide +kernel) ha (by decide +kernel) hd st sp).via fun σ H Q h => prim_rd hp h
    · exact (pe_callTy pr_list hg (b _ (by decide)) (by decide +kernel) ha (by decide +kernel) hd st sp).via fun σ H Q h => prim_rd hp h
    · exact (pe_callB (pr_sum ok.calm) hg (b _ (by decide)) (by decide +kernel) ha (by decide +kernel) hd st sp).via fun σ H Q h => prim_rd hp h
    · exact (pe_callB (pr_max ok.calm hu) hg (b _ (by decide)) (by decide +kernel) ha (by decide +kernel) hd st sp).via fun σ H Q h => prim_rd hp h
    · exact (pe_callB (pr_min ok.calm hu) hg (b _ (by decide)) (by decide +kernel) ha (by decide +kernel) hd st sp).via fun σ H Q h => prim_rd hp h
    · exact (pe_callB pr_abs hg (b _ (by decide)) (by decide +kernel) ha (by decide +kernel) hd st sp).via fun σ H Q h => prim_rd hp h
    · exact (pe_callTy pr_int hg (b _ (by decide)) (by decide +kernel) ha (by decide +kernel) hd st sp).via fun σ H Q h => prim_rd hp h
    · exact (pe_callBfun pr_gcd hg (hgcd rfl) ha hd st sp).via fun σ H Q h => prim_rd hp h
theorem is_rd {T : String} {f : D → Option Bool} {p : Prim} (hp : primF p = isOf f) {a : E} {σ : L2.St} {H : Hp} {Q : VK} (h : rd X.K (ev (.prim p (.cons a .nil))) σ H Q) : tCB (rIs X.K T f) (tCons (rd X.K (ev a)) (tCons (tC (.ty T)) tNil)) σ H Q := by
  obtain ⟨c, gT, gF, ρ, s, r, s', P, e, q⟩ := h
  rw [ev] at e
  obtain ⟨rs, s1, e1, e⟩ := bind_ok e
  obtain ⟨e2, rfl⟩ := lift_ok e
  rw [evs] at e1
  obtain ⟨rx, s2, e3, e1⟩ := bind_ok e1
  obtain ⟨ry, s3, e4, e1⟩ := bind_ok e1
  rw [evs] at e4
  cases e4
  cases e1
  rw [hp] at e2
  unfold isOf at e2
  simp only [List.map_cons, List.map_nil] at e2
  rw [Option.map_eq_some_iff] at e2
  obtain ⟨b, hb, rfl⟩ := e2
  refine ⟨c, gT, gF, ρ, s, rx, _, P, e3, fun x H1 P1 V1 => ?_⟩
  obtain ⟨T', F, o⟩ := P1
  exact ⟨c.aS, c.Ow F, rx.d, x, b, rfl, o.tv V1.hd, hb, q.sh o (rx.subT x gT) (rx.subF x gF) Rep.bl'⟩
theorem snd_is (ok : CtxOk X mc) {p : Prim} {T : String} {a : E} {x : Expr} {y z : Str} {k k2 pos : Pos} (ht : isTy p = some T) (hy : callB mc "isinstance" y = true) (hz : callB mc T z = true) (hx : plainE x = true) (ha : PE X x (rd X.K (ev a))) :
    PE X (.Call (.Name y k) [x, .Name z k2] [] pos) (rd X.K (ev (.prim p (.cons a .nil)))) := by
  obtain ⟨rfl, hg, hd⟩ := callB_of ok hy
  obtain ⟨rfl, hg2, hd2⟩ := callB_of ok hz
  have b : ∀ x : String, x ∈ bltNames → X.mg (Str.ofString x) = none := ok.blt
  have st := star_cons (env := X.env) (es := [.Name (Str.ofString T) k2]) hx
  cases p <;> first | (cases ht; done) | skip
  all_goals cases ht
  · have hT : PE X (.Name "int" k2) (tC (.ty "int")) := pe_bltn hg2 (b "int" (by decide)) (u := .type "int") (by decide +kernel) rfl
    exact (pe_callB pr_isInt hg (b "isinstance" (by decide)) (by decide +kernel) (pa_cons ha (pa_cons hT pa_nil) st) (by decide +kernel) hd st rfl).via fun σ H Q h => is_rd rfl h
  · have hT : PE X (.Name "bool" k2) (tC (.ty "bool")) := pe_bltn hg2 (b "bool" (by decide)) (u := .type "bool") (by decide +kernel) rfl
    exact (pe_callB pr_isBool hg (b "isinstance" (by decide)) (by decide +kernel) (pa_cons ha (pa_cons hT pa_nil) st) (by decide +kernel) hd st rfl).via fun σ H Q h => is_rd rfl h
  · have hT : PE X (.Name "tuple" k2) (tC (.ty "tuple")) := pe_bltn hg2 (b "tuple" (by decide)) (u := .type "tuple") (by decide +kernel) rfl
    exact (pe_callB pr_isTup hg (b "isinstance" (by decide)) (by decide +kernel) (pa_cons ha (pa_cons hT pa_nil) st) (by decide +kernel) hd st rfl).via fun σ H Q h => is_rd rfl h
/-! ### repr(a) == repr(b) -/
theorem reprEq_rd {ea eb : E} {σ : L2.St} {H : Hp} {Q : VK} (h : rd X.K (ev (.reprEq ea eb)) σ H Q) :
    tOp rEq (tCB (rRepr X.K) (tCons (rd X.K (ev ea)) tNil)) (tCB (rRepr X.K) (tCons (rd X.K (ev eb)) tNil)) σ H Q := by
  obtain ⟨c, gT, gF, ρ, s, r, s', P, e, q⟩ := h
  rw [ev] at e
  obtain ⟨rx, s1, e1, e⟩ := bind_ok e
  obtain ⟨ry, s2, e2, e⟩ := bind_ok e
  split at e <;> first | (cases e; done) | skip
  rename_i hd
  cases e
  obtain ⟨hd, hr⟩ := hd
  refine ⟨c, gT, gF, ρ, s, rx, s1, P, e1, fun x H1 P1 V1 => ?_⟩
  have P1' := P1
  obtain ⟨T, F, o⟩ := P1
  refine ⟨c.aS, c.Ow F, rx.d, x, rfl, o.tv V1.hd, hr, ?_⟩
  refine ⟨c, _, _, ρ, s1, ry, _, P1', e2, fun y H2 P2 V2 => ?_⟩
  obtain ⟨T', F', o'⟩ := P2
  refine ⟨c.aS, c.Ow F', ry.d, y, rfl, o'.tv V2.hd, by rw [← hd]; exact hr, rfl, ?_⟩
  rw [hd, decide_eq_true rfl]
  exact q.sh o' (fun p hp => ry.subT y _ p (rx.subT x gT p hp)) ((rx.subF x gF).trans (ry.subF y _)) Rep.bl'
theorem snd_reprEq (ok : CtxOk X mc) {u v : Expr} {x y : Str} {ea eb : E} {k k2 pos pos2 pos3 : Pos} (hx : callB mc "repr" x = true) (hy : callB mc "repr" y = true) (hu : plainE u = true) (hv : plainE v = true) (ha : PE X u (rd X.K (ev ea))) (hb : PE X v (rd X.K (ev eb))) :
    Snd X (.Compare (.Call (.Name x k) [u] [] pos) [.Eq] [.Call (.Name y k2) [v] [] pos2] pos3) (ev (.reprEq ea eb)) := by
  obtain ⟨rfl, hg, hd⟩ := callB_of ok hx
  obtain ⟨rfl, hg2, hd2⟩ := callB_of ok hy
  have b := ok.blt "repr" (by decide)
  have un : X.A.units + 70 < cLine := by have := ok.un; omega
  have s1 := star_cons (env := X.env) (es := []) hu
  have s2 := star_cons (env := X.env) (es := []) hv
  have p1 := pe_callB (p := k) (pos := pos) (pr_repr ok.gd un) hg b (by decide +kernel) (pa_cons ha pa_nil s1) (by decide +kernel) hd s1 rfl
  have p2 := pe_callB (p := k2) (pos := pos2) (pr_repr ok.gd un) hg2 b (by decide +kernel) (pa_cons hb pa_nil s2) (by decide +kernel) hd2 s2 rfl
  exact ⟨(pe_cmpR op_eq p1 p2 rfl).via fun σ H Q h => reprEq_rd h, (pt_cmpR op_eq p1 p2 rfl).via fun σ H Q h => reprEq_rd (by have := rdT_of h; exact this), fun _ _ _ z => by cases z⟩
end
end RS
end
section
set_option Elab.async false
set_option linter.all false
set_option maxRecDepth 100000
set_option autoImplicit false
set_option maxHeartbeats 2000000
/-! RSState: the draws' state, read and written. -/
namespace RS
open PySem L2
section
variable {K : PySem.W.Frag} {c : Cfg} {T : Shd} {F gF : Own} {gT : Shd} {H : Hp} {s : OSt} {σ : L2.St} {ρ : Env}
theorem isSt_get {i : Nat} (h : isSt ρ i = true) : ρ[i]? = some (.sh .st) := by
  unfold isSt at h
  rw [List.getD_eq_getElem?_getD] at h
  cases q : ρ[i]? with
  | none => rw [q] at h; cases h
  | some y =>
    rw [q] at h
    dsimp only [Option.getD_some] at h
    split at h <;> first | rfl | cases h
theorem Bs.neF (B : Bs K c T F H s) {a : Addr} (ha : c.O a) : ∀ q ∈ F, q.2 ≠ a := fun q hq e => (B.tF q hq).2.1 (e ▸ ha)
theorem Bs.putState (B : Bs K c T F H s) {n : Nat} : Bs K c T F (upd H c.aS (.dK [(.inr "cells", .ref c.aC), (.inr "lefts", .ref c.aL), (.inr "at", .int n)])) ⟨s.cells, s.lefts, n⟩ := by
  have g : Go K (c.Ow F) (c.Ow F) H (upd H c.aS (.dK [(.inr "cells", .ref c.aC), (.inr "lefts", .ref c.aL), (.inr "at", .int n)])) := by
    refine ⟨fun a z => .inl z, fun a xs q => ?_, fun a xs n q => ?_⟩
    · have ne : ∀ o, H a = some o → (∀ kvs, o ≠ .dK kvs) → a ≠ c.aS := fun o e d z => by rw [z, B.st.dict] at e; exact d _ (Option.some.inj e).symm
      rcases q with (q | ⟨ob, q⟩) | q
      · exact .inl (.inl (by rw [upd_ne (ne _ q fun _ z => by cases z)]; exact q))
      · exact .inl (.inr ⟨ob, by rw [upd_ne (ne _ q fun _ z => by cases z)]; exact q⟩)
      · exact .inr q
    · have : a ≠ c.aS := fun z => n (.inl (z ▸ B.oS.1))
      rw [upd_ne this]; exact q
  have n1 : c.aC ≠ c.aS := fun z => by have := B.st.cells; rw [z, B.st.dict] at this; cases this
  have n2 : c.aL ≠ c.aS := fun z => by have := B.st.lefts; rw [z, B.st.dict] at this; cases this
  refine ⟨fun q hq => Rep.go g _ _ (B.tT q hq), fun q hq => ?_, B.nd, ⟨upd_same, by rw [upd_ne n1]; exact B.st.cells, by rw [upd_ne n2]; exact B.st.lefts, B.st.ne, B.st.len, B.st.pos, B.st.most⟩, B.oS, fun a ha => ?_, fun a o e n h1 h2 => ?_, fun a e => ?_⟩
  · obtain ⟨t, n, z⟩ := B.tF q hq
    exact ⟨t.go g fun xs e => by rw [upd_ne (B.neF B.oS.1 q hq)]; exact e, n, z⟩
  · by_cases h : a = c.aS
    · exact ⟨.dK _, by rw [h, upd_same], trivial⟩
    · rw [upd_ne h]; exact B.trk a ha
  · rw [upd_ne h1]; exact B.kp.obj a o e n h1 h2
  · by_cases h : a = c.aS
    · rw [h, upd_same] at e; cases e
    · rw [upd_ne h] at e; exact B.kp.there a e
theorem Bs.putLefts (B : Bs K c T F H s) {ls : List Int} (hl : ls.length = s.lefts.length) : Bs K c T F (upd H c.aL (.lst (ls.map V.int))) ⟨s.cells, ls, s.pos⟩ := by
  have g : Go K (c.Ow F) (c.Ow F) H (upd H c.aL (.lst (ls.map V.int))) := Go.write (.inl B.oS.2.1) B.st.lefts fun _ z => z
  have n2 : c.aS ≠ c.aL := fun z => by have := B.st.lefts; rw [← z, B.st.dict] at this; cases this
  refine ⟨fun q hq => Rep.go g _ _ (B.tT q hq), fun q hq => ?_, B.nd, ⟨by rw [upd_ne n2]; exact B.st.dict, by rw [upd_ne B.st.ne]; exact B.st.cells, upd_same, B.st.ne, hl.trans B.st.len, B.st.pos, B.st.most⟩, B.oS, fun a ha => ?_, fun a o e n h1 h2 => ?_, fun a e => ?_⟩
  · obtain ⟨t, n, z⟩ := B.tF q hq
    exact ⟨t.go g fun xs e => by rw [upd_ne (B.neF B.oS.2.1 q hq)]; exact e, n, z⟩
  · by_cases h : a = c.aL
    · exact ⟨.lst _, by rw [h, upd_same], trivial⟩
    · rw [upd_ne h]; exact B.trk a ha
  · rw [upd_ne h2]; exact B.kp.obj a o e n h1 h2
  · by_cases h : a = c.aL
    · rw [h, upd_same] at e; cases e
    · rw [upd_ne h] at e; exact B.kp.there a e
theorem Opn.state {s' : OSt} {H' : Hp} (o : Opn K c gT gF σ H ρ s T F) (B : Bs K c T F H' s') : Pt K c gT gF σ H' ρ s' := ⟨T, F, B, o.hT, o.hF, o.nd, o.sl⟩
theorem Opn.st_at {i : Nat} (o : Opn K c gT gF σ H ρ s T F) (h : isSt ρ i = true) : σ[i]? = some (some (.ref c.aS)) := by
  obtain ⟨v, h1, h2⟩ := o.sl.sh i _ (isSt_get h)
  have r : Rep K c.aS (c.Ow F) H .st v := o.B.tT _ h2
  rw [Rep] at r
  rw [h1, r]
end
section
variable {X : Cx} {mc : MC}
theorem nm_eq (ok : CtxOk X mc) {i : Nat} {x : Str} {p : Pos} (h : nmB mc i (.Name x p) = true) : PE X (.Name x p) (tVar i) := by
  simp only [nmB, Bool.and_eq_true] at h
  exact pe_var (by rw [← ok.N]; exact of_decide_eq_true h.1.1) (ok.vis h.1.2) (dbg1 h.2) (dbg2 h.2)
/-- state[key] -/
theorem pe_st (ok : CtxOk X mc) {i : Nat} {x y : Str} {p p2 pos : Pos} {n : Nat} (h : nmB mc i (.Name x p) = true) : PE X (.Subscript (.Name x p) (.Constant (.str y) n p2) pos) (tDGet (tVar i) (tC (.str y))) :=
  pe_dget (by have := ok.un; omega) (nm_eq ok h) pe_str (fun _ _ => rfl)
theorem reps_ints {K : PySem.W.Frag} {aS : Addr} {O : Addr → Prop} {H : Hp} : ∀ ns : List Int, Reps K aS O H (ns.map D.int) (ns.map V.int)
  | [] => by rw [List.map_nil, List.map_nil]; exact Reps.nil
  | n :: ns => by rw [List.map_cons, List.map_cons]; exact Reps.cons Rep.int' (reps_ints ns)
theorem rd_st {i : Nat} {y : Str} {f : OSt → Cfg → V} {σ : L2.St} {H : Hp} {Q : VK} (hy : ∀ (c : Cfg) (s : OSt), valV [(.inr "cells", .ref c.aC), (.inr "lefts", .ref c.aL), (.inr "at", .int s.pos)] (.inr y : Key) = some (f s c))
    (h : ∃ c gT gF ρ s, Pt X.K c gT gF σ H ρ s ∧ isSt ρ i = true ∧ Q (f s c) H) : tDGet (tVar i) (tC (.str y)) σ H Q := by
  obtain ⟨c, gT, gF, ρ, s, ⟨T, F, o⟩, hs, q⟩ := h
  refine ⟨.ref c.aS, o.st_at hs, c.aS, f s c, rfl, ?_, q⟩
  have := DGet.k (k := (.inr y : Key)) o.B.st.dict
  rw [hy c s] at this
  exact this
theorem snd_stAt (ok : CtxOk X mc) {i : Nat} {x : Str} {p p2 pos : Pos} {n : Nat} (h : nmB mc i (.Name x p) = true) : PE X (.Subscript (.Name x p) (.Constant (.str "at") n p2) pos) (rd X.K (ev (.stAt i))) := by
  refine (pe_st ok h).via fun σ H Q h => ?_
  obtain ⟨c, gT, gF, ρ, s, r, s', P, e, q⟩ := h
  rw [ev] at e
  split at e <;> first | (cases e; done) | skip
  rename_i hs
  cases e
  refine rd_st (f := fun s _ => .int s.pos) (fun _ _ => rfl) ⟨c, gT, gF, ρ, s, P, hs, ?_⟩
  obtain ⟨T, F, o⟩ := P
  exact q.sh o (fun _ h => h) (List.Sublist.refl _) Rep.int'
theorem snd_stLen (ok : CtxOk X mc) {i : Nat} {x f : Str} {p p2 p3 p4 pos : Pos} {n : Nat} (hf : callB mc "len" f = true) (h : nmB mc i (.Name x p) = true) :
    PE X (.Call (.Name f p4) [.Subscript (.Name x p) (.Constant (.str "cells") n p2) p3] [] pos) (rd X.K (ev (.stLen i))) := by
  obtain ⟨rfl, hg, hd⟩ := callB_of ok hf
  refine (pe_callB pr_len hg (ok.blt "len" (by decide)) (by decide +kernel) (pa_cons (pe_st ok h) pa_nil rfl) (by decide +kernel) hd rfl rfl).via fun σ H Q h => ?_
  obtain ⟨c, gT, gF, ρ, s, r, s', P, e, q⟩ := h
  rw [ev] at e
  split at e <;> first | (cases e; done) | skip
  rename_i hs
  cases e
  refine rd_st (f := fun _ c => .ref c.aC) (fun _ _ => rfl) ⟨c, gT, gF, ρ, s, P, hs, ?_⟩
  obtain ⟨T, F, o⟩ := P
  refine ⟨c.aS, c.Ow F, [.lst (s.cells.map D.int)], _, ⟨_, _, rfl, ⟨_, _, rfl, o.B.st.cells, reps_ints _⟩, rfl⟩, rfl, Give.of o (fun _ h => h) (List.Sublist.refl _) ?_ rfl⟩
  rw [List.length_map]
  exact q
theorem cellF_some {l : List Int} {d : D} {r : Rs} (h : cellF l d = some r) : ∃ n x, d = .int n ∧ atI (l.map V.int) n = some (.int x) ∧ r = .sh (.int x) := by
  unfold cellF at h
  split at h <;> first | (cases h; done) | skip
  rename_i n
  rw [Option.bind_eq_some_iff] at h
  obtain ⟨j, h1, h2⟩ := h
  rw [Option.map_eq_some_iff] at h2
  obtain ⟨x, h2, rfl⟩ := h2
  refine ⟨n, x, rfl, ?_, rfl⟩
  unfold atI
  rw [List.length_map]
  show (ixOf l.length n).bind _ = _
  rw [h1]
  show (l.map V.int)[j]? = _
  rw [List.getElem?_map, h2]; rfl
theorem snd_stIx (ok : CtxOk X mc) {i : Nat} {x y : Str} {p p2 p3 pos : Pos} {n : Nat} {k : E} {e : Expr} {l : OSt → List Int} {a : Cfg → Addr} {g : E} (hev : ∀ ρ s, ev g ρ s = if isSt ρ i then (ev k ρ s).bind fun y s1 => lift (cellF (l s1) y.d) s1 else .no)
    (hy : ∀ (c : Cfg) (s : OSt), valV [(.inr "cells", .ref c.aC), (.inr "lefts", .ref c.aL), (.inr "at", .int s.pos)] (.inr y : Key) = some (.ref (a c))) (ha : ∀ c H s, StOk c H s → H (a c) = some (.lst ((l s).map V.int)))
    (h : nmB mc i (.Name x p) = true) (hp : plainE e = true) (hk : PE X e (rd X.K (ev k))) : PE X (.Subscript (.Subscript (.Name x p) (.Constant (.str y) n p2) p3) e pos) (rd X.K (ev g)) := by
  have hs : PlainIx e := fun o i => by cases e <;> first | rfl | cases hp
  refine (pe_ix ix_list (pe_st ok h) hk hs).via fun σ H Q h => ?_
  obtain ⟨c, gT, gF, ρ, s, r, s', P, e, q⟩ := h
  rw [hev] at e
  split at e <;> first | (cases e; done) | skip
  rename_i hs
  obtain ⟨ry, s1, e1, e⟩ := bind_ok e
  obtain ⟨e2, rfl⟩ := lift_ok e
  obtain ⟨m, z, hd, hz, rfl⟩ := cellF_some e2
  refine rd_st (f := fun _ c => .ref (a c)) hy ⟨c, gT, gF, ρ, s, P, hs, ?_⟩
  refine ⟨c, gT, gF, ρ, s, ry, _, P, e1, fun v H1 P1 V1 => ?_⟩
  obtain ⟨T, F, o⟩ := P1
  have t := o.tv V1.hd
  rw [hd] at t
  refine ⟨a c, _, m, _, rfl, t.int, SqL.of (ha c _ _ o.B.st), hz, ?_⟩
  exact q.sh o (ry.subT v gT) (ry.subF v gF) Rep.int'
/-! ### written -/
theorem Pt.isSt {K : PySem.W.Frag} {c : Cfg} {gT : Shd} {gF : Own} {σ : L2.St} {H : Hp} {ρ : Env} {s : OSt} (P : Pt K c gT gF σ H ρ s) {i : Nat} (h : isSt ρ i = true) : σ[i]? = some (some (.ref c.aS)) := by
  obtain ⟨T, F, o⟩ := P
  exact o.st_at h
end
end RS
end
section
set_option Elab.async false
set_option linter.all false
set_option maxRecDepth 100000
set_option autoImplicit false
set_option maxHeartbeats 2000000
/-! RSLoop: targets, what is walked, comprehensions. -/
namespace RS
open PySem L2
/-! ## targets -/
def Like (σ σ' : L2.St) (vs : List Nat) : Prop := σ'.length = σ.length ∧ ∀ i, i ∉ vs → σ'[i]? = σ[i]?
def LikeE (ρ ρ' : Env) (vs : List Nat) : Prop := ρ'.length = ρ.length ∧ ∀ i, i ∉ vs → ρ'[i]? = ρ[i]?
def rdG (K : PySem.W.Frag) (tg : Tg) : TG := fun v σ H Q => ∃ c gT gF ρ s d ρ', Pt K c gT gF σ H ρ s ∧ (d, v) ∈ gT ∧ bindTg tg d ρ = some ρ' ∧ ∀ σ', Pt K c gT gF σ' H ρ' s → Like σ σ' (tgSlots tg) → Q σ' H
def PairsIn (gT : Shd) : List D → List V → Prop
  | [], vs => vs = []
  | d :: ds, vs => ∃ x xs, vs = x :: xs ∧ (d, x) ∈ gT ∧ PairsIn gT ds xs
def rdGs (K : PySem.W.Frag) (tg : Tg) : TGs := fun vs σ H Q => ∃ c gT gF ρ s ds ρ', Pt K c gT gF σ H ρ s ∧ PairsIn gT ds vs ∧ bindTgs tg ds ρ = some ρ' ∧ ∀ σ', Pt K c gT gF σ' H ρ' s → Like σ σ' (tgSlots tg) → Q σ' H
section
variable {K : PySem.W.Frag} {c : Cfg} {gT gT' : Shd} {gF gF' : Own} {σ σ' : L2.St} {H H' : Hp} {ρ : Env} {s s' : OSt} {T : Shd} {F : Own}
theorem Sl.setSh (sl : Sl T F gF σ ρ) {i : Nat} {d : D} {v : V} (hi : i < ρ.length) (h : (d, v) ∈ T) : Sl T F gF (σ.set i (some v)) (ρ.set i (.sh d)) := by
  have hi' : i < σ.length := by rw [← sl.len]; exact hi
  refine ⟨by simp [sl.len], fun j e hj => ?_, fun j e hj => ?_, fun j k e f a hj hk sj sk => ?_⟩
  · by_cases h1 : j = i
    · subst h1
      rw [List.getElem?_set_self hi] at hj
      cases hj
      exact ⟨v, by rw [List.getElem?_set_self hi'], h⟩
    · rw [List.getElem?_set_ne (Ne.symm h1)] at hj ⊢
      exact sl.sh j e hj
  · by_cases h1 : j = i
    · subst h1
      rw [List.getElem?_set_self hi] at hj
      cases hj
    · rw [List.getElem?_set_ne (Ne.symm h1)] at hj ⊢
      exact sl.ow j e hj
  · have nj : j ≠ i := fun z => by subst z; rw [List.getElem?_set_self hi] at hj; cases hj
    have nk : k ≠ i := fun z => by subst z; rw [List.getElem?_set_self hi] at hk; cases hk
    rw [List.getElem?_set_ne (Ne.symm nj)] at hj sj
    rw [List.getElem?_set_ne (Ne.symm nk)] at hk sk
    exact sl.inj j k e f a hj hk sj sk
theorem Pt.setSh (P : Pt K c gT gF σ H ρ s) {i : Nat} {d : D} {v : V} (hi : i < ρ.length) (h : (d, v) ∈ gT) : Pt K c gT gF (σ.set i (some v)) H (ρ.set i (.sh d)) s := by
  obtain ⟨T, F, o⟩ := P
  exact ⟨T, F, o.B, o.hT, o.hF, o.nd, o.sl.setSh hi (o.hT _ h)⟩
theorem Like.refl (σ : L2.St) (vs : List Nat) : Like σ σ vs := ⟨rfl, fun _ _ => rfl⟩
theorem Like.trans {σ1 : L2.St} {vs ws : List Nat} (a : Like σ σ1 vs) (b : Like σ1 σ' ws) : Like σ σ' (vs ++ ws) :=
  ⟨b.1.trans a.1, fun i hi => (b.2 i fun z => hi (List.mem_append_right _ z)).trans (a.2 i fun z => hi (List.mem_append_left _ z))⟩
theorem Opn.addAll (o : Opn K c gT gF σ H ρ s T F) : ∀ {ds : List D} {xs : List V}, Reps K c.aS (c.Ow F) H ds xs → ∃ gT' T', Opn K c gT' gF σ H ρ s T' F ∧ (∀ p ∈ gT, p ∈ gT') ∧ PairsIn gT' ds xs
  | [], xs, h => by rw [Reps] at h; exact ⟨gT, T, o, fun _ h => h, h⟩
  | d :: ds, xs, h => by
    rw [Reps] at h
    obtain ⟨v, vs, rfl, r, t⟩ := h
    obtain ⟨gT', T', o', h1, h2⟩ := Opn.addAll o t
    refine ⟨_, _, o'.addT r, fun p hp => List.mem_cons_of_mem _ (h1 p hp), v, vs, rfl, List.mem_cons_self, ?_⟩
    clear o' t o
    induction ds generalizing vs with
    | nil => exact h2
    | cons e es ih =>
      obtain ⟨x, xs, rfl, h3, h4⟩ := h2
      exact ⟨x, xs, rfl, List.mem_cons_of_mem _ h3, ih _ h4⟩
theorem PairsIn.mono : ∀ {ds : List D} {vs : List V}, PairsIn gT ds vs → (∀ p ∈ gT, p ∈ gT') → PairsIn gT' ds vs
  | [], _, h, _ => h
  | _ :: _, _, h, m => by
    obtain ⟨x, xs, e, h1, h2⟩ := h
    exact ⟨x, xs, e, m _ h1, PairsIn.mono h2 m⟩
theorem PairsIn.length : ∀ {ds : List D} {vs : List V}, PairsIn gT ds vs → vs.length = ds.length
  | [], _, h => by rw [show _ = [] from h]; rfl
  | _ :: _, _, h => by
    obtain ⟨x, xs, rfl, h1, h2⟩ := h
    simp [PairsIn.length h2]
end
theorem assign_len {env : PySem.Env} : ∀ {es : List Expr}, plainEs es = true → (assignEach es env).length = es.length ∧ (assignEach es env).findIdx? (·.1) = none ∧ ∀ e r, es = e :: r → (assignEach es env).map (·.2) = assign e env :: (assignEach r env).map (·.2)
  | [], _ => ⟨rfl, rfl, fun _ _ h => by cases h⟩
  | e :: es, h => by
    rw [plainEs, Bool.and_eq_true] at h
    obtain ⟨h1, h2, _⟩ := assign_len (env := env) h.2
    have e1 : assignEach (e :: es) env = (false, assign e env) :: assignEach es env := by cases e <;> first | rfl | cases h.1
    rw [e1]
    refine ⟨by simp [h1], ?_, fun e' r z => by cases z; rfl⟩
    rw [List.findIdx?_cons]
    simp [h2]
theorem mtTgs_plain (mc : MC) : ∀ (t : Tg) (es : List Expr), mtTgs mc t es = true → plainEs es = true
  | .nil, [], _ => rfl
  | .cons a b, e :: es, h => by
    rw [mtTgs, Bool.and_eq_true, Bool.and_eq_true] at h
    rw [plainEs, h.1.1, mtTgs_plain mc b es h.2]; rfl
  | .nil, _ :: _, h => by simp [mtTgs] at h
  | .cons _ _, [], h => by simp [mtTgs] at h
  | .nm _, _, h => by simp [mtTgs] at h
  | .tup _, _, h => by simp [mtTgs] at h
theorem bindTgs_len : ∀ (t : Tg) (ds : List D) (ρ ρ' : Env) (mc : MC) (es : List Expr), bindTgs t ds ρ = some ρ' → mtTgs mc t es = true → ds.length = es.length
  | .nil, [], _, _, _, [], _, _ => rfl
  | .cons a b, d :: ds, ρ, ρ', mc, e :: es, h, m => by
    rw [bindTgs, Option.bind_eq_some_iff] at h
    obtain ⟨ρ1, _, h2⟩ := h
    rw [mtTgs, Bool.and_eq_true] at m
    simp [bindTgs_len b ds ρ1 ρ' mc es h2 m.2]
  | .nil, [], _, _, _, _ :: _, _, m => by simp [mtTgs] at m
  | .nil, _ :: _, _, _, _, _, h, _ => by simp [bindTgs] at h
  | .cons _ _, [], _, _, _, _, h, _ => by simp [bindTgs] at h
  | .cons _ _, _ :: _, _, _, _, [], _, m => by simp [mtTgs] at m
  | .nm _, _, _, _, _, _, h, _ => by simp [bindTgs] at h
  | .tup _, _, _, _, _, _, h, _ => by simp [bindTgs] at h
section
variable {X : Cx} {mc : MC}
theorem tg_ok (ok : CtxOk X mc) : ∀ (t : Tg), (∀ e, mtTg mc t e = true → PG X e (rdG X.K t)) ∧ (∀ es, mtTgs mc t es = true → PGs X es (rdGs X.K t)) := by
  intro t
  induction t with
  | nm i =>
    refine ⟨fun e h => ?_, fun es h => by simp [mtTgs] at h⟩
    cases e <;> first | (simp [mtTg] at h; done) | skip
    rename_i x pos
    rw [mtTg, Bool.and_eq_true] at h
    have hN := of_decide_eq_true h.1
    obtain ⟨hl, hf⟩ := ok.loc h.2
    have g := pg_name (X := X) (pos := pos) ok.nd (by rw [← ok.N]; exact hN) hl hf
    refine ⟨fun pins s σ H v u Q I r q => g.run pins s σ H v u Q I r ?_⟩
    obtain ⟨c, gT, gF, ρ, st, d, ρ', P, hm, hb, k⟩ := q
    rw [bindTg] at hb
    split at hb <;> first | (cases hb; done) | skip
    rename_i hi
    cases hb
    exact k _ (P.setSh hi hm) ⟨by simp, fun j hj => by rw [List.getElem?_set_ne]; intro z; exact hj (by simp [tgSlots, z])⟩
  | nil =>
    refine ⟨fun e h => by simp [mtTg] at h, fun es h => ?_⟩
    cases es <;> first | (simp [mtTgs] at h; done) | skip
    refine ⟨fun pins s σ H vs us Q I r q => pgs_nil.run pins s σ H vs us Q I r ?_⟩
    obtain ⟨c, gT, gF, ρ, st, ds, ρ', P, hm, hb, k⟩ := q
    cases ds <;> first | (simp [bindTgs] at hb; done) | skip
    rw [bindTgs] at hb
    cases hb
    exact ⟨hm, k σ P (Like.refl _ _)⟩
  | tup t ih =>
    refine ⟨fun e h => ?_, fun es h => by simp [mtTgs] at h⟩
    cases e <;> first | (simp [mtTg] at h; done) | skip
    rename_i es kk pos
    rw [mtTg] at h
    have pl := mtTgs_plain mc t es h
    obtain ⟨l1, l2, _⟩ := assign_len (env := X.env) pl
    have g := pg_tup (pos := pos) (k := kk) ok.calm (ih.2 es h) l1 l2
    refine ⟨fun pins s σ H v u Q I r q => g.run pins s σ H v u Q I r ?_⟩
    obtain ⟨c, gT, gF, ρ, st, d, ρ', ⟨T, F, o⟩, hm, hb, k⟩ := q
    cases d <;> first | (simp [bindTg] at hb; done) | skip
    rename_i ds
    rw [bindTg] at hb
    have rep := o.B.tT _ (o.hT _ hm)
    rw [Rep] at rep
    obtain ⟨a, xs, e1, hs, t'⟩ := rep
    obtain ⟨gT', T', o', h1, h2⟩ := o.addAll t'
    refine ⟨a, xs, e1, hs, by rw [t'.length]; exact bindTgs_len t ds ρ ρ' mc es hb h, c, gT', gF, ρ, st, ds, ρ', ⟨T', F, o'⟩, h2, hb, fun σ' P' L => k σ' (P'.less h1 (List.Sublist.refl _)) L⟩
  | cons a b iha ihb =>
    refine ⟨fun e h => by simp [mtTg] at h, fun es h => ?_⟩
    cases es with
    | nil => simp [mtTgs] at h
    | cons e es =>
      have pl := mtTgs_plain mc _ _ h
      rw [mtTgs, Bool.and_eq_true, Bool.and_eq_true] at h
      have g := pgs_cons (iha.1 e h.1.2) (ihb.2 es h.2) ((assign_len (env := X.env) pl).2.2 e es rfl)
      refine ⟨fun pins s σ H vs us Q I r q => g.run pins s σ H vs us Q I r ?_⟩
      obtain ⟨c, gT, gF, ρ, st, ds, ρ', P, hm, hb, k⟩ := q
      cases ds <;> first | (simp [bindTgs] at hb; done) | skip
      rename_i d ds
      rw [bindTgs, Option.bind_eq_some_iff] at hb
      obtain ⟨ρ1, hb1, hb2⟩ := hb
      obtain ⟨x, xs, rfl, m1, m2⟩ := hm
      exact ⟨x, xs, rfl, c, gT, gF, ρ, st, d, ρ1, P, m1, hb1, fun σ1 P1 L1 => ⟨c, gT, gF, ρ1, st, ds, ρ', P1, m2, hb2, fun σ2 P2 L2 => k σ2 P2 (L1.trans L2)⟩⟩
end
theorem bindTg_like : ∀ (t : Tg), (∀ d ρ ρ', bindTg t d ρ = some ρ' → LikeE ρ ρ' (tgSlots t)) ∧ (∀ ds ρ ρ', bindTgs t ds ρ = some ρ' → LikeE ρ ρ' (tgSlots t)) := by
  intro t
  induction t with
  | nm i =>
    refine ⟨fun d ρ ρ' h => ?_, fun ds ρ ρ' h => by simp [bindTgs] at h⟩
    rw [bindTg] at h
    split at h <;> cases h
    exact ⟨by simp, fun j hj => by rw [List.getElem?_set_ne]; intro z; exact hj (by simp [tgSlots, z])⟩
  | nil =>
    refine ⟨fun d ρ ρ' h => by simp [bindTg] at h, fun ds ρ ρ' h => ?_⟩
    cases ds <;> simp [bindTgs] at h
    subst h
    exact ⟨rfl, fun _ _ => rfl⟩
  | tup t ih =>
    refine ⟨fun d ρ ρ' h => ?_, fun ds ρ ρ' h => by simp [bindTgs] at h⟩
    cases d <;> first | (simp [bindTg] at h; done) | skip
    rw [bindTg] at h
    exact ih.2 _ _ _ h
  | cons a b iha ihb =>
    refine ⟨fun d ρ ρ' h => by simp [bindTg] at h, fun ds ρ ρ' h => ?_⟩
    cases ds <;> first | (simp [bindTgs] at h; done) | skip
    rw [bindTgs, Option.bind_eq_some_iff] at h
    obtain ⟨ρ1, h1, h2⟩ := h
    obtain ⟨a1, a2⟩ := iha.1 _ _ _ h1
    obtain ⟨b1, b2⟩ := ihb.2 _ _ _ h2
    exact ⟨b1.trans a1, fun i hi => (b2 i fun z => hi (by simp [tgSlots, z])).trans (a2 i fun z => hi (by simp [tgSlots, z]))⟩
/-! ## what is walked -/
structure Wk (K : PySem.W.Frag) (J : It) (c : Cfg) (gT : Shd) (gF : Own) (items : List D) : Prop where
  goes : ∀ (i : Nat), i < items.length → ∀ gT' gF' σ H ρ s, (∀ p ∈ gT, p ∈ gT') → (∀ p ∈ gF, p ∈ gF') → Pt K c gT' gF' σ H ρ s → J.go i H
  stops : ∀ gT' gF' σ H ρ s, (∀ p ∈ gT, p ∈ gT') → (∀ p ∈ gF, p ∈ gF') → Pt K c gT' gF' σ H ρ s → J.stop items.length H
  yields : ∀ (i : Nat) (d : D), items[i]? = some d → ∀ gT' gF' σ H ρ s x H', (∀ p ∈ gT, p ∈ gT') → (∀ p ∈ gF, p ∈ gF') → Pt K c gT' gF' σ H ρ s → J.yld i H x H' → Pt K c ((d, x) :: gT') gF' σ H' ρ s
def rdI (K : PySem.W.Frag) (f : Env → OSt → R (List D × Option Nat)) : TI := fun σ H R => ∃ c gT gF ρ s items b s', Pt K c gT gF σ H ρ s ∧ f ρ s = .ok (items, b) s' ∧
  ∀ J H' gT' gF' ρ', (b = none → ρ' = ρ ∧ gF' = gF) → (∀ i, b = some i → ρ' = ρ.set i .no ∧ ∃ a, gF' = (.lst items, a) :: gF ∧ σ[i]? = some (some (.ref a)) ∧ ρ[i]? = some (.ow (.lst items))) →
    (∀ p ∈ gT, p ∈ gT') → Pt K c gT' gF' σ H' ρ' s' → Wk K J c gT' gF' items → R J H'
section
variable {K : PySem.W.Frag} {c : Cfg} {gT : Shd} {gF : Own} {items : List D} {a b : Addr}
theorem wk_list (h : (.lst items, .ref a) ∈ gT) : Wk K (Itl K a) c gT gF items := by
  have at_ : ∀ gT' gF' σ H ρ s, (∀ p ∈ gT, p ∈ gT') → Pt K c gT' gF' σ H ρ s → ∃ T F xs, Opn K c gT' gF' σ H ρ s T F ∧ H a = some (.lst xs) ∧ Reps K c.aS (c.Ow F) H items xs := by
    rintro gT' gF' σ H ρ s h1 ⟨T, F, o⟩
    have r := o.B.tT _ (o.hT _ (h1 _ h))
    rw [Rep] at r
    obtain ⟨b, xs, e, _, q, t⟩ := r
    cases e
    exact ⟨T, F, xs, o, q, t⟩
  refine ⟨fun i hi gT' gF' σ H ρ s h1 h2 P => ?_, fun gT' gF' σ H ρ s h1 h2 P => ?_, fun i d hd gT' gF' σ H ρ s x H' h1 h2 P y => ?_⟩
  · obtain ⟨T, F, xs, o, q, t⟩ := at_ _ _ _ _ _ _ h1 P
    have hl := t.length
    exact ⟨xs, xs[i]'(by omega), SqL.of q, by simp [show i < xs.length by omega]⟩
  · obtain ⟨T, F, xs, o, q, t⟩ := at_ _ _ _ _ _ _ h1 P
    exact ⟨xs, SqL.of q, by rw [t.length]; exact Nat.le_refl _⟩
  · obtain ⟨T, F, xs, o, q, t⟩ := at_ _ _ _ _ _ _ h1 P
    obtain ⟨rfl, y⟩ := y
    obtain ⟨v, hv, rv⟩ := t.get hd
    have := y xs (SqL.of q)
    rw [hv] at this; cases this
    exact ⟨_, _, o.addT rv⟩
theorem wk_own (h : (.lst items, a) ∈ gF) : Wk K (Itl K a) c gT gF items := by
  have at_ : ∀ gT' gF' σ H ρ s, (∀ p ∈ gF, p ∈ gF') → Pt K c gT' gF' σ H ρ s → ∃ T F xs, Opn K c gT' gF' σ H ρ s T F ∧ H a = some (.lst xs) ∧ Reps K c.aS (c.Ow F) H items xs := by
    rintro gT' gF' σ H ρ s h1 ⟨T, F, o⟩
    obtain ⟨l, xs, e, q, t⟩ := o.B.top_at (o.hF _ (h1 _ h))
    cases e
    exact ⟨T, F, xs, o, q, t⟩
  refine ⟨fun i hi gT' gF' σ H ρ s h1 h2 P => ?_, fun gT' gF' σ H ρ s h1 h2 P => ?_, fun i d hd gT' gF' σ H ρ s x H' h1 h2 P y => ?_⟩
  · obtain ⟨T, F, xs, o, q, t⟩ := at_ _ _ _ _ _ _ h2 P
    have hl := t.length
    exact ⟨xs, xs[i]'(by omega), SqL.of q, by simp [show i < xs.length by omega]⟩
  · obtain ⟨T, F, xs, o, q, t⟩ := at_ _ _ _ _ _ _ h2 P
    exact ⟨xs, SqL.of q, by rw [t.length]; exact Nat.le_refl _⟩
  · obtain ⟨T, F, xs, o, q, t⟩ := at_ _ _ _ _ _ _ h2 P
    obtain ⟨rfl, y⟩ := y
    obtain ⟨v, hv, rv⟩ := t.get hd
    have := y xs (SqL.of q)
    rw [hv] at this; cases this
    exact ⟨_, _, o.addT rv⟩
theorem tup_at {gT' : Shd} {gF' : Own} {σ : L2.St} {H : Hp} {ρ : Env} {s : OSt} (h : (.tup items, .ref a) ∈ gT') (P : Pt K c gT' gF' σ H ρ s) : ∃ T F xs, Opn K c gT' gF' σ H ρ s T F ∧ SqT K H a xs ∧ Reps K c.aS (c.Ow F) H items xs := by
  obtain ⟨T, F, o⟩ := P
  have r := o.B.tT _ (o.hT _ h)
  rw [Rep] at r
  obtain ⟨b, xs, e, q, t⟩ := r
  cases e
  exact ⟨T, F, xs, o, q, t⟩
theorem lst_at {gT' : Shd} {gF' : Own} {σ : L2.St} {H : Hp} {ρ : Env} {s : OSt} (h : (.lst items, .ref a) ∈ gT') (P : Pt K c gT' gF' σ H ρ s) : ∃ T F xs, Opn K c gT' gF' σ H ρ s T F ∧ H a = some (.lst xs) ∧ Reps K c.aS (c.Ow F) H items xs := by
  obtain ⟨T, F, o⟩ := P
  have r := o.B.tT _ (o.hT _ h)
  rw [Rep] at r
  obtain ⟨b, xs, e, _, q, t⟩ := r
  cases e
  exact ⟨T, F, xs, o, q, t⟩
theorem wk_tup (h : (.tup items, .ref a) ∈ gT) : Wk K (Itt K a) c gT gF items := by
  refine ⟨fun i hi gT' gF' σ H ρ s h1 h2 P => ?_, fun gT' gF' σ H ρ s h1 h2 P => ?_, fun i d hd gT' gF' σ H ρ s x H' h1 h2 P y => ?_⟩
  · obtain ⟨T, F, xs, o, q, t⟩ := tup_at (h1 _ h) P
    have hl := t.length
    exact ⟨xs, xs[i]'(by omega), q, by simp [show i < xs.length by omega]⟩
  · obtain ⟨T, F, xs, o, q, t⟩ := tup_at (h1 _ h) P
    exact ⟨xs, q, by rw [t.length]; exact Nat.le_refl _⟩
  · obtain ⟨T, F, xs, o, q, t⟩ := tup_at (h1 _ h) P
    obtain ⟨rfl, y⟩ := y
    obtain ⟨v, hv, rv⟩ := t.get hd
    have := y xs q
    rw [hv] at this; cases this
    exact ⟨_, _, o.addT rv⟩
theorem wk_range (lo : Int) (n : Nat) : Wk K (Itr lo n) c gT gF (fromInts lo n) := by
  refine ⟨fun i hi gT' gF' σ H ρ s h1 h2 P => by show i < n; simpa [fromInts] using hi, fun gT' gF' σ H ρ s h1 h2 P => by simp [fromInts, Itr], fun i d hd gT' gF' σ H ρ s x H' h1 h2 P y => ?_⟩
  obtain ⟨rfl, rfl⟩ := y
  obtain ⟨T, F, o⟩ := P
  have : d = .int (lo + i) := by
    unfold fromInts at hd
    rw [List.getElem?_map] at hd
    cases hr : (List.range n)[i]? with
    | none => rw [hr] at hd; cases hd
    | some k =>
      rw [hr] at hd; cases hd
      rw [List.getElem?_range] at hr
      · cases hr; rfl
      · by_cases h : i < n
        · exact h
        · rw [List.getElem?_eq_none (by simp; omega)] at hr; cases hr
  subst this
  exact ⟨_, _, o.addT Rep.int'⟩
theorem zipD_get : ∀ {xs ys : List D} {i : Nat} {d : D}, (zipD xs ys)[i]? = some d → ∃ x y, xs[i]? = some x ∧ ys[i]? = some y ∧ d = .tup [x, y]
  | [], _, _, _, h => by simp [zipD] at h
  | _ :: _, [], _, _, h => by simp [zipD] at h
  | x :: xs, y :: ys, 0, _, h => by simp [zipD] at h; exact ⟨x, y, rfl, rfl, h.symm⟩
  | x :: xs, y :: ys, i + 1, _, h => by
    simp [zipD] at h
    obtain ⟨a, b, h1, h2, h3⟩ := zipD_get h
    exact ⟨a, b, by simpa using h1, by simpa using h2, h3⟩
theorem zipD_len : ∀ (xs ys : List D), (zipD xs ys).length = min xs.length ys.length
  | [], _ => by simp [zipD]
  | _ :: _, [] => by simp [zipD]
  | x :: xs, y :: ys => by simp [zipD, zipD_len xs ys]
theorem wk_zipT {xs ys : List D} (ha : (.tup xs, .ref a) ∈ gT) (hb : (.tup ys, .ref b) ∈ gT) : Wk K (RZ.ItzT K a b) c gT gF (zipD xs ys) := by
  refine ⟨fun i hi gT' gF' σ H ρ s h1 h2 P => ?_, fun gT' gF' σ H ρ s h1 h2 P => ?_, fun i d hd gT' gF' σ H ρ s x H' h1 h2 P y => ?_⟩
  · obtain ⟨T, F, us, o, q, t⟩ := tup_at (h1 _ ha) P
    obtain ⟨T2, F2, ws, o2, q2, t2⟩ := tup_at (h1 _ hb) P
    have l1 := t.length; have l2 := t2.length
    rw [zipD_len] at hi
    exact ⟨us, ws, us[i]'(by omega), ws[i]'(by omega), q, q2, by simp [show i < us.length by omega], by simp [show i < ws.length by omega]⟩
  · obtain ⟨T, F, us, o, q, t⟩ := tup_at (h1 _ ha) P
    obtain ⟨T2, F2, ws, o2, q2, t2⟩ := tup_at (h1 _ hb) P
    have l1 := t.length; have l2 := t2.length
    exact ⟨us, ws, q, q2, by rw [zipD_len]; omega⟩
  · obtain ⟨T, F, o⟩ := P
    have r1 := o.B.tT _ (o.hT _ (h1 _ ha))
    have r2 := o.B.tT _ (o.hT _ (h1 _ hb))
    rw [Rep] at r1 r2
    obtain ⟨_, us, e1, q1, t1⟩ := r1
    obtain ⟨_, ws, e2, q2, t2⟩ := r2
    cases e1; cases e2
    obtain ⟨dx, dy, g1, g2, rfl⟩ := zipD_get hd
    obtain ⟨v1, hv1, rv1⟩ := t1.get g1
    obtain ⟨v2, hv2, rv2⟩ := t2.get g2
    obtain ⟨Tp, x1, y1, rfl, hT, rfl, f1, f2⟩ := y
    have z1 := f1 us q1; have z2 := f2 ws q2
    rw [hv1] at z1; cases z1
    rw [hv2] at z2; cases z2
    exact ⟨_, _, o.step (fun p hp => List.mem_cons_of_mem _ hp) (fun p hp => by
      rcases List.mem_cons.mp hp with e | hp
      · rw [e]; exact List.mem_cons_self
      · exact List.mem_cons_of_mem _ (o.hT p hp)) (o.B.tup hT (Reps.cons rv1 (Reps.cons rv2 Reps.nil)))⟩
theorem wk_zipL {xs ys : List D} (ha : (.lst xs, .ref a) ∈ gT) (hb : (.lst ys, .ref b) ∈ gT) : Wk K (Itz K a b) c gT gF (zipD xs ys) := by
  refine ⟨fun i hi gT' gF' σ H ρ s h1 h2 P => ?_, fun gT' gF' σ H ρ s h1 h2 P => ?_, fun i d hd gT' gF' σ H ρ s x H' h1 h2 P y => ?_⟩
  · obtain ⟨T, F, us, o, q, t⟩ := lst_at (h1 _ ha) P
    obtain ⟨T2, F2, ws, o2, q2, t2⟩ := lst_at (h1 _ hb) P
    have l1 := t.length; have l2 := t2.length
    rw [zipD_len] at hi
    exact ⟨us, ws, us[i]'(by omega), ws[i]'(by omega), SqL.of q, SqL.of q2, by simp [show i < us.length by omega], by simp [show i < ws.length by omega]⟩
  · obtain ⟨T, F, us, o, q, t⟩ := lst_at (h1 _ ha) P
    obtain ⟨T2, F2, ws, o2, q2, t2⟩ := lst_at (h1 _ hb) P
    have l1 := t.length; have l2 := t2.length
    exact ⟨us, ws, SqL.of q, SqL.of q2, by rw [zipD_len]; omega⟩
  · obtain ⟨T, F, o⟩ := P
    have r1 := o.B.tT _ (o.hT _ (h1 _ ha))
    have r2 := o.B.tT _ (o.hT _ (h1 _ hb))
    rw [Rep] at r1 r2
    obtain ⟨_, us, e1, _, q1, t1⟩ := r1
    obtain ⟨_, ws, e2, _, q2, t2⟩ := r2
    cases e1; cases e2
    obtain ⟨dx, dy, g1, g2, rfl⟩ := zipD_get hd
    obtain ⟨v1, hv1, rv1⟩ := t1.get g1
    obtain ⟨v2, hv2, rv2⟩ := t2.get g2
    obtain ⟨Tp, x1, y1, rfl, hT, rfl, f1, f2⟩ := y
    have z1 := f1 us (SqL.of q1); have z2 := f2 ws (SqL.of q2)
    rw [hv1] at z1; cases z1
    rw [hv2] at z2; cases z2
    exact ⟨_, _, o.step (fun p hp => List.mem_cons_of_mem _ hp) (fun p hp => by
      rcases List.mem_cons.mp hp with e | hp
      · rw [e]; exact List.mem_cons_self
      · exact List.mem_cons_of_mem _ (o.hT p hp)) (o.B.tup hT (Reps.cons rv1 (Reps.cons rv2 Reps.nil)))⟩
end
end RS
end
section
set_option Elab.async false
set_option linter.all false
set_option maxRecDepth 100000
set_option autoImplicit false
set_option maxHeartbeats 2000000
/-! RSComp: what is walked, by the evaluator; comprehensions. -/
namespace RS
open PySem L2
theorem _root_.L2.PI.via {X : Cx} {tg e : Expr} {t t' : TI} (h : PI X tg e t) (i : ∀ σ H R, t' σ H R → t σ H R) : PI X tg e t' := ⟨fun pins s σ H R I q => h.run pins s σ H R I (i σ H R q)⟩
section
variable {K : PySem.W.Frag} {c : Cfg} {gT gT' : Shd} {gF gF' : Own} {σ σ' : L2.St} {H H' : Hp} {ρ ρ' : Env} {s s' : OSt} {T : Shd} {F : Own}
/-- a slot's own thing lent: the slot is wiped -/
theorem Pt.lend (P : Pt K c gT gF σ H ρ s) {i : Nat} {d : D} {a : Addr} (h1 : ρ[i]? = some (.ow d)) (h2 : σ[i]? = some (some (.ref a))) : Pt K c gT ((d, a) :: gF) σ H (ρ.set i .no) s := by
  obtain ⟨T, F, o⟩ := P
  obtain ⟨b, e, hF, n⟩ := o.sl.ow i d h1
  rw [h2] at e; cases e
  have hi : i < ρ.length := by
    rcases Nat.lt_or_ge i ρ.length with h | h
    · exact h
    · rw [List.getElem?_eq_none h] at h1; cases h1
  refine ⟨T, F, o.B, o.hT, fun p hp => ?_, ?_, by simp [o.sl.len], fun j e hj => ?_, fun j e hj => ?_, fun j k e f b hj hk sj sk => ?_⟩
  · rcases List.mem_cons.mp hp with e | hp
    · rw [e]; exact hF
    · exact o.hF p hp
  · rw [List.map_cons, List.nodup_cons]
    exact ⟨n, o.nd⟩
  · by_cases hij : j = i
    · subst hij; rw [List.getElem?_set_self hi] at hj; cases hj
    · rw [List.getElem?_set_ne (Ne.symm hij)] at hj
      exact o.sl.sh j e hj
  · by_cases hij : j = i
    · subst hij; rw [List.getElem?_set_self hi] at hj; cases hj
    · rw [List.getElem?_set_ne (Ne.symm hij)] at hj
      obtain ⟨b, k1, k2, k3⟩ := o.sl.ow j e hj
      refine ⟨b, k1, k2, fun z => ?_⟩
      rw [List.map_cons] at z
      rcases List.mem_cons.mp z with z | z
      · subst z; exact hij (o.sl.inj j i e d _ hj h1 k1 h2)
      · exact k3 z
  · have nj : j ≠ i := fun z => by subst z; rw [List.getElem?_set_self hi] at hj; cases hj
    have nk : k ≠ i := fun z => by subst z; rw [List.getElem?_set_self hi] at hk; cases hk
    rw [List.getElem?_set_ne (Ne.symm nj)] at hj
    rw [List.getElem?_set_ne (Ne.symm nk)] at hk
    exact o.sl.inj j k e f b hj hk sj sk
/-- and given back -/
theorem Pt.unlend {i : Nat} (P : Pt K c gT gF' σ H (ρ.set i .no) s) {d : D} {a : Addr} (hF : (d, a) ∈ gF') (hs : List.Sublist gF gF') (hn : a ∉ gF.map (·.2)) (h1 : ρ[i]? = some (.ow d)) (h2 : σ[i]? = some (some (.ref a))) : Pt K c gT gF σ H ρ s := by
  obtain ⟨T, F, o⟩ := P
  have o' := o.less (fun _ h => h) hs
  have hi : i < ρ.length := by
    rcases Nat.lt_or_ge i ρ.length with h | h
    · exact h
    · rw [List.getElem?_eq_none h] at h1; cases h1
  have aw : ∀ (j : Nat) (e : D) (b : Addr), j ≠ i → ρ[j]? = some (.ow e) → σ[j]? = some (some (.ref b)) → b ≠ a := fun j e b hij hj sj z => by
    obtain ⟨b', k1, _, k3⟩ := o.sl.ow j e (by rw [List.getElem?_set_ne (Ne.symm hij)]; exact hj)
    rw [sj] at k1; cases k1
    exact k3 (z ▸ List.mem_map.mpr ⟨_, hF, rfl⟩)
  refine ⟨T, F, o.B, o'.hT, o'.hF, o'.nd, by have := o.sl.len; simpa using this, fun j e hj => ?_, fun j e hj => ?_, fun j k e f b hj hk sj sk => ?_⟩
  · have hij : j ≠ i := fun z => by subst z; rw [h1] at hj; cases hj
    exact o.sl.sh j e (by rw [List.getElem?_set_ne (Ne.symm hij)]; exact hj)
  · by_cases hij : j = i
    · subst hij
      rw [h1] at hj; cases hj
      exact ⟨a, h2, o.hF _ hF, hn⟩
    · exact o'.sl.ow j e (by rw [List.getElem?_set_ne (Ne.symm hij)]; exact hj)
  · by_cases hji : j = i
    · by_cases hki : k = i
      · rw [hji, hki]
      · subst hji
        rw [h2] at sj; cases sj
        exact (aw k f _ hki hk sk rfl).elim
    · by_cases hki : k = i
      · subst hki
        rw [h2] at sk; cases sk
        exact (aw j e _ hji hj sj rfl).elim
      · exact o.sl.inj j k e f b (by rw [List.getElem?_set_ne (Ne.symm hji)]; exact hj) (by rw [List.getElem?_set_ne (Ne.symm hki)]; exact hk) sj sk
theorem wipeE_length (ρ : Env) : ∀ vs : List Nat, (wipeE ρ vs).length = ρ.length
  | [] => rfl
  | v :: vs => by unfold wipeE; rw [List.length_set, wipeE_length ρ vs]
theorem wipeE_in {ρ : Env} {i : Nat} {x : Slot} : ∀ {vs : List Nat}, (wipeE ρ vs)[i]? = some x → x ≠ .no → i ∉ vs
  | [], _, _ => by simp
  | v :: vs, h, n => by
    unfold wipeE at h
    intro hm
    by_cases e : v = i
    · subst e
      rw [List.getElem?_set] at h
      simp only [if_true] at h
      split at h
      · cases h; exact n rfl
      · cases h
    · rw [List.getElem?_set_ne e] at h
      rcases List.mem_cons.mp hm with z | z
      · exact e z.symm
      · exact wipeE_in h n z
theorem wipeE_out {ρ : Env} {i : Nat} : ∀ {vs : List Nat}, i ∉ vs → (wipeE ρ vs)[i]? = ρ[i]?
  | [], _ => rfl
  | v :: vs, h => by
    have h1 : v ≠ i := fun e => h (by rw [e]; exact List.mem_cons_self)
    unfold wipeE
    rw [List.getElem?_set_ne h1]
    exact wipeE_out fun m => h (List.mem_cons_of_mem _ m)
theorem wipeE_inside {ρ : Env} {i : Nat} : ∀ {vs : List Nat}, i ∈ vs → i < ρ.length → (wipeE ρ vs)[i]? = some .no
  | [], h, _ => by simp at h
  | v :: vs, h, hl => by
    unfold wipeE
    by_cases e : v = i
    · subst e
      rw [List.getElem?_set_self (by rw [wipeE_length]; exact hl)]
    · rw [List.getElem?_set_ne e]
      rcases List.mem_cons.mp h with z | z
      · exact (e z.symm).elim
      · exact wipeE_inside z hl
theorem wipeE_like {vs : List Nat} (h : LikeE ρ ρ' vs) : wipeE ρ' vs = wipeE ρ vs := by
  apply List.ext_getElem?
  intro i
  by_cases hi : i ∈ vs
  · by_cases hl : i < ρ.length
    · rw [wipeE_inside hi hl, wipeE_inside hi (by rw [h.1]; exact hl)]
    · rw [List.getElem?_eq_none (by rw [wipeE_length, h.1]; omega), List.getElem?_eq_none (by rw [wipeE_length]; omega)]
  · rw [wipeE_out hi, wipeE_out hi, h.2 i hi]
theorem wipe_inside {σ : L2.St} {i : Nat} : ∀ {vs : List Nat}, i ∈ vs → i < σ.length → (wipe σ vs)[i]? = some none
  | [], h, _ => by simp at h
  | v :: vs, h, hl => by
    unfold wipe
    by_cases e : v = i
    · subst e
      rw [List.getElem?_set_self (by rw [wipe_length]; exact hl)]
    · rw [List.getElem?_set_ne e]
      rcases List.mem_cons.mp h with z | z
      · exact (e z.symm).elim
      · exact wipe_inside z hl
theorem wipe_like {vs : List Nat} (h : Like σ σ' vs) : wipe σ' vs = wipe σ vs := by
  apply List.ext_getElem?
  intro i
  by_cases hi : i ∈ vs
  · by_cases hl : i < σ.length
    · rw [wipe_inside hi hl, wipe_inside hi (by rw [h.1]; exact hl)]
    · rw [List.getElem?_eq_none (by rw [wipe_length, h.1]; omega), List.getElem?_eq_none (by rw [wipe_length]; omega)]
  · rw [wipe_out hi, wipe_out hi, h.2 i hi]
theorem wipe_wipe (σ : L2.St) (vs : List Nat) : wipe (wipe σ vs) vs = wipe σ vs := wipe_like ⟨wipe_length _ _, fun i hi => wipe_out hi⟩
theorem wipeE_wipeE (ρ : Env) (vs : List Nat) : wipeE (wipeE ρ vs) vs = wipeE ρ vs := wipeE_like ⟨wipeE_length _ _, fun i hi => wipeE_out hi⟩
theorem Opn.wiped (o : Opn K c gT gF σ H ρ s T F) (vs : List Nat) : Opn K c T gF (wipe σ vs) H (wipeE ρ vs) s T F := by
  refine ⟨o.B, fun _ h => h, o.hF, o.nd, by rw [wipeE_length, wipe_length]; exact o.sl.len, fun i d h => ?_, fun i d h => ?_, fun i j d e a hi hj si sj => ?_⟩
  · have n := wipeE_in h (by intro z; cases z)
    rw [wipeE_out n] at h
    rw [wipe_out n]
    exact o.sl.sh i d h
  · have n := wipeE_in h (by intro z; cases z)
    rw [wipeE_out n] at h
    rw [wipe_out n]
    exact o.sl.ow i d h
  · have n := wipeE_in hi (by intro z; cases z)
    have m := wipeE_in hj (by intro z; cases z)
    rw [wipeE_out n] at hi
    rw [wipeE_out m] at hj
    rw [wipe_out n] at si
    rw [wipe_out m] at sj
    exact o.sl.inj i j d e a hi hj si sj
theorem noOw_not {ρ : Env} {vs : List Nat} (h : noOw ρ vs = true) {i : Nat} {d : D} (hi : i ∈ vs) : ρ[i]? ≠ some (.ow d) := by
  intro z
  have := List.all_eq_true.mp h i hi
  rw [List.getD_eq_getElem?_getD, z] at this
  cases this
theorem Pt.unwiped {vs : List Nat} (P : Pt K c gT gF (wipe σ vs) H (wipeE ρ vs) s) (hl : ρ.length = σ.length) (hn : ∀ i ∈ vs, ∀ d, ρ[i]? ≠ some (.ow d)) (hs : ∀ (i : Nat) (d : D), ρ[i]? = some (.sh d) → ∃ v, σ[i]? = some (some v) ∧ (d, v) ∈ gT) : Pt K c gT gF σ H ρ s := by
  obtain ⟨T, F, o⟩ := P
  have nv : ∀ i d, ρ[i]? = some (.ow d) → i ∉ vs := fun i d h z => hn i z d h
  refine ⟨T, F, o.B, o.hT, o.hF, o.nd, hl, fun i d h => ?_, fun i d h => ?_, fun i j d e a hi hj si sj => ?_⟩
  · obtain ⟨v, h1, h2⟩ := hs i d h
    exact ⟨v, h1, o.hT _ h2⟩
  · have n := nv i d h
    have := o.sl.ow i d (by rw [wipeE_out n]; exact h)
    rw [wipe_out n] at this
    exact this
  · have n := nv i d hi
    have m := nv j e hj
    exact o.sl.inj i j d e a (by rw [wipeE_out n]; exact hi) (by rw [wipeE_out m]; exact hj) (by rw [wipe_out n]; exact si) (by rw [wipe_out m]; exact sj)
/-- a guarded own list changed -/
theorem Pt.put {d : D} {a : Addr} (P : Pt K c gT ((d, a) :: gF) σ H ρ s) {ds : List D} {ys : List V} (r : ∀ F, (∀ T, Opn K c gT ((d, a) :: gF) σ H ρ s T F → Reps K c.aS (c.Ow F) H ds ys)) : Pt K c gT ((.lst ds, a) :: gF) σ (upd H a (.lst ys)) ρ s := by
  obtain ⟨T, F, o⟩ := P
  have hF := o.hF _ List.mem_cons_self
  have nd := o.nd
  rw [List.map_cons, List.nodup_cons] at nd
  refine ⟨T, putO F a (.lst ds), o.B.mut hF (r F T o), o.hT, fun p hp => ?_, ?_, o.sl.len, o.sl.sh, fun i e h => ?_, o.sl.inj⟩
  · rcases List.mem_cons.mp hp with e | hp
    · rw [e]; exact mem_putO hF
    · exact mem_putO_ne (o.hF p (List.mem_cons_of_mem _ hp)) fun e => nd.1 (List.mem_map.mpr ⟨p, hp, e⟩)
  · rw [List.map_cons, List.nodup_cons]; exact nd
  · obtain ⟨b, h1, h2, h3⟩ := o.sl.ow i e h
    refine ⟨b, h1, mem_putO_ne h2 fun z => h3 ?_, h3⟩
    rw [z]; exact List.mem_cons_self
end
section
variable {X : Cx} {mc : MC}
/-! ### what is walked -/
theorem snd_itE {a : E} {x tg : Expr} (ha : PE X x (rd X.K (ev a))) : PI X tg x (rdI X.K (evI (.itE a))) := by
  refine ⟨fun pins s σ H R I h => ?_⟩
  obtain ⟨c, gT, gF, ρ, st, items, b, s', P, e, q⟩ := h
  rw [evI] at e
  obtain ⟨rx, s1, e1, e⟩ := bind_ok e
  cases rx with
  | bo i d =>
    cases d <;> first | (cases e; done) | skip
    rename_i l
    cases e
    refine (pi_list ha).run pins s σ H R I ⟨c, gT, gF, ρ, st, _, _, P, e1, fun v H1 P1 V1 => ?_⟩
    obtain ⟨a, rfl, h1, h2⟩ := V1
    have P2 := Pt.lend P1 h2 h1
    have sq : ∃ xs, SqL X.K H1 a xs := by
      obtain ⟨T, F, o⟩ := P1
      obtain ⟨b, h3, h4, _⟩ := o.sl.ow i _ h2
      rw [h1] at h3; cases h3
      obtain ⟨_, xs, _, q1, _⟩ := o.B.top_at h4
      exact ⟨xs, SqL.of q1⟩
    exact ⟨a, rfl, sq, q _ _ gT _ (ρ.set i .no) (fun z => by cases z) (fun j z => by cases z; exact ⟨rfl, a, rfl, h1, h2⟩) (fun _ h => h) P2 (wk_own List.mem_cons_self)⟩
  | sh d =>
    obtain ⟨e3, rfl⟩ := lift_ok (show lift _ _ = _ from e)
    rw [Option.map_eq_some_iff] at e3
    obtain ⟨l, e4, e'⟩ := e3
    cases e'
    have e := e4
    clear e4
    cases d <;> first | (cases e; done) | skip
    · cases e
      refine (pi_tup ha).run pins s σ H R I ⟨c, gT, gF, ρ, st, _, _, P, e1, fun v H1 P1 V1 => ?_⟩
      obtain ⟨T, F, o⟩ := id P1
      have r := o.B.tT _ (o.hT _ List.mem_cons_self)
      rw [Rep] at r
      obtain ⟨a, xs, rfl, q1, t⟩ := r
      exact ⟨a, rfl, ⟨xs, q1⟩, q _ _ _ gF ρ (fun _ => ⟨rfl, rfl⟩) (fun j z => by cases z) (fun p h => List.mem_cons_of_mem _ h) P1 (wk_tup List.mem_cons_self)⟩
    · cases e
      refine (pi_list ha).run pins s σ H R I ⟨c, gT, gF, ρ, st, _, _, P, e1, fun v H1 P1 V1 => ?_⟩
      obtain ⟨T, F, o⟩ := id P1
      have r := o.B.tT _ (o.hT _ List.mem_cons_self)
      rw [Rep] at r
      obtain ⟨a, xs, rfl, _, q1, t⟩ := r
      exact ⟨a, rfl, ⟨xs, SqL.of q1⟩, q _ _ _ gF ρ (fun _ => ⟨rfl, rfl⟩) (fun j z => by cases z) (fun p h => List.mem_cons_of_mem _ h) P1 (wk_list List.mem_cons_self)⟩
  | fr d =>
    obtain ⟨e3, rfl⟩ := lift_ok (show lift _ _ = _ from e)
    rw [Option.map_eq_some_iff] at e3
    obtain ⟨l, e4, e'⟩ := e3
    cases e'
    have e := e4
    clear e4
    cases d <;> first | (cases e; done) | skip
    · refine (pi_tup ha).run pins s σ H R I ⟨c, gT, gF, ρ, st, _, _, P, e1, fun v H1 P1 V1 => ?_⟩
      obtain ⟨a, rfl⟩ := V1
      obtain ⟨T, F, o⟩ := P1
      obtain ⟨_, xs, z, q1, _⟩ := o.B.top_at (o.hF _ List.mem_cons_self)
      cases z
    · cases e
      refine (pi_list ha).run pins s σ H R I ⟨c, gT, gF, ρ, st, _, _, P, e1, fun v H1 P1 V1 => ?_⟩
      obtain ⟨a, rfl⟩ := V1
      have P2 := Pt.forget (gF := gF) P1
      obtain ⟨T, F, o⟩ := P1
      obtain ⟨_, xs, z, q1, _⟩ := o.B.top_at (o.hF _ List.mem_cons_self)
      exact ⟨a, rfl, ⟨xs, SqL.of q1⟩, q _ _ _ gF ρ (fun _ => ⟨rfl, rfl⟩) (fun j z => by cases z) (fun p h => List.mem_cons_of_mem _ h) P2 (wk_list List.mem_cons_self)⟩
theorem smallR_of {i : Int} (h : smallR i = true) : -(2 ^ 62) ≤ i ∧ i < 2 ^ 62 := by
  have h := of_decide_eq_true h
  omega
theorem snd_itRange (ok : CtxOk X mc) {es : E} {y : Str} {l : List Expr} {tg : Expr} {k pos : Pos} (hy : callB mc "range" y = true) (h2 : (match l with | [_] => true | [_, _] => true | _ => false) = true) (hl : plainEs l = true) (hn : elen es = l.length) (ha : PA X l (rdA X.K (evs es))) :
    PI X tg (.Call (.Name y k) l [] pos) (rdI X.K (evI (.itRange es))) := by
  obtain ⟨rfl, hg, hd⟩ := callB_of ok hy
  have b := ok.blt "range" (by decide)
  have core : ∀ (σ : L2.St) (H : Hp) (R : It → Hp → Prop), rdI X.K (evI (.itRange es)) σ H R → (∃ n : Int, l.length = 1 ∧ iRng1 (rdA X.K (evs es)) σ H R) ∨ (l.length = 2 ∧ iRng2 (rdA X.K (evs es)) σ H R) := by
    intro σ H R h
    obtain ⟨c, gT, gF, ρ, st, items, bb, s', P, e, q⟩ := h
    rw [evI] at e
    obtain ⟨rs, s1, e1, e⟩ := bind_ok e
    obtain ⟨e3, rfl⟩ := lift_ok e
    rw [Option.map_eq_some_iff] at e3
    obtain ⟨l', e4, e'⟩ := e3
    cases e'
    have e := e4
    clear e4
    have hrs : rs.length = l.length := by rw [← hn]; exact evs_len es e1
    have hm : (rs.map Rs.d).length = rs.length := by simp
    unfold rangeF at e
    split at e
    · rename_i n hds
      refine .inl ⟨n, by rw [← hrs, ← hm, hds]; rfl, c, gT, gF, ρ, st, rs, _, P, e1, fun vs H1 P1 V1 => ?_⟩
      split at e <;> first | (cases e; done) | skip
      rename_i hb
      cases e
      obtain ⟨T, F, o⟩ := id P1
      have t := o.tvs V1
      rw [hds] at t
      obtain ⟨x, rfl, tx⟩ := tvs1 t
      refine ⟨n, by rw [tx.int], (smallR_of hb).1, (smallR_of hb).2, q _ _ _ gF ρ (fun _ => ⟨rfl, rfl⟩) (fun j z => by cases z) (subTs _ _ _) (P1.less (fun _ h => h) (subFs _ _ _)) (wk_range 0 _)⟩
    · rename_i n m hds
      refine .inr ⟨by rw [← hrs, ← hm, hds]; rfl, c, gT, gF, ρ, st, rs, _, P, e1, fun vs H1 P1 V1 => ?_⟩
      split at e <;> first | (cases e; done) | skip
      rename_i hb
      cases e
      obtain ⟨T, F, o⟩ := id P1
      have t := o.tvs V1
      rw [hds] at t
      obtain ⟨x, y, rfl, tx, ty⟩ := tvs2 t
      refine ⟨n, m, by rw [tx.int, ty.int], ⟨(smallR_of hb.1).1, (smallR_of hb.1).2, (smallR_of hb.2).1, (smallR_of hb.2).2⟩, q _ _ _ gF ρ (fun _ => ⟨rfl, rfl⟩) (fun j z => by cases z) (subTs _ _ _) (P1.less (fun _ h => h) (subFs _ _ _)) (wk_range n _)⟩
    · cases e
  match l, h2, hl, core, ha with
  | [x], _, hl, core, ha =>
    rw [plainEs, Bool.and_eq_true] at hl
    refine (pi_range1 hg b ha (star_cons hl.1)).via fun σ H R h => ?_
    rcases core _ _ _ h with ⟨_, _, h⟩ | ⟨z, h⟩
    · exact h
    · cases z
  | [x, y], _, hl, core, ha =>
    rw [plainEs, plainEs, Bool.and_eq_true, Bool.and_eq_true] at hl
    refine (pi_range2 hg b ha ((star_cons hl.1).trans (by rw [star_cons hl.2.1]; rfl)) (star_cons hl.2.1)).via fun σ H R h => ?_
    rcases core _ _ _ h with ⟨_, z, h⟩ | ⟨z, h⟩
    · cases z
    · exact h
theorem Pt.hdsh {K : PySem.W.Frag} {c : Cfg} {gT : Shd} {gF : Own} {σ : L2.St} {H : Hp} {ρ : Env} {s : OSt} {r : Rs} {v : V} (P : Pt K c gT (r.exF v gF) σ H ρ s) (h : Hd gT (r.exF v gF) σ ρ r v) (hb : r.isBo = false) : ∃ gT', Pt K c gT' gF σ H ρ s ∧ (∀ p ∈ gT, p ∈ gT') ∧ (r.d, v) ∈ gT' := by
  cases r with
  | sh d => exact ⟨gT, P, fun _ h => h, h⟩
  | fr d =>
    obtain ⟨a, rfl, _⟩ := h
    exact ⟨_, Pt.forget (gF := gF) P, fun _ h => List.mem_cons_of_mem _ h, List.mem_cons_self⟩
  | bo i d => cases hb
theorem snd_itZip (ok : CtxOk X mc) {ea eb : E} {y : Str} {u v : Expr} {tg : Expr} {k pos : Pos} (ht : isTup tg = true) (hy : callB mc "zip" y = true) (hu : plainE u = true) (hv : plainE v = true) (ha : PE X u (rd X.K (ev ea))) (hb : PE X v (rd X.K (ev eb))) :
    PI X tg (.Call (.Name y k) [u, v] [] pos) (rdI X.K (evI (.itZip ea eb))) := by
  obtain ⟨rfl, hg, hd⟩ := callB_of ok hy
  have b := ok.blt "zip" (by decide)
  cases tg <;> first | (cases ht; done) | skip
  have s1 := star_cons (env := X.env) (es := [v]) hu
  have s2 := star_cons (env := X.env) (es := []) hv
  refine (RZ.pi_zipA hg b (pa_cons ha (pa_cons hb pa_nil s2) s1) s1 (by rw [s2]; rfl)).via fun σ H R h => ?_
  obtain ⟨c, gT, gF, ρ, st, items, bb, s', P, e, q⟩ := h
  rw [evI] at e
  obtain ⟨rx, sx, e1, e⟩ := bind_ok e
  obtain ⟨ry, sy, e2, e⟩ := bind_ok e
  split at e <;> first | (cases e; done) | skip
  rename_i hbo
  obtain ⟨e3, rfl⟩ := lift_ok e
  rw [Option.map_eq_some_iff] at e3
  obtain ⟨l', e4, e'⟩ := e3
  cases e'
  have e := e4
  clear e4
  have hx : rx.isBo = false := by cases hh : rx.isBo <;> simp_all
  have hy' : ry.isBo = false := by cases hh : ry.isBo <;> simp_all
  refine ⟨c, gT, gF, ρ, st, rx, sx, P, e1, fun x H1 P1 V1 => ⟨c, _, _, ρ, sx, ry, _, P1, e2, fun z H2 P2 V2 => ?_⟩⟩
  obtain ⟨gT1, P3, k1, k2⟩ := Pt.hdsh P2 V2.hd hy'
  have h1 : Hd gT1 (rx.exF x gF) σ ρ rx x := V1.hd.mono (fun p hp => k1 p (ry.subT z _ p hp)) fun _ h => h
  obtain ⟨gT2, P4, k3, k4⟩ := Pt.hdsh P3 h1 hx
  have sub : ∀ p ∈ gT, p ∈ gT2 := fun p hp => k3 p (k1 p (ry.subT z _ p (rx.subT x _ p hp)))
  obtain ⟨T, F, o⟩ := id P4
  have r1 := (o.B.tT _ (o.hT _ k4))
  have r2 := (o.B.tT _ (o.hT _ (k3 _ k2)))
  have m2 := k3 _ k2
  unfold zipF at e
  split at e <;> first | (cases e; done) | skip
  · rename_i xs ys dx dy
    cases e
    rw [dx] at r1 k4
    rw [dy] at r2 m2
    rw [Rep] at r1 r2
    obtain ⟨a, us, rfl, _, q1, t1⟩ := r1
    obtain ⟨a2, ws, rfl, _, q2, t2⟩ := r2
    exact ⟨a, a2, us, ws, rfl, .inl ⟨SqL.of q1, SqL.of q2, q _ _ gT2 gF ρ (fun _ => ⟨rfl, rfl⟩) (fun j z => by cases z) sub P4 (wk_zipL k4 m2)⟩⟩
  · rename_i xs ys dx dy
    cases e
    rw [dx] at r1 k4
    rw [dy] at r2 m2
    rw [Rep] at r1 r2
    obtain ⟨a, us, rfl, q1, t1⟩ := r1
    obtain ⟨a2, ws, rfl, q2, t2⟩ := r2
    exact ⟨a, a2, us, ws, rfl, .inr ⟨q1, q2, q _ _ gT2 gF ρ (fun _ => ⟨rfl, rfl⟩) (fun j z => by cases z) sub P4 (wk_zipT k4 m2)⟩⟩
end
end RS
end
section
set_option Elab.async false
set_option linter.all false
set_option maxRecDepth 100000
set_option autoImplicit false
set_option maxHeartbeats 2000000
/-! RSComp2: comprehensions. -/
namespace RS
open PySem L2
def isOmit : E → Bool
  | .omit => true
  | _ => false
def rdC (K : PySem.W.Frag) (cnd : E) : TT := match cnd with
  | .omit => tYes
  | _ => rdT K (ev cnd)
theorem rdC_of {K : PySem.W.Frag} {cnd : E} {c : Cfg} {gT : Shd} {gF : Own} {σ : L2.St} {H : Hp} {ρ : Env} {s s' : OSt} {b : Bool} {Q : Bool → Hp → Prop} (P : Pt K c gT gF σ H ρ s) (e : ev cnd ρ s = .ok (.sh (.bl b)) s')
    (q : ∀ H', Pt K c gT gF σ H' ρ s' → Q b H') : rdC K cnd σ H Q := by
  unfold rdC
  split
  · rw [ev] at e; cases e
    exact q H P
  · exact ⟨c, gT, gF, ρ, s, b, s', P, e, q⟩
/-- the evaluator's turn of a comprehension -/
def stepC (ρw : Env) (tg : Tg) (cnd elt : E) (d : D) (s : OSt) : R (Option D) := match bindTg tg d ρw with
  | some ρ1 => (ev cnd ρ1 s).bind fun c s2 => match c with
    | .sh (.bl true) => (ev elt ρ1 s2).bind fun y s3 => if y.isBo then .no else .ok (some y.d) s3
    | .sh (.bl false) => .ok none s2
    | _ => .no
  | none => .no
theorem compL_cons {step : D → OSt → R (Option D)} {d : D} {ds acc l : List D} {s s2 : OSt} (h : compL step (d :: ds) acc s = .ok l s2) :
    (∃ s1, step d s = .ok none s1 ∧ compL step ds acc s1 = .ok l s2) ∨ ∃ y s1, step d s = .ok (some y) s1 ∧ acc.length < LIM ∧ compL step ds (acc ++ [y]) s1 = .ok l s2 := by
  rw [compL] at h
  split at h
  · rename_i s1 e
    exact .inl ⟨s1, e, h⟩
  · rename_i y s1 e
    split at h
    · rename_i hl
      exact .inr ⟨y, s1, e, hl, h⟩
    · cases h
  · cases h
theorem stepC_some {ρw : Env} {tg : Tg} {cnd elt : E} {d : D} {s s' : OSt} {r : Option D} (h : stepC ρw tg cnd elt d s = .ok r s') :
    ∃ ρ1 b s2, bindTg tg d ρw = some ρ1 ∧ ev cnd ρ1 s = .ok (.sh (.bl b)) s2 ∧ (if b = true then ∃ y, ev elt ρ1 s2 = .ok y s' ∧ y.isBo = false ∧ r = some y.d else r = none ∧ s' = s2) := by
  unfold stepC at h
  split at h <;> first | (cases h; done) | skip
  rename_i ρ1 e
  obtain ⟨c, s2, e2, h⟩ := bind_ok h
  split at h <;> first | (cases h; done) | skip
  · obtain ⟨y, s3, e3, h⟩ := bind_ok h
    split at h <;> first | (cases h; done) | skip
    rename_i hb
    cases h
    exact ⟨ρ1, true, s2, e, e2, by rw [if_pos rfl]; exact ⟨y, e3, by simpa using hb, rfl⟩⟩
  · cases h
    exact ⟨ρ1, false, _, e, e2, by rw [if_neg (by simp)]; exact ⟨rfl, rfl⟩⟩
theorem LIM_line {n : Nat} (h : n < LIM) : n < sizeLine := by rw [sizeLine_eq]; unfold LIM at h; omega
theorem tgSub {tg : Tg} {vs : List Nat} (h : (tgSlots tg).all (fun i => vs.contains i) = true) : ∀ i ∈ tgSlots tg, i ∈ vs := fun i hi => by
  have := List.all_eq_true.mp h i hi
  simpa using this
/-- the invariant of a comprehension's loop -/
structure CW (K : PySem.W.Frag) (c : Cfg) (gT : Shd) (gF : Own) (σ : L2.St) (ρ : Env) (vs : List Nat) (tg : Tg) (cnd elt : E) (L : Addr) (items l : List D) (s2 : OSt) (i m : Nat) (H : Hp) : Prop where
  hm : m = items.length - i
  hi : i ≤ items.length
  at_ : ∃ gT' acc s, (∀ p ∈ gT, p ∈ gT') ∧ (∀ (i : Nat) (d : D), ρ[i]? = some (.sh d) → ∃ v, σ[i]? = some (some v) ∧ (d, v) ∈ gT') ∧
    Pt K c gT' ((.lst acc, L) :: gF) (wipe σ vs) H (wipeE ρ vs) s ∧ compL (stepC (wipeE ρ vs) tg cnd elt) (items.drop i) acc s = .ok l s2
section
variable {K : PySem.W.Frag}
theorem comp_walk {c : Cfg} {gT : Shd} {gF : Own} {σ : L2.St} {H1 : Hp} {ρ : Env} {vs : List Nat} {tg : Tg} {cnd elt : E} {items l : List D} {s1 s2 : OSt} {J : It} {Q : VK}
    (hs : ∀ i ∈ tgSlots tg, i ∈ vs) (P : Pt K c gT gF σ H1 ρ s1) (wk : Wk K J c gT gF items) (hn : ∀ i ∈ vs, ∀ d, ρ[i]? ≠ some (.ow d)) (e : compL (stepC (wipeE ρ vs) tg cnd elt) items [] s1 = .ok l s2)
    (q : ∀ gT' L H', (∀ p ∈ gT, p ∈ gT') → Pt K c gT' ((.lst l, L) :: gF) σ H' ρ s2 → Q (.ref L) H') :
    ∀ D, H1 D = none → ∃ W : Nat → Nat → Hp → Prop, (∃ m, W 0 m (upd H1 D (.lst []))) ∧ ∀ i m H, W i m H →
      (J.stop i H ∧ Q (.ref D) H) ∨ (J.go i H ∧ ∃ Nx : Hp → Prop, (∀ H', Nx H' → ∃ m', m' < m ∧ W (i + 1) m' H') ∧ ∀ x H', J.yld i H x H' → rdG K tg x (wipe σ vs) H' fun σ2 H2 => wipe σ2 vs = wipe σ vs ∧ rdC K cnd σ2 H2 fun b H3 =>
        if b = true then rd K (ev elt) σ2 H3 fun y H4 => ∃ acc, H4 D = some (.lst acc) ∧ acc.length < sizeLine ∧ Nx (upd H4 D (.lst (acc ++ [y]))) else Nx H3) := by
  intro L hL
  refine ⟨CW K c gT gF σ ρ vs tg cnd elt L items l s2, ⟨items.length, rfl, Nat.zero_le _, ?_⟩, ?_⟩
  · obtain ⟨T, F, o⟩ := P
    have o2 : Opn K c gT ((.lst [], L) :: gF) σ (upd H1 L (.lst [])) ρ s1 T ((.lst [], L) :: F) := o.fresh (o.B.lst hL Reps.nil)
    exact ⟨T, [], s1, o.hT, o.sl.sh, ⟨_, _, o2.wiped vs⟩, e⟩
  · rintro i m H ⟨rfl, hi, gT', acc, s, h1, h2, P', e'⟩
    by_cases hlt : i < items.length
    · refine .inr ⟨wk.goes i hlt _ _ _ _ _ _ h1 (fun p hp => List.mem_cons_of_mem _ hp) P', CW K c gT gF σ ρ vs tg cnd elt L items l s2 (i + 1) (items.length - (i + 1)), fun H' w => ⟨_, by omega, w⟩, fun x H' y => ?_⟩
      have hd : items[i]? = some items[i] := List.getElem?_eq_getElem hlt
      have P2 := wk.yields i _ hd _ _ _ _ _ _ x H' h1 (fun p hp => List.mem_cons_of_mem _ hp) P' y
      rw [List.drop_eq_getElem_cons hlt] at e'
      have st : ∃ r s3, stepC (wipeE ρ vs) tg cnd elt items[i] s = .ok r s3 ∧ (match r with | none => compL (stepC (wipeE ρ vs) tg cnd elt) (items.drop (i + 1)) acc s3 = .ok l s2 | some y => acc.length < LIM ∧ compL (stepC (wipeE ρ vs) tg cnd elt) (items.drop (i + 1)) (acc ++ [y]) s3 = .ok l s2) := by
        rcases compL_cons e' with ⟨s3, a, b⟩ | ⟨y, s3, a, b⟩
        · exact ⟨none, s3, a, b⟩
        · exact ⟨some y, s3, a, b⟩
      obtain ⟨r, s3, e1, e2⟩ := st
      obtain ⟨ρ1, b, s4, hb, ec, ee⟩ := stepC_some e1
      refine ⟨c, _, _, _, s, _, ρ1, P2, List.mem_cons_self, hb, fun σ' P3 lk => ?_⟩
      have lk' : Like (wipe σ vs) σ' vs := ⟨lk.1, fun i hi => lk.2 i fun z => hi (hs i z)⟩
      have lkE : LikeE (wipeE ρ vs) ρ1 vs := by
        obtain ⟨a, b⟩ := (bindTg_like tg).1 _ _ _ hb
        exact ⟨a, fun i hi => b i fun z => hi (hs i z)⟩
      have w1 : wipe σ' vs = wipe σ vs := (wipe_like lk').trans (wipe_wipe σ vs)
      have w2 : wipeE ρ1 vs = wipeE ρ vs := (wipeE_like lkE).trans (wipeE_wipeE ρ vs)
      refine ⟨w1, rdC_of P3 ec fun H3 P4 => ?_⟩
      have back : ∀ {gT2 : Shd} {acc2 : List D} {H5 : Hp} {s5 : OSt}, (∀ p ∈ gT', p ∈ gT2) → Pt K c gT2 ((.lst acc2, L) :: gF) σ' H5 ρ1 s5 → compL (stepC (wipeE ρ vs) tg cnd elt) (items.drop (i + 1)) acc2 s5 = .ok l s2 → CW K c gT gF σ ρ vs tg cnd elt L items l s2 (i + 1) (items.length - (i + 1)) H5 := fun k P5 e5 => by
        obtain ⟨T, F, o⟩ := P5
        refine ⟨rfl, hlt, T, _, _, fun p hp => o.hT p (k p (h1 p hp)), fun j d hj => ?_, ?_, e5⟩
        · obtain ⟨v, a, b⟩ := h2 j d hj
          exact ⟨v, a, o.hT _ (k _ b)⟩
        · have o2 := o.wiped vs
          rw [w1, w2] at o2
          exact ⟨_, _, o2⟩
      cases b with
      | false =>
        rw [if_neg (by simp)] at ee ⊢
        obtain ⟨rfl, rfl⟩ := ee
        exact back (fun p hp => List.mem_cons_of_mem _ hp) P4 e2
      | true =>
        rw [if_pos rfl] at ee ⊢
        obtain ⟨ye, ee, hbo, rfl⟩ := ee
        refine ⟨c, _, _, ρ1, s4, ye, s3, P4, ee, fun v H4 P5 V5 => ?_⟩
        have P6 := Pt.share1 P5 V5 hbo
        have ok : ∃ xs, H4 L = some (.lst xs) ∧ xs.length = acc.length := by
          obtain ⟨T, F, o⟩ := P6
          obtain ⟨_, xs, z, a, t⟩ := o.B.top_at (o.hF _ List.mem_cons_self)
          cases z
          exact ⟨xs, a, t.length⟩
        obtain ⟨xs, hx, hlx⟩ := ok
        refine ⟨xs, hx, by rw [hlx]; exact LIM_line e2.1, ?_⟩
        have P7 := Pt.put (ds := acc ++ [ye.d]) (ys := xs ++ [v]) P6 fun F T o => by
          obtain ⟨_, xs', z, a, t⟩ := o.B.top_at (o.hF _ List.mem_cons_self)
          cases z
          rw [hx] at a; cases a
          exact t.append (Reps.cons (o.B.tT _ (o.hT _ List.mem_cons_self)) Reps.nil)
        exact back (fun p hp => List.mem_cons_of_mem _ (List.mem_cons_of_mem _ hp)) P7 e2.2
    · have hi' : i = items.length := by omega
      subst hi'
      rw [List.drop_length] at e'
      cases e'
      have st := wk.stops _ _ _ _ _ _ h1 (fun p hp => List.mem_cons_of_mem _ hp) P'
      obtain ⟨T, F, o⟩ := P
      exact .inl ⟨st, q gT' L H h1 (P'.unwiped o.sl.len hn h2)⟩
theorem comp_tlc {vs : List Nat} {tg : Tg} {it cnd elt : E} (hs : ∀ i ∈ tgSlots tg, i ∈ vs) {σ : L2.St} {H : Hp} {Q : VK} (h : rd K (ev (.comp vs tg it cnd elt)) σ H Q) : tLc (rdI K (evI it)) (rdG K tg) (rdC K cnd) (rd K (ev elt)) vs σ H Q := by
  obtain ⟨c, gT, gF, ρ, s, r, s', P, e, q⟩ := h
  rw [ev] at e
  obtain ⟨⟨items, b⟩, s1, e1, e⟩ := bind_ok e
  dsimp only at e
  split at e <;> first | (cases e; done) | skip
  rename_i hno
  obtain ⟨l, s2, e2, e⟩ := bind_ok e
  cases e
  refine ⟨c, gT, gF, ρ, s, items, b, s1, P, e1, fun J H1 gT' gF' ρ' hb1 hb2 hsub P' wk => ?_⟩
  have e2 : compL (stepC (wipeE ρ' vs) tg cnd elt) items [] s1 = .ok l s' := by
    cases b with
    | none => rw [(hb1 rfl).1]; exact e2
    | some i => rw [(hb2 i rfl).1]; exact e2
  have hn : ∀ i ∈ vs, ∀ d, ρ'[i]? ≠ some (.ow d) := fun i hi d z => by
    cases b with
    | none => rw [(hb1 rfl).1] at z; exact noOw_not hno hi z
    | some k =>
      rw [(hb2 k rfl).1] at z
      by_cases hk : k = i
      · subst hk
        rw [List.getElem?_set] at z
        simp only [if_true] at z
        split at z <;> cases z
      · rw [List.getElem?_set_ne hk] at z
        exact noOw_not hno hi z
  refine comp_walk hs P' wk hn e2 fun gT2 L H2 k P2 => ?_
  refine q (.ref L) H2 ?_ ⟨L, rfl⟩
  cases b with
  | none =>
    obtain ⟨rfl, rfl⟩ := hb1 rfl
    exact P2.less (fun p hp => k p (hsub p hp)) (List.Sublist.refl _)
  | some i =>
    obtain ⟨rfl, a, rfl, h1, h2⟩ := hb2 i rfl
    have nd : (((D.lst l, L) :: (D.lst items, a) :: gF).map (·.2)).Nodup := by
      obtain ⟨T, F, o⟩ := P2
      exact o.nd
    simp only [List.map_cons, List.nodup_cons, List.mem_cons, not_or] at nd
    refine Pt.less (Pt.unlend (gF := (D.lst l, L) :: gF) P2 (List.mem_cons_of_mem _ List.mem_cons_self) ((List.sublist_cons_self _ _).cons_cons _) ?_ h2 h1) (fun p hp => k p (hsub p hp)) (List.Sublist.refl _)
    simp only [List.map_cons, List.mem_cons, not_or]
    exact ⟨fun z => nd.1.1 z.symm, nd.2.1⟩
end
end RS
end
section
set_option Elab.async false
set_option linter.all false
set_option maxRecDepth 100000
set_option autoImplicit false
set_option maxHeartbeats 4000000
/-! RSSnd: every expression that matches does what the evaluator says. -/
namespace RS
open PySem L2
theorem fold_plain {x : Expr} (h : plainE x = true) (env : PySem.Env) : ∀ v, foldedSetIterable x env v = pure v := by
  intro v
  cases x <;> first | rfl | cases h
theorem mtEs_len (mc : MC) : ∀ (e : E) (l : List Expr), mtEs e mc l = true → elen e = l.length := by
  intro e
  induction e with
  | nil => intro l h; cases l <;> simp [mtEs, elen] at h ⊢
  | cons a b _ ih =>
    intro l h
    cases l with
    | nil => simp [mtEs] at h
    | cons x r =>
      rw [mtEs, Bool.and_eq_true] at h
      simp [elen, ih r h.2]
  | _ => intro l h; simp [mtEs] at h
def SndAll (e : E) : Prop := ∀ (X : Cx) (mc : MC), CtxOk X mc → okE (lvOf X) e →
  (∀ x, mtE e mc x = true → Snd X x (ev e)) ∧ (∀ l, mtEs e mc l = true → PA X l (rdA X.K (evs e))) ∧ (∀ tg x, mtI e mc tg x = true → PI X tg x (rdI X.K (evI e)) ∧ ∀ v, foldedSetIterable x X.env v = pure v)
theorem SndAll.of {e : E} (h : ∀ (X : Cx) (mc : MC), CtxOk X mc → okE (lvOf X) e → ∀ x, mtE e mc x = true → Snd X x (ev e)) (h1 : ∀ mc l, mtEs e mc l = false) (h2 : ∀ mc tg x, mtI e mc tg x = false) : SndAll e :=
  fun X mc ok hk => ⟨h X mc ok hk, ⟨fun l z => absurd z (by rw [h1]; simp), fun tg x z => absurd z (by rw [h2]; simp)⟩⟩
theorem SndAll.ofA {e : E} (h : ∀ (X : Cx) (mc : MC), CtxOk X mc → okE (lvOf X) e → ∀ l, mtEs e mc l = true → PA X l (rdA X.K (evs e))) (h1 : ∀ mc l, mtE e mc l = false) (h2 : ∀ mc tg x, mtI e mc tg x = false) : SndAll e :=
  fun X mc ok hk => ⟨fun l z => absurd z (by rw [h1]; simp), ⟨h X mc ok hk, fun tg x z => absurd z (by rw [h2]; simp)⟩⟩
theorem SndAll.ofI {e : E} (h : ∀ (X : Cx) (mc : MC), CtxOk X mc → okE (lvOf X) e → ∀ tg x, mtI e mc tg x = true → PI X tg x (rdI X.K (evI e)) ∧ ∀ v, foldedSetIterable x X.env v = pure v) (h1 : ∀ mc l, mtE e mc l = false) (h2 : ∀ mc l, mtEs e mc l = false) : SndAll e :=
  fun X mc ok hk => ⟨fun l z => absurd z (by rw [h1]; simp), ⟨fun l z => absurd z (by rw [h2]; simp), h X mc ok hk⟩⟩
theorem blk_ok {X : Cx} {mc : MC} (ok : CtxOk X mc) {scope : Scope} {own : List (Str × Nat)} (h : blkC mc.N mc.sc scope own = true) (s : Shared) (H : Hp) (C : Addr) (cl : List (Str × Addr)) (fp : List Addr) :
    CtxOk (X.blk s H scope (compEnvC scope cl C X.env) fp) ⟨mc.N, relS scope mc.sc, fun y => scope.names.lookup y == some .cell⟩ :=
  ⟨ok.nd, ok.calm, ok.blt, ok.gd, ok.un, ok.N, by rw [ok.sc]; rfl, fun x h => h, (blkOk_by h).kind⟩
def SndK (e : E) : Prop := ∀ (X : Cx) (mc : MC), CtxOk X mc → okE (lvOf X) e → ∀ kws : List Keyword, mtEs e mc (kws.map (·.value)) = true → PK X kws (rdA X.K (evs e))
theorem _root_.L2.PK.via {X : Cx} {ks : List Keyword} {t t' : TA} (h : PK X ks t) (i : ∀ σ H Q, t' σ H Q → t σ H Q) : PK X ks t' := ⟨fun pos pins s σ H Q I q => h.run pos pins s σ H Q I (i σ H Q q)⟩
theorem kws_nil {X : Cx} : PK X [] (rdA X.K (evs .nil)) := pk_nil.via fun σ H Q h => by
  obtain ⟨c, gT, gF, ρ, s, rs, s', P, e, q⟩ := h
  rw [evs] at e
  cases e
  exact q [] H P rfl
theorem kws_cons {X : Cx} {nm : Option Str} {kpos : Pos} {e : Expr} {es : List Keyword} {ea eb : E} (ha : PE X e (rd X.K (ev ea))) (hb : PK X es (rdA X.K (evs eb))) : PK X (⟨nm, e, kpos⟩ :: es) (rdA X.K (evs (.cons ea eb))) := by
  refine (pk_cons ha hb).via fun σ H Q h => ?_
  obtain ⟨c, gT, gF, ρ, s, rs, s', P, e, q⟩ := h
  rw [evs] at e
  obtain ⟨rx, s1, e1, e⟩ := bind_ok e
  obtain ⟨ry, s2, e2, e⟩ := bind_ok e
  cases e
  refine ⟨c, gT, gF, ρ, s, rx, s1, P, e1, fun x H1 P1 V1 => ⟨c, _, _, ρ, s1, ry, _, P1, e2, fun vs H2 P2 V2 => ?_⟩⟩
  exact q (x :: vs) H2 P2 ⟨x, vs, rfl, V1.hd.mono (subTs ry vs _) fun p hp => (subFs ry vs _).subset hp, V2⟩
theorem kw_all {pos : Pos} {env : PySem.Env} : ∀ {kws : List Keyword} {ks : List String}, kws.map (·.arg) = (ks.map fun k => some (Str.ofString k)) →
    (backToKw pos (keywordEach kws env)).all (·.1.isSome) = true ∧ (backToKw pos (keywordEach kws env)).filterMap (·.1) = ks.map Str.ofString ∧ (backToKw pos (keywordEach kws env)).any (·.1.isNone) = false
  | [], [], _ => ⟨rfl, rfl, rfl⟩
  | [], _ :: _, h => by cases h
  | _ :: _, [], h => by cases h
  | ⟨nm, e, p⟩ :: r, y :: ys, h => by
    rw [List.map_cons, List.map_cons, List.cons.injEq] at h
    obtain ⟨h1, h2⟩ := h
    obtain ⟨a, b, c⟩ := kw_all h2
    have h1 : nm = some (Str.ofString y) := h1
    subst h1
    refine ⟨?_, ?_, ?_⟩
    · show (true && (backToKw pos (keywordEach r env)).all (·.1.isSome)) = true
      rw [a]; rfl
    · show Str.ofString y :: (backToKw pos (keywordEach r env)).filterMap (·.1) = _
      rw [b]; rfl
    · show (false || (backToKw pos (keywordEach r env)).any (·.1.isNone)) = false
      rw [c]; rfl
theorem vals_get : ∀ {vs : List V} {us : List Value}, Vals vs us → ∀ i, i < vs.length → RelV (vs.getD i .non) (us.getD i .none)
  | _, _, .nil, i, h => by simp at h
  | _, _, .cons r rr, 0, h => r
  | _, _, .cons r rr, i + 1, h => by
    have := vals_get rr i (by simpa using h)
    simpa using this
theorem vals_map {perm : List Nat} {f : Nat → V} {g : Nat → Value} : (∀ i ∈ perm, RelV (f i) (g i)) → Vals (perm.map f) (perm.map g) := by
  intro h
  induction perm with
  | nil => exact .nil
  | cons i r ih => exact .cons (h i List.mem_cons_self) (ih fun j hj => h j (List.mem_cons_of_mem _ hj))
theorem pe_gK {X : Cx} {k : Nat} {f : Addr} {fd : FuncData} {ps : List Str} {fn : Fn} {x : Str} {p pos : Pos} {kws : List Keyword} {ks : List String} {perm : List Nat} {tk : TA}
    (F : FnG X.prog X.w X.K X.mg X.base k f fd ps fn) (hr : Room k X.A) (hgd : X.A.guards = some []) (hg : Gl X x) (hm : X.mg x = some (.ref f)) (hk : PySem.W.keepIn X.K (.ref f) = true)
    (hb : ∀ (s : Shared) (ws : List Value), X.K.In s.heap → ws.length = ks.length → BindsTo s fd ⟨[], (ks.map Str.ofString).zip ws⟩ (ps.zip (perm.map fun i => ws.getD i .none))) (hp : ∀ i ∈ perm, i < ks.length)
    (hkw : PK X kws tk) (hn : kws.map (·.arg) = (ks.map fun k => some (Str.ofString k))) (hl : ∀ σ H Q, tk σ H Q → tk σ H fun vs H1 => vs.length = ks.length ∧ Q vs H1) (hdb : (x == ("__debug__" : Str)) = false) :
    PE X (.Call (.Name x p) [] kws pos) (tCallG X.K fn ps.length (fun σ H Q => tk σ H fun ws H1 => Q (perm.map fun i => ws.getD i .non) H1)) := by
  obtain ⟨h1, h2, h3⟩ := kw_all (pos := pos) (env := X.env) hn
  refine ⟨fun pins s σ H Q I h => wpAny_Call_Name_kw (ld_glob I hg hm ?_ hdb)⟩
  have h : tk σ H fun ws H1 => spF X.K fn ps.length (perm.map fun i => ws.getD i .non) H1 Q := h
  refine PySem.W.callWith_KW0 (h₀ := X.base) I.ok.mod.kin hk h1 (thn (hkw.run pos pins s σ H _ I (hl _ _ _ h)) fun us s1 ⟨vs, H1, I1, r, q1, q⟩ => ⟨I1.kIn, ?_⟩) (by rw [h3]; rfl)
  rw [h2]
  have hlu : us.length = ks.length := by rw [← r.length]; exact q1
  have rel : Vals (perm.map fun i => vs.getD i .non) (perm.map fun i => us.getD i .none) := vals_map fun i hi => vals_get r i (by rw [q1]; exact hp i hi)
  refine wpAny_call (codeAny_mono (F.go X.A X.stack s1 H1 ⟨[], (ks.map Str.ofString).zip us⟩ _ _ Q hr hgd I1.env0 (hb s1 us I1.kIn hlu) rel q) fun res s' hq => ?_)
  cases res with
  | error e => exact False.elim hq
  | ok fl =>
    cases fl with
    | ret u => exact I1.after hq
    | next => exact False.elim hq
    | brk => exact False.elim hq
    | cont => exact False.elim hq
theorem snd_all (e : E) : SndAll e ∧ (∀ a b, e = .cons a b → SndAll a) ∧ SndK e := by

  induction e with
  | var i =>
    refine ⟨?_, (fun _ _ z => by cases z), fun X mc ok hk kws z => by simp [mtEs] at z⟩
    refine .of (fun X mc ok hk x h => ?_) (by intro mc l; simp [mtEs]) (by intro mc tg x; simp [mtI])
    cases x <;> first | (simp [mtE] at h; done) | skip
    rename_i x pos
    rw [mtE, Bool.and_eq_true, Bool.and_eq_true] at h
    exact .of_pe (snd_var ok (of_decide_eq_true h.1.1) h.1.2 h.2) (fun _ => rfl) (fun _ _ _ z => by cases z)
  | con d =>
    refine ⟨?_, (fun _ _ z => by cases z), fun X mc ok hk kws z => by simp [mtEs] at z⟩
    refine .of (fun X mc ok hk x h => ?_) (by intro mc l; simp [mtEs]) (by intro mc tg x; simp [mtI])
    cases x <;> first | (simp [mtE] at h; done) | skip
    rw [mtE] at h
    exact .of_pe (snd_con h) (fun _ => rfl) (fun _ _ _ z => by cases z)
  | glob y d =>
    refine ⟨?_, (fun _ _ z => by cases z), fun X mc ok hk kws z => by simp [mtEs] at z⟩
    refine .of (fun X mc ok hk x h => ?_) (by intro mc l; simp [mtEs]) (by intro mc tg x; simp [mtI])
    cases x <;> first | (simp [mtE] at h; done) | skip
    rw [mtE] at h
    exact .of_pe (snd_glob ok hk h) (fun _ => rfl) (fun _ _ _ z => by cases z)
  | nil =>
    refine ⟨?_, (fun _ _ z => by cases z), fun X mc ok hk kws z => by
      first | (cases kws <;> first | (simp [mtEs] at z; done) | exact kws_nil)⟩
    refine .ofA (fun X mc ok hk l h => ?_) (by intro mc l; simp [mtE]) (by intro mc tg x; simp [mtI])
    cases l <;> first | (simp [mtEs] at h; done) | skip
    exact args_nil
  | cons a b iha ihb =>
    have iha := iha.1
    have ihk := ihb
    have ihb := ihb.1
    have ihk := ihk.2.2
    refine ⟨?_, (fun _ _ z => by cases z; exact iha), fun X mc ok hk kws z => by
      cases kws <;> first | (simp [mtEs] at z; done) | skip
      rename_i kw _
      obtain ⟨_, _, _⟩ := kw
      rw [List.map_cons, mtEs, Bool.and_eq_true, Bool.and_eq_true] at z
      exact kws_cons ((iha X mc ok hk.1).1 _ z.1.2).pe (ihk X mc ok hk.2 _ z.2)⟩
    refine .ofA (fun X mc ok hk l h => ?_) (by intro mc l; simp [mtE]) (by intro mc tg x; simp [mtI])
    cases l <;> first | (simp [mtEs] at h; done) | skip
    rw [mtEs, Bool.and_eq_true, Bool.and_eq_true] at h
    exact args_cons h.1.1 ((iha X mc ok hk.1).1 _ h.1.2).pe ((ihb X mc ok hk.2).2.1 _ h.2)
  | «omit» =>
    refine ⟨?_, (fun _ _ z => by cases z), fun X mc ok hk kws z => by simp [mtEs] at z⟩
    refine .of (fun X mc ok hk x h => ?_) (by intro mc l; simp [mtEs]) (by intro mc tg x; simp [mtI])
    simp [mtE] at h
  | tup es ih =>
    have ih := ih.1
    refine ⟨?_, (fun _ _ z => by cases z), fun X mc ok hk kws z => by simp [mtEs] at z⟩
    refine .of (fun X mc ok hk x h => ?_) (by intro mc l; simp [mtEs]) (by intro mc tg x; simp [mtI])
    cases x <;> first | (simp [mtE] at h; done) | skip
    rw [mtE, Bool.and_eq_true] at h
    exact .of_pe (snd_tup (of_decide_eq_true h.1) ((ih X mc ok hk).2.1 _ h.2)) (fun _ => rfl) (fun _ _ _ z => by cases z)
  | lst es ih =>
    have ih := ih.1
    refine ⟨?_, (fun _ _ z => by cases z), fun X mc ok hk kws z => by simp [mtEs] at z⟩
    refine .of (fun X mc ok hk x h => ?_) (by intro mc l; simp [mtEs]) (by intro mc tg x; simp [mtI])
    cases x <;> first | (simp [mtE] at h; done) | skip
    rw [mtE, Bool.and_eq_true] at h
    exact .of_pe (snd_lst (of_decide_eq_true h.1) ((ih X mc ok hk).2.1 _ h.2)) (fun _ => rfl) (fun _ _ _ z => by cases z)
  | bin o a b iha ihb =>
    have iha := iha.1
    have ihb := ihb.1
    refine ⟨?_, (fun _ _ z => by cases z), fun X mc ok hk kws z => by simp [mtEs] at z⟩
    refine .of (fun X mc ok hk x h => ?_) (by intro mc l; simp [mtEs]) (by intro mc tg x; simp [mtI])
    cases x <;> first | (simp [mtE] at h; done) | skip
    rw [mtE, Bool.and_eq_true, Bool.and_eq_true] at h
    obtain ⟨⟨h1, h2⟩, h3⟩ := h
    rw [of_decide_eq_true h1]
    exact .of_pe (snd_bin ((iha X mc ok hk.1).1 _ h2).pe ((ihb X mc ok hk.2).1 _ h3).pe) (fun _ => rfl) (fun _ _ _ z => by cases z)
  | neg a iha =>
    have iha := iha.1
    refine ⟨?_, (fun _ _ z => by cases z), fun X mc ok hk kws z => by simp [mtEs] at z⟩
    refine .of (fun X mc ok hk x h => ?_) (by intro mc l; simp [mtEs]) (by intro mc tg x; simp [mtI])
    cases x <;> first | (simp [mtE] at h; done) | skip
    rw [mtE, Bool.and_eq_true] at h
    rw [of_decide_eq_true h.1]
    exact .of_pe (snd_neg ((iha X mc ok hk).1 _ h.2).pe) (fun _ => rfl) (fun _ _ _ z => by cases z)
  | cmp o a b iha ihb =>
    have iha := iha.1
    have ihb := ihb.1
    refine ⟨?_, (fun _ _ z => by cases z), fun X mc ok hk kws z => by simp [mtEs] at z⟩
    refine .of (fun X mc ok hk x h => ?_) (by intro mc l; simp [mtEs]) (by intro mc tg x; simp [mtI])
    cases x <;> first | (simp [mtE] at h; done) | skip
    rename_i x ops cs pos
    cases ops with
    | nil => simp [mtE] at h
    | cons op r =>
      cases r with
      | cons _ _ => simp [mtE] at h
      | nil =>
        cases cs with
        | nil => simp [mtE] at h
        | cons y r =>
          cases r with
          | cons _ _ => simp [mtE] at h
          | nil =>
            rw [mtE, Bool.and_eq_true, Bool.and_eq_true, Bool.and_eq_true] at h
            obtain ⟨⟨⟨h1, h2⟩, h3⟩, h4⟩ := h
            rw [of_decide_eq_true h1]
            have pa := ((iha X mc ok hk.1).1 _ h3).pe
            have pb := ((ihb X mc ok hk.2).1 _ h4).pe
            exact ⟨snd_cmp ok h2 pa pb, tst_cmp ok h2 pa pb, fun _ _ _ z => by cases z⟩
  | chain o1 o2 a b c iha ihb ihc =>
    have iha := iha.1
    have ihb := ihb.1
    have ihc := ihc.1
    refine ⟨?_, (fun _ _ z => by cases z), fun X mc ok hk kws z => by simp [mtEs] at z⟩
    refine .of (fun X mc ok hk x h => ?_) (by intro mc l; simp [mtEs]) (by intro mc tg x; simp [mtI])
    cases x <;> first | (simp [mtE] at h; done) | skip
    rename_i x ops cs pos
    match ops, cs, h with
    | [p, q], [y, z], h =>
      rw [mtE] at h
      simp only [Bool.and_eq_true] at h
      obtain ⟨⟨⟨⟨⟨⟨h1, h2⟩, h3⟩, h4⟩, h5⟩, h6⟩, h7⟩ := h
      rw [of_decide_eq_true h1, of_decide_eq_true h2]
      exact snd_chain ok h4 ((iha X mc ok hk.1).1 _ h5).pe ((ihb X mc ok hk.2.1).1 _ h6).pe ((ihc X mc ok hk.2.2).1 _ h7).pe
    | [], _, h => simp [mtE] at h
    | [_], _, h => simp [mtE] at h
    | _ :: _ :: _ :: _, _, h => simp [mtE] at h
    | [_, _], [], h => simp [mtE] at h
    | [_, _], [_], h => simp [mtE] at h
    | [_, _], _ :: _ :: _ :: _, h => simp [mtE] at h
  | and a b iha ihb =>
    have iha := iha.1
    have ihb := ihb.1
    refine ⟨?_, (fun _ _ z => by cases z), fun X mc ok hk kws z => by simp [mtEs] at z⟩
    refine .of (fun X mc ok hk x h => ?_) (by intro mc l; simp [mtEs]) (by intro mc tg x; simp [mtI])
    cases x <;> first | (simp [mtE] at h; done) | skip
    rename_i op vs pos
    match vs, h with
    | [], h => simp [mtE] at h
    | [_], h => simp [mtE] at h
    | [x, y], h =>
      simp only [mtE, Bool.and_eq_true] at h
      obtain ⟨⟨h1, h2⟩, h3⟩ := h
      rw [of_decide_eq_true h1]
      have pb := (ihb X mc ok hk.2).1 _ h3
      exact snd_and ((iha X mc ok hk.1).1 _ h2) (pe_one pb.pe) (pw_and1 pb.pt)
    | x :: y :: z :: r, h =>
      simp only [mtE, Bool.and_eq_true] at h
      obtain ⟨⟨h1, h2⟩, h3⟩ := h
      rw [of_decide_eq_true h1]
      have pb := (ihb X mc ok hk.2).1 _ h3
      exact snd_and ((iha X mc ok hk.1).1 _ h2) pb.pe (pb.pw _ _ _ rfl)
  | or a b iha ihb =>
    have iha := iha.1
    have ihb := ihb.1
    refine ⟨?_, (fun _ _ z => by cases z), fun X mc ok hk kws z => by simp [mtEs] at z⟩
    refine .of (fun X mc ok hk x h => ?_) (by intro mc l; simp [mtEs]) (by intro mc tg x; simp [mtI])
    cases x <;> first | (simp [mtE] at h; done) | skip
    rename_i op vs pos
    match vs, h with
    | [], h => simp [mtE] at h
    | [_], h => simp [mtE] at h
    | [x, y], h =>
      simp only [mtE, Bool.and_eq_true] at h
      obtain ⟨⟨h1, h2⟩, h3⟩ := h
      rw [of_decide_eq_true h1]
      have pb := (ihb X mc ok hk.2).1 _ h3
      exact snd_or ((iha X mc ok hk.1).1 _ h2) (pe_one pb.pe) (pw_or1 pb.pt)
    | x :: y :: z :: r, h =>
      simp only [mtE, Bool.and_eq_true] at h
      obtain ⟨⟨h1, h2⟩, h3⟩ := h
      rw [of_decide_eq_true h1]
      have pb := (ihb X mc ok hk.2).1 _ h3
      exact snd_or ((iha X mc ok hk.1).1 _ h2) pb.pe (pb.pw _ _ _ rfl)
  | not a iha =>
    have iha := iha.1
    refine ⟨?_, (fun _ _ z => by cases z), fun X mc ok hk kws z => by simp [mtEs] at z⟩
    refine .of (fun X mc ok hk x h => ?_) (by intro mc l; simp [mtEs]) (by intro mc tg x; simp [mtI])
    cases x <;> first | (simp [mtE] at h; done) | skip
    rw [mtE, Bool.and_eq_true] at h
    rw [of_decide_eq_true h.1]
    exact snd_not ((iha X mc ok hk).1 _ h.2)
  | ife c a b ihc iha ihb =>
    have ihc := ihc.1
    have iha := iha.1
    have ihb := ihb.1
    refine ⟨?_, (fun _ _ z => by cases z), fun X mc ok hk kws z => by simp [mtEs] at z⟩
    refine .of (fun X mc ok hk x h => ?_) (by intro mc l; simp [mtEs]) (by intro mc tg x; simp [mtI])
    cases x <;> first | (simp [mtE] at h; done) | skip
    rw [mtE, Bool.and_eq_true, Bool.and_eq_true] at h
    exact snd_ife ((ihc X mc ok hk.1).1 _ h.1.1) ((iha X mc ok hk.2.1).1 _ h.1.2) ((ihb X mc ok hk.2.2).1 _ h.2)
  | idx a i iha ihi =>
    have iha := iha.1
    have ihi := ihi.1
    refine ⟨?_, (fun _ _ z => by cases z), fun X mc ok hk kws z => by simp [mtEs] at z⟩
    refine .of (fun X mc ok hk x h => ?_) (by intro mc l; simp [mtEs]) (by intro mc tg x; simp [mtI])
    cases x <;> first | (simp [mtE] at h; done) | skip
    rw [mtE, Bool.and_eq_true, Bool.and_eq_true] at h
    exact .of_pe (snd_idx h.1.1 ((iha X mc ok hk.1).1 _ h.1.2).pe ((ihi X mc ok hk.2).1 _ h.2).pe) (fun _ => rfl) (fun _ _ _ z => by cases z)
  | slc a lo hi iha ihl ihh =>
    have iha := iha.1
    have ihl := ihl.1
    have ihh := ihh.1
    refine ⟨?_, (fun _ _ z => by cases z), fun X mc ok hk kws z => by simp [mtEs] at z⟩
    refine .of (fun X mc ok hk x h => ?_) (by intro mc l; simp [mtEs]) (by intro mc tg x; simp [mtI])
    cases x <;> first | (simp [mtE] at h; done) | skip
    rename_i x y pos
    cases y <;> first | (simp [mtE] at h; done) | skip
    rename_i l hh st p2
    cases st with
    | some _ => simp [mtE] at h
    | none =>
      unfold mtE at h
      rw [Bool.and_eq_true, Bool.and_eq_true] at h
      obtain ⟨⟨h1, h2⟩, h3⟩ := h
      refine .of_pe (snd_slc ((iha X mc ok hk.1).1 _ h1).pe (lo := l) (hi := hh) ?_ ?_) (fun _ => rfl) (fun _ _ _ z => by cases z)
      · cases l with
        | none =>
          cases lo <;> first | (cases h2; done) | exact po_omit
        | some l => exact po_int ((ihl X mc ok hk.2.1).1 _ h2).pe (by rintro rfl; simp [mtE] at h2)
      · cases hh with
        | none =>
          cases hi <;> first | (cases h3; done) | exact po_omit
        | some l => exact po_int ((ihh X mc ok hk.2.2).1 _ h3).pe (by rintro rfl; simp [mtE] at h3)
  | rev a iha =>
    have iha := iha.1
    refine ⟨?_, (fun _ _ z => by cases z), fun X mc ok hk kws z => by simp [mtEs] at z⟩
    refine .of (fun X mc ok hk x h => ?_) (by intro mc l; simp [mtEs]) (by intro mc tg x; simp [mtI])
    unfold mtE at h
    split at h <;> first | (rename_i z; cases z; done) | (cases h; done) | skip
    all_goals first | (exfalso; simp_all; done) | skip
    rename_i heq
    cases heq
    rw [Bool.and_eq_true] at h
    rw [of_decide_eq_true h.1]
    exact .of_pe (snd_rev ((iha _ _ ok hk).1 _ h.2).pe) (fun _ => rfl) (fun _ _ _ z => by cases z)
  | call y f es ih =>
    have ih := ih.1
    refine ⟨?_, (fun _ _ z => by cases z), fun X mc ok hk kws z => by simp [mtEs] at z⟩
    refine .of (fun X mc ok hk x h => ?_) (by intro mc l; simp [mtEs]) (by intro mc tg x; simp [mtI])
    cases x <;> first | (simp [mtE] at h; done) | skip
    rename_i g l ks pos
    cases g <;> first | (simp [mtE] at h; done) | skip
    cases ks with
    | cons _ _ => simp [mtE] at h
    | nil =>
      rw [mtE, Bool.and_eq_true, Bool.and_eq_true] at h
      obtain ⟨⟨h1, h2⟩, h3⟩ := h
      obtain ⟨rfl, hg, hd⟩ := callB_of ok h1
      obtain ⟨⟨k, ad, fd, ps, c1, c2, c3, c4, c5, c6⟩, he⟩ := hk
      have pl := mtEs_plain mc _ _ h2
      cases l with
      | nil => simp at h3
      | cons z r =>
        have pl' := pl
        rw [plainEs, Bool.and_eq_true] at pl'
        refine .of_pe ((pe_g c4 c5 ok.gd hg c1 c2 c3 ((ih X mc ok he).2.1 _ h2) hd (star_cons pl'.1) (star_plain _ _ _ pl'.2)).via fun σ H Q q => call_rd c6 ?_) (fun _ => rfl) (fun _ _ _ z => by cases z)
        obtain ⟨c, gT, gF, ρ, s, rr, s', P, e, q⟩ := q
        rw [ev] at e
        exact ⟨c, gT, gF, ρ, s, rr, s', P, e, q⟩
  | callK y f es ks kes perm ih1 ih2 =>
    have ihk := ih2.2.2
    refine ⟨?_, (fun _ _ z => by cases z), fun X mc ok hk kws z => by simp [mtEs] at z⟩
    refine .of (fun X mc ok hk x h => ?_) (by intro mc l; simp [mtEs]) (by intro mc tg x; simp [mtI])
    unfold mtE at h
    split at h <;> first | (rename_i z; cases z; done) | (cases h; done) | skip
    all_goals first | (exfalso; simp_all; done) | skip
    rename_i heq
    cases heq
    simp only [Bool.and_eq_true] at h
    obtain ⟨⟨h1, h2⟩, h3⟩ := h
    obtain ⟨rfl, hg, hd⟩ := callB_of ok h1
    obtain ⟨⟨k, ad, fd, ps, c1, c2, c3, c4, c5, c6, c7⟩, he⟩ := hk
    have hn := of_decide_eq_true h2
    have el : elen kes = ks.length := by
      have := mtEs_len _ _ _ h3
      have e2 := congrArg List.length hn
      simp at this e2
      omega
    refine .of_pe ((pe_gK c5 c6 ok.gd hg c1 c2 c3 c4 (ihk _ _ ok he _ h3) hn (fun σ H Q q => ?_) hd).via fun σ H Q q => ?_) (fun _ => rfl) (fun _ _ _ z => by cases z)
    · obtain ⟨c, gT, gF, ρ, s, rs, s', P, e, q⟩ := q
      exact ⟨c, gT, gF, ρ, s, rs, s', P, e, fun vs H' P' V => ⟨by rw [V.length, evs_len _ e, el], q vs H' P' V⟩⟩
    · obtain ⟨c, gT, gF, ρ, s, rr, s', P, e, q⟩ := q
      rw [ev] at e
      exact perm_rd el c4 (call_rd c7 ⟨c, gT, gF, ρ, s, rr, s', P, e, q⟩)
  | prim p es ih =>
    have ih0 := ih.2.1
    have ih := ih.1
    refine ⟨?_, (fun _ _ z => by cases z), fun X mc ok hk kws z => by simp [mtEs] at z⟩
    refine .of (fun X mc ok hk x h => ?_) (by intro mc l; simp [mtEs]) (by intro mc tg x; simp [mtI])
    cases x <;> first | (simp [mtE] at h; done) | skip
    rename_i g l ks pos
    cases g <;> first | (simp [mtE] at h; done) | skip
    cases ks with
    | cons _ _ => simp [mtE] at h
    | nil =>
      unfold mtE at h
      by_cases hp : primPlain p = true
      · rw [if_pos hp] at h
        simp only [Bool.and_eq_true] at h
        obtain ⟨⟨h1, h2⟩, h3⟩ := h
        exact .of_pe (snd_prim ok hp h1 (mtEs_plain mc _ _ h2) (by rintro rfl; simp at h3) ((ih X mc ok hk.2).2.1 _ h2) hk.1) (fun _ => rfl) (fun _ _ _ z => by cases z)
      · rw [if_neg hp] at h
        split at h <;> first | (cases h; done) | skip
        simp only [Bool.and_eq_true] at h
        obtain ⟨⟨⟨h1, h2⟩, h3⟩, h4⟩ := h
        exact .of_pe (snd_is ok ‹isTy p = some _› h1 h2 h3 ((ih0 _ _ rfl X mc ok hk.2.1).1 _ h4).pe) (fun _ => rfl) (fun _ _ _ z => by cases z)
  | reprEq a b iha ihb =>
    have iha := iha.1
    have ihb := ihb.1
    refine ⟨?_, (fun _ _ z => by cases z), fun X mc ok hk kws z => by simp [mtEs] at z⟩
    refine .of (fun X mc ok hk x h => ?_) (by intro mc l; simp [mtEs]) (by intro mc tg x; simp [mtI])
    unfold mtE at h
    split at h <;> first | (rename_i z; cases z; done) | (cases h; done) | skip
    all_goals first | (exfalso; simp_all; done) | skip
    rename_i heq
    cases heq
    simp only [Bool.and_eq_true] at h
    obtain ⟨⟨⟨⟨⟨⟨h1, h2⟩, h3⟩, h4⟩, h5⟩, h6⟩, h7⟩ := h
    rw [of_decide_eq_true h1]
    exact snd_reprEq ok h2 h3 h4 h5 ((iha _ _ ok hk.1).1 _ h6).pe ((ihb _ _ ok hk.2).1 _ h7).pe
  | comp vs tg it cnd elt ihi ihc ihe =>
    have ihi := ihi.1
    have ihc := ihc.1
    have ihe := ihe.1
    refine ⟨?_, (fun _ _ z => by cases z), fun X mc ok hk kws z => by simp [mtEs] at z⟩
    refine .of (fun X mc ok hk x h => ?_) (by intro mc l; simp [mtEs]) (by intro mc tg x; simp [mtI])
    cases x <;> first | (simp [mtE] at h; done) | skip
    rename_i x gs scope pos
    match gs, h with
    | [], h => simp [mtE] at h
    | _ :: _ :: _, h => simp [mtE] at h
    | [⟨t, i, ifs, as⟩], h =>
      unfold mtE at h
      dsimp only at h
      simp only [Bool.and_eq_true] at h
      obtain ⟨⟨⟨⟨h0, h1⟩, h2⟩, h3⟩, ⟨⟨⟨h4, h5⟩, h6⟩, h7⟩⟩ := h
      have h0 := of_decide_eq_true h0
      subst h0
      have hv : (ownOf mc.N vs).map (·.2) = vs := by unfold ownOf; rw [List.map_map]; exact List.map_id' vs
      have bk : BlkOk X.N X.env.scope scope (ownOf mc.N vs) := by rw [← ok.N, ← ok.sc]; exact blkOk_by h3
      have L := (ihi X mc ok hk.1).2.2 _ _ h2
      have Q := pe_lc (elt := x) (tg := t) (iter := i) (ifs := ifs) (pos := pos) (g := rdG X.K tg) (tt := rdC X.K cnd) (te := rd X.K (ev elt)) ok.calm ok.nd L.1 bk
        (fun s H C cl fp => (tg_ok (blk_ok ok h3 s H C cl fp) tg).1 _ h4)
        (fun s H C cl fp => by
          cases ifs with
          | nil => cases cnd <;> first | (cases h7; done) | exact pts_nil
          | cons c r =>
            cases r with
            | cons _ _ => cases h7
            | nil =>
              have q := ((ihc _ _ (blk_ok ok h3 s H C cl fp) hk.2.1).1 _ h7).pt
              have e : rdC X.K cnd = rdT X.K (ev cnd) := by
                cases cnd <;> first | rfl | (simp [mtE] at h7; done)
              rw [e]
              exact pts_one q)
        (fun s H C cl fp => ((ihe _ _ (blk_ok ok h3 s H C cl fp) hk.2.2).1 _ h6).pe) L.2
      rw [hv] at Q
      exact .of_pe (Q.via fun σ H Q q => comp_tlc (tgSub h5) q) (fun _ => rfl) (fun _ _ _ z => by cases z)
  | itE a iha =>
    have iha := iha.1
    refine ⟨?_, (fun _ _ z => by cases z), fun X mc ok hk kws z => by simp [mtEs] at z⟩
    refine .ofI (fun X mc ok hk tg x h => ?_) (by intro mc l; simp [mtE]) (by intro mc l; simp [mtEs])
    rw [mtI, Bool.and_eq_true] at h
    exact ⟨snd_itE ((iha X mc ok hk).1 _ h.2).pe, fold_plain h.1 _⟩
  | itRange es ih =>
    have ih := ih.1
    refine ⟨?_, (fun _ _ z => by cases z), fun X mc ok hk kws z => by simp [mtEs] at z⟩
    refine .ofI (fun X mc ok hk tg x h => ?_) (by intro mc l; simp [mtE]) (by intro mc l; simp [mtEs])
    cases x <;> first | (simp [mtI] at h; done) | skip
    rename_i g l ks pos
    cases g <;> first | (simp [mtI] at h; done) | skip
    cases ks with
    | cons _ _ => simp [mtI] at h
    | nil =>
      unfold mtI at h
      rw [Bool.and_eq_true, Bool.and_eq_true] at h
      exact ⟨snd_itRange ok h.1.1 h.2 (mtEs_plain mc _ _ h.1.2) (mtEs_len mc _ _ h.1.2) ((ih X mc ok hk).2.1 _ h.1.2), fun _ => rfl⟩
  | itZip a b iha ihb =>
    have iha := iha.1
    have ihb := ihb.1
    refine ⟨?_, (fun _ _ z => by cases z), fun X mc ok hk kws z => by simp [mtEs] at z⟩
    refine .ofI (fun X mc ok hk tg x h => ?_) (by intro mc l; simp [mtE]) (by intro mc l; simp [mtEs])
    cases x <;> first | (simp [mtI] at h; done) | skip
    rename_i g l ks pos
    cases g <;> first | (simp [mtI] at h; done) | skip
    match l, ks, h with
    | [], _, h => simp [mtI] at h
    | [_], _, h => simp [mtI] at h
    | [u, v], [], h =>
      rw [mtI] at h
      simp only [Bool.and_eq_true] at h
      obtain ⟨⟨⟨⟨⟨h1, h2⟩, h3⟩, h4⟩, h5⟩, h6⟩ := h
      exact ⟨snd_itZip ok h1 h2 h3 h4 ((iha X mc ok hk.1).1 _ h5).pe ((ihb X mc ok hk.2).1 _ h6).pe, fun _ => rfl⟩
    | [_, _], _ :: _, h => simp [mtI] at h
    | _ :: _ :: _ :: _, _, h => simp [mtI] at h
  | itEnum a iha =>
    have iha := iha.1
    refine ⟨?_, (fun _ _ z => by cases z), fun X mc ok hk kws z => by simp [mtEs] at z⟩
    refine .ofI (fun X mc ok hk tg x h => ?_) (by intro mc l; simp [mtE]) (by intro mc l; simp [mtEs])
    simp [mtI] at h
  | stAt i =>
    refine ⟨?_, (fun _ _ z => by cases z), fun X mc ok hk kws z => by simp [mtEs] at z⟩
    refine .of (fun X mc ok hk x h => ?_) (by intro mc l; simp [mtEs]) (by intro mc tg x; simp [mtI])
    unfold mtE at h
    split at h <;> first | (rename_i z; cases z; done) | (cases h; done) | skip
    all_goals first | (exfalso; simp_all; done) | skip
    rename_i heq
    cases heq
    simp only [Bool.and_eq_true] at h
    cases strIs_eq h.2
    exact .of_pe (snd_stAt ok h.1) (fun _ => rfl) (fun _ _ _ z => by cases z)
  | stLen i =>
    refine ⟨?_, (fun _ _ z => by cases z), fun X mc ok hk kws z => by simp [mtEs] at z⟩
    refine .of (fun X mc ok hk x h => ?_) (by intro mc l; simp [mtEs]) (by intro mc tg x; simp [mtI])
    unfold mtE at h
    split at h <;> first | (rename_i z; cases z; done) | (cases h; done) | skip
    all_goals first | (exfalso; simp_all; done) | skip
    rename_i heq
    cases heq
    simp only [Bool.and_eq_true] at h
    cases strIs_eq h.2
    exact .of_pe (snd_stLen ok h.1.1 h.1.2) (fun _ => rfl) (fun _ _ _ z => by cases z)
  | stCell i k ihk =>
    have ihk := ihk.1
    refine ⟨?_, (fun _ _ z => by cases z), fun X mc ok hk kws z => by simp [mtEs] at z⟩
    refine .of (fun X mc ok hk x h => ?_) (by intro mc l; simp [mtEs]) (by intro mc tg x; simp [mtI])
    unfold mtE at h
    split at h <;> first | (rename_i z; cases z; done) | (cases h; done) | skip
    all_goals first | (exfalso; simp_all; done) | skip
    rename_i heq
    cases heq
    simp only [Bool.and_eq_true] at h
    cases strIs_eq h.1.1.2
    exact .of_pe (snd_stIx (l := OSt.cells) (a := Cfg.aC) ok (fun ρ s => by rw [ev]) (fun _ _ => rfl) (fun _ _ _ st => st.cells) h.1.1.1 h.1.2 ((ihk _ _ ok hk).1 _ h.2).pe) (fun _ => rfl) (fun _ _ _ z => by cases z)
  | stLeft i k ihk =>
    have ihk := ihk.1
    refine ⟨?_, (fun _ _ z => by cases z), fun X mc ok hk kws z => by simp [mtEs] at z⟩
    refine .of (fun X mc ok hk x h => ?_) (by intro mc l; simp [mtEs]) (by intro mc tg x; simp [mtI])
    unfold mtE at h
    split at h <;> first | (rename_i z; cases z; done) | (cases h; done) | skip
    all_goals first | (exfalso; simp_all; done) | skip
    rename_i heq
    cases heq
    simp only [Bool.and_eq_true] at h
    cases strIs_eq h.1.1.2
    exact .of_pe (snd_stIx (l := OSt.lefts) (a := Cfg.aL) ok (fun ρ s => by rw [ev]) (fun _ _ => rfl) (fun _ _ _ st => st.lefts) h.1.1.1 h.1.2 ((ihk _ _ ok hk).1 _ h.2).pe) (fun _ => rfl) (fun _ _ _ z => by cases z)
end RS
end
section
set_option Elab.async false
set_option linter.all false
set_option maxRecDepth 100000
set_option autoImplicit false
set_option maxHeartbeats 4000000
/-! RSStmt: statements: the matcher, what is wanted at the ends, the small ones. -/
namespace RS
open PySem L2
def noSw (v : Expr) : Bool := match v with
  | .ListComp _ _ _ _ => false
  | .SetComp _ _ _ _ => false
  | .DictComp _ _ _ _ _ => false
  | _ => true
def swE (mc : MC) (x : Str) (px : Pos) (v : Expr) : Bool := match v with
  | .ListComp _ _ scope pos => decide (mc.sc.names.lookup x = some .local) && (px.line == pos.line) && !(scope.names.any fun (n, k) => n == x && (k == .local || k == .cell))
  | .SetComp _ _ _ _ => false
  | .DictComp _ _ _ _ _ => false
  | _ => true
/-- the tuple is unpacked as it stands -/
def unpE (es : List Expr) (v : Expr) : Bool := match v with
  | .Tuple vs _ _ => !(es.length == 2 || es.length == 3) || vs.length != es.length || (vs.all (foldedForSure 8))
  | .ListComp _ _ _ _ => false
  | .SetComp _ _ _ _ => false
  | .DictComp _ _ _ _ _ => false
  | _ => true
def locOnly (mc : MC) (x : Str) : Bool := decide (mc.sc.names.lookup x = some .local)
mutual
def mtS : S → MC → Stmt → Bool
  | .skip, _, .Pass _ => true
  | .skip, _, .Expr (.Constant (.str _) _ _) _ => true
  | .asg i e, mc, .Assign [.Name x p] v _ => decide (mc.N[i]? = some x) && locB mc x && mtE e mc v && swE mc x p v
  | .asgS i e, mc, .Assign [.Name x p] v _ => decide (mc.N[i]? = some x) && locB mc x && mtE e mc v && swE mc x p v
  | .asgT tg e, mc, .Assign [.Tuple es k p] v _ => mtTg mc tg (.Tuple es k p) && mtE e mc v && unpE es v
  | .par [i, j] es, mc, .Assign [.Tuple [.Name x p, .Name y q] _ _] (.Tuple [a, b] _ _) _ => decide (mc.N[i]? = some x) && decide (mc.N[j]? = some y) && decide (i ≠ j) && decide (x ≠ y) && locOnly mc x && locOnly mc y && (p.line == p.line) && (q.line == p.line) &&
      mtEs es mc [a, b] && !(foldedForSure 8 a && foldedForSure 8 b) && !(constantsAlone 8 a && constantsAlone 8 b)
  | .par [i, j, l] es, mc, .Assign [.Tuple [.Name x p, .Name y q, .Name z r] _ _] (.Tuple [a, b, c] _ _) _ => decide (mc.N[i]? = some x) && decide (mc.N[j]? = some y) && decide (mc.N[l]? = some z) && decide (i ≠ j) && decide (i ≠ l) && decide (j ≠ l) && decide (x ≠ y) && decide (x ≠ z) && decide (y ≠ z) &&
      locOnly mc x && locOnly mc y && locOnly mc z && (q.line == p.line) && (r.line == p.line) && mtEs es mc [a, b, c] && !(foldedForSure 8 a && foldedForSure 8 b && foldedForSure 8 c) && !(constantsAlone 8 a && constantsAlone 8 b && constantsAlone 8 c)
  | .app i e, mc, .Expr (.Call (.Attribute (.Name x p) m ap) [v] [] cp) _ => mtE (.var i) mc (.Name x p) && strIs "append" m && (ap.endLine == cp.line) && plainE v && mtE e mc v
  | .ext i e, mc, .Expr (.Call (.Attribute (.Name x p) m ap) [v] [] cp) _ => mtE (.var i) mc (.Name x p) && strIs "extend" m && (ap.endLine == cp.line) && plainE v && mtE e mc v
  | .seti i k e, mc, .Assign [.Subscript (.Name x p) y _] v _ => mtE (.var i) mc (.Name x p) && plainE y && mtE k mc y && mtE e mc v
  | .expr e, mc, .Expr v _ => mtE e mc v && noSw v
  | .ret e, mc, .Return (some v) _ => mtE e mc v
  | .ret (.con .non), _, .Return none _ => true
  | .ife c a b, mc, .If x l r _ => mtE c mc x && mtSs a mc l && mtSs b mc r
  | .for tg it b, mc, .For t x l [] _ => mtTg mc tg t && mtI it mc t x && mtSs b mc l
  | .whl _ c b, mc, .While x l [] _ => mtE c mc x && mtSs b mc l
  | .brk, _, .Break _ => true
  | .cont, _, .Continue _ => true
  | .never, _, _ => true
  | .stPut i e, mc, .Assign [.Subscript (.Name x p) (.Constant (.str y) _ _) _] v _ => nmB mc i (.Name x p) && strIs "at" y && mtE e mc v
  | .stPutLeft i k e, mc, .Assign [.Subscript (.Subscript (.Name x p) (.Constant (.str y) _ _) _) q _] v _ => nmB mc i (.Name x p) && strIs "lefts" y && plainE q && mtE k mc q && mtE e mc v
  | _, _, _ => false
def mtSs : S → MC → List Stmt → Bool
  | .skip, _, sts => sts.isEmpty
  | .seq a b, mc, sts => match a with
    | .share _ => mtSs b mc sts
    | a => match sts with
      | st :: r => mtS a mc st && mtSs b mc r
      | [] => false
  | .never, _, _ => true
  | _, _, _ => false
end
def okS (L : Lv) : S → Prop
  | .seq a b => okS L a ∧ okS L b
  | .asg _ e => okE L e
  | .asgS _ e => okE L e
  | .asgT _ e => okE L e
  | .par _ es => okE L es
  | .app _ e => okE L e
  | .ext _ e => okE L e
  | .seti _ k e => okE L k ∧ okE L e
  | .expr e => okE L e
  | .ret e => okE L e
  | .ife c a b => okE L c ∧ okS L a ∧ okS L b
  | .for _ it b => okE L it ∧ okS L b
  | .whl _ c b => okE L c ∧ okS L b
  | .stPut _ e => okE L e
  | .stPutLeft _ k e => okE L k ∧ okE L e
  | _ => True
def RtV : Rs → V → Prop
  | .sh _, _ => True
  | .fr _, v => ∃ a, v = .ref a
  | .bo _ _, _ => False
def Fin (K : PySem.W.Frag) (c : Cfg) (gT : Shd) (gF : Own) (D : Ends) : Out → Prop
  | .nx ρ s => ∀ σ H, Pt K c gT gF σ H ρ s → D.nx σ H
  | .bk ρ s => ∀ σ H, Pt K c gT gF σ H ρ s → D.bk σ H
  | .ct ρ s => ∀ σ H, Pt K c gT gF σ H ρ s → D.ct σ H
  | .rt r s => r.isBo = false ∧ ∀ v σ ρ H, Pt K c (r.exT v gT) (r.exF v gF) σ H ρ s → RtV r v → D.rt v H
  | .exc _ _ _ => False
  | .no => False
def rdS (K : PySem.W.Frag) (f : Env → OSt → Out) : TS := fun D σ H => ∃ c gT gF ρ s, Pt K c gT gF σ H ρ s ∧ Fin K c gT gF D (f ρ s)
section
variable {K : PySem.W.Frag} {c : Cfg} {gT gT' : Shd} {gF gF' : Own} {σ σ' : L2.St} {H H' : Hp} {ρ ρ' : Env} {s s' : OSt} {T : Shd} {F : Own}
theorem withV_fin {D : Ends} {r : R Rs} {f : Rs → OSt → Out} (h : Fin K c gT gF D (withV r f)) : ∃ a s1, r = .ok a s1 ∧ Fin K c gT gF D (f a s1) := by
  cases r with
  | ok a s1 => exact ⟨a, s1, rfl, h⟩
  | exc => exact h.elim
  | no => exact h.elim
theorem outOf_fin {D : Ends} {o : Option Env} (h : Fin K c gT gF D (outOf o s)) : ∃ ρ', o = some ρ' ∧ ∀ σ H, Pt K c gT gF σ H ρ' s → D.nx σ H := by
  cases o with
  | none => exact h.elim
  | some ρ' => exact ⟨ρ', rfl, h⟩
theorem set_same {σ : L2.St} {i : Nat} {x : Option V} (h : σ[i]? = some x) : σ.set i x = σ := by
  apply List.ext_getElem?
  intro j
  rw [List.getElem?_set]
  split
  · rename_i e; subst e
    split
    · rw [h]
    · rename_i hl; rw [List.getElem?_eq_none (by omega)] at h; cases h
  · rfl
theorem lt_of_get {α : Type} {l : List α} {i : Nat} {x : α} (h : l[i]? = some x) : i < l.length := by
  rcases Nat.lt_or_ge i l.length with q | q
  · exact q
  · rw [List.getElem?_eq_none q] at h; cases h
/-- a slot takes what is held -/
theorem Pt.takes {d : D} {a : Addr} (P : Pt K c gT ((d, a) :: gF) σ H ρ s) {i : Nat} (hi : i < ρ.length) : Pt K c gT gF (σ.set i (some (.ref a))) H (ρ.set i (.ow d)) s := by
  obtain ⟨T, F, o⟩ := P
  have o' := o.less (gT' := gT) (fun _ h => h) (List.sublist_cons_self (d, a) gF)
  have nd := o.nd
  rw [List.map_cons, List.nodup_cons] at nd
  have hi' : i < σ.length := by rw [← o.sl.len]; exact hi
  have aw : ∀ (j : Nat) (e : D) (b : Addr), ρ[j]? = some (.ow e) → σ[j]? = some (some (.ref b)) → b ≠ a := fun j e b hj sj z => by
    obtain ⟨b', k1, _, k3⟩ := o.sl.ow j e hj
    rw [sj] at k1; cases k1
    exact k3 (by rw [z]; exact List.mem_cons_self)
  refine ⟨T, F, o.B, o'.hT, o'.hF, o'.nd, by simp [o.sl.len], fun j e hj => ?_, fun j e hj => ?_, fun j k e f b hj hk sj sk => ?_⟩
  · have hij : j ≠ i := fun z => by subst z; rw [List.getElem?_set_self hi] at hj; cases hj
    rw [List.getElem?_set_ne (Ne.symm hij)] at hj ⊢
    exact o.sl.sh j e hj
  · by_cases hij : j = i
    · subst hij
      rw [List.getElem?_set_self hi] at hj; cases hj
      exact ⟨a, by rw [List.getElem?_set_self hi'], o.hF _ List.mem_cons_self, nd.1⟩
    · rw [List.getElem?_set_ne (Ne.symm hij)] at hj ⊢
      exact o'.sl.ow j e hj
  · by_cases hji : j = i
    · by_cases hki : k = i
      · rw [hji, hki]
      · subst hji
        rw [List.getElem?_set_self hi'] at sj; cases sj
        rw [List.getElem?_set_ne (Ne.symm hki)] at hk sk
        exact (aw k f _ hk sk rfl).elim
    · by_cases hki : k = i
      · subst hki
        rw [List.getElem?_set_self hi'] at sk; cases sk
        rw [List.getElem?_set_ne (Ne.symm hji)] at hj sj
        exact (aw j e _ hj sj rfl).elim
      · rw [List.getElem?_set_ne (Ne.symm hji)] at hj sj
        rw [List.getElem?_set_ne (Ne.symm hki)] at hk sk
        exact o.sl.inj j k e f b hj hk sj sk
/-- a slot's own list changed -/
theorem Pt.mutSlot (P : Pt K c gT gF σ H ρ s) {i : Nat} {l ds : List D} {a : Addr} {xs ys : List V} (h1 : ρ[i]? = some (.ow (.lst l))) (h2 : σ[i]? = some (some (.ref a))) (hx : H a = some (.lst xs))
    (r : ∀ O, (∀ d v, (d, v) ∈ gT → Rep K c.aS O H d v) → Reps K c.aS O H l xs → Reps K c.aS O H ds ys) : Pt K c gT gF σ (upd H a (.lst ys)) (ρ.set i (.ow (.lst ds))) s := by
  have P1 := Pt.lend P h1 h2
  have P2 := Pt.put (ds := ds) (ys := ys) P1 fun F T o => by
    obtain ⟨l', xs', z, e, t⟩ := o.B.top_at (o.hF _ List.mem_cons_self)
    cases z
    rw [hx] at e; cases e
    exact r _ (fun d v hm => o.B.tT _ (o.hT _ hm)) t
  have P3 := Pt.takes (i := i) P2 (by simp; exact lt_of_get h1)
  rw [set_same h2, List.set_set] at P3
  exact P3
theorem Pt.shareSlot (P : Pt K c gT gF σ H ρ s) {i : Nat} {d : D} (h1 : ρ[i]? = some (.ow d)) : Pt K c gT gF σ H (ρ.set i (.sh d)) s := by
  have : ∃ a, σ[i]? = some (some (.ref a)) := by
    obtain ⟨T, F, o⟩ := P
    obtain ⟨a, e, _⟩ := o.sl.ow i d h1
    exact ⟨a, e⟩
  obtain ⟨a, h2⟩ := this
  have P2 := Pt.forget (gF := gF) (Pt.lend P h1 h2)
  have P3 := Pt.setSh (i := i) P2 (by simp; exact lt_of_get h1) List.mem_cons_self
  rw [set_same h2, List.set_set] at P3
  exact P3.less (fun p hp => List.mem_cons_of_mem _ hp) (List.Sublist.refl _)
theorem getD_ow {ρ : Env} {i : Nat} {d : D} (h : ρ.getD i .no = .ow d) : ρ[i]? = some (.ow d) := by
  rw [List.getD_eq_getElem?_getD] at h
  cases q : ρ[i]? with
  | none => rw [q] at h; cases h
  | some y => rw [q] at h; rw [show y = .ow d from h]
theorem getD_sh {ρ : Env} {i : Nat} {d : D} (h : ρ.getD i .no = .sh d) : ρ[i]? = some (.sh d) := by
  rw [List.getD_eq_getElem?_getD] at h
  cases q : ρ[i]? with
  | none => rw [q] at h; cases h
  | some y => rw [q] at h; rw [show y = .sh d from h]
/-- name = a value -/
theorem assign1 {i : Nat} {r : Rs} {v : V} {ρ' : Env} (P : Pt K c (r.exT v gT) (r.exF v gF) σ H ρ s) (V : Vw σ ρ r v) (h : assignAll [i] [r] ρ = some ρ') : Pt K c gT gF (σ.set i (some v)) H ρ' s := by
  rw [assignAll] at h
  cases r with
  | bo k d => cases h
  | sh d =>
    dsimp only [slotOf] at h
    split at h <;> first | (cases h; done) | skip
    rename_i hi
    rw [assignAll] at h; cases h
    exact (P.setSh hi List.mem_cons_self).less (fun p hp => List.mem_cons_of_mem _ hp) (List.Sublist.refl _)
  | fr d =>
    dsimp only [slotOf] at h
    split at h <;> first | (cases h; done) | skip
    rename_i hi
    rw [assignAll] at h; cases h
    obtain ⟨a, rfl⟩ := V
    exact Pt.takes P hi
end
end RS
end
section
set_option Elab.async false
set_option linter.all false
set_option maxRecDepth 100000
set_option autoImplicit false
set_option maxHeartbeats 4000000
/-! RSStmt2: statements that match do what the evaluator says. -/
namespace RS
open PySem L2
section
variable {X : Cx} {mc : MC}
/-! ### name = e -/
theorem asg_rd {i : Nat} {e : E} {D : Ends} {σ : L2.St} {H : Hp} (h : rdS X.K (exS (.asg i e)) D σ H) : rd X.K (ev e) σ H (fun v H' => D.nx (σ.set i (some v)) H') := by
  obtain ⟨c, gT, gF, ρ, s, P, q⟩ := h
  rw [exS] at q
  obtain ⟨r, s1, e1, q⟩ := withV_fin q
  obtain ⟨ρ', e2, q⟩ := outOf_fin q
  exact ⟨c, gT, gF, ρ, s, r, s1, P, e1, fun v H' P' V => q _ _ (assign1 P' V e2)⟩
theorem asgS_rd {i : Nat} {e : E} {D : Ends} {σ : L2.St} {H : Hp} (h : rdS X.K (exS (.asgS i e)) D σ H) : rd X.K (ev e) σ H (fun v H' => D.nx (σ.set i (some v)) H') := by
  obtain ⟨c, gT, gF, ρ, s, P, q⟩ := h
  rw [exS] at q
  obtain ⟨r, s1, e1, q⟩ := withV_fin q
  cases hb : r.isBo with
  | true => rw [hb, if_pos rfl] at q; exact q.elim
  | false =>
    rw [hb, if_neg (by simp)] at q
    obtain ⟨ρ', e2, q⟩ := outOf_fin q
    refine ⟨c, gT, gF, ρ, s, r, s1, P, e1, fun v H' P' V => q _ _ ?_⟩
    exact assign1 (r := .sh r.d) (Pt.share1 P' V hb) trivial e2
theorem sw_no {x : Str} {px : Pos} {v : Expr} {l : Nat} {env : PySem.Env} (h : noSw v = true) : swapsWith v (some (.Name x px)) l env = pure false := by
  cases v <;> first | rfl | cases h
theorem ps_name (ok : CtxOk X mc) {i : Nat} {x : Str} {p pos : Pos} {e : E} {v : Expr} (hk : okE (lvOf X) e) (hi : mc.N[i]? = some x) (hl : locB mc x = true) (he : mtE e mc v = true) (hs : swE mc x p v = true) :
    PS X (.Assign [.Name x p] v pos) (tAsg (rd X.K (ev e)) (gName i)) := by
  obtain ⟨h1, h2⟩ := ok.loc hl
  have hi' : X.N[i]? = some x := by rw [← ok.N]; exact hi
  by_cases hn : noSw v = true
  · exact ps_set ok.nd hi' h1 ((snd_all e).1 X mc ok hk |>.1 v he).pe (sw_no hn) h2
  · cases v <;> first | (exact (hn rfl).elim) | (cases hs; done) | skip
    rename_i elt gs scope vpos
    simp only [swE, Bool.and_eq_true, Bool.not_eq_true'] at hs
    obtain ⟨⟨hs1, hs2⟩, hs3⟩ := hs
    have hs1 := of_decide_eq_true hs1
    rw [ok.sc] at hs1
    have sw := sw_true (elt := elt) (gs := gs) (scope := scope) (pos := vpos) (py := p) (l := pos.line) ok.kind hs1 hs2 hs3
    cases e <;> first | (simp [mtE] at he; done) | skip
    rename_i vs tg it cnd elt'
    match gs, he, sw with
    | [], he, _ => simp [mtE] at he
    | _ :: _ :: _, he, _ => simp [mtE] at he
    | [⟨t, i', ifs, as⟩], he, sw =>
      unfold mtE at he
      dsimp only at he
      simp only [Bool.and_eq_true] at he
      obtain ⟨⟨⟨⟨h0, k1⟩, k2⟩, h3⟩, ⟨⟨⟨h4, h5⟩, h6⟩, h7⟩⟩ := he
      have h0 := of_decide_eq_true h0
      subst h0
      have hv : (ownOf mc.N vs).map (·.2) = vs := by unfold ownOf; rw [List.map_map]; exact List.map_id' vs
      have bk : BlkOk X.N X.env.scope scope (ownOf mc.N vs) := by rw [← ok.N, ← ok.sc]; exact blkOk_by h3
      have L := ((snd_all it).1 X mc ok hk.1).2.2 _ _ k2
      have Q := ps_setLc (i := i) (y := x) (py := p) (spos := pos) (elt := elt) (tg := t) (iter := i') (ifs := ifs) (pos := vpos) (g := rdG X.K tg) (tt := rdC X.K cnd) (te := rd X.K (ev elt')) ok.calm ok.nd hi' hs1 sw L.1 bk
        (fun s H C cl fp => (tg_ok (blk_ok ok h3 s H C cl fp) tg).1 _ h4)
        (fun s H C cl fp => by
          cases ifs with
          | nil => cases cnd <;> first | (cases h7; done) | exact pts_nil
          | cons c r =>
            cases r with
            | cons _ _ => cases h7
            | nil =>
              have q := (((snd_all cnd).1 _ _ (blk_ok ok h3 s H C cl fp) hk.2.1).1 _ h7).pt
              have e : rdC X.K cnd = rdT X.K (ev cnd) := by
                cases cnd <;> first | rfl | (simp [mtE] at h7; done)
              rw [e]
              exact pts_one q)
        (fun s H C cl fp => (((snd_all elt').1 _ _ (blk_ok ok h3 s H C cl fp) hk.2.2).1 _ h6).pe) L.2
      rw [hv] at Q
      exact Q.via fun D σ H q => comp_tlc (tgSub h5) q
theorem ps_asgE (ok : CtxOk X mc) {i : Nat} {x : Str} {p pos : Pos} {e : E} {v : Expr} (hk : okE (lvOf X) e) (hi : mc.N[i]? = some x) (hl : locB mc x = true) (he : mtE e mc v = true) (hs : swE mc x p v = true) :
    PS X (.Assign [.Name x p] v pos) (rdS X.K (exS (.asg i e))) := (ps_name ok hk hi hl he hs).via fun D σ H q => asg_rd q
theorem ps_asgSE (ok : CtxOk X mc) {i : Nat} {x : Str} {p pos : Pos} {e : E} {v : Expr} (hk : okE (lvOf X) e) (hi : mc.N[i]? = some x) (hl : locB mc x = true) (he : mtE e mc v = true) (hs : swE mc x p v = true) :
    PS X (.Assign [.Name x p] v pos) (rdS X.K (exS (.asgS i e))) := (ps_name ok hk hi hl he hs).via fun D σ H q => asgS_rd q
/-! ### (a, b, ..) = e -/
theorem unp_none {es : List Expr} {v : Expr} {k : Nat} {p : Pos} {env : PySem.Env} (h : unpE es v = true) : swappedStores [.Tuple es k p] v env = pure none := by
  cases v <;> first | rfl | (cases h; done) | skip
  rename_i vs _ _
  simp only [unpE, Bool.or_eq_true, Bool.not_eq_true', Bool.or_eq_false_iff] at h
  unfold swappedStores
  dsimp only
  by_cases h1 : (!(es.length == 2 || es.length == 3) || vs.length != es.length || env.blockKind != .function) = true
  · rw [if_pos h1]
  · rw [if_neg h1]
    have h2 : vs.all (foldedForSure 8) = true := by
      rcases h with h | h
      · exfalso
        apply h1
        rcases h with h | h
        · simp [h]
        · simp [h]
      · exact h
    rw [h2]
    split
    · rfl
    · split
      · rfl
      · rfl
theorem asgT_rd {tg : Tg} {e : E} {D : Ends} {σ : L2.St} {H : Hp} (h : rdS X.K (exS (.asgT tg e)) D σ H) : rd X.K (ev e) σ H (fun v H' => rdG X.K tg v σ H' D.nx) := by
  obtain ⟨c, gT, gF, ρ, s, P, q⟩ := h
  rw [exS] at q
  obtain ⟨r, s1, e1, q⟩ := withV_fin q
  cases hb : r.isBo with
  | true => rw [hb, if_pos rfl] at q; exact q.elim
  | false =>
    rw [hb, if_neg (by simp)] at q
    obtain ⟨ρ', e2, q⟩ := outOf_fin q
    refine ⟨c, gT, gF, ρ, s, r, s1, P, e1, fun v H' P' V => ⟨c, _, gF, ρ, s1, r.d, ρ', Pt.share1 P' V hb, List.mem_cons_self, e2, fun σ' P2 _ => q _ _ (P2.less (fun p hp => List.mem_cons_of_mem _ hp) (List.Sublist.refl _))⟩⟩
theorem ps_asgTE (ok : CtxOk X mc) {tg : Tg} {es : List Expr} {k : Nat} {p pos : Pos} {e : E} {v : Expr} (hk : okE (lvOf X) e) (ht : mtTg mc tg (.Tuple es k p) = true) (he : mtE e mc v = true) (hu : unpE es v = true) :
    PS X (.Assign [.Tuple es k p] v pos) (rdS X.K (exS (.asgT tg e))) := by
  have hs : swapsWithSole [.Tuple es k p] v pos.line X.env = pure false := by
    cases v <;> first | rfl | cases hu
  exact (ps_asg ((snd_all e).1 X mc ok hk |>.1 v he).pe ((tg_ok ok tg).1 _ ht) hs (unp_none hu)).via fun D σ H q => asgT_rd q
end
end RS
end
section
set_option Elab.async false
set_option linter.all false
set_option maxRecDepth 100000
set_option autoImplicit false
set_option maxHeartbeats 4000000
/-! RSStmt3: pairs and triples assigned; append, extend, items stored. -/
namespace RS
open PySem L2
def setAll : L2.St → List Nat → List V → L2.St
  | σ, i :: is, v :: vs => setAll (σ.set i (some v)) is vs
  | σ, _, _ => σ
section
variable {K : PySem.W.Frag} {c : Cfg} {gT gT' : Shd} {gF gF' : Own} {σ σ' : L2.St} {H H' : Hp} {ρ ρ' : Env} {s s' : OSt} {T : Shd} {F : Own}
theorem exFs_app : ∀ (rs : List Rs) (vs : List V) (F : Own), exFs rs vs F = exFs rs vs [] ++ F
  | [], vs, F => by simp [exFs]
  | r :: rs, [], F => by simp [exFs]
  | r :: rs, v :: vs, F => by
    rw [exFs, exFs, exFs_app rs vs (r.exF v F), exFs_app rs vs (r.exF v [])]
    cases r <;> simp [Rs.exF]
    cases v <;> simp
/-- a slot takes what is held, wherever it lies -/
theorem Pt.takes2 {d : D} {a : Addr} (P : Pt K c gT gF' σ H ρ s) (hF : (d, a) ∈ gF') (hs : List.Sublist gF gF') (hn : a ∉ gF.map (·.2)) {i : Nat} (hi : i < ρ.length) : Pt K c gT gF (σ.set i (some (.ref a))) H (ρ.set i (.ow d)) s := by
  obtain ⟨T, F, o⟩ := P
  refine Pt.takes ⟨T, F, o.B, o.hT, fun p hp => ?_, ?_, o.sl.len, o.sl.sh, fun j e hj => ?_, o.sl.inj⟩ hi
  · rcases List.mem_cons.mp hp with e | hp
    · rw [e]; exact o.hF _ hF
    · exact o.hF _ (hs.subset hp)
  · rw [List.map_cons, List.nodup_cons]
    exact ⟨hn, (hs.map (·.2)).nodup o.nd⟩
  · obtain ⟨b, h1, h2, h3⟩ := o.sl.ow j e hj
    refine ⟨b, h1, h2, fun z => h3 ?_⟩
    rw [List.map_cons] at z
    rcases List.mem_cons.mp z with z | z
    · rw [z]; exact List.mem_map.mpr ⟨_, hF, rfl⟩
    · exact (hs.map (·.2)).subset z
theorem assigns : ∀ (is : List Nat) (rs : List Rs) (vs : List V) {σ : L2.St} {ρ : Env}, vs.length = rs.length → (∀ (k : Nat) (r : Rs) (v : V), rs[k]? = some r → vs[k]? = some v → match r with | .sh d => (d, v) ∈ gT | .fr _ => ∃ a, v = .ref a | .bo _ _ => True) →
    Pt K c gT (exFs rs vs gF) σ H ρ s → assignAll is rs ρ = some ρ' → Pt K c gT gF (setAll σ is vs) H ρ' s
  | [], [], [], σ, ρ, _, _, P, e => by rw [assignAll] at e; cases e; exact P
  | [], [], _ :: _, _, _, hl, _, _, _ => by simp at hl
  | [], _ :: _, _, _, _, _, _, _, e => by simp [assignAll] at e
  | _ :: _, [], _, _, _, _, _, _, e => by simp [assignAll] at e
  | _ :: _, _ :: _, [], _, _, hl, _, _, _ => by simp at hl
  | i :: is, r :: rs, v :: vs, σ, ρ, hl, hd, P, e => by
    have hd' : ∀ (k : Nat) (q : Rs) (w : V), rs[k]? = some q → vs[k]? = some w → match q with | .sh d => (d, w) ∈ gT | .fr _ => ∃ a, w = .ref a | .bo _ _ => True := fun k q w a b => hd (k + 1) q w (by simpa using a) (by simpa using b)
    have h0 := hd 0 r v rfl rfl
    have hl' : vs.length = rs.length := by simpa using hl
    rw [assignAll] at e
    rw [setAll]
    cases r with
    | bo k d => cases e
    | sh d =>
      dsimp only [slotOf] at e
      split at e <;> first | (cases e; done) | skip
      rename_i hi
      exact assigns is rs vs hl' hd' (Pt.setSh (gF := exFs rs vs gF) P hi h0) e
    | fr d =>
      dsimp only [slotOf] at e
      split at e <;> first | (cases e; done) | skip
      rename_i hi
      obtain ⟨a, rfl⟩ := h0
      have eF : exFs (Rs.fr d :: rs) (V.ref a :: vs) gF = exFs rs vs [] ++ (d, a) :: gF := by
        rw [exFs, exFs_app]; rfl
      rw [eF] at P
      have nd : ((exFs rs vs [] ++ (d, a) :: gF).map (·.2)).Nodup := by
        obtain ⟨T, F, o⟩ := P
        exact o.nd
      have P2 := Pt.takes2 (gF := exFs rs vs [] ++ gF) (i := i) (d := d) (a := a) P (by simp) (List.Sublist.append (List.Sublist.refl _) (List.sublist_cons_self _ _)) (by
        rw [List.map_append, List.map_cons, List.nodup_append] at nd
        obtain ⟨_, n2, n3⟩ := nd
        rw [List.nodup_cons] at n2
        rw [List.map_append, List.mem_append]
        rintro (z | z)
        · exact n3 _ z _ List.mem_cons_self rfl
        · exact n2.1 z) hi
      rw [← exFs_app rs vs gF] at P2
      exact assigns is rs vs hl' hd' P2 e
theorem Hds.have {rs : List Rs} {vs : List V} (h : Hds gT gF σ ρ rs vs) : ∀ (k : Nat) (r : Rs) (v : V), rs[k]? = some r → vs[k]? = some v → match r with | .sh d => (d, v) ∈ gT | .fr _ => ∃ a, v = .ref a | .bo _ _ => True := fun k r v a b => by
  have q := h.get k r v a b
  cases r with
  | sh d => exact q
  | fr d => obtain ⟨x, e, _⟩ := q; exact ⟨x, e⟩
  | bo i d => trivial
end
section
variable {X : Cx} {mc : MC}
theorem par_rd {is : List Nat} {es : E} {D : Ends} {σ : L2.St} {H : Hp} (h : rdS X.K (exS (.par is es)) D σ H) : rdA X.K (evs es) σ H fun vs H' => vs.length = is.length ∧ D.nx (setAll σ is vs) H' := by
  obtain ⟨c, gT, gF, ρ, s, P, q⟩ := h
  rw [exS] at q
  split at q <;> first | (exact q.elim) | skip
  rename_i rs s1 e1
  obtain ⟨ρ', e2, q⟩ := outOf_fin q
  refine ⟨c, gT, gF, ρ, s, rs, s1, P, e1, fun vs H' P' V => ?_⟩
  have hl : ∀ (is : List Nat) (rs : List Rs) (ρ : Env), assignAll is rs ρ = some ρ' → rs.length = is.length := by
    intro is
    induction is with
    | nil => intro rs ρ e; cases rs <;> simp [assignAll] at e ⊢
    | cons i is ih =>
      intro rs ρ e
      cases rs with
      | nil => simp [assignAll] at e
      | cons r rs =>
        rw [assignAll] at e
        split at e <;> first | (cases e; done) | skip
        split at e <;> first | (cases e; done) | skip
        simp [ih rs _ e]
  exact ⟨by rw [V.length]; exact hl is rs ρ e2, q _ _ ((assigns is rs vs V.length V.have P' e2).less (subTs rs vs gT) (List.Sublist.refl _))⟩
theorem bk_fn {env : PySem.Env} (h : env.scope.kind = .function) : env.blockKind = .function := by unfold Env.blockKind; rw [h]; rfl
theorem swap2 {x y : Str} {p q pt pt2 : Pos} {k k2 : Nat} {a b : Expr} {env : PySem.Env} (hk : env.scope.kind = .function) (hx : env.scope.names.lookup x = some .local) (hy : env.scope.names.lookup y = some .local) (hxy : x ≠ y) (hl : (q.line == p.line) = true)
    (ha : plainE a = true) (hb : plainE b = true) (hf : (foldedForSure 8 a && foldedForSure 8 b) = false) (hc : (constantsAlone 8 a && constantsAlone 8 b) = false) :
    swappedStores [.Tuple [.Name x p, .Name y q] k pt] (.Tuple [a, b] k2 pt2) env = pure (some [x, y]) := by
  have kx : env.kindOf x = some .local := hx
  have ky : env.kindOf y = some .local := hy
  have hb' := bk_fn hk
  unfold swappedStores
  dsimp only
  rw [if_neg (by simp [hb'])]
  rw [if_neg (by
    intro h
    simp only [List.any_cons, List.any_nil, Bool.or_false, Bool.or_eq_true] at h
    rcases h with h | h
    · cases a <;> first | (cases ha; done) | (cases h; done)
    · cases b <;> first | (cases hb; done) | (cases h; done))]
  have hl' : q.line = p.line := by simpa using hl
  simp [kx, ky, Expr.pos, hl', List.eraseDups_cons, Ne.symm hxy]
  rw [if_neg (by rw [← Bool.and_eq_true, hf]; simp), if_neg (by rw [← Bool.and_eq_true, hc]; simp)]
theorem swap3 {x y z : Str} {p q r pt pt2 : Pos} {k k2 : Nat} {a b c : Expr} {env : PySem.Env} (hk : env.scope.kind = .function) (hx : env.scope.names.lookup x = some .local) (hy : env.scope.names.lookup y = some .local) (hz : env.scope.names.lookup z = some .local) (hxy : x ≠ y) (hxz : x ≠ z) (hyz : y ≠ z) (hl : (q.line == p.line) = true) (hl2 : (r.line == p.line) = true)
    (ha : plainE a = true) (hb : plainE b = true) (hcc : plainE c = true) (hf : (foldedForSure 8 a && foldedForSure 8 b && foldedForSure 8 c) = false) (hc : (constantsAlone 8 a && constantsAlone 8 b && constantsAlone 8 c) = false) :
    swappedStores [.Tuple [.Name x p, .Name y q, .Name z r] k pt] (.Tuple [a, b, c] k2 pt2) env = pure (some [x, y, z]) := by
  have kx : env.kindOf x = some .local := hx
  have ky : env.kindOf y = some .local := hy
  have kz : env.kindOf z = some .local := hz
  have hb' := bk_fn hk
  unfold swappedStores
  dsimp only
  rw [if_neg (by simp [hb'])]
  rw [if_neg (by
    intro h
    simp only [List.any_cons, List.any_nil, Bool.or_false, Bool.or_eq_true] at h
    rcases h with h | h | h
    · cases a <;> first | (cases ha; done) | (cases h; done)
    · cases b <;> first | (cases hb; done) | (cases h; done)
    · cases c <;> first | (cases hcc; done) | (cases h; done))]
  have hl' : q.line = p.line := by simpa using hl
  have hl2' : r.line = p.line := by simpa using hl2
  simp [kx, ky, kz, Expr.pos, hl', hl2', List.eraseDups_cons, Ne.symm hxy, Ne.symm hxz, Ne.symm hyz]
  rw [if_neg (by rintro ⟨h1, h2, h3⟩; rw [h1, h2, h3] at hf; cases hf), if_neg (by rintro ⟨h1, h2, h3⟩; rw [h1, h2, h3] at hc; cases hc)]
theorem loc_only (ok : CtxOk X mc) {x : Str} (h : locOnly mc x = true) : X.env.scope.names.lookup x = some .local := by
  have := of_decide_eq_true h
  rw [← ok.sc]; exact this
theorem ps_par2E (ok : CtxOk X mc) {i j : Nat} {es : E} {x y : Str} {p q pt pt2 pos : Pos} {k k2 : Nat} {a b : Expr} (hk : okE (lvOf X) es) (hi : mc.N[i]? = some x) (hj : mc.N[j]? = some y) (hij : i ≠ j) (hxy : x ≠ y) (hx : locOnly mc x = true) (hy : locOnly mc y = true) (hl : (q.line == p.line) = true)
    (he : mtEs es mc [a, b] = true) (hf : (foldedForSure 8 a && foldedForSure 8 b) = false) (hc : (constantsAlone 8 a && constantsAlone 8 b) = false) :
    PS X (.Assign [.Tuple [.Name x p, .Name y q] k pt] (.Tuple [a, b] k2 pt2) pos) (rdS X.K (exS (.par [i, j] es))) := by
  have pl := mtEs_plain mc _ _ he
  simp only [plainEs, Bool.and_eq_true] at pl
  have lx := loc_only ok hx
  have ly := loc_only ok hy
  refine (ps_par ok.calm ok.nd (by rw [← ok.N]; exact hi) (by rw [← ok.N]; exact hj) hij lx ly ((snd_all es).1 X mc ok hk |>.2.1 _ he) (swap2 ok.kind lx ly hxy hl pl.1 pl.2.1 hf hc)).via fun D σ H h => ?_
  obtain ⟨c, gT, gF, ρ, s, rs, s', P, e, q⟩ := par_rd h
  refine ⟨c, gT, gF, ρ, s, rs, s', P, e, fun vs H' P' V => ?_⟩
  obtain ⟨q1, q2⟩ := q vs H' P' V
  match vs, q1 with
  | [v, w], _ => exact ⟨v, w, rfl, q2⟩
theorem ps_par3E (ok : CtxOk X mc) {i j l : Nat} {es : E} {x y z : Str} {p q r pt pt2 pos : Pos} {k k2 : Nat} {a b d : Expr} (hk : okE (lvOf X) es) (hi : mc.N[i]? = some x) (hj : mc.N[j]? = some y) (hn : mc.N[l]? = some z) (hij : i ≠ j) (hil : i ≠ l) (hjl : j ≠ l) (hxy : x ≠ y) (hxz : x ≠ z) (hyz : y ≠ z)
    (hx : locOnly mc x = true) (hy : locOnly mc y = true) (hz : locOnly mc z = true) (hl : (q.line == p.line) = true) (hl2 : (r.line == p.line) = true)
    (he : mtEs es mc [a, b, d] = true) (hf : (foldedForSure 8 a && foldedForSure 8 b && foldedForSure 8 d) = false) (hc : (constantsAlone 8 a && constantsAlone 8 b && constantsAlone 8 d) = false) :
    PS X (.Assign [.Tuple [.Name x p, .Name y q, .Name z r] k pt] (.Tuple [a, b, d] k2 pt2) pos) (rdS X.K (exS (.par [i, j, l] es))) := by
  have pl := mtEs_plain mc _ _ he
  simp only [plainEs, Bool.and_eq_true] at pl
  have lx := loc_only ok hx
  have ly := loc_only ok hy
  have lz := loc_only ok hz
  refine (ps_par3 ok.calm ok.nd (by rw [← ok.N]; exact hi) (by rw [← ok.N]; exact hj) (by rw [← ok.N]; exact hn) hij hil hjl lx ly lz ((snd_all es).1 X mc ok hk |>.2.1 _ he) (swap3 ok.kind lx ly lz hxy hxz hyz hl hl2 pl.1 pl.2.1 pl.2.2.1 hf hc)).via fun D σ H h => ?_
  obtain ⟨c, gT, gF, ρ, s, rs, s', P, e, q⟩ := par_rd h
  refine ⟨c, gT, gF, ρ, s, rs, s', P, e, fun vs H' P' V => ?_⟩
  obtain ⟨q1, q2⟩ := q vs H' P' V
  match vs, q1 with
  | [v, w, u], _ => exact ⟨v, w, u, rfl, q2⟩
/-! ### append, extend -/
theorem few1 {e : Expr} {env : PySem.Env} {cpos : Pos} (h : plainE e = true) : ((backTo cpos (starEach [e] env)).all (fun x => !x.1) && (backToKw cpos (keywordEach [] env)).all (fun x => x.1.isSome)
      && decide (([e] : List Expr).length + ([] : List Keyword).length + (if ([] : List Keyword).isEmpty then 0 else 1) < 30)) = true := by
  rw [star_cons h]; rfl
theorem app_rd {i : Nat} {e : E} {D : Ends} {σ : L2.St} {H : Hp} (h : rdS X.K (exS (.app i e)) D σ H) : tBM X.K "list" rAppend (rd X.K (ev (.var i))) (tCons (rd X.K (ev e)) tNil) σ H (fun _ H' => D.nx σ H') := by
  obtain ⟨c, gT, gF, ρ, s, P, q⟩ := h
  rw [exS] at q
  obtain ⟨r, s1, e1, q⟩ := withV_fin q
  split at q <;> first | (exact q.elim) | skip
  rename_i l hs
  split at q <;> first | (exact q.elim) | skip
  rename_i hb
  have hs' := getD_ow hs
  refine ⟨c, gT, gF, ρ, s, .bo i (.lst l), s, P, by rw [ev, hs]; rfl, fun v H1 P1 V1 => ?_⟩
  obtain ⟨a, rfl, h1, _⟩ := V1
  have at_ : ∀ {gT gF H s}, Pt X.K c gT gF σ H ρ s → ∃ xs, H a = some (.lst xs) ∧ xs.length = l.length := fun P => by
    obtain ⟨T, F, o⟩ := P
    obtain ⟨b, h3, h4, _⟩ := o.sl.ow i _ hs'
    rw [h1] at h3; cases h3
    obtain ⟨_, xs, z, q1, t⟩ := o.B.top_at h4
    cases z
    exact ⟨xs, q1, t.length⟩
  obtain ⟨xs0, hx0, _⟩ := at_ P1
  refine ⟨.inl ⟨rfl, xs0, SqL.of hx0⟩, c, gT, gF, ρ, s, r, s1, P1, e1, fun v H2 P2 V2 => ?_⟩
  obtain ⟨xs, hx, hl⟩ := at_ P2
  have P3 := Pt.share1 P2 V2 hb.1
  refine ⟨a, xs, v, rfl, rfl, hx, by rw [hl]; exact LIM_line hb.2, ?_⟩
  have P4 := Pt.mutSlot (ds := l ++ [r.d]) (ys := xs ++ [v]) P3 hs' h1 hx fun O hm t => t.append (Reps.cons (hm _ _ List.mem_cons_self) Reps.nil)
  exact q _ _ (P4.less (fun p hp => List.mem_cons_of_mem _ hp) (List.Sublist.refl _))
theorem ps_appE (ok : CtxOk X mc) {i : Nat} {e : E} {x : Str} {p ap cp pos : Pos} {v : Expr} (hk : okE (lvOf X) e) (hx : mtE (.var i) mc (.Name x p) = true) (hl : (ap.endLine == cp.line) = true) (hv : plainE v = true) (he : mtE e mc v = true) :
    PS X (.Expr (.Call (.Attribute (.Name x p) "append" ap) [v] [] cp) pos) (rdS X.K (exS (.app i e))) := by
  have pv := ((snd_all (.var i)).1 X mc ok trivial |>.1 _ hx).pe
  have pe := ((snd_all e).1 X mc ok hk |>.1 _ he).pe
  have st := star_cons (env := X.env) (es := []) hv
  exact (ps_expr (pe_bm PySem.F.plainAttrs_list PySem.F.slot_list_append PySem.F.type_list_append mt_append pv (pa_cons pe pa_nil st) rfl (few1 hv) hl st rfl)).via fun D σ H q => app_rd q
theorem ext_rd {i : Nat} {e : E} {D : Ends} {σ : L2.St} {H : Hp} (h : rdS X.K (exS (.ext i e)) D σ H) : tBM X.K "list" rExtend (rd X.K (ev (.var i))) (tCons (rd X.K (ev e)) tNil) σ H (fun _ H' => D.nx σ H') := by
  obtain ⟨c, gT, gF, ρ, s, P, q⟩ := h
  rw [exS] at q
  obtain ⟨r, s1, e1, q⟩ := withV_fin q
  split at q <;> first | (exact q.elim) | skip
  rename_i l hs
  split at q <;> first | (exact q.elim) | skip
  rename_i m hm
  split at q <;> first | (exact q.elim) | skip
  rename_i hb
  have hs' := getD_ow hs
  refine ⟨c, gT, gF, ρ, s, .bo i (.lst l), s, P, by rw [ev, hs]; rfl, fun v H1 P1 V1 => ?_⟩
  obtain ⟨a, rfl, h1, _⟩ := V1
  have at_ : ∀ {gT gF H s}, Pt X.K c gT gF σ H ρ s → ∃ xs, H a = some (.lst xs) ∧ xs.length = l.length := fun P => by
    obtain ⟨T, F, o⟩ := P
    obtain ⟨b, h3, h4, _⟩ := o.sl.ow i _ hs'
    rw [h1] at h3; cases h3
    obtain ⟨_, xs, z, q1, t⟩ := o.B.top_at h4
    cases z
    exact ⟨xs, q1, t.length⟩
  obtain ⟨xs0, hx0, _⟩ := at_ P1
  refine ⟨.inl ⟨rfl, xs0, SqL.of hx0⟩, c, gT, gF, ρ, s, r, s1, P1, e1, fun v H2 P2 V2 => ?_⟩
  obtain ⟨xs, hx, hl⟩ := at_ P2
  have P3 := Pt.share1 P2 V2 hb.1
  rw [hm] at P3
  have : ∃ b zs, v = .ref b ∧ H2 b = some (.lst zs) ∧ zs.length = m.length := by
    obtain ⟨T, F, o⟩ := P3
    have r := o.B.tT _ (o.hT _ List.mem_cons_self)
    rw [Rep] at r
    obtain ⟨b, zs, e, _, hz, t⟩ := r
    exact ⟨b, zs, e, hz, t.length⟩
  obtain ⟨b, zs, rfl, hz, hlz⟩ := this
  refine ⟨a, b, xs, zs, rfl, rfl, hx, hz, by rw [hl, hlz, sizeLine_eq]; have := hb.2; unfold LIM at this; omega, ?_⟩
  have P4 := Pt.mutSlot (ds := l ++ m) (ys := xs ++ zs) P3 hs' h1 hx fun O hm t => by
    have r := hm _ _ List.mem_cons_self
    rw [Rep] at r
    obtain ⟨b', zs', e, _, hz', t'⟩ := r
    cases e
    rw [hz] at hz'
    cases hz'
    exact t.append t'
  exact q _ _ (P4.less (fun p hp => List.mem_cons_of_mem _ hp) (List.Sublist.refl _))
theorem ps_extE (ok : CtxOk X mc) {i : Nat} {e : E} {x : Str} {p ap cp pos : Pos} {v : Expr} (hk : okE (lvOf X) e) (hx : mtE (.var i) mc (.Name x p) = true) (hl : (ap.endLine == cp.line) = true) (hv : plainE v = true) (he : mtE e mc v = true) :
    PS X (.Expr (.Call (.Attribute (.Name x p) "extend" ap) [v] [] cp) pos) (rdS X.K (exS (.ext i e))) := by
  have pv := ((snd_all (.var i)).1 X mc ok trivial |>.1 _ hx).pe
  have pe := ((snd_all e).1 X mc ok hk |>.1 _ he).pe
  have st := star_cons (env := X.env) (es := []) hv
  exact (ps_expr (pe_bm PySem.F.plainAttrs_list PySem.F.slot_list_extend PySem.F.type_list_extend mt_extend pv (pa_cons pe pa_nil st) rfl (few1 hv) hl st rfl)).via fun D σ H q => ext_rd q
/-! ### xs[k] = e -/
theorem seti_rd {i : Nat} {k e : E} {D : Ends} {σ : L2.St} {H : Hp} (h : rdS X.K (exS (.seti i k e)) D σ H) : rd X.K (ev e) σ H fun v H' => gSub (rd X.K (ev (.var i))) (rd X.K (ev k)) rSetL v σ H' D.nx := by
  obtain ⟨c, gT, gF, ρ, s, P, q⟩ := h
  rw [exS] at q
  obtain ⟨r, s1, e1, q⟩ := withV_fin q
  obtain ⟨z, s2, e2, q⟩ := withV_fin q
  split at q <;> first | (exact q.elim) | skip
  rename_i l n hs hz
  split at q <;> first | (exact q.elim) | skip
  rename_i j hj
  split at q <;> first | (exact q.elim) | skip
  rename_i hb
  have hs' := getD_ow hs
  refine ⟨c, gT, gF, ρ, s, r, s1, P, e1, fun v H1 P1 V1 => ?_⟩
  have P1' := Pt.share1 P1 V1 hb
  refine ⟨c, _, gF, ρ, s1, .bo i (.lst l), s1, P1', by rw [ev, hs]; rfl, fun o H2 P2 V2 => ?_⟩
  obtain ⟨a, rfl, h1, _⟩ := V2
  refine ⟨c, _, gF, ρ, s1, z, s2, P2, e2, fun u H3 P3 V3 => ?_⟩
  have hu : u = .int n := by
    obtain ⟨T, F, o⟩ := P3
    have t := o.tv V3.hd
    rw [hz] at t
    exact t.int
  have P4 := P3.less (gT' := (r.d, v) :: gT) (fun p hp => z.subT u _ p hp) (z.subF u gF)
  have : ∃ xs, H3 a = some (.lst xs) ∧ xs.length = l.length := by
    obtain ⟨T, F, o⟩ := P4
    obtain ⟨b, h3, h4, _⟩ := o.sl.ow i _ hs'
    rw [h1] at h3; cases h3
    obtain ⟨_, xs, z, q1, t⟩ := o.B.top_at h4
    cases z
    exact ⟨xs, q1, t.length⟩
  obtain ⟨xs, hx, hl⟩ := this
  refine ⟨a, xs, n, j, rfl, hu, hx, by rw [hl]; exact hj, ?_⟩
  have P5 := Pt.mutSlot (ds := l.set j r.d) (ys := xs.set j v) P4 hs' h1 hx fun O hm t => t.set j (hm _ _ List.mem_cons_self)
  exact q _ _ (P5.less (fun p hp => List.mem_cons_of_mem _ hp) (List.Sublist.refl _))
theorem ps_setiE (ok : CtxOk X mc) {i : Nat} {k e : E} {x : Str} {p p2 pos : Pos} {y v : Expr} (hk : okE (lvOf X) k) (hke : okE (lvOf X) e) (hx : mtE (.var i) mc (.Name x p) = true) (hy : plainE y = true) (hi : mtE k mc y = true) (he : mtE e mc v = true) :
    PS X (.Assign [.Subscript (.Name x p) y p2] v pos) (rdS X.K (exS (.seti i k e))) := by
  have pv := ((snd_all (.var i)).1 X mc ok trivial |>.1 _ hx).pe
  have pk := ((snd_all k).1 X mc ok hk |>.1 _ hi).pe
  have pe := ((snd_all e).1 X mc ok hke |>.1 _ he).pe
  refine (ps_asg pe (pg_sub pv pk set_list (by cases y <;> first | (intro _; rfl) | cases hy)) ?_ ?_).via fun D σ H q => seti_rd q
  · cases v <;> rfl
  · cases v <;> rfl
end
end RS
end
section
set_option Elab.async false
set_option linter.all false
set_option maxRecDepth 100000
set_option autoImplicit false
set_option maxHeartbeats 4000000
/-! RSStmt3b: the draws' state written. -/
namespace RS
open PySem L2
section
variable {X : Cx} {mc : MC}
theorem ps_stPut (ok : CtxOk X mc) {i : Nat} {e : E} {x : Str} {p p2 p3 pos : Pos} {n : Nat} {v : Expr} (hk : okE (lvOf X) e) (h : nmB mc i (.Name x p) = true) (he : mtE e mc v = true) :
    PS X (.Assign [.Subscript (.Name x p) (.Constant (.str "at") n p2) p3] v pos) (rdS X.K (exS (.stPut i e))) := by
  have pe := ((snd_all e).1 X mc ok hk |>.1 _ he).pe
  refine (ps_dput (by have := ok.un; omega) (nm_eq ok h) pe_str pe (by cases v <;> rfl)).via fun D σ H h => ?_
  obtain ⟨c, gT, gF, ρ, s, P, q⟩ := h
  rw [exS] at q
  obtain ⟨r, s1, e1, q⟩ := withV_fin q
  split at q <;> first | (exact q.elim) | skip
  rename_i hs
  split at q <;> first | (exact q.elim) | skip
  rename_i s2 hp
  unfold putAt at hp
  split at hp <;> first | (cases hp; done) | skip
  rename_i m hd
  split at hp <;> first | (cases hp; done) | skip
  rename_i h0
  cases hp
  refine ⟨c, gT, gF, ρ, s, r, s1, P, e1, fun v H1 P1 V1 => ⟨.ref c.aS, P1.isSt hs, ?_⟩⟩
  obtain ⟨T, F, o⟩ := id P1
  have t := o.tv V1.hd
  rw [hd] at t
  refine ⟨c.aS, _, rfl, DPut.k (k := (.inr "at" : Key)) o.B.st.dict (by rw [sizeLine_eq]; show 3 < _; omega), ?_⟩
  obtain ⟨T, F, o⟩ := P1.less (gT' := gT) (r.subT v gT) (r.subF v gF)
  refine q σ _ (o.state ?_)
  have B := o.B.putState (n := m.toNat)
  rw [t.int]
  have em : (m.toNat : Int) = m := by omega
  rw [em] at B
  exact B
theorem ps_stPutLeft (ok : CtxOk X mc) {i : Nat} {k e : E} {x : Str} {p p2 p3 p4 pos : Pos} {n : Nat} {y v : Expr} (hk : okE (lvOf X) k) (hke : okE (lvOf X) e) (h : nmB mc i (.Name x p) = true) (hy : plainE y = true) (hi : mtE k mc y = true) (he : mtE e mc v = true) :
    PS X (.Assign [.Subscript (.Subscript (.Name x p) (.Constant (.str "lefts") n p2) p3) y p4] v pos) (rdS X.K (exS (.stPutLeft i k e))) := by
  have pe := ((snd_all e).1 X mc ok hke |>.1 _ he).pe
  have pk := ((snd_all k).1 X mc ok hk |>.1 _ hi).pe
  refine (ps_asg pe (pg_sub (pe_st ok h) pk set_list (by cases y <;> first | (intro _; rfl) | cases hy)) (by cases v <;> rfl) (by cases v <;> rfl)).via fun D σ H h => ?_
  obtain ⟨c, gT, gF, ρ, s, P, q⟩ := h
  rw [exS] at q
  obtain ⟨r, s1, e1, q⟩ := withV_fin q
  obtain ⟨z, s2, e2, q⟩ := withV_fin q
  split at q <;> first | (exact q.elim) | skip
  rename_i hs
  split at q <;> first | (exact q.elim) | skip
  rename_i s3 hp
  unfold putLeft at hp
  split at hp <;> first | (cases hp; done) | skip
  rename_i m xx hm hx
  rw [Option.map_eq_some_iff] at hp
  obtain ⟨j, hj, rfl⟩ := hp
  refine ⟨c, gT, gF, ρ, s, r, s1, P, e1, fun v H1 P1 V1 => ?_⟩
  refine rd_st (f := fun _ c => .ref c.aL) (fun _ _ => rfl) ⟨c, _, _, ρ, s1, P1, hs, ?_⟩
  have hv : v = .int xx := by
    obtain ⟨T, F, o⟩ := P1
    have t := o.tv V1.hd
    rw [hx] at t
    exact t.int
  refine ⟨c, _, _, ρ, s1, z, s2, P1, e2, fun u H3 P3 V3 => ?_⟩
  obtain ⟨T, F, o⟩ := id P3
  have t := o.tv V3.hd
  rw [hm] at t
  refine ⟨c.aL, _, m, j, rfl, t.int, o.B.st.lefts, by rw [List.length_map]; exact hj, ?_⟩
  obtain ⟨T, F, o⟩ := P3.less (gT' := gT) (gF' := gF) (fun p hp => z.subT u _ p (r.subT v gT p hp)) ((r.subF v gF).trans (z.subF u _))
  refine q σ _ (o.state ?_)
  have B := o.B.putLefts (ls := s2.lefts.set j xx) (by simp)
  rw [List.map_set] at B
  rw [hv]
  exact B
end
end RS
end
section
set_option Elab.async false
set_option linter.all false
set_option maxRecDepth 100000
set_option autoImplicit false
set_option maxHeartbeats 4000000
/-! RSStmt4: blocks, tests, loops; all statements. -/
namespace RS
open PySem L2
section
variable {K : PySem.W.Frag} {c : Cfg} {gT gT' : Shd} {gF gF' : Own} {σ σ' : L2.St} {H H' : Hp} {ρ ρ' : Env} {s s' : OSt} {T : Shd} {F : Own}
theorem Rs.exT_sub {r : Rs} {v : V} (h : ∀ p ∈ gT, p ∈ gT') : ∀ p ∈ r.exT v gT, p ∈ r.exT v gT' := by
  intro p hp
  cases r with
  | sh d =>
    rcases List.mem_cons.mp hp with e | hp
    · rw [e]; exact List.mem_cons_self
    · exact List.mem_cons_of_mem _ (h p hp)
  | fr d => exact h p hp
  | bo i d => exact h p hp
/-- more may be held -/
theorem Fin.up {D : Ends} {o : Out} (h : Fin K c gT gF D o) (h1 : ∀ p ∈ gT, p ∈ gT') : Fin K c gT' gF D o := by
  cases o with
  | nx ρ s => exact fun σ H P => h σ H (P.less h1 (List.Sublist.refl _))
  | bk ρ s => exact fun σ H P => h σ H (P.less h1 (List.Sublist.refl _))
  | ct ρ s => exact fun σ H P => h σ H (P.less h1 (List.Sublist.refl _))
  | rt r s => exact ⟨h.1, fun v σ ρ H P V => h.2 v σ ρ H (P.less (Rs.exT_sub h1) (List.Sublist.refl _)) V⟩
  | exc => exact h
  | no => exact h
/-- what a loop's turn comes to -/
theorem Fin.turn {D : Ends} {N : L2.St → Hp → Prop} {o : Out} {k : Env → OSt → Out} (h : Fin K c gT gF D (match o with | .nx ρ1 s1 => k ρ1 s1 | .ct ρ1 s1 => k ρ1 s1 | .bk ρ1 s1 => .nx ρ1 s1 | .rt r s1 => .rt r s1 | .exc c d s1 => .exc c d s1 | .no => .no))
    (hN : ∀ σ H ρ1 s1, Pt K c gT gF σ H ρ1 s1 → Fin K c gT gF D (k ρ1 s1) → N σ H) : Fin K c gT gF { D with nx := N, ct := N, bk := D.nx } o := by
  cases o with
  | nx ρ s => exact fun σ H P => hN σ H ρ s P h
  | ct ρ s => exact fun σ H P => hN σ H ρ s P h
  | bk ρ s => exact h
  | rt r s => exact h
  | exc => exact h
  | no => exact h
end
section
variable {X : Cx} {mc : MC}
theorem seq_rd {a b : S} {D : Ends} {σ : L2.St} {H : Hp} (h : rdS X.K (exS (.seq a b)) D σ H) : tSeq (rdS X.K (exS a)) (rdS X.K (exS b)) D σ H := by
  obtain ⟨c, gT, gF, ρ, s, P, q⟩ := h
  refine ⟨c, gT, gF, ρ, s, P, ?_⟩
  rw [exS] at q
  cases e : exS a ρ s with
  | nx ρ1 s1 => rw [e] at q; exact fun σ H P => ⟨c, gT, gF, ρ1, s1, P, q⟩
  | bk ρ1 s1 => rw [e] at q; exact q
  | ct ρ1 s1 => rw [e] at q; exact q
  | rt r s1 => rw [e] at q; exact q
  | exc => rw [e] at q; exact q
  | no => rw [e] at q; exact q
theorem setE_same {ρ : Env} {i : Nat} {x : Slot} (h : ρ[i]? = some x) : ρ.set i x = ρ := by
  apply List.ext_getElem?
  intro j
  rw [List.getElem?_set]
  split
  · rename_i e; subst e
    split
    · exact h.symm
    · rename_i hl; rw [List.getElem?_eq_none (by omega)] at h; cases h
  · rfl
theorem share_rd {i : Nat} {b : S} {D : Ends} {σ : L2.St} {H : Hp} (h : rdS X.K (exS (.seq (.share i) b)) D σ H) : rdS X.K (exS b) D σ H := by
  obtain ⟨c, gT, gF, ρ, s, P, q⟩ := h
  rw [exS, exS] at q
  cases e : ρ.getD i .no with
  | no => rw [e] at q; exact q.elim
  | sh d =>
    rw [e] at q
    dsimp only at q
    rw [setE_same (getD_sh e)] at q
    exact ⟨c, gT, gF, ρ, s, P, q⟩
  | ow d =>
    rw [e] at q
    exact ⟨c, gT, gF, _, s, P.shareSlot (getD_ow e), q⟩
theorem ret_rd {e : E} {D : Ends} {σ : L2.St} {H : Hp} (h : rdS X.K (exS (.ret e)) D σ H) : rd X.K (ev e) σ H D.rt := by
  obtain ⟨c, gT, gF, ρ, s, P, q⟩ := h
  rw [exS] at q
  obtain ⟨r, s1, e1, q⟩ := withV_fin q
  refine ⟨c, gT, gF, ρ, s, r, s1, P, e1, fun v H' P' V => ?_⟩
  cases r with
  | sh d => exact q.2 v σ ρ H' P' trivial
  | fr d => exact q.2 v σ ρ H' P' V
  | bo i d =>
    obtain ⟨a, rfl, h1, h2⟩ := V
    exact q.2 _ σ _ H' (Pt.lend P' h2 h1) ⟨a, rfl⟩
theorem if_rd {e : E} {a b : S} {D : Ends} {σ : L2.St} {H : Hp} (h : rdS X.K (exS (.ife e a b)) D σ H) : tIfS (rdT X.K (ev e)) (rdS X.K (exS a)) (rdS X.K (exS b)) D σ H := by
  obtain ⟨c, gT, gF, ρ, s, P, q⟩ := h
  rw [exS] at q
  obtain ⟨r, s1, e1, q⟩ := withV_fin q
  split at q <;> first | (exact q.elim) | skip
  · exact ⟨c, gT, gF, ρ, s, true, s1, P, e1, fun H' P' => by dsimp only; rw [if_pos rfl]; exact ⟨c, gT, gF, ρ, s1, P', q⟩⟩
  · exact ⟨c, gT, gF, ρ, s, false, s1, P, e1, fun H' P' => by dsimp only; rw [if_neg (by simp)]; exact ⟨c, gT, gF, ρ, s1, P', q⟩⟩
theorem expr_rd {e : E} {D : Ends} {σ : L2.St} {H : Hp} (h : rdS X.K (exS (.expr e)) D σ H) : tDrop (rd X.K (ev e)) D σ H := by
  obtain ⟨c, gT, gF, ρ, s, P, q⟩ := h
  rw [exS] at q
  obtain ⟨r, s1, e1, q⟩ := withV_fin q
  exact ⟨c, gT, gF, ρ, s, r, s1, P, e1, fun v H' P' V => q _ _ (P'.less (r.subT v gT) (r.subF v gF))⟩
def stepF (tg : Tg) (b : S) (d : D) (ρ : Env) (s : OSt) : Out := match bindTg tg d ρ with
  | some ρ1 => exS b ρ1 s
  | none => .no
theorem for_rd {tg : Tg} {it : E} {b : S} {D : Ends} {σ : L2.St} {H : Hp} (h : rdS X.K (exS (.for tg it b)) D σ H) : tFor (rdI X.K (evI it)) (rdG X.K tg) (rdS X.K (exS b)) D σ H := by
  obtain ⟨c, gT, gF, ρ, s, P, q⟩ := h
  rw [exS] at q
  split at q <;> first | (exact q.elim) | skip
  rename_i items s1 e1
  have q : Fin X.K c gT gF D (forL (stepF tg b) items ρ s1) := q
  refine ⟨c, gT, gF, ρ, s, items, none, s1, P, e1, fun J H1 gT1 gF1 ρ1 hb _ hsub P1 wk => ?_⟩
  obtain ⟨rfl, rfl⟩ := hb rfl
  have q := q.up hsub
  refine ⟨fun i m σ H => m = items.length - i ∧ i ≤ items.length ∧ ∃ ρ s, Pt X.K c gT1 gF1 σ H ρ s ∧ Fin X.K c gT1 gF1 D (forL (stepF tg b) (items.drop i) ρ s), ⟨items.length, rfl, Nat.zero_le _, ρ1, s1, P1, q⟩, ?_⟩
  rintro i m σ H ⟨rfl, hi, ρ, s, P, q⟩
  by_cases hlt : i < items.length
  · refine .inr ⟨wk.goes i hlt _ _ _ _ _ _ (fun _ h => h) (fun _ h => h) P, fun σ' H' => i + 1 ≤ items.length ∧ ∃ ρ s, Pt X.K c gT1 gF1 σ' H' ρ s ∧ Fin X.K c gT1 gF1 D (forL (stepF tg b) (items.drop (i + 1)) ρ s), fun σ' H' w => ⟨items.length - (i + 1), by omega, rfl, w.1, w.2⟩, fun x H' y => ?_⟩
    have hd : items[i]? = some items[i] := List.getElem?_eq_getElem hlt
    have P2 := wk.yields i _ hd _ _ _ _ _ _ x H' (fun _ h => h) (fun _ h => h) P y
    rw [List.drop_eq_getElem_cons hlt, forL] at q
    unfold stepF at q
    cases hb : bindTg tg items[i] ρ with
    | none => rw [hb] at q; exact q.elim
    | some ρ1 =>
      rw [hb] at q
      refine ⟨c, _, gF1, ρ, s, _, ρ1, P2, List.mem_cons_self, hb, fun σ' P3 _ => ⟨c, gT1, gF1, ρ1, s, P3.less (fun p hp => List.mem_cons_of_mem _ hp) (List.Sublist.refl _), ?_⟩⟩
      exact Fin.turn q fun σ H ρ1 s1 P4 q4 => ⟨hlt, ρ1, s1, P4, q4⟩
  · have hi' : i = items.length := by omega
    subst hi'
    rw [List.drop_length, forL] at q
    exact .inl ⟨wk.stops _ _ _ _ _ _ (fun _ h => h) (fun _ h => h) P, q σ H P⟩
theorem whl_rd {n : Nat} {e : E} {b : S} {D : Ends} {σ : L2.St} {H : Hp} (h : rdS X.K (exS (.whl n e b)) D σ H) : tWhile (rdT X.K (ev e)) (rdS X.K (exS b)) D σ H := by
  obtain ⟨c, gT, gF, ρ, s, P, q⟩ := h
  rw [exS] at q
  refine ⟨fun m σ H => ∃ ρ s, Pt X.K c gT gF σ H ρ s ∧ Fin X.K c gT gF D (whlL (fun ρ s => ev e ρ s) (fun ρ s => exS b ρ s) m ρ s), ⟨n, ρ, s, P, q⟩, ?_⟩
  rintro m σ H ⟨ρ, s, P, q⟩
  cases m with
  | zero => rw [whlL] at q; exact q.elim
  | succ m =>
    rw [whlL] at q
    split at q <;> first | (exact q.elim) | skip
    · rename_i s1 e1
      refine ⟨c, gT, gF, ρ, s, true, s1, P, e1, fun H1 P1 => ?_⟩
      show (if true = true then _ else _)
      rw [if_pos rfl]
      exact ⟨fun σ' H' => ∃ ρ s, Pt X.K c gT gF σ' H' ρ s ∧ Fin X.K c gT gF D (whlL (fun ρ s => ev e ρ s) (fun ρ s => exS b ρ s) m ρ s), fun σ' H' w => ⟨m, Nat.lt_succ_self m, w⟩, c, gT, gF, ρ, s1, P1, Fin.turn q fun σ H ρ1 s1 P4 q4 => ⟨ρ1, s1, P4, q4⟩⟩
    · rename_i s1 e1
      exact ⟨c, gT, gF, ρ, s, false, s1, P, e1, fun H1 P1 => by dsimp only; rw [if_neg (by simp)]; exact q _ _ P1⟩
def SndS (b : S) : Prop := ∀ (X : Cx) (mc : MC), CtxOk X mc → okS (lvOf X) b → PassesOwn (model X.prog X.w) X.A X.env X.xe →
  (∀ st, mtS b mc st = true → PS X st (rdS X.K (exS b))) ∧ (∀ sts, mtSs b mc sts = true → PSs X sts (rdS X.K (exS b)))
theorem SndS.of {b : S} (h : ∀ (X : Cx) (mc : MC), CtxOk X mc → okS (lvOf X) b → PassesOwn (model X.prog X.w) X.A X.env X.xe → ∀ st, mtS b mc st = true → PS X st (rdS X.K (exS b))) (h1 : ∀ mc l, mtSs b mc l = false) : SndS b :=
  fun X mc ok hk hp => ⟨h X mc ok hk hp, fun sts z => absurd z (by rw [h1]; simp)⟩
theorem snd_stmt (b : S) : SndS b := by
  induction b with
  | skip =>
    refine fun X mc ok hk hp => ⟨fun st h => ?_, fun sts h => ?_⟩
    · have t : ∀ D σ H, rdS X.K (exS .skip) D σ H → tNext D σ H := fun D σ H ⟨c, gT, gF, ρ, s, P, q⟩ => q _ _ P
      cases st <;> first | (simp [mtS] at h; done) | skip
      · rename_i v p
        cases v <;> first | (simp [mtS] at h; done) | skip
        rename_i k n p2
        cases k <;> first | (simp [mtS] at h; done) | skip
        exact ps_doc.via t
      · exact ps_pass.via t
    · unfold mtSs at h
      cases sts with
      | nil => exact pss_nil.via fun D σ H ⟨c, gT, gF, ρ, s, P, q⟩ => q _ _ P
      | cons => cases h
  | seq a b iha ihb =>
    refine fun X mc ok hk hp => ⟨fun st h => by simp [mtS] at h, fun sts h => ?_⟩
    by_cases hs : ∃ i, a = .share i
    · obtain ⟨i, rfl⟩ := hs
      unfold mtSs at h
      exact ((ihb X mc ok hk.2 hp).2 sts h).via fun D σ H q => share_rd q
    · have h' : ∃ st r, sts = st :: r ∧ mtS a mc st = true ∧ mtSs b mc r = true := by
        unfold mtSs at h
        split at h
        · exact (hs ⟨_, rfl⟩).elim
        · split at h
          · rw [Bool.and_eq_true] at h
            exact ⟨_, _, rfl, h.1, h.2⟩
          · cases h
      obtain ⟨st, r, rfl, h1, h2⟩ := h'
      exact (pss_cons ((iha X mc ok hk.1 hp).1 _ h1) ((ihb X mc ok hk.2 hp).2 _ h2)).via fun D σ H q => seq_rd q
  | asg i e =>
    refine .of (fun X mc ok hk hp st h => ?_) (by intro mc l; simp [mtSs])
    unfold mtS at h
    split at h <;> first | (cases h; done) | skip
    all_goals first | (rename_i heq; cases heq; done) | skip
    rename_i heq
    cases heq
    simp only [Bool.and_eq_true] at h
    exact ps_asgE ok hk (of_decide_eq_true h.1.1.1) h.1.1.2 h.1.2 h.2
  | asgS i e =>
    refine .of (fun X mc ok hk hp st h => ?_) (by intro mc l; simp [mtSs])
    unfold mtS at h
    split at h <;> first | (cases h; done) | skip
    all_goals first | (rename_i heq; cases heq; done) | skip
    rename_i heq
    cases heq
    simp only [Bool.and_eq_true] at h
    exact ps_asgSE ok hk (of_decide_eq_true h.1.1.1) h.1.1.2 h.1.2 h.2
  | asgT tg e =>
    refine .of (fun X mc ok hk hp st h => ?_) (by intro mc l; simp [mtSs])
    unfold mtS at h
    split at h <;> first | (cases h; done) | skip
    all_goals first | (rename_i heq; cases heq; done) | skip
    rename_i heq
    cases heq
    simp only [Bool.and_eq_true] at h
    exact ps_asgTE ok hk h.1.1 h.1.2 h.2
  | par is es =>
    refine .of (fun X mc ok hk hp st h => ?_) (by intro mc l; simp [mtSs])
    unfold mtS at h
    split at h <;> first | (cases h; done) | skip
    all_goals first | (rename_i heq; cases heq; done) | skip
    · rename_i heq
      cases heq
      simp only [Bool.and_eq_true, Bool.not_eq_true'] at h
      obtain ⟨⟨⟨⟨⟨⟨⟨⟨⟨⟨h1, h2⟩, h3⟩, h4⟩, h5⟩, h6⟩, _⟩, h7⟩, h8⟩, h9⟩, h10⟩ := h
      exact ps_par2E ok hk (of_decide_eq_true h1) (of_decide_eq_true h2) (of_decide_eq_true h3) (of_decide_eq_true h4) h5 h6 h7 h8 h9 h10
    · rename_i heq
      cases heq
      simp only [Bool.and_eq_true, Bool.not_eq_true'] at h
      obtain ⟨⟨⟨⟨⟨⟨⟨⟨⟨⟨⟨⟨⟨⟨⟨⟨h1, h2⟩, h3⟩, h4⟩, h5⟩, h6⟩, h7⟩, h8⟩, h9⟩, h10⟩, h11⟩, h12⟩, h13⟩, h14⟩, h15⟩, h16⟩, h17⟩ := h
      exact ps_par3E ok hk (of_decide_eq_true h1) (of_decide_eq_true h2) (of_decide_eq_true h3) (of_decide_eq_true h4) (of_decide_eq_true h5) (of_decide_eq_true h6) (of_decide_eq_true h7) (of_decide_eq_true h8) (of_decide_eq_true h9) h10 h11 h12 h13 h14 h15 h16 h17
  | app i e =>
    refine .of (fun X mc ok hk hp st h => ?_) (by intro mc l; simp [mtSs])
    unfold mtS at h
    split at h <;> first | (cases h; done) | skip
    all_goals first | (rename_i heq; cases heq; done) | skip
    rename_i heq
    cases heq
    simp only [Bool.and_eq_true] at h
    obtain ⟨⟨⟨⟨h1, h2⟩, h3⟩, h4⟩, h5⟩ := h
    cases strIs_eq h2
    exact ps_appE ok hk h1 h3 h4 h5
  | ext i e =>
    refine .of (fun X mc ok hk hp st h => ?_) (by intro mc l; simp [mtSs])
    unfold mtS at h
    split at h <;> first | (cases h; done) | skip
    all_goals first | (rename_i heq; cases heq; done) | skip
    rename_i heq
    cases heq
    simp only [Bool.and_eq_true] at h
    obtain ⟨⟨⟨⟨h1, h2⟩, h3⟩, h4⟩, h5⟩ := h
    cases strIs_eq h2
    exact ps_extE ok hk h1 h3 h4 h5
  | seti i k e =>
    refine .of (fun X mc ok hk hp st h => ?_) (by intro mc l; simp [mtSs])
    unfold mtS at h
    split at h <;> first | (cases h; done) | skip
    all_goals first | (rename_i heq; cases heq; done) | skip
    rename_i heq
    cases heq
    simp only [Bool.and_eq_true] at h
    obtain ⟨⟨⟨h1, h2⟩, h3⟩, h4⟩ := h
    exact ps_setiE ok hk.1 hk.2 h1 h2 h3 h4
  | expr e =>
    refine .of (fun X mc ok hk hp st h => ?_) (by intro mc l; simp [mtSs])
    cases st <;> first | (simp [mtS] at h; done) | skip
    rename_i v pos
    rw [mtS, Bool.and_eq_true] at h
    have sw : swapsWith v none pos.line X.env = pure false := by
      obtain ⟨_, h⟩ := h
      cases v <;> first | rfl | (cases h; done)
    exact (ps_expr ((snd_all e).1 X mc ok hk |>.1 _ h.1).pe sw).via fun D σ H q => expr_rd q
  | ret e =>
    refine .of (fun X mc ok hk hp st h => ?_) (by intro mc l; simp [mtSs])
    cases st <;> first | (simp [mtS] at h; done) | skip
    rename_i v pos
    cases v with
    | some v =>
      rw [mtS] at h
      exact (ps_ret ((snd_all e).1 X mc ok hk |>.1 _ h).pe).via fun D σ H q => ret_rd q
    | none =>
      have he : e = .con .non := by
        unfold mtS at h
        split at h <;> first | (cases h; done) | skip
        all_goals first | (rename_i heq heq2; cases heq; done) | (rename_i heq; cases heq; done) | skip
        all_goals (injection ‹S.ret e = S.ret (E.con D.non)›)
      subst he
      refine ps_retN.via fun D σ H ⟨c, gT, gF, ρ, s, P, q⟩ => ?_
      rw [exS, ev] at q
      obtain ⟨T, F, o⟩ := P
      exact q.2 .non σ ρ H ⟨_, _, o.addT (by rw [Rep])⟩ trivial
  | ife c a b iha ihb =>
    refine .of (fun X mc ok hk hp st h => ?_) (by intro mc l; simp [mtSs])
    cases st <;> first | (simp [mtS] at h; done) | skip
    rw [mtS, Bool.and_eq_true, Bool.and_eq_true] at h
    exact (ps_if ((snd_all c).1 X mc ok hk.1 |>.1 _ h.1.1).pt ((iha X mc ok hk.2.1 hp).2 _ h.1.2) ((ihb X mc ok hk.2.2 hp).2 _ h.2)).via fun D σ H q => if_rd q
  | «for» tg it b ihb =>
    refine .of (fun X mc ok hk hp st h => ?_) (by intro mc l; simp [mtSs])
    cases st <;> first | (simp [mtS] at h; done) | skip
    rename_i t x l r pos
    cases r with
    | cons _ _ => simp [mtS] at h
    | nil =>
      rw [mtS, Bool.and_eq_true, Bool.and_eq_true] at h
      have L := ((snd_all it).1 X mc ok hk.1).2.2 _ _ h.1.2
      exact (ps_for hp ok.calm L.1 ((tg_ok ok tg).1 _ h.1.1) ((ihb X mc ok hk.2 hp).2 _ h.2) L.2).via fun D σ H q => for_rd q
  | whl n c b ihb =>
    refine .of (fun X mc ok hk hp st h => ?_) (by intro mc l; simp [mtSs])
    cases st <;> first | (simp [mtS] at h; done) | skip
    rename_i x l r pos
    cases r with
    | cons _ _ => simp [mtS] at h
    | nil =>
      rw [mtS, Bool.and_eq_true] at h
      exact (ps_while hp ((snd_all c).1 X mc ok hk.1 |>.1 _ h.1).pt ((ihb X mc ok hk.2 hp).2 _ h.2)).via fun D σ H q => whl_rd q
  | brk =>
    refine .of (fun X mc ok hk hp st h => ?_) (by intro mc l; simp [mtSs])
    cases st <;> first | (simp [mtS] at h; done) | skip
    exact ps_break.via fun D σ H ⟨c, gT, gF, ρ, s, P, q⟩ => q _ _ P
  | cont =>
    refine .of (fun X mc ok hk hp st h => ?_) (by intro mc l; simp [mtSs])
    cases st <;> first | (simp [mtS] at h; done) | skip
    exact ps_continue.via fun D σ H ⟨c, gT, gF, ρ, s, P, q⟩ => q _ _ P
  | share i =>
    refine .of (fun X mc ok hk hp st h => ?_) (by intro mc l; simp [mtSs])
    simp [mtS] at h
  | never =>
    refine fun X mc ok hk hp => ⟨fun st h => ps_never.via fun D σ H ⟨c, gT, gF, ρ, s, P, q⟩ => q, fun sts h => pss_never.via fun D σ H ⟨c, gT, gF, ρ, s, P, q⟩ => q⟩
  | stPut i e =>
    refine .of (fun X mc ok hk hp st h => ?_) (by intro mc l; simp [mtSs])
    unfold mtS at h
    split at h <;> first | (cases h; done) | skip
    all_goals first | (rename_i heq; cases heq; done) | skip
    rename_i heq
    cases heq
    simp only [Bool.and_eq_true] at h
    obtain ⟨⟨h1, h2⟩, h3⟩ := h
    cases strIs_eq h2
    exact ps_stPut ok hk h1 h3
  | stPutLeft i k e =>
    refine .of (fun X mc ok hk hp st h => ?_) (by intro mc l; simp [mtSs])
    unfold mtS at h
    split at h <;> first | (cases h; done) | skip
    all_goals first | (rename_i heq; cases heq; done) | skip
    rename_i heq
    cases heq
    simp only [Bool.and_eq_true] at h
    obtain ⟨⟨⟨⟨h1, h2⟩, h3⟩, h4⟩, h5⟩ := h
    cases strIs_eq h2
    exact ps_stPutLeft ok hk.1 hk.2 h1 h3 h4 h5
end
end RS
end
section
set_option Elab.async false
set_option linter.all false
set_option maxRecDepth 100000
set_option autoImplicit false
set_option maxHeartbeats 4000000
/-! RSDef: a def whose body matches keeps the evaluator's promise. -/
namespace RS
open PySem PySem.Spec PyProof.Rows L2
def cellB (sc : Scope) (x : Str) : Bool := true
theorem startE_len {n : Nat} {ds : List D} (h : ds.length ≤ n) : (startE n ds).length = n := by
  unfold startE; simp; omega
theorem startE_get {n : Nat} {ds : List D} {i : Nat} {x : Slot} (h : (startE n ds)[i]? = some x) (hx : x ≠ .no) : ∃ d, ds[i]? = some d ∧ x = .sh d := by
  unfold startE at h
  by_cases hi : i < ds.length
  · rw [List.getElem?_append_left (by simpa using hi), List.getElem?_map] at h
    cases hd : ds[i]? with
    | none => rw [hd] at h; cases h
    | some d => rw [hd] at h; cases h; exact ⟨d, rfl, rfl⟩
  · rw [List.getElem?_append_right (by simpa using hi), List.getElem?_replicate] at h
    split at h
    · cases h; exact (hx rfl).elim
    · cases h
theorem start_get {N : List Str} {vs : List V} {i : Nat} {v : V} (h : vs[i]? = some v) : (L2.start N vs)[i]? = some (some v) := by
  unfold L2.start
  rw [List.getElem?_append_left (by simpa using lt_of_get h), List.getElem?_map, h]; rfl
theorem start_len {N : List Str} {vs : List V} (h : vs.length ≤ N.length) : (L2.start N vs).length = N.length := by
  unfold L2.start; simp; omega
theorem Reps.zip_mem {K : PySem.W.Frag} {aS : Addr} {O : Addr → Prop} {H : Hp} : ∀ {ds : List D} {vs : List V}, Reps K aS O H ds vs → ∀ p ∈ ds.zip vs, Rep K aS O H p.1 p.2
  | [], _, _, p, hp => by simp at hp
  | d :: ds, vs, h, p, hp => by
    rw [Reps] at h
    obtain ⟨v, xs, rfl, r, t⟩ := h
    rw [List.zip_cons_cons] at hp
    rcases List.mem_cons.mp hp with e | hp
    · rw [e]; exact r
    · exact Reps.zip_mem t p hp
theorem entry {K : PySem.W.Frag} {c : Cfg} {H : Hp} {st : OSt} {ds : List D} {vs : List V} {N : List Str} (hl : vs.length ≤ N.length) (r : Reps K c.aS c.O H ds vs) (pre : Pre K c H st) :
    Pt K { c with H0 := H } [] [] (L2.start N vs) H (startE N.length ds) st := by
  have hd := r.length
  refine ⟨ds.zip vs, [], ⟨fun p hp => ?_, fun p hp => absurd hp (by simp), by simp, ?_, pre.oS, pre.trk, Keeps.refl⟩, fun p hp => absurd hp (by simp), fun p hp => absurd hp (by simp), by simp, ?_⟩
  · exact Rep.go (Go.less fun a ha => by
      rcases ha with z | z
      · exact z
      · simp at z) _ _ (r.zip_mem p hp)
  · exact ⟨pre.st.dict, pre.st.cells, pre.st.lefts, pre.st.ne, pre.st.len, pre.st.pos, pre.st.most⟩
  · refine ⟨by rw [startE_len (by omega), start_len hl], fun i d h => ?_, fun i d h => ?_, fun i j d e a h => ?_⟩
    · obtain ⟨d', h1, h2⟩ := startE_get h (by intro z; cases z)
      cases h2
      have hi := lt_of_get h1
      have hv : vs[i]? = some (vs[i]'(by omega)) := List.getElem?_eq_getElem (by omega)
      refine ⟨_, start_get hv, List.mem_iff_getElem?.mpr ⟨i, ?_⟩⟩
      rw [List.getElem?_zip_eq_some]
      exact ⟨h1, hv⟩
    · obtain ⟨d', _, h2⟩ := startE_get h (by intro z; cases z)
      cases h2
    · obtain ⟨d', _, h2⟩ := startE_get h (by intro z; cases z)
      cases h2
theorem Keeps.re {c : Cfg} {H0 H H' : Hp} (k : Keeps { c with H0 := H0 } H H') : Keeps c H H' := ⟨k.obj, k.there⟩
theorem StOk.re {c : Cfg} {H0 H : Hp} {s : OSt} (st : StOk { c with H0 := H0 } H s) : StOk c H s := ⟨st.dict, st.cells, st.lefts, st.ne, st.len, st.pos, st.most⟩
theorem ends {K : PySem.W.Frag} {c : Cfg} {H : Hp} {o : Out} {r : Rs} {s' : OSt} {Q : VK} (e : endR o = .ok r s') (q : SpEnd K c H s' Q r) (hb : ∀ ρ s, o ≠ .bk ρ s ∧ o ≠ .ct ρ s) :
    Fin K { c with H0 := H } [] [] { nx := fun _ H' => Q .non H', rt := Q } o := by
  cases o with
  | nx ρ s =>
    cases e
    intro σ H' ⟨T, F, o⟩
    exact q .non H' o.B.kp.re o.B.st.re (by rw [Rep])
  | rt r' s =>
    cases e
    cases r with
    | sh d =>
      refine ⟨rfl, fun v σ ρ H' ⟨T, F, o⟩ _ => ?_⟩
      exact q v H' o.B.kp.re o.B.st.re (Rep.go (Go.less fun a ha => .inl ha) _ _ (o.B.tT _ (o.hT _ List.mem_cons_self)))
    | fr d =>
      refine ⟨rfl, fun v σ ρ H' ⟨T, F, o⟩ hv => ?_⟩
      obtain ⟨a, rfl⟩ := hv
      obtain ⟨t, n, h0⟩ := o.B.tF _ (o.hF _ List.mem_cons_self)
      refine q a H' o.B.kp.re o.B.st.re h0 (t.go (Go.less fun b hb => ?_) fun _ e => e)
      rcases hb with z | z
      · exact .inl z
      · rw [z]; exact .inr (List.mem_map.mpr ⟨_, o.hF _ List.mem_cons_self, rfl⟩)
    | bo i d => exact q.elim
  | bk ρ s => exact ((hb ρ s).1 rfl).elim
  | ct ρ s => exact ((hb ρ s).2 rfl).elim
  | exc => cases e
  | no => cases e
theorem ends' {K : PySem.W.Frag} {c : Cfg} {H : Hp} {o : Out} {r : Rs} {s' : OSt} {Q : VK} (e : endR o = .ok r s') (q : SpEnd K c H s' Q r) :
    Fin K { c with H0 := H } [] [] { nx := fun _ H' => Q .non H', rt := Q } o := ends e q fun ρ s => And.intro (fun z => by rw [z] at e; cases e) (fun z => by rw [z] at e; cases e)
/-- a def of the text entered: its body's rules, and their reading at the entry -/
theorem bodyG {P : Program} {w : World} {K : PySem.W.Frag} {mg : Str → Option Value} {base : Heap} {x qual : Str} {st : Stmt} {f : Addr} {fd : FuncData} {N ps : List Str} {k : Nat} {A : Around} {outer : List PySem.Env} {s : Shared} {H : Hp} {args : Args} {us : List Value} {vs : List V} {Q : VK} {t : TS}
    (Fu : L2.Fun K x qual st f fd) (Sc : FnScope N ps (defScope st)) (room : Room (k + 1) A) (at0 : Env0 P w K mg base A outer s H) (bound : BindsTo s fd args (ps.zip us)) (rel : Vals vs us) (hn : vs.length = ps.length)
    (rules : ∀ cdv, PSs (cxOf CX0 P w K mg base N qual (defScope st) f cdv A outer s H E0).nox (defBody st) t) (told : t { nx := fun _ H' => Q .non H', rt := Q } (L2.start N vs) H) :
    codeAny (model P w) A (.call (.ref f) args) (CR CX0 outer P w H s Q E0) s := by
  obtain ⟨_, _, _, _, _, _, code, _, _, rfl, look, incode⟩ := Fu.ex
  have kept : K.In s.heap := fun c o e => (at0.bs c o (at0.mod.kin c o e)).1
  have free : s.heap.NoLimit := by
    obtain ⟨m, q1, q2⟩ := at0.mod.nolimit
    exact ⟨m, q1.keeps fun c o e => (at0.bs c o e).1, q2⟩
  refine codeAny_call_function room.depth (kept _ _ look) rfl Sc.co Sc.gen rfl (PySem.W.codeRec_of kept incode) (bound _ _ _ _ ?_)
  refine wpAny_newFunctionEnv_cells Sc.kind (fun p hp => ?_) fun env he s1 entered => ?_
  · rcases Sc.par p.1 (List.of_mem_zip hp).1 with q | q
    · exact Or.inl q
    · exact Or.inr ⟨q, PySem.W.cellsFrom_some _ _ _ (Or.inl q)⟩
  · subst he
    refine ⟨free.keeps entered.toInCall.keep, codeAny_func ?_⟩
    have inv := inv_start (CX := CX0) (E := E0) (cd := code) (w := w) (P := P) (mg := mg) (base := base) (outer := outer) Sc room.hd at0 hn rel entered
    have close : ∀ {σ' : L2.St} {Hx : Hp} {v : V} {u : Value} {sx : Shared}, Inv (cxOf CX0 P w K mg base N qual (defScope st) f code A outer s H E0) [] σ' Hx sx → RelV v u → Q v Hx → CE outer P w H s Q u sx := by
      intro σ' Hx v u sx J r q
      exact ⟨v, Hx, J.os, J.bare, J.base, J.hok, r, q⟩
    refine wpAny_mono ((rules code).nox.run [] s1 (L2.start N vs) H _ inv told) (fun fl sx hs => ?_) fun _ _ hs => hs
    match fl, hs with
    | .ret u, ⟨v, _, _, J, r, q⟩ => exact close J r q
    | .next, ⟨_, _, J, q⟩ => exact close (v := .non) (u := .none) J rfl q
    | .brk, ⟨_, _, _, q⟩ => exact q.elim
    | .cont, ⟨_, _, _, q⟩ => exact q.elim
/-- what a def's surroundings give -/
theorem ctxG {P : Program} {w : World} {K : PySem.W.Frag} {mg : Str → Option Value} {base : Heap} {qual : Str} {st : Stmt} {f : Addr} {N ps : List Str} {k : Nat} {A : Around} {outer : List PySem.Env} {s : Shared} {H : Hp} (cdv : Value) (Sc : FnScope N ps (defScope st)) (blt : ∀ x ∈ bltNames, mg (Str.ofString x) = none)
    (room : Room (k + 1) A) (hgd : A.guards = some []) : CtxOk (cxOf CX0 P w K mg base N qual (defScope st) f cdv A outer s H E0).nox ⟨N, defScope st, fun _ => true⟩ :=
  ⟨Sc.nd, rfl, blt, hgd, by have := (room.deeper (envOfC qual (defScope st) s.heap.objs.size f cdv)).un; show (A.deeper _).units + 100 < _; omega, rfl, rfl, fun _ _ => rfl, Sc.kind⟩
/-- a def by its body -/
theorem fnG {P : Program} {w : World} {K : PySem.W.Frag} {mg : Str → Option Value} {base : Heap} {x qual : Str} {st : Stmt} {f : Addr} {fd : FuncData} {N ps : List Str} {k : Nat} {b : S}
    (F : L2.Fun K x qual st f fd) (Sc : FnScope N ps (defScope st)) (blt : ∀ x ∈ bltNames, mg (Str.ofString x) = none) (hm : mtSs b ⟨N, defScope st, fun _ => true⟩ (defBody st) = true) (hk : ∀ A, Room k A → okS ⟨P, w, K, mg, base, A⟩ b) :
    FnG P w K mg base (k + 1) f fd ps (evFn N.length ps.length b) := by
  refine ⟨fun A outer s H args us vs Q hr hgd e0 hb r hsp => ?_⟩
  obtain ⟨c, ds, sst, rr, st', hl, reps, pre, hev, hend⟩ := hsp
  have hpl : ps.length ≤ N.length := by have := congrArg List.length Sc.pre; rw [List.length_take] at this; omega
  unfold evFn at hev
  split at hev <;> first | (cases hev; done) | skip
  refine bodyG F Sc hr e0 hb r hl (t := rdS K (exS b)) (fun cdv => ?_) ⟨_, [], [], _, sst, entry (N := N) (by omega) reps pre, ends' hev hend⟩
  exact ((snd_stmt b) _ _ (ctxG cdv Sc blt hr hgd) (hk _ (hr.deeper _)) (fun _ _ z => z.elim)).2 _ hm
theorem evFn_len {n p : Nat} {b : S} {ds : List D} {s s' : OSt} {r : Rs} (h : evFn n p b ds s = .ok r s') : ds.length = p := by
  unfold evFn at h
  split at h
  · assumption
  · cases h
end RS
end
section
set_option Elab.async false
set_option linter.all false
set_option maxRecDepth 100000
set_option autoImplicit false
set_option maxHeartbeats 4000000
/-! RSBegin: the def that makes the draws' state. -/
namespace RS
open PySem PySem.Spec PyProof.Rows L2
def bgComp : Scope := { kind := .function, names := [(".0", .local), ("cell", .local)], isGenerator := false, isCoroutine := false, more := [] }
def bgScope : Scope := { kind := .function, names := [("script", .local), ("cells_so", .local), ("list", .globalImplicit)], isGenerator := false, isCoroutine := false, more := [("fast", .str "script"), ("fast", .str "cells_so"), ("fast", .str "cell")] }
def bgBody (p : Nat → Pos) : List Stmt :=
  [.Assign [.Name "cells_so" (p 0)] (.IfExp (.Compare (.Name "script" (p 1)) [.NotEq] [.List [] (p 2)] (p 3)) (.Call (.Name "list" (p 4)) [.Name "script" (p 5)] [] (p 6)) (.List [.Constant (.int 0) 0 (p 7)] (p 8)) (p 9)) (p 10),
   .Return (some (.Dict [some (.Constant (.str "cells") 0 (p 11)), some (.Constant (.str "lefts") 0 (p 12)), some (.Constant (.str "at") 0 (p 13))]
     [.Name "cells_so" (p 14), .ListComp (.IfExp (.Compare (.Name "cell" (p 15)) [.GtE] [.BinOp (.Constant (.int 10) 0 (p 16)) .Pow (.Constant (.int 18) 0 (p 17)) (p 18)] (p 19)) (.Name "cell" (p 20)) (.Constant (.int 0) 0 (p 21)) (p 22))
        [⟨.Name "cell" (p 23), .Name "cells_so" (p 24), [], 0⟩] bgComp (p 25), .Constant (.int 0) 0 (p 26)] (p 27))) (p 28)]
def leftOf (x : Int) : Int := if x ≥ 10 ^ 18 then x else 0
def cellsOf (ns : List Int) : List Int := if ns = [] then [0] else ns
theorem beginSt_eq (ns : List Int) : beginSt ns = ⟨cellsOf ns, (cellsOf ns).map leftOf, 0⟩ := rfl
def spBegin (K : PySem.W.Frag) : Sp := fun vs H Q _ => ∃ (a : Addr) (ns : List Int), vs = [.ref a] ∧ SqL K H a (ns.map V.int) ∧ ns.length ≤ 63 ∧
  ∀ aS aC aL H', H' aS = some (.dK [(.inr "cells", .ref aC), (.inr "lefts", .ref aL), (.inr "at", .int 0)]) → H' aC = some (.lst ((cellsOf ns).map V.int)) → H' aL = some (.lst (((cellsOf ns).map leftOf).map V.int)) → aC ≠ aL → Q (.ref aS) H'
def rNeN (K : PySem.W.Frag) : R2 := fun x y H Q => ∃ (a b : Addr) (ns : List Int), x = .ref a ∧ y = .ref b ∧ SqL K H a (ns.map V.int) ∧ H b = some (.lst []) ∧ Q (.bl (!ns.isEmpty)) H
theorem ints_dp {K : PySem.W.Frag} {H : Hp} : ∀ ns : List Int, DpAll K H (ns.map V.int) (D.pys (ns.map D.int))
  | [] => .nil
  | n :: ns => .cons (.int n) (ints_dp ns)
theorem ints_deep (n : Nat) : ∀ ns : List Int, D.deeps n (ns.map D.int) = true
  | [] => rfl
  | m :: ns => by rw [List.map_cons, D.deeps, D.deep, ints_deep n ns]; cases n <;> rfl
theorem op_neN {X : Cx} (hu : X.A.units + 64 < cLine) : OpR X (compareOp .NotEq) (rNeN X.K) := by
  rintro pins s σ H x y v u Q I rx ry ⟨a, b, ns, rfl, rfl, ha, hb, q⟩
  have h1 : D.deep DEEP (.lst (ns.map D.int)) = true := by show D.deep (59 + 1) _ = true; rw [D.deep]; exact ints_deep _ _
  have h2 : D.deep DEEP (.lst []) = true := rfl
  have p1 : Dp X.K H (.ref a) (D.lst (ns.map D.int)).py := by rw [D.py]; exact .lst ha (ints_dp ns)
  have p2 : Dp X.K H (.ref b) (D.lst []).py := by rw [D.py]; exact .lst (SqL.of hb) .nil
  obtain ⟨as, r1⟩ := Dp.reads I _ _ v p1 rx
  obtain ⟨bs, r2⟩ := Dp.reads I _ _ u p2 ry
  have h3 := deep_depth _ _ h1
  have h4 : DEEP = 60 := rfl
  refine SeqAt.ne_plain r1 r2 (deep_plain _ _ h1) (deep_plain _ _ h2) (by omega) ⟨.bl (!ns.isEmpty), H, I, ?_, q⟩
  rw [eqv_py _ _ _ _ h1 h2]
  cases ns <;> rfl
section
variable {X : Cx} {p : Nat → Pos}
def tLefts (K : PySem.W.Frag) : TE := tLc (iList K (tVar 1)) (gName 2) tYes (tIf (tTest (tOp (rI0 fun i j => .bl (decide (j ≤ i))) (tVar 2) (tOp (rI CPow fun i j => .int (i ^ j.toNat)) (tC (.int 10)) (tC (.int 18))))) (tVar 2) (tC (.int 0))) [2]
def tBegin (K : PySem.W.Frag) : TS := tSeq
  (tAsg (tIf (tTest (tOp (rNeN K) (tVar 0) (tLst tNil))) (tCB (fun xs H Q => ∃ p ys, xs = [.ref p] ∧ (SqL K H p ys ∨ SqT K H p ys) ∧ ∀ l, H l = none → Q (.ref l) (upd H l (.lst ys))) (tCons (tVar 0) tNil)) (tLst (tCons (tC (.int 0)) tNil))) (gName 1))
  (tRet (tDisp [(tC (.str "cells"), tVar 1), (tC (.str "lefts"), tLefts K), (tC (.str "at"), tC (.int 0))]))
theorem begin_ps (hN : X.N = (["script", "cells_so", "cell"] : List Str)) (hs : X.env.scope = bgScope) (hc : X.calm = true) (hu : X.A.units + 100 < cLine) (hf : X.fn = fun _ => true) (hl : X.mg "list" = none) : PSs X (bgBody p) (tBegin X.K) := by
  have nd : X.N.Nodup := by rw [hN]; decide
  have n0 : X.N[0]? = some ("script" : Str) := by rw [hN]; rfl
  have n1 : X.N[1]? = some ("cells_so" : Str) := by rw [hN]; rfl
  have n2 : X.N[2]? = some ("cell" : Str) := by rw [hN]; rfl
  have l0 : X.env.scope.names.lookup ("script" : Str) = some .local := by rw [hs]; rfl
  have l1 : X.env.scope.names.lookup ("cells_so" : Str) = some .local := by rw [hs]; rfl
  have gl : Gl X "list" := by show X.env.scope.names.lookup ("list" : Str) = _; rw [hs]; rfl
  have bk : BlkOk X.N X.env.scope bgComp [("cell", 2)] := by rw [hN, hs]; exact blkOk_by (by decide)
  have v0 : ∀ q, PE X (.Name "script" q) (tVar 0) := fun q => pe_var n0 (.inl l0)
  have v1 : ∀ q, PE X (.Name "cells_so" q) (tVar 1) := fun q => pe_var n1 (.inl l1)
  have vC : ∀ (s : Shared) (H : Hp) (C : Addr) (cl : List (Str × Addr)) (fp : List Addr) (q : Pos), PE (X.blk s H bgComp (compEnvC bgComp cl C X.env) fp) (.Name "cell" q) (tVar 2) := fun s H C cl fp q => pe_var n2 (.inl (lookup_relS_keep (by decide) rfl))
  have gC : ∀ (s : Shared) (H : Hp) (C : Addr) (cl : List (Str × Addr)) (fp : List Addr) (q : Pos), PG (X.blk s H bgComp (compEnvC bgComp cl C X.env) fp) (.Name "cell" q) (gName 2) := fun s H C cl fp q =>
    pg_name nd n2 (.inl (lookup_relS_keep (by decide) rfl)) (.inr (lookup_relS_keep (by decide) rfl))
  refine pss_cons (ps_set nd n1 (.inl l1) (pe_ifExp (pt_cmpR (op_neN (by omega)) (v0 _) (pe_lst pa_nil) rfl) (pe_callTy call_list_of gl hl rfl (pa_cons (v0 _) pa_nil)) (pe_lst (pa_cons pe_int pa_nil))) rfl (.inr l1)) (pss_one (ps_ret (pe_disp (pps_cons pe_str (v1 _) (pps_cons pe_str ?_ (pps_cons pe_str pe_int pps_nil))) rfl rfl (by simp) (by simp))))
  exact pe_lc (own := [("cell", 2)]) hc nd (pi_list (v1 _)) bk (fun s H C cl fp => gC s H C cl fp _) (fun s H C cl fp => pts_nil)
    (fun s H C cl fp => pe_ifExp (pt_cmpR op_ge (vC s H C cl fp _) (pe_op op_pow pe_int pe_int) rfl) (vC s H C cl fp _) pe_int)
end
end RS
end
section
set_option Elab.async false
set_option linter.all false
set_option maxRecDepth 100000
set_option autoImplicit false
set_option maxHeartbeats 4000000
/-! RSBegin2: what that def computes. -/
namespace RS
open PySem PySem.Spec PyProof.Rows L2
theorem sqL_upd {K : PySem.W.Frag} {H : Hp} {a p : Addr} {xs : List V} {o : HO} (hp : H p = none) (h : SqL K H a xs) : SqL K (upd H p o) a xs := by
  rcases h with (h | ⟨ob, h⟩) | h
  · exact .inl (.inl (by rw [upd_ne (ne_of_none h hp)]; exact h))
  · exact .inl (.inr ⟨ob, by rw [upd_ne (ne_of_none h hp)]; exact h⟩)
  · exact .inr h
theorem begin_end {K : PySem.W.Frag} {D : Ends} {a p1 : Addr} {ns : List Int} {H : Hp} (hc : H p1 = some (.lst ((cellsOf ns).map V.int))) (hl : ns.length ≤ 63)
    (q : ∀ aS aC aL H', H' aS = some (.dK [(.inr "cells", .ref aC), (.inr "lefts", .ref aL), (.inr "at", .int 0)]) → H' aC = some (.lst ((cellsOf ns).map V.int)) → H' aL = some (.lst (((cellsOf ns).map leftOf).map V.int)) → aC ≠ aL → D.rt (.ref aS) H') :
    tRet (tDisp [(tC (.str "cells"), tVar 1), (tC (.str "lefts"), tLefts K), (tC (.str "at"), tC (.int 0))]) D [some (.ref a), some (.ref p1), none] H := by
  have hlen : (cellsOf ns).length ≤ 63 := by
    unfold cellsOf
    split
    · exact Nat.le_of_ble_eq_true rfl
    · exact hl
  intro p2 hp2
  have n12 : p1 ≠ p2 := fun z => by rw [z, hp2] at hc; cases hc
  refine ⟨.ref p1, rfl, ?_⟩
  dsimp only [tPairs, tC]
  have hc2 : (upd H p2 (.dK [])) p1 = some (.lst ((cellsOf ns).map V.int)) := by rw [upd_ne n12]; exact hc
  refine ⟨.ref p1, rfl, p1, rfl, ⟨_, SqL.of hc2⟩, fun L hL => ?_⟩
  have n1 : p1 ≠ L := fun z => by rw [z, hL] at hc2; cases hc2
  have n2 : p2 ≠ L := fun z => by rw [← z, upd_same] at hL; cases hL
  refine lc_list (xs := (cellsOf ns).map V.int) (fun i H' => H' = upd (upd H p2 (.dK [])) L (.lst ((((cellsOf ns).take i).map leftOf).map V.int))) rfl (fun i H' _ e => ?_) (fun i x H' hx e => ?_) (fun H' e => ?_)
  · rw [e]
    exact SqL.of (by rw [upd_ne n1]; exact hc2)
  · rw [List.getElem?_map] at hx
    cases hg : (cellsOf ns)[i]? with
    | none => rw [hg] at hx; cases hx
    | some c =>
      rw [hg] at hx
      cases hx
      refine ⟨rfl, ?_⟩
      unfold tYes
      dsimp only
      rw [if_pos rfl]
      have e10 : (10 : Int) ^ (18 : Int).toNat = 10 ^ 18 := rfl
      have fin : ∃ acc, H' L = some (.lst acc) ∧ acc.length < sizeLine ∧ upd H' L (.lst (acc ++ [.int (leftOf c)])) = upd (upd H p2 (.dK [])) L (.lst ((((cellsOf ns).take (i + 1)).map leftOf).map V.int)) := by
        refine ⟨_, by rw [e, upd_same], ?_, ?_⟩
        · simp only [List.length_map, List.length_take]
          rw [sizeLine_eq]; omega
        · rw [e, upd_upd]
          have hi : i < (cellsOf ns).length := lt_of_get hg
          have : (cellsOf ns)[i] = c := by rw [List.getElem?_eq_getElem hi] at hg; exact Option.some.inj hg
          rw [List.take_succ_eq_append_getElem hi, this, List.map_append, List.map_append]
          rfl
      refine ⟨.int c, rfl, 10, 18, rfl, rfl, ⟨by decide, by decide, by decide⟩, c, _, rfl, rfl, _, rfl, ?_⟩
      dsimp only
      by_cases h : c ≥ 10 ^ 18
      · rw [if_pos (by rw [decide_eq_true_eq]; exact h)]
        refine ⟨.int c, rfl, ?_⟩
        have el : leftOf c = c := if_pos h
        rw [el] at fin
        exact fin
      · rw [if_neg (by rw [decide_eq_true_eq]; exact h)]
        have el : leftOf c = 0 := if_neg h
        rw [el] at fin
        exact fin
  · have e' : H' = upd (upd H p2 (.dK [])) L (.lst (((cellsOf ns).map leftOf).map V.int)) := by
      rw [e, List.length_map, List.take_length]
    rw [e']
    refine ⟨by rw [upd_ne n2, upd_same], [(.inr "cells", .ref p1), (.inr "lefts", .ref L), (.inr "at", .int 0)], rfl, by show 3 ≤ 15; omega, ?_⟩
    refine q p2 p1 L _ (by rw [upd_same]; rfl) (by rw [upd_ne n12, upd_ne n1]; exact hc2) (by rw [upd_ne (Ne.symm n2), upd_same]) n1
theorem begin_rd {K : PySem.W.Frag} {a : Addr} {ns : List Int} {D : Ends} {H : Hp} (hS : SqL K H a (ns.map V.int)) (hl : ns.length ≤ 63)
    (q : ∀ aS aC aL H', H' aS = some (.dK [(.inr "cells", .ref aC), (.inr "lefts", .ref aL), (.inr "at", .int 0)]) → H' aC = some (.lst ((cellsOf ns).map V.int)) → H' aL = some (.lst (((cellsOf ns).map leftOf).map V.int)) → aC ≠ aL → D.rt (.ref aS) H') :
    tBegin K D [some (.ref a), none, none] H := by
  refine ⟨.ref a, rfl, Nat.zero_le _, fun p hp => ⟨a, p, ns, rfl, rfl, sqL_upd hp hS, upd_same, _, rfl, ?_⟩⟩
  dsimp only
  cases ns with
  | nil =>
    rw [if_neg (by simp)]
    refine ⟨by rw [sizeLine_eq]; show 1 ≤ _; omega, fun p1 hp1 => ?_⟩
    exact begin_end (ns := []) (by rw [upd_same]; rfl) hl q
  | cons n ns =>
    rw [if_pos (by simp)]
    refine ⟨.ref a, rfl, a, _, rfl, .inl (sqL_upd hp hS), fun p1 hp1 => ?_⟩
    exact begin_end (ns := n :: ns) (by rw [upd_same]; rfl) hl q
theorem begin_fn {P : Program} {w : World} {K : PySem.W.Frag} {mg : Str → Option Value} {base : Heap} {x qual : Str} {st : Stmt} {f : Addr} {fd : FuncData} {k : Nat} {p : Nat → Pos}
    (F : L2.Fun K x qual st f fd) (hb : defBody st = bgBody p) (hs : defScope st = bgScope) (hl : mg "list" = none) : FnOk P w K mg base CX0 (k + 1) f fd ["script"] (spBegin K) := by
  refine F.ok (N := ["script", "cells_so", "cell"]) ?_ (fun vs H Q E ⟨a, ns, e, _⟩ => by rw [e]; rfl) fun cdv A outer s H vs Q E hr ⟨a, ns, e, hS, hl', q⟩ => ⟨tBegin K, ?_, ?_⟩
  · rw [hs]
    exact ⟨rfl, rfl, rfl, by decide, rfl, by decide, by decide⟩
  · rw [hb]
    exact begin_ps rfl hs rfl (by have := hr.un; show (A.deeper _).units + 100 < _; omega) rfl hl
  · subst e
    exact begin_rd hS hl' q
end RS
end
section
set_option Elab.async false
set_option linter.all false
set_option maxRecDepth 100000
set_option autoImplicit false
set_option maxHeartbeats 4000000
/-! RSLaw: the law's def, and what the head asks of it. -/
namespace RS
open PySem PySem.Spec PyProof.Rows L2
def lawE (n j : Nat) : RS.Env := (List.replicate n Slot.no).set j (.sh .st)
def spLaw (K : PySem.W.Frag) (n j : Nat) (b : S) : List V → Hp → VK → Prop := fun vs H Q => ∃ (a : Addr) (ns : List Int) (st' : OSt), vs = [.ref a] ∧ SqL K H a (ns.map V.int) ∧ ns.length ≤ 63 ∧
  endR (exS b (lawE n j) (beginSt ns)) = .ok (.sh (.bl true)) st' ∧ ∀ H', Q (.bl true) H'
theorem lawE_get {n j i : Nat} {x : Slot} (h : (lawE n j)[i]? = some x) (hx : x ≠ .no) : i = j ∧ x = .sh .st := by
  unfold lawE at h
  by_cases e : j = i
  · subst e
    rw [List.getElem?_set] at h
    simp only [if_true] at h
    split at h
    · cases h; exact ⟨rfl, rfl⟩
    · cases h
  · rw [List.getElem?_set_ne e, List.getElem?_replicate] at h
    split at h
    · cases h; exact (hx rfl).elim
    · cases h
theorem law_pt {K : PySem.W.Frag} {H : Hp} {aS aC aL : Addr} {ns : List Int} {N : List Str} {vs : List V} {j : Nat} (hj : j < N.length) (hv : vs.length ≤ N.length) (hl : ns.length ≤ 63) (h1 : H aS = some (.dK [(.inr "cells", .ref aC), (.inr "lefts", .ref aL), (.inr "at", .int 0)])) (h2 : H aC = some (.lst ((cellsOf ns).map V.int)))
    (h3 : H aL = some (.lst (((cellsOf ns).map leftOf).map V.int))) (h4 : aC ≠ aL) : Pt K ⟨fun a => a = aS ∨ a = aL ∨ a = aC, H, aS, aL, aC⟩ [] [] ((L2.start N vs).set j (some (.ref aS))) H (lawE N.length j) (beginSt ns) := by
  rw [beginSt_eq]
  have hc : 0 < (cellsOf ns).length ∧ (cellsOf ns).length ≤ 1000 := by
    unfold cellsOf
    split
    · exact ⟨Nat.le_refl 1, by show 1 ≤ 1000; omega⟩
    · rename_i h
      exact ⟨List.length_pos_iff.mpr h, by omega⟩
  have hl2 : (L2.start N vs).length = N.length := start_len hv
  refine ⟨[(.st, .ref aS)], [], ⟨fun p hp => ?_, fun p hp => absurd hp (by simp), by simp, ⟨h1, h2, h3, h4, by simp, hc.1, hc.2⟩, ⟨.inl rfl, .inr (.inl rfl), .inr (.inr rfl)⟩, fun a ha => ?_, Keeps.refl⟩, fun p hp => absurd hp (by simp), fun p hp => absurd hp (by simp), by simp, ?_⟩
  · rw [List.mem_singleton.mp hp]
    show Rep K aS _ H .st (.ref aS)
    rw [Rep]
  · rcases ha with e | e | e <;> rw [e]
    · exact ⟨.dK _, h1, trivial⟩
    · exact ⟨.lst _, h3, trivial⟩
    · exact ⟨.lst _, h2, trivial⟩
  · refine ⟨by unfold lawE; simp [hl2], fun i d h => ?_, fun i d h => ?_, fun i k d e a h => ?_⟩
    · obtain ⟨rfl, e⟩ := lawE_get h (by intro z; cases z)
      cases e
      exact ⟨.ref aS, by rw [List.getElem?_set_self (by rw [hl2]; exact hj)], List.mem_singleton.mpr rfl⟩
    · obtain ⟨_, e⟩ := lawE_get h (by intro z; cases z)
      cases e
    · obtain ⟨_, e⟩ := lawE_get h (by intro z; cases z)
      cases e
def locC (sc : Scope) (y : Str) : Bool := decide (sc.names.lookup y = some .local) || decide (sc.names.lookup y = some .cell)
theorem locC_of {sc : Scope} {y : Str} (h : locC sc y = true) : L2.Loc sc y := by
  rcases (Bool.or_eq_true _ _).mp h with q | q
  · exact .inl (of_decide_eq_true q)
  · exact .inr (of_decide_eq_true q)
theorem lawG {P : Program} {w : World} {K : PySem.W.Frag} {mg : Str → Option Value} {base : Heap} {x qual y : Str} {st : Stmt} {f fb : Addr} {fd fdb : FuncData} {N : List Str} {k kb j : Nat} {b : S} {p1 p2 p3 p4 p5 : Pos} {rest : List Stmt}
    (F : L2.Fun K x qual st f fd) (Sc : FnScope N ["script"] (defScope st)) (blt : ∀ x ∈ bltNames, mg (Str.ofString x) = none)
    (hbody : defBody st = .Assign [.Name y p1] (.Call (.Name "_law_begin" p2) [.Name "script" p3] [] p4) p5 :: rest) (hj : N[j]? = some y) (hyl : locC (defScope st) y = true) (h0 : N[0]? = some ("script" : Str))
    (l0 : (defScope st).names.lookup ("script" : Str) = some .local) (gb : (defScope st).names.lookup ("_law_begin" : Str) = some .globalImplicit)
    (hm : mtSs b ⟨N, defScope st, fun _ => true⟩ rest = true) (hk : ∀ A, Room k A → okS ⟨P, w, K, mg, base, A⟩ b)
    (FB : FnOk P w K mg base CX0 kb fb fdb ["script"] (spBegin K)) (hkb : kb ≤ k) (mb : mg "_law_begin" = some (.ref fb)) (kpb : PySem.W.keepIn K (.ref fb) = true) (bb : Binds K fdb ["script"] []) :
    ∀ (A : Around) (outer : List PySem.Env) (s : Shared) (H : Hp) (args : Args) (us : List Value) (vs : List V) (Q : VK), Room (k + 1) A → A.guards = some [] → Env0 P w K mg base A outer s H →
      BindsTo s fd args ((["script"] : List Str).zip us) → Vals vs us → spLaw K N.length j b vs H Q → codeAny (model P w) A (.call (.ref f) args) (CR CX0 outer P w H s Q E0) s := by
  intro A outer s H args us vs Q hr hgd e0 hb r hsp
  obtain ⟨a, ns, st', rfl, hS, hl, hend, hq⟩ := hsp
  have hN1 : 1 ≤ N.length := lt_of_get h0
  refine bodyG F Sc hr e0 hb r rfl (t := tSeq (tAsg (tCall (spBegin K) [] E0 (tCons (tVar 0) tNil)) (gName j)) (rdS K (exS b))) (fun cdv => ?_) ?_
  · have ok := ctxG (P := P) (w := w) (K := K) (base := base) (qual := qual) (f := f) (outer := outer) (s := s) (H := H) cdv Sc blt hr hgd
    have hr' := hr.deeper (envOfC qual (defScope st) s.heap.objs.size f cdv)
    have pb := ((snd_stmt b) _ _ ok (hk _ hr') (fun _ _ z => z.elim)).2 _ hm
    have pa : PS (cxOf CX0 P w K mg base N qual (defScope st) f cdv A outer s H E0).nox (.Assign [.Name y p1] (.Call (.Name "_law_begin" p2) [.Name "script" p3] [] p4) p5) (tAsg (tCall (spBegin K) [] E0 (tCons (tVar 0) tNil)) (gName j)) :=
      ps_set Sc.nd hj (locC_of hyl) (pe_call FB (hr'.mono hkb) gb mb kpb bb .nil pass0 (pa_cons (pe_var h0 (.inl l0)) pa_nil)) rfl (.inl rfl)
    rw [hbody]
    exact pss_cons pa pb
  · refine ⟨.ref a, start_get rfl, a, ns, rfl, hS, hl, fun aS aC aL H' h1 h2 h3 h4 => ?_⟩
    have pt := law_pt (K := K) (N := N) (vs := [.ref a]) (lt_of_get hj) hN1 hl h1 h2 h3 h4
    refine ⟨_, [], [], _, _, pt, ends' (c := ⟨fun a => a = aS ∨ a = aL ∨ a = aC, H', aS, aL, aC⟩) hend ?_⟩
    intro v H2 _ _ rep
    rw [Rep] at rep
    rw [rep]
    exact hq H2
end RS
end
section
set_option Elab.async false
set_option linter.all false
set_option maxRecDepth 100000
set_option autoImplicit false
set_option maxHeartbeats 4000000
/-! RSEnd: from the law's promise, where nothing is being shown, to the goal of the head. -/
namespace RS
open PySem PySem.Spec PyProof.Rows L2
/-- the law's def called where the head calls it -/
abbrev LawGo (P : Program) (w : World) (K : PySem.W.Frag) (mg : Str → Option Value) (base : Heap) (fa : Addr) (fd : FuncData) (x : Str) (n j : Nat) (b : S) : Prop :=
  ∀ (A : Around) (outer : List PySem.Env) (s : Shared) (H : Hp) (args : Args) (us : List Value) (vs : List V) (Q : VK), Room 30 A → A.guards = some [] → Env0 P w K mg base A outer s H →
    BindsTo s fd args (([x] : List Str).zip us) → Vals vs us → spLaw K n j b vs H Q → codeAny (model P w) A (.call (.ref fa) args) (CR CX0 outer P w H s Q E0) s
/-- what the caller of a law may see at its end -/
abbrev Told (s₁ : Shared) : Result → Shared → Prop := fun r s' => r = .ok (.ret (.bool true)) ∧ OldK s₁.heap s'.heap ∧ s'.os = s₁.os ∧ AllBare s'.gens
section
variable {P : Program} {w : World} {K : PySem.W.Frag} {mg mb : Str → Option Value} {fa a : Addr} {fd : FuncData} {x : Str} {s₁ : Shared} {vs : List Value} {ns : List Int} {n j : Nat} {b : S}
/-- an abstract heap that tells the script, or nothing -/
structure Tells (K : PySem.W.Frag) (P : Program) (w : World) (a : Addr) (ns : List Int) (s₁ : Shared) (H : Hp) : Prop where
  only : ∀ c u, H c = some u → c = a ∧ K.lookup a = none ∧ ∃ o xs, u = .frz o (.lst xs)
  sq : SqL K H a (ns.map V.int)
  ok : HOk P w H s₁.heap
theorem tells_go {H : Hp} (t : Tells K P w a ns s₁ H) (KX : K.In s₁.heap) (hns : s₁.heap.Ns mainGlobals mg) (hb : s₁.heap.Ns builtinsNs mb) (hbb : ∀ x : Str, x ≠ "__name__" → mb x = bootBuiltins x) (hlim : s₁.heap.NoLimit) (hg : s₁.gens = #[])
    (ha : s₁.heap.get? a = some { cls := .type "list", data := .seq vs.toArray }) (hl : ns.length ≤ 63) (F : ∀ base : Heap, K.In base → base.Ns mainGlobals mg → LawGo P w K mg base fa fd x n j b)
    (hbind : ∀ (s : Shared) (u : Value), BindsTo s fd ⟨[u], []⟩ [(x, u)]) {st' : OSt} (hrun : endR (exS b (lawE n j) (beginSt ns)) = .ok (.sh (.bl true)) st') : codeAny (model P w) callerA (.call (.ref fa) ⟨[.ref a], []⟩) (Told s₁) s₁ := by
  -- a record that is no list stays in the base
  have stays : ∀ {c : Addr} {o : Obj}, s₁.heap.get? c = some o → (c = a → K.lookup a ≠ none ∨ ∃ es ep, o.data = .dict es ep) → (hidT s₁.heap H).get? c = some o := by
    intro c o e h
    refine hidT_get e ?_
    cases q : H c with
    | none => rfl
    | some u =>
      exfalso
      obtain ⟨rfl, hk, _⟩ := t.only c u q
      rcases h rfl with z | ⟨es, ep, z⟩
      · exact z hk
      · rw [ha] at e
        cases e
        cases (show Data.seq vs.toArray _ = Data.dict es ep from z)
  have ns_in : ∀ {c : Addr} {m : Str → Option Value}, s₁.heap.Ns c m → (hidT s₁.heap H).Ns c m := by
    rintro c m ⟨o, es, ep, e, d, r⟩
    exact ⟨o, es, ep, stays e fun _ => .inr ⟨es, ep, d⟩, d, r⟩
  have kin : K.In (hidT s₁.heap H) := fun c o e => stays (KX c o e) fun z => .inl (by rw [← z, e]; simp)
  have mod : Mod K mg (hidT s₁.heap H) := by
    obtain ⟨mc, h1, h2⟩ := hlim
    exact ⟨kin, ns_in hns, ⟨mb, ns_in hb, hbb⟩, mc, ns_in h1, h2⟩
  have env : Env0 P w K mg (hidT s₁.heap H) callerA [] s₁ H :=
    ⟨rfl, mod, fun _ _ e => of_hidT e, Nat.le_of_eq (hidT_size _ _), trivial, fun c hc => absurd (show c ∈ ([] : List Addr) from hc) (by simp), t.ok, .of_eq hg⟩
  have go := F _ kin (ns_in hns) callerA [] s₁ H ⟨[.ref a], []⟩ [.ref a] [.ref a] (fun v _ => v = .bl true) ⟨rfl, by decide, by decide⟩ rfl env (hbind s₁ (.ref a)) (.cons rfl .nil) ⟨a, ns, st', rfl, t.sq, hl, hrun, fun _ => rfl⟩
  refine codeAny_mono go fun r s' h => ?_
  match r, h with
  | .ok (.ret u), ⟨v, H', os, bare, un, hok', rv, ev⟩ =>
    have ev : v = .bl true := ev
    subst ev
    cases (show u = Value.bool true from rv)
    refine ⟨rfl, OldK.of_keep fun c o e => ?_, os, bare⟩
    cases q : H c with
    | none => exact un.keep c o e q (fun z => absurd (show c ∈ ([] : List Addr) from z) (by simp)) (by simp)
    | some u =>
      obtain ⟨rfl, _, ob, xs, rfl⟩ := t.only c u q
      have k1 := (t.ok _ _ q).1
      have k2 := (hok' _ _ (un.frzs _ ob _ q)).1
      rw [e] at k1
      cases k1
      exact k2
theorem tells_some (KX : K.In s₁.heap) (ha : s₁.heap.get? a = some { cls := .type "list", data := .seq vs.toArray }) (hi : IntsAre vs ns) (hl : ns.length ≤ 63) : ∃ H, Tells K P w a ns s₁ H := by
  have rv := vals_ints hi
  have lv := hi.length
  have hz : ns.length ≤ sizeLine := by rw [sizeLine_eq]; omega
  cases hk : K.lookup a with
  | some o =>
    have e := KX a o hk
    rw [ha] at e
    cases e
    exact ⟨fun _ => none, fun c u q => (by cases q), .inr ⟨_, vs.toArray, _, hk, rfl, rfl, rfl, by rw [List.size_toArray, lv]; exact hz, by simpa using rv⟩, fun c u q => by cases (show (none : Option HO) = some u from q)⟩
  | none =>
    have at_ : ∀ c u, (if c = a then some (HO.frz { cls := .type "list", data := .seq vs.toArray } (.lst (ns.map V.int))) else none) = some u → c = a ∧ u = .frz { cls := .type "list", data := .seq vs.toArray } (.lst (ns.map V.int)) := fun c u q => by
      split at q
      · rename_i e; cases q; exact ⟨e, rfl⟩
      · cases q
    refine ⟨fun c => if c = a then some (.frz { cls := .type "list", data := .seq vs.toArray } (.lst (ns.map V.int))) else none, fun c u q => ?_, .inl (.inr ⟨{ cls := .type "list", data := .seq vs.toArray }, if_pos rfl⟩), fun c u q => ?_⟩
    · obtain ⟨e, rfl⟩ := at_ c u q
      exact ⟨e, hk, _, _, rfl⟩
    · obtain ⟨rfl, rfl⟩ := at_ c u q
      exact ⟨ha, by rw [List.length_map]; exact hz, vs, _, rv, ha⟩
end
/-- the goal behind the head -/
theorem walkG {law : PySem.W.OpenLaw} {prog : Program} {los : List Str} {Xp : (Str → Option Value) → Heap → Prop} {Yp : World → Heap → Prop} {rec : DefRec} {K : Params → PySem.W.Frag} {x : Str} {n j : Nat} {b : S}
    (most : law.most = some 63) (plain : rec.params.defaults = []) (told : ∀ (w : World) (h : Heap), Yp w h → (K w.params).In h)
    (promise : ∀ (w : World) (mg : Str → Option Value) (fa : Addr) (h : Heap), (K w.params).In h → h.Ns mainGlobals mg → mg rec.name = some (.ref fa) → ∃ fd : FuncData,
      (∀ (s : Shared) (u : Value), BindsTo s fd ⟨[u], []⟩ [(x, u)]) ∧ ∀ base : Heap, (K w.params).In base → base.Ns mainGlobals mg → LawGo law.prog w (K w.params) mg base fa fd x n j b)
    (hrun : ∀ ns : List Int, ns.length ≤ 63 → ∃ st', endR (exS b (lawE n j) (beginSt ns)) = .ok (.sh (.bl true)) st') :
    PySem.W.WalkO prog los Xp Yp law.row.toRowW rec [] fun f vs => PySem.call f vs := by
  refine Att.attach_call most plain fun w _ s₁ mg mb fa _ _ _ _ a vs ns top Y _ _ _ hmg hobj hints hlen hg => ?_
  have kin := told w _ Y
  obtain ⟨fd, binds, go⟩ := promise w mg fa _ kin top.T.g hmg
  obtain ⟨H, t⟩ := tells_some (K := K w.params) (P := law.prog) (w := w) kin hobj hints hlen
  obtain ⟨st', hr⟩ := hrun ns hlen
  exact tells_go t kin top.T.g top.T.b top.T.builtins top.T.nolimit hg hobj hlen go binds hr
end RS
end
section
set_option Elab.async false
set_option linter.all false
set_option maxRecDepth 100000
set_option autoImplicit false
set_option maxHeartbeats 4000000
/-! RSGlue: a law's defs one after another. -/
namespace RS
open PySem PySem.Spec PyProof.Rows L2
/-- the text's def x, as the top has left it -/
def DefAt (K : PySem.W.Frag) (mg : Str → Option Value) (x : String) (st : Stmt) : Prop := ∃ f fd, mg (Str.ofString x) = some (.ref f) ∧ L2.Fun K (Str.ofString x) (Str.ofString x) st f fd
def IsD (K : PySem.W.Frag) (d : D) (u : Value) : Prop := ∃ v, RelV v u ∧ ∀ aS O H, Rep K aS O H d v
/-- a def that keeps its promise -/
def Has (P : Program) (w : World) (K : PySem.W.Frag) (mg : Str → Option Value) (base : Heap) (x : String) (st : Stmt) (ps : List Str) (lv : Nat) (fn : Fn) : Prop :=
  ∃ f fd, mg (Str.ofString x) = some (.ref f) ∧ L2.Fun K (Str.ofString x) (Str.ofString x) st f fd ∧ L2.Binds K fd ps [] ∧ FnG P w K mg base lv f fd ps fn ∧ ∀ ds s r s', fn ds s = .ok r s' → ds.length = ps.length
def scB (N ps : List Str) (sc : Scope) : Bool := decide (sc.kind = .function) && !sc.isCoroutine && !sc.isGenerator && decide N.Nodup && decide (N.take ps.length = ps) && ps.all (fun x => decide (sc.names.lookup x = some .local) || decide (sc.names.lookup x = some .cell)) && sc.names.all fun y => !decide (y.2 = .free)
theorem scB_of {N ps : List Str} {sc : Scope} (h : scB N ps sc = true) : FnScope N ps sc := by
  unfold scB at h
  rw [Bool.and_eq_true, Bool.and_eq_true, Bool.and_eq_true, Bool.and_eq_true, Bool.and_eq_true, Bool.and_eq_true] at h
  obtain ⟨⟨⟨⟨⟨⟨kd, co⟩, gn⟩, nd⟩, pre⟩, par⟩, fr⟩ := h
  refine ⟨of_decide_eq_true kd, by simpa using co, by simpa using gn, of_decide_eq_true nd, of_decide_eq_true pre, fun y hy => ?_, fun y hy z => ?_⟩
  · have := List.all_eq_true.mp par y hy
    simpa using this
  · have := List.all_eq_true.mp fr y hy
    simp [z] at this
section
variable {P : Program} {w : World} {K : PySem.W.Frag} {mg : Str → Option Value} {base : Heap} {x : String} {st : Stmt} {ps N : List Str} {k lv : Nat} {b : S}
theorem has_of (D : DefAt K mg x st) (blt : ∀ x ∈ bltNames, mg (Str.ofString x) = none) (hs : scB N ps (defScope st) = true) (hm : mtSs b ⟨N, defScope st, fun _ => true⟩ (defBody st) = true)
    (hb : ∀ (kV doc pm : Value) (an : Option Addr) (cdv ct : Value) (us : List Value), us.length = ps.length → bindArgs (PySem.W.fnOf (Str.ofString x) (Str.ofString x) (defArgs st) (defBody st) (defScope st) .none kV doc pm an cdv ct) ⟨us, []⟩ = pure (ps.zip us))
    (hk : ∀ A, Room k A → okS ⟨P, w, K, mg, base, A⟩ b) : Has P w K mg base x st ps (k + 1) (evFn N.length ps.length b) := by
  obtain ⟨f, fd, h1, h2⟩ := D
  exact ⟨f, fd, h1, h2, h2.binds hb, fnG h2 (scB_of hs) blt hm hk, fun _ _ _ _ e => evFn_len e⟩
theorem Has.call {A : Around} {fn : Fn} (h : Has P w K mg base x st ps lv fn) (hr : Room k A) (hl : lv ≤ k) : CallOk ⟨P, w, K, mg, base, A⟩ x fn := by
  obtain ⟨f, fd, h1, h2, h3, h4, h5⟩ := h
  exact ⟨lv, f, fd, ps, h1, h2.kp, h3, h4, hr.mono hl, h5⟩
theorem Has.callK {A : Around} {fn : Fn} {ks : List String} {perm : List Nat} (h : Has P w K mg base x st ps lv fn) (hr : Room k A) (hl : lv ≤ k)
    (hb : ∀ (kV doc pm : Value) (an : Option Addr) (cdv ct : Value) (s : Shared) (ws : List Value), ws.length = ks.length → BindsTo s (PySem.W.fnOf (Str.ofString x) (Str.ofString x) (defArgs st) (defBody st) (defScope st) .none kV doc pm an cdv ct) ⟨[], (ks.map Str.ofString).zip ws⟩ (ps.zip (perm.map fun i => ws.getD i .none)))
    (hp : ∀ i ∈ perm, i < ks.length) : CallKOk ⟨P, w, K, mg, base, A⟩ x fn ks perm := by
  obtain ⟨f, fd, h1, h2, h3, h4, h5⟩ := h
  obtain ⟨oc, od, kV, doc, pm, an, cdv, ct, osl, rfl, _, _⟩ := h2.ex
  exact ⟨lv, f, _, ps, h1, h2.kp, fun s ws _ hl => hb kV doc pm an cdv ct s ws hl, hp, h4, hr.mono hl, h5⟩
theorem globOk {A : Around} {d : D} (h : ∃ u, mg (Str.ofString x) = some u ∧ IsD K d u) : GlobOk ⟨P, w, K, mg, base, A⟩ x d := by
  obtain ⟨u, h1, v, h2, h3⟩ := h
  exact ⟨v, u, h1, h2, h3⟩
theorem law_of {y : Str} {bst : Stmt} {p : Nat → Pos} {p1 p2 p3 p4 p5 : Pos} {rest : List Stmt} {j : Nat} (D : DefAt K mg "law" st) (B : DefAt K mg "_law_begin" bst) (blt : ∀ x ∈ bltNames, mg (Str.ofString x) = none) (hs : scB N ["script"] (defScope st) = true)
    (hbb : defBody bst = bgBody p) (hbs : defScope bst = bgScope) (hbody : defBody st = .Assign [.Name y p1] (.Call (.Name "_law_begin" p2) [.Name "script" p3] [] p4) p5 :: rest) (hj : N[j]? = some y) (hyl : locC (defScope st) y = true)
    (h0 : N[0]? = some ("script" : Str)) (l0 : (defScope st).names.lookup ("script" : Str) = some .local) (gb : (defScope st).names.lookup ("_law_begin" : Str) = some .globalImplicit)
    (hm : mtSs b ⟨N, defScope st, fun _ => true⟩ ((defBody st).drop 1) = true)
    (hb : ∀ (kV doc pm : Value) (an : Option Addr) (cdv ct : Value) (u : Value), bindArgs (PySem.W.fnOf "law" "law" (defArgs st) (defBody st) (defScope st) .none kV doc pm an cdv ct) ⟨[u], []⟩ = pure [(("script" : Str), u)])
    (hb2 : ∀ (kV doc pm : Value) (an : Option Addr) (cdv ct : Value) (us : List Value), us.length = (["script"] : List Str).length → bindArgs (PySem.W.fnOf "_law_begin" "_law_begin" (defArgs bst) (defBody bst) (defScope bst) .none kV doc pm an cdv ct) ⟨us, []⟩ = pure ((["script"] : List Str).zip us))
    (hk : ∀ A, Room 29 A → okS ⟨P, w, K, mg, base, A⟩ b) :
    ∃ f fd, mg "law" = some (.ref f) ∧ L2.Fun K "law" "law" st f fd ∧ (∀ (s : Shared) (u : Value), BindsTo s fd ⟨[u], []⟩ [("script", u)]) ∧ LawGo P w K mg base f fd "script" N.length j b := by
  obtain ⟨f, fd, h1, h2⟩ := D
  obtain ⟨fb, fdb, b1, b2⟩ := B
  have FB : FnOk P w K mg base CX0 1 fb fdb ["script"] (spBegin K) := begin_fn (k := 0) b2 hbb hbs (blt "list" (by decide))
  have h2' := h2
  obtain ⟨oc, od, kV, doc, pm, an, cdv, ct, osl, rfl, _, _⟩ := h2.ex
  refine ⟨f, _, h1, h2', fun s u => .of_eq (hb kV doc pm an cdv ct u), ?_⟩
  have hm' : mtSs b ⟨N, defScope st, fun _ => true⟩ rest = true := by rw [hbody] at hm; exact hm
  exact lawG h2' (scB_of hs) blt hbody hj hyl h0 l0 gb hm' hk FB (by omega) b1 b2.kp (b2.binds hb2)
end
theorem law_uniform {P : Program} {w : World} {K : PySem.W.Frag} {mg : Str → Option Value} {fa : Addr} {st : Stmt} {n j : Nat} {b : S} (h0 : Heap) (hfa : mg "law" = some (.ref fa))
    (h : ∀ base : Heap, ∃ f fd, mg "law" = some (.ref f) ∧ L2.Fun K "law" "law" st f fd ∧ (∀ (s : Shared) (u : Value), BindsTo s fd ⟨[u], []⟩ [("script", u)]) ∧ LawGo P w K mg base f fd "script" n j b) :
    ∃ fd : FuncData, (∀ (s : Shared) (u : Value), BindsTo s fd ⟨[u], []⟩ [("script", u)]) ∧ ∀ base : Heap, K.In base → base.Ns mainGlobals mg → LawGo P w K mg base fa fd "script" n j b := by
  have at_ : ∀ base : Heap, ∃ fd, L2.Fun K "law" "law" st fa fd ∧ (∀ (s : Shared) (u : Value), BindsTo s fd ⟨[u], []⟩ [("script", u)]) ∧ LawGo P w K mg base fa fd "script" n j b := fun base => by
    obtain ⟨f, fd, h1, h2, h3, h4⟩ := h base
    rw [hfa] at h1
    cases h1
    exact ⟨fd, h2, h3, h4⟩
  obtain ⟨fd, F, hb, _⟩ := at_ h0
  refine ⟨fd, hb, fun base _ _ => ?_⟩
  obtain ⟨fd', F', _, go⟩ := at_ base
  obtain ⟨oc, od, kV, doc, pm, an, cdv, ct, osl, e1, l1, _⟩ := F.ex
  obtain ⟨oc', od', kV', doc', pm', an', cdv', ct', osl', e2, l2, _⟩ := F'.ex
  rw [l1] at l2
  have : fd = fd' := by
    have := congrArg (fun o : Option Obj => o.map (·.data)) l2
    simp only [Option.map_some, Option.some.injEq, Data.func.injEq] at this
    exact this
  rw [this]; exact go
theorem isD_int {K : PySem.W.Frag} {i : Int} {t : Tok} : IsD K (.int i) (.int i t) := ⟨.int i, ⟨t, rfl⟩, fun _ _ _ => Rep.int'⟩
inductive IsDs (K : PySem.W.Frag) : List D → List Value → Prop where
  | nil : IsDs K [] []
  | cons {d : D} {ds : List D} {u : Value} {us : List Value} (h : IsD K d u) (t : IsDs K ds us) : IsDs K (d :: ds) (u :: us)
theorem IsDs.vals {K : PySem.W.Frag} : ∀ {ds : List D} {us : List Value}, IsDs K ds us → ∃ vs, Vals vs us ∧ ∀ aS O H, Reps K aS O H ds vs
  | _, _, .nil => ⟨[], .nil, fun _ _ _ => Reps.nil⟩
  | _, _, .cons h t => by
    obtain ⟨v, r, q⟩ := h
    obtain ⟨vs, rr, qq⟩ := t.vals
    exact ⟨v :: vs, .cons r rr, fun aS O H => Reps.cons (q aS O H) (qq aS O H)⟩
/-- a tuple of the written part -/
theorem isD_tup {K : PySem.W.Frag} {a : Addr} {ds : List D} {od : Option Addr} {its : Array Value} {n : Nat} {sl : Array (Option Value)} (lk : K.lookup a = some ⟨.type "tuple", od, .seq its n, sl⟩) (h : IsDs K ds its.toList) (hz : its.size ≤ 1000) : IsD K (.tup ds) (.ref a) := by
  obtain ⟨vs, r, q⟩ := h.vals
  refine ⟨.ref a, rfl, fun aS O H => ?_⟩
  rw [Rep]
  exact ⟨a, vs, rfl, .inr ⟨_, its, n, lk, rfl, rfl, by rw [sizeLine_eq]; omega, r⟩, q aS O H⟩
end RS
end
section
set_option autoImplicit false
set_option maxRecDepth 100000
namespace RS
def M.Llaw_mixedS : S := (.seq (.asgS 0 (.bin .mod (.prim .int (.cons (.var 0) .nil)) (.con (.int 2147483647))))
 (.seq (.ret (.bin .mod (.bin .mul (.bin .mod (.bin .add (.bin .add (.bin .mul (.var 0) (.bin .add (.con (.int 48271)) (.bin .mul (.bin .mul (.con (.int 2)) (.var 1)) (.var 1)))) (.bin .mul (.con (.int 69621)) (.var 1))) (.con (.int 11))) (.con (.int 2147483647))) (.con (.int 69621))) (.con (.int 2147483629))))
 .skip))
def M.Llaw_mixed : Fn := evFn 2 2 M.Llaw_mixedS
def M.Llaw_drawS : S := (.seq (.asgS 2 (.stAt 0))
 (.seq (.stPut 0 (.bin .add (.var 2) (.con (.int 1))))
 (.seq (.asgS 3 (.bin .mod (.prim .int (.cons (.var 2) .nil)) (.stLen 0)))
 (.seq (.asgS 4 (.stLeft 0 (.var 3)))
 (.seq (.ife (.cmp .gt (.var 4) (.con (.int 0)))
 (.seq (.stPutLeft 0 (.var 3) (.bin .fdiv (.var 4) (.var 1)))
 (.seq (.ret (.bin .mod (.prim .int (.cons (.var 4) .nil)) (.var 1)))
 .skip))
 .skip)
 (.seq (.asgS 5 (.call "_law_mixed" M.Llaw_mixed (.cons (.call "_law_mixed" M.Llaw_mixed (.cons (.stCell 0 (.var 3)) (.cons (.var 2) .nil))) (.cons (.bin .add (.con (.int 40)) (.var 2)) .nil))))
 (.seq (.ret (.bin .mod (.bin .fdiv (.prim .int (.cons (.bin .add (.bin .mul (.var 5) (.con (.int 2147483647))) (.call "_law_mixed" M.Llaw_mixed (.cons (.var 5) (.cons (.bin .add (.con (.int 7)) (.var 2)) .nil)))) .nil)) (.con (.int 64))) (.var 1)))
 .skip)))))))
def M.Llaw_draw : Fn := evFn 6 2 M.Llaw_drawS
def M.Llaw_solvedS : S := (.seq (.for (.nm 3) (.itRange (.cons (.var 0) .nil))
 (.seq (.ife (.cmp .eq (.bin .mod (.bin .sub (.bin .mul (.var 3) (.var 2)) (.var 1)) (.var 0)) (.con (.int 0)))
 (.seq (.ret (.tup (.cons (.var 3) (.cons (.con (.int 1)) .nil))))
 .skip)
 .skip)
 .skip))
 (.seq (.ret (.con .non))
 .skip))
def M.Llaw_solved : Fn := evFn 4 3 M.Llaw_solvedS
def M.Llaw_divisorS : S := (.seq (.par [0, 1] (.cons (.prim .abs (.cons (.var 0) .nil)) (.cons (.prim .abs (.cons (.var 1) .nil)) .nil)))
 (.seq (.share 0)
 (.seq (.share 1)
 (.seq (.for (.nm 2) (.itRange (.cons (.con (.int 4000)) .nil))
 (.seq (.ife (.cmp .eq (.var 1) (.con (.int 0)))
 (.seq (.ret (.var 0))
 .skip)
 .skip)
 (.seq (.par [0, 1] (.cons (.var 1) (.cons (.bin .mod (.var 0) (.var 1)) .nil)))
 (.seq (.share 0)
 (.seq (.share 1)
 .skip)))))
 (.seq (.ret (.var 0))
 .skip)))))
def M.Llaw_divisor : Fn := evFn 3 2 M.Llaw_divisorS
def M.Llaw_numberS : S := (.seq (.par [3, 4] (.cons (.bin .sub (.call "_law_draw" M.Llaw_draw (.cons (.var 0) (.cons (.bin .add (.bin .mul (.con (.int 2)) (.var 2)) (.con (.int 1))) .nil))) (.var 2)) (.cons (.bin .add (.con (.int 1)) (.call "_law_draw" M.Llaw_draw (.cons (.var 0) (.cons (.var 2) .nil)))) .nil)))
 (.seq (.share 3)
 (.seq (.share 4)
 (.seq (.ife (.cmp .gt (.var 1) (.con (.int 0)))
 (.seq (.asgS 4 (.ife (.cmp .ne (.bin .mod (.var 4) (.var 1)) (.con (.int 0))) (.var 4) (.con (.int 1))))
 (.seq (.ret (.tup (.cons (.call "_law_solved" M.Llaw_solved (.cons (.var 1) (.cons (.var 3) (.cons (.var 4) .nil)))) (.cons (.var 3) (.cons (.var 4) .nil)))))
 .skip))
 .skip)
 (.seq (.asgS 5 (.call "_law_divisor" M.Llaw_divisor (.cons (.var 3) (.cons (.var 4) .nil))))
 (.seq (.ret (.tup (.cons (.tup (.cons (.bin .fdiv (.var 3) (.var 5)) (.cons (.bin .fdiv (.var 4) (.var 5)) .nil))) (.cons (.var 3) (.cons (.var 4) .nil)))))
 .skip))))))
def M.Llaw_number : Fn := evFn 6 3 M.Llaw_numberS
def M.Llaw_likeS : S := (.seq (.ret (.reprEq (.var 0) (.var 1)))
 .skip)
def M.Llaw_like : Fn := evFn 2 2 M.Llaw_likeS
def M.is_integerS : S := (.seq (.ret (.and (.prim .isInt (.cons (.var 0) .nil)) (.not (.prim .isBool (.cons (.var 0) .nil)))))
 .skip)
def M.is_integer : Fn := evFn 1 1 M.is_integerS
def M.is_numberS : S := (.seq (.ife (.or (.not (.prim .isTup (.cons (.var 1) .nil))) (.or (.cmp .ne (.prim .len (.cons (.var 1) .nil)) (.con (.int 2))) (.or (.not (.call "is_integer" M.is_integer (.cons (.idx (.var 1) (.con (.int 0))) .nil))) (.not (.call "is_integer" M.is_integer (.cons (.idx (.var 1) (.con (.int 1))) .nil))))))
 (.seq (.ret (.con (.bl false)))
 .skip)
 .skip)
 (.seq (.ife (.cmp .gt (.var 0) (.con (.int 0)))
 (.seq (.ret (.and (.cmp .eq (.idx (.var 1) (.con (.int 1))) (.con (.int 1))) (.chain .le .lt (.con (.int 0)) (.idx (.var 1) (.con (.int 0))) (.var 0))))
 .skip)
 .skip)
 (.seq (.ret (.and (.cmp .ge (.idx (.var 1) (.con (.int 1))) (.con (.int 1))) (.cmp .eq (.prim .gcd (.cons (.idx (.var 1) (.con (.int 0))) (.cons (.idx (.var 1) (.con (.int 1))) .nil))) (.con (.int 1)))))
 .skip)))
def M.is_number : Fn := evFn 2 2 M.is_numberS
def M.check_numberS : S := (.seq (.ife (.not (.call "is_number" M.is_number (.cons (.var 0) (.cons (.var 1) .nil))))
 (.seq .never
 .skip)
 .skip)
 (.seq (.ret (.var 1))
 .skip))
def M.check_number : Fn := evFn 2 2 M.check_numberS
def M.is_fromS : S := (.seq (.ret (.and (.prim .isInt (.cons (.var 0) .nil)) (.and (.not (.prim .isBool (.cons (.var 0) .nil))) (.chain .le .le (.var 1) (.var 0) (.var 2)))))
 .skip)
def M.is_from : Fn := evFn 3 3 M.is_fromS
def M.is_fieldS : S := (.seq (.ife (.or (.not (.call "is_from" M.is_from (.cons (.var 0) (.cons (.con (.int 0)) (.cons (.glob "MOST_PRIME" (.int 997)) .nil))))) (.cmp .eq (.var 0) (.con (.int 1))))
 (.seq (.ret (.con (.bl false)))
 .skip)
 .skip)
 (.seq (.ret (.ife (.cmp .gt (.var 0) (.con (.int 0))) (.cmp .eq (.prim .len (.cons (.comp [1] (.nm 1) (.itRange (.cons (.con (.int 2)) (.cons (.con (.int 32)) .nil))) (.and (.cmp .lt (.var 1) (.var 0)) (.cmp .eq (.bin .mod (.var 0) (.var 1)) (.con (.int 0)))) (.con (.int 1))) .nil)) (.con (.int 0))) (.con (.bl true))))
 .skip))
def M.is_field : Fn := evFn 2 1 M.is_fieldS
def M.check_fieldS : S := (.seq (.ife (.not (.call "is_field" M.is_field (.cons (.var 0) .nil)))
 (.seq .never
 .skip)
 .skip)
 (.seq (.ret (.var 0))
 .skip))
def M.check_field : Fn := evFn 1 1 M.check_fieldS
def M.need_numberS : S := (.seq (.ret (.call "check_number" M.check_number (.cons (.call "check_field" M.check_field (.cons (.var 0) .nil)) (.cons (.var 1) .nil))))
 .skip)
def M.need_number : Fn := evFn 2 2 M.need_numberS
def M.of_coefS : S := (.seq (.ret (.ife (.cmp .gt (.var 0) (.con (.int 0))) (.tup (.cons (.bin .mod (.var 1) (.var 0)) (.cons (.con (.int 1)) .nil))) (.tup (.cons (.var 1) (.cons (.con (.int 1)) .nil)))))
 .skip)
def M.of_coef : Fn := evFn 2 2 M.of_coefS
def M.inverse_soS : S := (.seq (.asgT (.tup (.cons (.nm 2) (.cons (.nm 3) (.cons (.nm 4) (.cons (.nm 5) .nil))))) (.tup (.cons (.var 0) (.cons (.bin .mod (.var 1) (.var 0)) (.cons (.con (.int 0)) (.cons (.con (.int 1)) .nil))))))
 (.seq (.whl 1000000 (.cmp .gt (.var 3) (.con (.int 1)))
 (.seq (.asgS 6 (.bin .fdiv (.var 2) (.var 3)))
 (.seq (.par [2, 3] (.cons (.var 3) (.cons (.bin .sub (.var 2) (.bin .mul (.var 6) (.var 3))) .nil)))
 (.seq (.share 2)
 (.seq (.share 3)
 (.seq (.par [4, 5] (.cons (.var 5) (.cons (.bin .sub (.var 4) (.bin .mul (.var 6) (.var 5))) .nil)))
 (.seq (.share 4)
 (.seq (.share 5)
 .skip))))))))
 (.seq (.ret (.bin .mod (.var 5) (.var 0)))
 .skip)))
def M.inverse_so : Fn := evFn 7 2 M.inverse_soS
def M.reduced_soS : S := (.seq (.ife (.cmp .gt (.var 0) (.con (.int 0)))
 (.seq (.ret (.tup (.cons (.bin .mod (.bin .mul (.var 1) (.call "inverse_so" M.inverse_so (.cons (.var 0) (.cons (.var 2) .nil)))) (.var 0)) (.cons (.con (.int 1)) .nil))))
 .skip)
 .skip)
 (.seq (.asgS 3 (.prim .gcd (.cons (.var 1) (.cons (.var 2) .nil))))
 (.seq (.asgS 3 (.ife (.cmp .gt (.var 2) (.con (.int 0))) (.var 3) (.neg (.var 3))))
 (.seq (.ret (.tup (.cons (.bin .fdiv (.var 1) (.var 3)) (.cons (.bin .fdiv (.var 2) (.var 3)) .nil))))
 .skip))))
def M.reduced_so : Fn := evFn 4 3 M.reduced_soS
def M.number_ofS : S := (.seq (.expr (.call "check_field" M.check_field (.cons (.var 0) .nil)))
 (.seq (.ife (.not (.call "is_integer" M.is_integer (.cons (.var 1) .nil)))
 (.seq .never
 .skip)
 .skip)
 (.seq (.ife (.or (.not (.call "is_integer" M.is_integer (.cons (.var 2) .nil))) (.cmp .eq (.call "of_coef" M.of_coef (.cons (.var 0) (.cons (.var 2) .nil))) (.glob "NONE" (.tup [(.int 0), (.int 1)]))))
 (.seq .never
 .skip)
 .skip)
 (.seq (.ret (.call "reduced_so" M.reduced_so (.cons (.var 0) (.cons (.var 1) (.cons (.var 2) .nil)))))
 .skip))))
def M.number_of : Fn := evFn 3 3 M.number_ofS
def M.check_twoS : S := (.seq (.expr (.call "check_field" M.check_field (.cons (.var 0) .nil)))
 (.seq (.expr (.call "check_number" M.check_number (.cons (.var 0) (.cons (.var 1) .nil))))
 (.seq (.expr (.call "check_number" M.check_number (.cons (.var 0) (.cons (.var 2) .nil))))
 .skip)))
def M.check_two : Fn := evFn 3 3 M.check_twoS
def M.times_soS : S := (.seq (.ret (.call "reduced_so" M.reduced_so (.cons (.var 0) (.cons (.bin .mul (.idx (.var 1) (.con (.int 0))) (.idx (.var 2) (.con (.int 0)))) (.cons (.bin .mul (.idx (.var 1) (.con (.int 1))) (.idx (.var 2) (.con (.int 1)))) .nil)))))
 .skip)
def M.times_so : Fn := evFn 3 3 M.times_soS
def M.timesS : S := (.seq (.expr (.call "check_two" M.check_two (.cons (.var 0) (.cons (.var 1) (.cons (.var 2) .nil)))))
 (.seq (.ret (.call "times_so" M.times_so (.cons (.var 0) (.cons (.var 1) (.cons (.var 2) .nil)))))
 .skip))
def M.times : Fn := evFn 3 3 M.timesS
def M.minus_soS : S := (.seq (.ret (.call "reduced_so" M.reduced_so (.cons (.var 0) (.cons (.bin .sub (.bin .mul (.idx (.var 1) (.con (.int 0))) (.idx (.var 2) (.con (.int 1)))) (.bin .mul (.idx (.var 2) (.con (.int 0))) (.idx (.var 1) (.con (.int 1))))) (.cons (.bin .mul (.idx (.var 1) (.con (.int 1))) (.idx (.var 2) (.con (.int 1)))) .nil)))))
 .skip)
def M.minus_so : Fn := evFn 3 3 M.minus_soS
def M.minusS : S := (.seq (.expr (.call "check_two" M.check_two (.cons (.var 0) (.cons (.var 1) (.cons (.var 2) .nil)))))
 (.seq (.ret (.call "minus_so" M.minus_so (.cons (.var 0) (.cons (.var 1) (.cons (.var 2) .nil)))))
 .skip))
def M.minus : Fn := evFn 3 3 M.minusS
def M.plus_soS : S := (.seq (.ret (.call "reduced_so" M.reduced_so (.cons (.var 0) (.cons (.bin .add (.bin .mul (.idx (.var 1) (.con (.int 0))) (.idx (.var 2) (.con (.int 1)))) (.bin .mul (.idx (.var 2) (.con (.int 0))) (.idx (.var 1) (.con (.int 1))))) (.cons (.bin .mul (.idx (.var 1) (.con (.int 1))) (.idx (.var 2) (.con (.int 1)))) .nil)))))
 .skip)
def M.plus_so : Fn := evFn 3 3 M.plus_soS
def M.plusS : S := (.seq (.expr (.call "check_two" M.check_two (.cons (.var 0) (.cons (.var 1) (.cons (.var 2) .nil)))))
 (.seq (.ret (.call "plus_so" M.plus_so (.cons (.var 0) (.cons (.var 1) (.cons (.var 2) .nil)))))
 .skip))
def M.plus : Fn := evFn 3 3 M.plusS
def M.Llaw_leastS : S := (.seq (.ife (.cmp .gt (.var 0) (.con (.int 0)))
 (.seq (.ret (.call "_law_solved" M.Llaw_solved (.cons (.var 0) (.cons (.var 1) (.cons (.var 2) .nil)))))
 .skip)
 .skip)
 (.seq (.asgS 3 (.call "_law_divisor" M.Llaw_divisor (.cons (.var 1) (.cons (.var 2) .nil))))
 (.seq (.asgS 3 (.ife (.cmp .gt (.var 2) (.con (.int 0))) (.var 3) (.neg (.var 3))))
 (.seq (.ret (.tup (.cons (.bin .fdiv (.var 1) (.var 3)) (.cons (.bin .fdiv (.var 2) (.var 3)) .nil))))
 .skip))))
def M.Llaw_least : Fn := evFn 4 3 M.Llaw_leastS
def M.over_soS : S := (.seq (.ret (.call "reduced_so" M.reduced_so (.cons (.var 0) (.cons (.bin .mul (.idx (.var 1) (.con (.int 0))) (.idx (.var 2) (.con (.int 1)))) (.cons (.bin .mul (.idx (.var 1) (.con (.int 1))) (.idx (.var 2) (.con (.int 0)))) .nil)))))
 .skip)
def M.over_so : Fn := evFn 3 3 M.over_soS
def M.overS : S := (.seq (.expr (.call "check_two" M.check_two (.cons (.var 0) (.cons (.var 1) (.cons (.var 2) .nil)))))
 (.seq (.ife (.cmp .eq (.var 2) (.glob "NONE" (.tup [(.int 0), (.int 1)])))
 (.seq .never
 .skip)
 .skip)
 (.seq (.ret (.call "over_so" M.over_so (.cons (.var 0) (.cons (.var 1) (.cons (.var 2) .nil)))))
 .skip)))
def M.over : Fn := evFn 3 3 M.overS
def M.Llaw_rightS : S := (.seq (.asgT (.tup (.cons (.nm 3) (.cons (.nm 4) (.cons (.nm 5) .nil)))) (.call "_law_number" M.Llaw_number (.cons (.var 0) (.cons (.var 1) (.cons (.var 2) .nil)))))
 (.seq (.asgT (.tup (.cons (.nm 6) (.cons (.nm 7) (.cons (.nm 8) .nil)))) (.call "_law_number" M.Llaw_number (.cons (.var 0) (.cons (.var 1) (.cons (.var 2) .nil)))))
 (.seq (.ife (.not (.call "_law_like" M.Llaw_like (.cons (.lst (.cons (.call "number_of" M.number_of (.cons (.var 1) (.cons (.var 4) (.cons (.var 5) .nil)))) (.cons (.call "need_number" M.need_number (.cons (.var 1) (.cons (.var 6) .nil))) .nil))) (.cons (.lst (.cons (.var 3) (.cons (.var 6) .nil))) .nil))))
 (.seq (.ret (.con (.bl false)))
 .skip)
 .skip)
 (.seq (.asgS 9 (.lst (.cons (.call "plus" M.plus (.cons (.var 1) (.cons (.var 3) (.cons (.var 6) .nil)))) (.cons (.call "minus" M.minus (.cons (.var 1) (.cons (.var 3) (.cons (.var 6) .nil)))) (.cons (.call "times" M.times (.cons (.var 1) (.cons (.var 3) (.cons (.var 6) .nil)))) .nil)))))
 (.seq (.asg 10 (.lst (.cons (.call "_law_least" M.Llaw_least (.cons (.var 1) (.cons (.bin .add (.bin .mul (.var 4) (.var 8)) (.bin .mul (.var 7) (.var 5))) (.cons (.bin .mul (.var 5) (.var 8)) .nil)))) .nil)))
 (.seq (.app 10 (.call "_law_least" M.Llaw_least (.cons (.var 1) (.cons (.bin .sub (.bin .mul (.var 4) (.var 8)) (.bin .mul (.var 7) (.var 5))) (.cons (.bin .mul (.var 5) (.var 8)) .nil)))))
 (.seq (.ife (.not (.call "_law_like" M.Llaw_like (.cons (.var 9) (.cons (.bin .add (.var 10) (.lst (.cons (.call "_law_least" M.Llaw_least (.cons (.var 1) (.cons (.bin .mul (.var 4) (.var 7)) (.cons (.bin .mul (.var 5) (.var 8)) .nil)))) .nil))) .nil))))
 (.seq (.ret (.con (.bl false)))
 .skip)
 .skip)
 (.seq (.ife (.not (.call "_law_like" M.Llaw_like (.cons (.lst (.cons (.call "minus" M.minus (.cons (.var 1) (.cons (.idx (.var 9) (.con (.int 0))) (.cons (.var 6) .nil)))) (.cons (.call "plus" M.plus (.cons (.var 1) (.cons (.idx (.var 9) (.con (.int 1))) (.cons (.var 6) .nil)))) .nil))) (.cons (.lst (.cons (.var 3) (.cons (.var 3) .nil))) .nil))))
 (.seq (.ret (.con (.bl false)))
 .skip)
 .skip)
 (.seq (.ife (.cmp .eq (.idx (.var 6) (.con (.int 0))) (.con (.int 0)))
 (.seq (.ret (.con (.bl true)))
 .skip)
 .skip)
 (.seq (.asgS 11 (.call "over" M.over (.cons (.var 1) (.cons (.var 3) (.cons (.var 6) .nil)))))
 (.seq (.ret (.call "_law_like" M.Llaw_like (.cons (.lst (.cons (.var 11) (.cons (.call "times" M.times (.cons (.var 1) (.cons (.var 11) (.cons (.var 6) .nil)))) .nil))) (.cons (.lst (.cons (.call "_law_least" M.Llaw_least (.cons (.var 1) (.cons (.bin .mul (.var 4) (.var 8)) (.cons (.bin .mul (.var 5) (.var 7)) .nil)))) (.cons (.var 3) .nil))) .nil))))
 .skip)))))))))))
def M.Llaw_right : Fn := evFn 12 3 M.Llaw_rightS
def M.Llaw_ofS : S := (.seq (.ret (.idx (.var 1) (.call "_law_draw" M.Llaw_draw (.cons (.var 0) (.cons (.prim .len (.cons (.var 1) .nil)) .nil)))))
 .skip)
def M.Llaw_of : Fn := evFn 2 2 M.Llaw_ofS
def M.lawS : S := (.seq (.for (.nm 2) (.itRange (.cons (.con (.int 6)) .nil))
 (.seq (.ife (.not (.call "_law_right" M.Llaw_right (.cons (.var 1) (.cons (.con (.int 0)) (.cons (.call "_law_of" M.Llaw_of (.cons (.var 1) (.cons (.lst (.cons (.con (.int 3)) (.cons (.con (.int 40)) (.cons (.con (.int 20000)) .nil)))) .nil))) .nil)))))
 (.seq (.ret (.con (.bl false)))
 .skip)
 .skip)
 (.seq (.ife (.not (.call "_law_right" M.Llaw_right (.cons (.var 1) (.cons (.call "_law_of" M.Llaw_of (.cons (.var 1) (.cons (.lst (.cons (.con (.int 2)) (.cons (.con (.int 3)) (.cons (.con (.int 5)) (.cons (.con (.int 7)) (.cons (.con (.int 11)) (.cons (.con (.int 13)) (.cons (.con (.int 31)) (.cons (.con (.int 97)) .nil))))))))) .nil))) (.cons (.con (.int 40)) .nil)))))
 (.seq (.ret (.con (.bl false)))
 .skip)
 .skip)
 .skip)))
 (.seq (.asgS 3 (.bin .pow (.con (.int 10)) (.con (.int 60))))
 (.seq (.asg 4 (.lst (.cons (.callK "number_of" M.number_of .nil ["below", "above", "field"] (.cons (.neg (.con (.int 4))) (.cons (.con (.int 6)) (.cons (.con (.int 0)) .nil))) [2, 1, 0]) (.cons (.callK "plus" M.plus .nil ["other", "one", "field"] (.cons (.tup (.cons (.con (.int 1)) (.cons (.con (.int 3)) .nil))) (.cons (.tup (.cons (.con (.int 1)) (.cons (.con (.int 2)) .nil))) (.cons (.con (.int 0)) .nil))) [2, 1, 0]) .nil))))
 (.seq (.asg 4 (.bin .add (.var 4) (.lst (.cons (.callK "times" M.times .nil ["other", "one", "field"] (.cons (.tup (.cons (.con (.int 5)) (.cons (.con (.int 1)) .nil))) (.cons (.tup (.cons (.con (.int 200)) (.cons (.con (.int 1)) .nil))) (.cons (.con (.int 997)) .nil))) [2, 1, 0]) (.cons (.callK "over" M.over .nil ["other", "one", "field"] (.cons (.tup (.cons (.con (.int 7)) (.cons (.con (.int 1)) .nil))) (.cons (.tup (.cons (.con (.int 1)) (.cons (.con (.int 1)) .nil))) (.cons (.con (.int 997)) .nil))) [2, 1, 0]) .nil)))))
 (.seq (.asg 4 (.bin .add (.var 4) (.lst (.cons (.callK "minus" M.minus .nil ["other", "one", "field"] (.cons (.tup (.cons (.con (.int 1)) (.cons (.var 3) .nil))) (.cons (.tup (.cons (.con (.int 0)) (.cons (.con (.int 1)) .nil))) (.cons (.con (.int 0)) .nil))) [2, 1, 0]) (.cons (.call "number_of" M.number_of (.cons (.con (.int 0)) (.cons (.con (.int 0)) (.cons (.neg (.var 3)) .nil)))) (.cons (.call "number_of" M.number_of (.cons (.con (.int 2)) (.cons (.neg (.con (.int 3))) (.cons (.bin .add (.var 3) (.con (.int 1))) .nil)))) .nil))))))
 (.seq (.app 4 (.callK "need_number" M.need_number .nil ["value", "field"] (.cons (.tup (.cons (.con (.int 4)) (.cons (.con (.int 1)) .nil))) (.cons (.con (.int 5)) .nil)) [1, 0]))
 (.seq (.asgS 5 (.lst (.cons (.tup (.cons (.neg (.con (.int 3))) (.cons (.con (.int 2)) .nil))) (.cons (.tup (.cons (.con (.int 5)) (.cons (.con (.int 6)) .nil))) (.cons (.tup (.cons (.con (.int 3)) (.cons (.con (.int 1)) .nil))) (.cons (.tup (.cons (.con (.int 285)) (.cons (.con (.int 1)) .nil))) (.cons (.tup (.cons (.neg (.con (.int 1))) (.cons (.var 3) .nil))) (.cons (.tup (.cons (.con (.int 0)) (.cons (.con (.int 1)) .nil))) (.cons (.tup (.cons (.con (.int 1)) (.cons (.con (.int 1)) .nil))) .nil)))))))))
 (.seq (.ret (.call "_law_like" M.Llaw_like (.cons (.var 4) (.cons (.bin .add (.var 5) (.lst (.cons (.tup (.cons (.con (.int 4)) (.cons (.con (.int 1)) .nil))) .nil))) .nil))))
 .skip))))))))
end RS
end
section
set_option Elab.async false
set_option linter.all false
set_option maxRecDepth 100000
set_option autoImplicit false
set_option maxHeartbeats 4000000
namespace RS
open PySem PySem.Spec PyProof.Rows L2
def topAt (i : Nat) : PySem.Stmt := PySem.Challenge.pw_risingsays_k07_numbers_of_fields.main.body.getD i (.Pass ⟨0, 0, 0, 0⟩)
def bgPos : List PySem.Pos := [⟨90, 4, 90, 12⟩, ⟨90, 31, 90, 37⟩, ⟨90, 41, 90, 43⟩, ⟨90, 31, 90, 43⟩, ⟨90, 15, 90, 19⟩, ⟨90, 20, 90, 26⟩, ⟨90, 15, 90, 27⟩, ⟨90, 50, 90, 51⟩, ⟨90, 49, 90, 52⟩, ⟨90, 15, 90, 52⟩, ⟨90, 4, 90, 52⟩, ⟨91, 12, 91, 19⟩, ⟨91, 31, 91, 38⟩, ⟨91, 96, 91, 100⟩, ⟨91, 21, 91, 29⟩, ⟨91, 49, 91, 53⟩, ⟨91, 57, 91, 59⟩, ⟨91, 63, 91, 65⟩, ⟨91, 57, 91, 65⟩, ⟨91, 49, 91, 65⟩, ⟨91, 41, 91, 45⟩, ⟨91, 71, 91, 72⟩, ⟨91, 41, 91, 72⟩, ⟨91, 77, 91, 81⟩, ⟨91, 85, 91, 93⟩, ⟨91, 40, 91, 94⟩, ⟨91, 102, 91, 103⟩, ⟨91, 11, 91, 104⟩, ⟨91, 4, 91, 104⟩]
/-- the defs and constants of the text, at the module's names -/
structure Tops (K : PySem.W.Frag) (mg : PySem.Str → Option PySem.Value) : Prop where
  blt : ∀ x ∈ bltNames, mg (PySem.Str.ofString x) = none
  d_law_begin : DefAt K mg "_law_begin" (topAt 29)
  d_law_mixed : DefAt K mg "_law_mixed" (topAt 28)
  d_law_draw : DefAt K mg "_law_draw" (topAt 30)
  d_law_solved : DefAt K mg "_law_solved" (topAt 35)
  d_law_divisor : DefAt K mg "_law_divisor" (topAt 32)
  d_law_number : DefAt K mg "_law_number" (topAt 34)
  d_law_like : DefAt K mg "_law_like" (topAt 33)
  dis_integer : DefAt K mg "is_integer" (topAt 8)
  dis_number : DefAt K mg "is_number" (topAt 11)
  dcheck_number : DefAt K mg "check_number" (topAt 12)
  dis_from : DefAt K mg "is_from" (topAt 7)
  dis_field : DefAt K mg "is_field" (topAt 9)
  dcheck_field : DefAt K mg "check_field" (topAt 10)
  dneed_number : DefAt K mg "need_number" (topAt 22)
  dof_coef : DefAt K mg "of_coef" (topAt 15)
  dinverse_so : DefAt K mg "inverse_so" (topAt 13)
  dreduced_so : DefAt K mg "reduced_so" (topAt 14)
  dnumber_of : DefAt K mg "number_of" (topAt 21)
  dcheck_two : DefAt K mg "check_two" (topAt 20)
  dtimes_so : DefAt K mg "times_so" (topAt 18)
  dtimes : DefAt K mg "times" (topAt 25)
  dminus_so : DefAt K mg "minus_so" (topAt 17)
  dminus : DefAt K mg "minus" (topAt 24)
  dplus_so : DefAt K mg "plus_so" (topAt 16)
  dplus : DefAt K mg "plus" (topAt 23)
  d_law_least : DefAt K mg "_law_least" (topAt 36)
  dover_so : DefAt K mg "over_so" (topAt 19)
  dover : DefAt K mg "over" (topAt 26)
  d_law_right : DefAt K mg "_law_right" (topAt 37)
  d_law_of : DefAt K mg "_law_of" (topAt 31)
  dlaw : DefAt K mg "law" (topAt 38)
  c_MOST_PRIME : ∃ u, mg (PySem.Str.ofString "MOST_PRIME") = some u ∧ IsD K (.int 997) u
  c_NONE : ∃ u, mg (PySem.Str.ofString "NONE") = some u ∧ IsD K (.tup [(.int 0), (.int 1)]) u
  gcd : mg "gcd" = some (.builtin "math.gcd")
section
variable {P : PySem.Program} {w : PySem.World} {K : PySem.W.Frag} {mg : PySem.Str → Option PySem.Value} {base : PySem.Heap}
theorem sc_law_mixed : scB ["cell", "k"] ["cell", "k"] (L2.defScope (topAt 28)) = true := by decide +kernel
theorem mt_law_mixed : mtSs M.Llaw_mixedS ⟨["cell", "k"], L2.defScope (topAt 28), fun _ => true⟩ (L2.defBody (topAt 28)) = true := by decide +kernel
theorem ok_law_mixed (T : Tops K mg) : Has P w K mg base "_law_mixed" (topAt 28) ["cell", "k"] 1 M.Llaw_mixed := by
  refine has_of T.d_law_mixed T.blt sc_law_mixed mt_law_mixed (fun _ _ _ _ _ _ us hl => match us, hl with | [_, _], _ => rfl) fun A hr => ?_
  unfold M.Llaw_mixedS
  first | trivial | (simp [okS, okE]; done)
theorem sc_law_draw : scB ["state", "limit", "at", "spot", "left", "mixed"] ["state", "limit"] (L2.defScope (topAt 30)) = true := by decide +kernel
theorem mt_law_draw : mtSs M.Llaw_drawS ⟨["state", "limit", "at", "spot", "left", "mixed"], L2.defScope (topAt 30), fun _ => true⟩ (L2.defBody (topAt 30)) = true := by decide +kernel
theorem ok_law_draw (T : Tops K mg) : Has P w K mg base "_law_draw" (topAt 30) ["state", "limit"] 2 M.Llaw_draw := by
  refine has_of T.d_law_draw T.blt sc_law_draw mt_law_draw (fun _ _ _ _ _ _ us hl => match us, hl with | [_, _], _ => rfl) fun A hr => ?_
  have h_law_mixed := ok_law_mixed (P := P) (w := w) (base := base) T;
  unfold M.Llaw_drawS
  simp only [okS, okE, true_and, and_true]
  repeat' apply And.intro
  all_goals first | trivial | (exact h_law_mixed.call hr (by decide)) | (intro z; cases z; done)
theorem sc_law_solved : scB ["base", "top_so", "low_so", "much"] ["base", "top_so", "low_so"] (L2.defScope (topAt 35)) = true := by decide +kernel
theorem mt_law_solved : mtSs M.Llaw_solvedS ⟨["base", "top_so", "low_so", "much"], L2.defScope (topAt 35), fun _ => true⟩ (L2.defBody (topAt 35)) = true := by decide +kernel
theorem ok_law_solved (T : Tops K mg) : Has P w K mg base "_law_solved" (topAt 35) ["base", "top_so", "low_so"] 1 M.Llaw_solved := by
  refine has_of T.d_law_solved T.blt sc_law_solved mt_law_solved (fun _ _ _ _ _ _ us hl => match us, hl with | [_, _, _], _ => rfl) fun A hr => ?_
  unfold M.Llaw_solvedS
  first | trivial | (simp [okS, okE]; done)
theorem sc_law_divisor : scB ["first", "second", "step"] ["first", "second"] (L2.defScope (topAt 32)) = true := by decide +kernel
theorem mt_law_divisor : mtSs M.Llaw_divisorS ⟨["first", "second", "step"], L2.defScope (topAt 32), fun _ => true⟩ (L2.defBody (topAt 32)) = true := by decide +kernel
theorem ok_law_divisor (T : Tops K mg) : Has P w K mg base "_law_divisor" (topAt 32) ["first", "second"] 1 M.Llaw_divisor := by
  refine has_of T.d_law_divisor T.blt sc_law_divisor mt_law_divisor (fun _ _ _ _ _ _ us hl => match us, hl with | [_, _], _ => rfl) fun A hr => ?_
  unfold M.Llaw_divisorS
  first | trivial | (simp [okS, okE]; done)
theorem sc_law_number : scB ["state", "base", "sized", "top_so", "low_so", "told"] ["state", "base", "sized"] (L2.defScope (topAt 34)) = true := by decide +kernel
theorem mt_law_number : mtSs M.Llaw_numberS ⟨["state", "base", "sized", "top_so", "low_so", "told"], L2.defScope (topAt 34), fun _ => true⟩ (L2.defBody (topAt 34)) = true := by decide +kernel
theorem ok_law_number (T : Tops K mg) : Has P w K mg base "_law_number" (topAt 34) ["state", "base", "sized"] 3 M.Llaw_number := by
  refine has_of T.d_law_number T.blt sc_law_number mt_law_number (fun _ _ _ _ _ _ us hl => match us, hl with | [_, _, _], _ => rfl) fun A hr => ?_
  have h_law_draw := ok_law_draw (P := P) (w := w) (base := base) T; have h_law_solved := ok_law_solved (P := P) (w := w) (base := base) T; have h_law_divisor := ok_law_divisor (P := P) (w := w) (base := base) T;
  unfold M.Llaw_numberS
  simp only [okS, okE, true_and, and_true]
  repeat' apply And.intro
  all_goals first | trivial | (exact h_law_draw.call hr (by decide)) | (exact h_law_solved.call hr (by decide)) | (exact h_law_divisor.call hr (by decide)) | (intro z; cases z; done)
theorem sc_law_like : scB ["got", "due"] ["got", "due"] (L2.defScope (topAt 33)) = true := by decide +kernel
theorem mt_law_like : mtSs M.Llaw_likeS ⟨["got", "due"], L2.defScope (topAt 33), fun _ => true⟩ (L2.defBody (topAt 33)) = true := by decide +kernel
theorem ok_law_like (T : Tops K mg) : Has P w K mg base "_law_like" (topAt 33) ["got", "due"] 1 M.Llaw_like := by
  refine has_of T.d_law_like T.blt sc_law_like mt_law_like (fun _ _ _ _ _ _ us hl => match us, hl with | [_, _], _ => rfl) fun A hr => ?_
  unfold M.Llaw_likeS
  first | trivial | (simp [okS, okE]; done)
theorem scis_integer : scB ["value"] ["value"] (L2.defScope (topAt 8)) = true := by decide +kernel
theorem mtis_integer : mtSs M.is_integerS ⟨["value"], L2.defScope (topAt 8), fun _ => true⟩ (L2.defBody (topAt 8)) = true := by decide +kernel
theorem okis_integer (T : Tops K mg) : Has P w K mg base "is_integer" (topAt 8) ["value"] 1 M.is_integer := by
  refine has_of T.dis_integer T.blt scis_integer mtis_integer (fun _ _ _ _ _ _ us hl => match us, hl with | [_], _ => rfl) fun A hr => ?_
  unfold M.is_integerS
  first | trivial | (simp [okS, okE]; done)
theorem scis_number : scB ["field", "value"] ["field", "value"] (L2.defScope (topAt 11)) = true := by decide +kernel
theorem mtis_number : mtSs M.is_numberS ⟨["field", "value"], L2.defScope (topAt 11), fun _ => true⟩ (L2.defBody (topAt 11)) = true := by decide +kernel
theorem okis_number (T : Tops K mg) : Has P w K mg base "is_number" (topAt 11) ["field", "value"] 2 M.is_number := by
  refine has_of T.dis_number T.blt scis_number mtis_number (fun _ _ _ _ _ _ us hl => match us, hl with | [_, _], _ => rfl) fun A hr => ?_
  have his_integer := okis_integer (P := P) (w := w) (base := base) T;
  unfold M.is_numberS
  simp only [okS, okE, true_and, and_true]
  repeat' apply And.intro
  all_goals first | trivial | (exact his_integer.call hr (by decide)) | (exact fun _ => T.gcd) | (intro z; cases z; done)
theorem sccheck_number : scB ["field", "value"] ["field", "value"] (L2.defScope (topAt 12)) = true := by decide +kernel
theorem mtcheck_number : mtSs M.check_numberS ⟨["field", "value"], L2.defScope (topAt 12), fun _ => true⟩ (L2.defBody (topAt 12)) = true := by decide +kernel
theorem okcheck_number (T : Tops K mg) : Has P w K mg base "check_number" (topAt 12) ["field", "value"] 3 M.check_number := by
  refine has_of T.dcheck_number T.blt sccheck_number mtcheck_number (fun _ _ _ _ _ _ us hl => match us, hl with | [_, _], _ => rfl) fun A hr => ?_
  have his_number := okis_number (P := P) (w := w) (base := base) T;
  unfold M.check_numberS
  simp only [okS, okE, true_and, and_true]
  repeat' apply And.intro
  all_goals first | trivial | (exact his_number.call hr (by decide)) | (intro z; cases z; done)
theorem scis_from : scB ["value", "low", "high"] ["value", "low", "high"] (L2.defScope (topAt 7)) = true := by decide +kernel
theorem mtis_from : mtSs M.is_fromS ⟨["value", "low", "high"], L2.defScope (topAt 7), fun _ => true⟩ (L2.defBody (topAt 7)) = true := by decide +kernel
theorem okis_from (T : Tops K mg) : Has P w K mg base "is_from" (topAt 7) ["value", "low", "high"] 1 M.is_from := by
  refine has_of T.dis_from T.blt scis_from mtis_from (fun _ _ _ _ _ _ us hl => match us, hl with | [_, _, _], _ => rfl) fun A hr => ?_
  unfold M.is_fromS
  first | trivial | (simp [okS, okE]; done)
theorem scis_field : scB ["value", "part"] ["value"] (L2.defScope (topAt 9)) = true := by decide +kernel
theorem mtis_field : mtSs M.is_fieldS ⟨["value", "part"], L2.defScope (topAt 9), fun _ => true⟩ (L2.defBody (topAt 9)) = true := by decide +kernel
theorem okis_field (T : Tops K mg) : Has P w K mg base "is_field" (topAt 9) ["value"] 2 M.is_field := by
  refine has_of T.dis_field T.blt scis_field mtis_field (fun _ _ _ _ _ _ us hl => match us, hl with | [_], _ => rfl) fun A hr => ?_
  have his_from := okis_from (P := P) (w := w) (base := base) T;
  unfold M.is_fieldS
  simp only [okS, okE, true_and, and_true]
  repeat' apply And.intro
  all_goals first | trivial | (exact his_from.call hr (by decide)) | (exact globOk T.c_MOST_PRIME) | (intro z; cases z; done)
theorem sccheck_field : scB ["value"] ["value"] (L2.defScope (topAt 10)) = true := by decide +kernel
theorem mtcheck_field : mtSs M.check_fieldS ⟨["value"], L2.defScope (topAt 10), fun _ => true⟩ (L2.defBody (topAt 10)) = true := by decide +kernel
theorem okcheck_field (T : Tops K mg) : Has P w K mg base "check_field" (topAt 10) ["value"] 3 M.check_field := by
  refine has_of T.dcheck_field T.blt sccheck_field mtcheck_field (fun _ _ _ _ _ _ us hl => match us, hl with | [_], _ => rfl) fun A hr => ?_
  have his_field := okis_field (P := P) (w := w) (base := base) T;
  unfold M.check_fieldS
  simp only [okS, okE, true_and, and_true]
  repeat' apply And.intro
  all_goals first | trivial | (exact his_field.call hr (by decide)) | (intro z; cases z; done)
theorem scneed_number : scB ["field", "value"] ["field", "value"] (L2.defScope (topAt 22)) = true := by decide +kernel
theorem mtneed_number : mtSs M.need_numberS ⟨["field", "value"], L2.defScope (topAt 22), fun _ => true⟩ (L2.defBody (topAt 22)) = true := by decide +kernel
theorem okneed_number (T : Tops K mg) : Has P w K mg base "need_number" (topAt 22) ["field", "value"] 4 M.need_number := by
  refine has_of T.dneed_number T.blt scneed_number mtneed_number (fun _ _ _ _ _ _ us hl => match us, hl with | [_, _], _ => rfl) fun A hr => ?_
  have hcheck_number := okcheck_number (P := P) (w := w) (base := base) T; have hcheck_field := okcheck_field (P := P) (w := w) (base := base) T;
  unfold M.need_numberS
  simp only [okS, okE, true_and, and_true]
  repeat' apply And.intro
  all_goals first | trivial | (exact hcheck_number.call hr (by decide)) | (exact hcheck_field.call hr (by decide)) | (intro z; cases z; done)
theorem scof_coef : scB ["field", "coef"] ["field", "coef"] (L2.defScope (topAt 15)) = true := by decide +kernel
theorem mtof_coef : mtSs M.of_coefS ⟨["field", "coef"], L2.defScope (topAt 15), fun _ => true⟩ (L2.defBody (topAt 15)) = true := by decide +kernel
theorem okof_coef (T : Tops K mg) : Has P w K mg base "of_coef" (topAt 15) ["field", "coef"] 1 M.of_coef := by
  refine has_of T.dof_coef T.blt scof_coef mtof_coef (fun _ _ _ _ _ _ us hl => match us, hl with | [_, _], _ => rfl) fun A hr => ?_
  unfold M.of_coefS
  first | trivial | (simp [okS, okE]; done)
theorem scinverse_so : scB ["prime", "value", "last", "here", "before", "found", "part"] ["prime", "value"] (L2.defScope (topAt 13)) = true := by decide +kernel
theorem mtinverse_so : mtSs M.inverse_soS ⟨["prime", "value", "last", "here", "before", "found", "part"], L2.defScope (topAt 13), fun _ => true⟩ (L2.defBody (topAt 13)) = true := by decide +kernel
theorem okinverse_so (T : Tops K mg) : Has P w K mg base "inverse_so" (topAt 13) ["prime", "value"] 1 M.inverse_so := by
  refine has_of T.dinverse_so T.blt scinverse_so mtinverse_so (fun _ _ _ _ _ _ us hl => match us, hl with | [_, _], _ => rfl) fun A hr => ?_
  unfold M.inverse_soS
  first | trivial | (simp [okS, okE]; done)
theorem screduced_so : scB ["field", "above", "below", "common"] ["field", "above", "below"] (L2.defScope (topAt 14)) = true := by decide +kernel
theorem mtreduced_so : mtSs M.reduced_soS ⟨["field", "above", "below", "common"], L2.defScope (topAt 14), fun _ => true⟩ (L2.defBody (topAt 14)) = true := by decide +kernel
theorem okreduced_so (T : Tops K mg) : Has P w K mg base "reduced_so" (topAt 14) ["field", "above", "below"] 2 M.reduced_so := by
  refine has_of T.dreduced_so T.blt screduced_so mtreduced_so (fun _ _ _ _ _ _ us hl => match us, hl with | [_, _, _], _ => rfl) fun A hr => ?_
  have hinverse_so := okinverse_so (P := P) (w := w) (base := base) T;
  unfold M.reduced_soS
  simp only [okS, okE, true_and, and_true]
  repeat' apply And.intro
  all_goals first | trivial | (exact hinverse_so.call hr (by decide)) | (exact fun _ => T.gcd) | (intro z; cases z; done)
theorem scnumber_of : scB ["field", "above", "below"] ["field", "above", "below"] (L2.defScope (topAt 21)) = true := by decide +kernel
theorem mtnumber_of : mtSs M.number_ofS ⟨["field", "above", "below"], L2.defScope (topAt 21), fun _ => true⟩ (L2.defBody (topAt 21)) = true := by decide +kernel
theorem oknumber_of (T : Tops K mg) : Has P w K mg base "number_of" (topAt 21) ["field", "above", "below"] 4 M.number_of := by
  refine has_of T.dnumber_of T.blt scnumber_of mtnumber_of (fun _ _ _ _ _ _ us hl => match us, hl with | [_, _, _], _ => rfl) fun A hr => ?_
  have hcheck_field := okcheck_field (P := P) (w := w) (base := base) T; have his_integer := okis_integer (P := P) (w := w) (base := base) T; have hof_coef := okof_coef (P := P) (w := w) (base := base) T; have hreduced_so := okreduced_so (P := P) (w := w) (base := base) T;
  unfold M.number_ofS
  simp only [okS, okE, true_and, and_true]
  repeat' apply And.intro
  all_goals first | trivial | (exact hcheck_field.call hr (by decide)) | (exact his_integer.call hr (by decide)) | (exact hof_coef.call hr (by decide)) | (exact hreduced_so.call hr (by decide)) | (exact globOk T.c_NONE) | (intro z; cases z; done)
theorem sccheck_two : scB ["field", "one", "other"] ["field", "one", "other"] (L2.defScope (topAt 20)) = true := by decide +kernel
theorem mtcheck_two : mtSs M.check_twoS ⟨["field", "one", "other"], L2.defScope (topAt 20), fun _ => true⟩ (L2.defBody (topAt 20)) = true := by decide +kernel
theorem okcheck_two (T : Tops K mg) : Has P w K mg base "check_two" (topAt 20) ["field", "one", "other"] 4 M.check_two := by
  refine has_of T.dcheck_two T.blt sccheck_two mtcheck_two (fun _ _ _ _ _ _ us hl => match us, hl with | [_, _, _], _ => rfl) fun A hr => ?_
  have hcheck_field := okcheck_field (P := P) (w := w) (base := base) T; have hcheck_number := okcheck_number (P := P) (w := w) (base := base) T;
  unfold M.check_twoS
  simp only [okS, okE, true_and, and_true]
  repeat' apply And.intro
  all_goals first | trivial | (exact hcheck_field.call hr (by decide)) | (exact hcheck_number.call hr (by decide)) | (intro z; cases z; done)
theorem sctimes_so : scB ["field", "one", "other"] ["field", "one", "other"] (L2.defScope (topAt 18)) = true := by decide +kernel
theorem mttimes_so : mtSs M.times_soS ⟨["field", "one", "other"], L2.defScope (topAt 18), fun _ => true⟩ (L2.defBody (topAt 18)) = true := by decide +kernel
theorem oktimes_so (T : Tops K mg) : Has P w K mg base "times_so" (topAt 18) ["field", "one", "other"] 3 M.times_so := by
  refine has_of T.dtimes_so T.blt sctimes_so mttimes_so (fun _ _ _ _ _ _ us hl => match us, hl with | [_, _, _], _ => rfl) fun A hr => ?_
  have hreduced_so := okreduced_so (P := P) (w := w) (base := base) T;
  unfold M.times_soS
  simp only [okS, okE, true_and, and_true]
  repeat' apply And.intro
  all_goals first | trivial | (exact hreduced_so.call hr (by decide)) | (intro z; cases z; done)
theorem sctimes : scB ["field", "one", "other"] ["field", "one", "other"] (L2.defScope (topAt 25)) = true := by decide +kernel
theorem mttimes : mtSs M.timesS ⟨["field", "one", "other"], L2.defScope (topAt 25), fun _ => true⟩ (L2.defBody (topAt 25)) = true := by decide +kernel
theorem oktimes (T : Tops K mg) : Has P w K mg base "times" (topAt 25) ["field", "one", "other"] 5 M.times := by
  refine has_of T.dtimes T.blt sctimes mttimes (fun _ _ _ _ _ _ us hl => match us, hl with | [_, _, _], _ => rfl) fun A hr => ?_
  have hcheck_two := okcheck_two (P := P) (w := w) (base := base) T; have htimes_so := oktimes_so (P := P) (w := w) (base := base) T;
  unfold M.timesS
  simp only [okS, okE, true_and, and_true]
  repeat' apply And.intro
  all_goals first | trivial | (exact hcheck_two.call hr (by decide)) | (exact htimes_so.call hr (by decide)) | (intro z; cases z; done)
theorem scminus_so : scB ["field", "one", "other"] ["field", "one", "other"] (L2.defScope (topAt 17)) = true := by decide +kernel
theorem mtminus_so : mtSs M.minus_soS ⟨["field", "one", "other"], L2.defScope (topAt 17), fun _ => true⟩ (L2.defBody (topAt 17)) = true := by decide +kernel
theorem okminus_so (T : Tops K mg) : Has P w K mg base "minus_so" (topAt 17) ["field", "one", "other"] 3 M.minus_so := by
  refine has_of T.dminus_so T.blt scminus_so mtminus_so (fun _ _ _ _ _ _ us hl => match us, hl with | [_, _, _], _ => rfl) fun A hr => ?_
  have hreduced_so := okreduced_so (P := P) (w := w) (base := base) T;
  unfold M.minus_soS
  simp only [okS, okE, true_and, and_true]
  repeat' apply And.intro
  all_goals first | trivial | (exact hreduced_so.call hr (by decide)) | (intro z; cases z; done)
theorem scminus : scB ["field", "one", "other"] ["field", "one", "other"] (L2.defScope (topAt 24)) = true := by decide +kernel
theorem mtminus : mtSs M.minusS ⟨["field", "one", "other"], L2.defScope (topAt 24), fun _ => true⟩ (L2.defBody (topAt 24)) = true := by decide +kernel
theorem okminus (T : Tops K mg) : Has P w K mg base "minus" (topAt 24) ["field", "one", "other"] 5 M.minus := by
  refine has_of T.dminus T.blt scminus mtminus (fun _ _ _ _ _ _ us hl => match us, hl with | [_, _, _], _ => rfl) fun A hr => ?_
  have hcheck_two := okcheck_two (P := P) (w := w) (base := base) T; have hminus_so := okminus_so (P := P) (w := w) (base := base) T;
  unfold M.minusS
  simp only [okS, okE, true_and, and_true]
  repeat' apply And.intro
  all_goals first | trivial | (exact hcheck_two.call hr (by decide)) | (exact hminus_so.call hr (by decide)) | (intro z; cases z; done)
theorem scplus_so : scB ["field", "one", "other"] ["field", "one", "other"] (L2.defScope (topAt 16)) = true := by decide +kernel
theorem mtplus_so : mtSs M.plus_soS ⟨["field", "one", "other"], L2.defScope (topAt 16), fun _ => true⟩ (L2.defBody (topAt 16)) = true := by decide +kernel
theorem okplus_so (T : Tops K mg) : Has P w K mg base "plus_so" (topAt 16) ["field", "one", "other"] 3 M.plus_so := by
  refine has_of T.dplus_so T.blt scplus_so mtplus_so (fun _ _ _ _ _ _ us hl => match us, hl with | [_, _, _], _ => rfl) fun A hr => ?_
  have hreduced_so := okreduced_so (P := P) (w := w) (base := base) T;
  unfold M.plus_soS
  simp only [okS, okE, true_and, and_true]
  repeat' apply And.intro
  all_goals first | trivial | (exact hreduced_so.call hr (by decide)) | (intro z; cases z; done)
theorem scplus : scB ["field", "one", "other"] ["field", "one", "other"] (L2.defScope (topAt 23)) = true := by decide +kernel
theorem mtplus : mtSs M.plusS ⟨["field", "one", "other"], L2.defScope (topAt 23), fun _ => true⟩ (L2.defBody (topAt 23)) = true := by decide +kernel
theorem okplus (T : Tops K mg) : Has P w K mg base "plus" (topAt 23) ["field", "one", "other"] 5 M.plus := by
  refine has_of T.dplus T.blt scplus mtplus (fun _ _ _ _ _ _ us hl => match us, hl with | [_, _, _], _ => rfl) fun A hr => ?_
  have hcheck_two := okcheck_two (P := P) (w := w) (base := base) T; have hplus_so := okplus_so (P := P) (w := w) (base := base) T;
  unfold M.plusS
  simp only [okS, okE, true_and, and_true]
  repeat' apply And.intro
  all_goals first | trivial | (exact hcheck_two.call hr (by decide)) | (exact hplus_so.call hr (by decide)) | (intro z; cases z; done)
theorem sc_law_least : scB ["base", "top_so", "low_so", "told"] ["base", "top_so", "low_so"] (L2.defScope (topAt 36)) = true := by decide +kernel
theorem mt_law_least : mtSs M.Llaw_leastS ⟨["base", "top_so", "low_so", "told"], L2.defScope (topAt 36), fun _ => true⟩ (L2.defBody (topAt 36)) = true := by decide +kernel
theorem ok_law_least (T : Tops K mg) : Has P w K mg base "_law_least" (topAt 36) ["base", "top_so", "low_so"] 2 M.Llaw_least := by
  refine has_of T.d_law_least T.blt sc_law_least mt_law_least (fun _ _ _ _ _ _ us hl => match us, hl with | [_, _, _], _ => rfl) fun A hr => ?_
  have h_law_solved := ok_law_solved (P := P) (w := w) (base := base) T; have h_law_divisor := ok_law_divisor (P := P) (w := w) (base := base) T;
  unfold M.Llaw_leastS
  simp only [okS, okE, true_and, and_true]
  repeat' apply And.intro
  all_goals first | trivial | (exact h_law_solved.call hr (by decide)) | (exact h_law_divisor.call hr (by decide)) | (intro z; cases z; done)
theorem scover_so : scB ["field", "one", "other"] ["field", "one", "other"] (L2.defScope (topAt 19)) = true := by decide +kernel
theorem mtover_so : mtSs M.over_soS ⟨["field", "one", "other"], L2.defScope (topAt 19), fun _ => true⟩ (L2.defBody (topAt 19)) = true := by decide +kernel
theorem okover_so (T : Tops K mg) : Has P w K mg base "over_so" (topAt 19) ["field", "one", "other"] 3 M.over_so := by
  refine has_of T.dover_so T.blt scover_so mtover_so (fun _ _ _ _ _ _ us hl => match us, hl with | [_, _, _], _ => rfl) fun A hr => ?_
  have hreduced_so := okreduced_so (P := P) (w := w) (base := base) T;
  unfold M.over_soS
  simp only [okS, okE, true_and, and_true]
  repeat' apply And.intro
  all_goals first | trivial | (exact hreduced_so.call hr (by decide)) | (intro z; cases z; done)
theorem scover : scB ["field", "one", "other"] ["field", "one", "other"] (L2.defScope (topAt 26)) = true := by decide +kernel
theorem mtover : mtSs M.overS ⟨["field", "one", "other"], L2.defScope (topAt 26), fun _ => true⟩ (L2.defBody (topAt 26)) = true := by decide +kernel
theorem okover (T : Tops K mg) : Has P w K mg base "over" (topAt 26) ["field", "one", "other"] 5 M.over := by
  refine has_of T.dover T.blt scover mtover (fun _ _ _ _ _ _ us hl => match us, hl with | [_, _, _], _ => rfl) fun A hr => ?_
  have hcheck_two := okcheck_two (P := P) (w := w) (base := base) T; have hover_so := okover_so (P := P) (w := w) (base := base) T;
  unfold M.overS
  simp only [okS, okE, true_and, and_true]
  repeat' apply And.intro
  all_goals first | trivial | (exact hcheck_two.call hr (by decide)) | (exact hover_so.call hr (by decide)) | (exact globOk T.c_NONE) | (intro z; cases z; done)
theorem sc_law_right : scB ["state", "base", "sized", "near", "high", "low", "far", "wide", "deep", "got", "due", "told"] ["state", "base", "sized"] (L2.defScope (topAt 37)) = true := by decide +kernel
theorem mt_law_right : mtSs M.Llaw_rightS ⟨["state", "base", "sized", "near", "high", "low", "far", "wide", "deep", "got", "due", "told"], L2.defScope (topAt 37), fun _ => true⟩ (L2.defBody (topAt 37)) = true := by decide +kernel
theorem ok_law_right (T : Tops K mg) : Has P w K mg base "_law_right" (topAt 37) ["state", "base", "sized"] 6 M.Llaw_right := by
  refine has_of T.d_law_right T.blt sc_law_right mt_law_right (fun _ _ _ _ _ _ us hl => match us, hl with | [_, _, _], _ => rfl) fun A hr => ?_
  have h_law_number := ok_law_number (P := P) (w := w) (base := base) T; have h_law_like := ok_law_like (P := P) (w := w) (base := base) T; have hneed_number := okneed_number (P := P) (w := w) (base := base) T; have hnumber_of := oknumber_of (P := P) (w := w) (base := base) T; have htimes := oktimes (P := P) (w := w) (base := base) T; have hminus := okminus (P := P) (w := w) (base := base) T; have hplus := okplus (P := P) (w := w) (base := base) T; have h_law_least := ok_law_least (P := P) (w := w) (base := base) T; have hover := okover (P := P) (w := w) (base := base) T;
  unfold M.Llaw_rightS
  simp only [okS, okE, true_and, and_true]
  repeat' apply And.intro
  all_goals first | trivial | (exact h_law_number.call hr (by decide)) | (exact h_law_like.call hr (by decide)) | (exact hneed_number.call hr (by decide)) | (exact hnumber_of.call hr (by decide)) | (exact htimes.call hr (by decide)) | (exact hminus.call hr (by decide)) | (exact hplus.call hr (by decide)) | (exact h_law_least.call hr (by decide)) | (exact hover.call hr (by decide)) | (intro z; cases z; done)
theorem sc_law_of : scB ["state", "some"] ["state", "some"] (L2.defScope (topAt 31)) = true := by decide +kernel
theorem mt_law_of : mtSs M.Llaw_ofS ⟨["state", "some"], L2.defScope (topAt 31), fun _ => true⟩ (L2.defBody (topAt 31)) = true := by decide +kernel
theorem ok_law_of (T : Tops K mg) : Has P w K mg base "_law_of" (topAt 31) ["state", "some"] 3 M.Llaw_of := by
  refine has_of T.d_law_of T.blt sc_law_of mt_law_of (fun _ _ _ _ _ _ us hl => match us, hl with | [_, _], _ => rfl) fun A hr => ?_
  have h_law_draw := ok_law_draw (P := P) (w := w) (base := base) T;
  unfold M.Llaw_ofS
  simp only [okS, okE, true_and, and_true]
  repeat' apply And.intro
  all_goals first | trivial | (exact h_law_draw.call hr (by decide)) | (intro z; cases z; done)
theorem sclaw : scB ["script", "state", "turn", "high", "got", "due"] ["script"] (L2.defScope (topAt 38)) = true := by decide +kernel
theorem mtlaw : mtSs M.lawS ⟨["script", "state", "turn", "high", "got", "due"], L2.defScope (topAt 38), fun _ => true⟩ ((L2.defBody (topAt 38)).drop 1) = true := by decide +kernel
theorem oklaw (T : Tops K mg) : ∃ f fd, mg "law" = some (.ref f) ∧ L2.Fun K "law" "law" (topAt 38) f fd ∧ (∀ (s : PySem.Shared) (u : PySem.Value), BindsTo s fd ⟨[u], []⟩ [("script", u)]) ∧ LawGo P w K mg base f fd "script" 6 1 M.lawS := by
  refine law_of T.dlaw T.d_law_begin T.blt (p := fun i => bgPos.getD i ⟨0, 0, 0, 0⟩) (y := "state") (N := ["script", "state", "turn", "high", "got", "due"]) (j := 1) sclaw rfl rfl rfl rfl (by decide +kernel) rfl (by decide +kernel) (by decide +kernel) mtlaw (fun _ _ _ _ _ _ _ => rfl) (fun _ _ _ _ _ _ us hl => match us, hl with | [_], _ => rfl) fun A hr => ?_
  have h_law_right := ok_law_right (P := P) (w := w) (base := base) T; have h_law_of := ok_law_of (P := P) (w := w) (base := base) T; have hnumber_of := oknumber_of (P := P) (w := w) (base := base) T; have h_law_like := ok_law_like (P := P) (w := w) (base := base) T; have hplus := okplus (P := P) (w := w) (base := base) T; have hover := okover (P := P) (w := w) (base := base) T; have htimes := oktimes (P := P) (w := w) (base := base) T; have hminus := okminus (P := P) (w := w) (base := base) T; have hneed_number := okneed_number (P := P) (w := w) (base := base) T;
  unfold M.lawS
  simp only [okS, okE, true_and, and_true]
  repeat' apply And.intro
  all_goals first | trivial | (exact h_law_right.call hr (by decide)) | (exact h_law_of.call hr (by decide)) | (exact hnumber_of.call hr (by decide)) | (exact h_law_like.call hr (by decide)) | (exact hplus.callK hr (by decide) (fun _ _ _ _ _ _ s ws hl => match ws, hl with | [_, _, _], _ => .of_eq rfl) (by decide)) | (exact hnumber_of.callK hr (by decide) (fun _ _ _ _ _ _ s ws hl => match ws, hl with | [_, _, _], _ => .of_eq rfl) (by decide)) | (exact hover.callK hr (by decide) (fun _ _ _ _ _ _ s ws hl => match ws, hl with | [_, _, _], _ => .of_eq rfl) (by decide)) | (exact htimes.callK hr (by decide) (fun _ _ _ _ _ _ s ws hl => match ws, hl with | [_, _, _], _ => .of_eq rfl) (by decide)) | (exact hminus.callK hr (by decide) (fun _ _ _ _ _ _ s ws hl => match ws, hl with | [_, _, _], _ => .of_eq rfl) (by decide)) | (exact hneed_number.callK hr (by decide) (fun _ _ _ _ _ _ s ws hl => match ws, hl with | [_, _], _ => .of_eq rfl) (by decide)) | (intro z; cases z; done)
end
theorem tops_mk {P : PySem.Program} {w : PySem.World} {K : PySem.W.Frag} {h : PySem.Heap} {mg : PySem.Str → Option PySem.Value} {fa : PySem.Addr} (X : K.In h) (G : h.Ns mainGlobals mg) (hfa : mg "law" = some (.ref fa))
    {r0 : PySem.Addr} {oc0 kV0 dc0 pm0 cd0 ct0 : PySem.Value} {od0 an0 : Option PySem.Addr} {sl0 : Array (Option PySem.Value)}
    {r1 : PySem.Addr} {oc1 kV1 dc1 pm1 cd1 ct1 : PySem.Value} {od1 an1 : Option PySem.Addr} {sl1 : Array (Option PySem.Value)}
    {r2 : PySem.Addr} {oc2 kV2 dc2 pm2 cd2 ct2 : PySem.Value} {od2 an2 : Option PySem.Addr} {sl2 : Array (Option PySem.Value)}
    {r3 : PySem.Addr} {oc3 kV3 dc3 pm3 cd3 ct3 : PySem.Value} {od3 an3 : Option PySem.Addr} {sl3 : Array (Option PySem.Value)}
    {r4 : PySem.Addr} {oc4 kV4 dc4 pm4 cd4 ct4 : PySem.Value} {od4 an4 : Option PySem.Addr} {sl4 : Array (Option PySem.Value)}
    {r5 : PySem.Addr} {oc5 kV5 dc5 pm5 cd5 ct5 : PySem.Value} {od5 an5 : Option PySem.Addr} {sl5 : Array (Option PySem.Value)}
    {r6 : PySem.Addr} {oc6 kV6 dc6 pm6 cd6 ct6 : PySem.Value} {od6 an6 : Option PySem.Addr} {sl6 : Array (Option PySem.Value)}
    {r7 : PySem.Addr} {oc7 kV7 dc7 pm7 cd7 ct7 : PySem.Value} {od7 an7 : Option PySem.Addr} {sl7 : Array (Option PySem.Value)}
    {r8 : PySem.Addr} {oc8 kV8 dc8 pm8 cd8 ct8 : PySem.Value} {od8 an8 : Option PySem.Addr} {sl8 : Array (Option PySem.Value)}
    {r9 : PySem.Addr} {oc9 kV9 dc9 pm9 cd9 ct9 : PySem.Value} {od9 an9 : Option PySem.Addr} {sl9 : Array (Option PySem.Value)}
    {r10 : PySem.Addr} {oc10 kV10 dc10 pm10 cd10 ct10 : PySem.Value} {od10 an10 : Option PySem.Addr} {sl10 : Array (Option PySem.Value)}
    {r11 : PySem.Addr} {oc11 kV11 dc11 pm11 cd11 ct11 : PySem.Value} {od11 an11 : Option PySem.Addr} {sl11 : Array (Option PySem.Value)}
    {r12 : PySem.Addr} {oc12 kV12 dc12 pm12 cd12 ct12 : PySem.Value} {od12 an12 : Option PySem.Addr} {sl12 : Array (Option PySem.Value)}
    {r13 : PySem.Addr} {oc13 kV13 dc13 pm13 cd13 ct13 : PySem.Value} {od13 an13 : Option PySem.Addr} {sl13 : Array (Option PySem.Value)}
    {r14 : PySem.Addr} {oc14 kV14 dc14 pm14 cd14 ct14 : PySem.Value} {od14 an14 : Option PySem.Addr} {sl14 : Array (Option PySem.Value)}
    {r15 : PySem.Addr} {oc15 kV15 dc15 pm15 cd15 ct15 : PySem.Value} {od15 an15 : Option PySem.Addr} {sl15 : Array (Option PySem.Value)}
    {r16 : PySem.Addr} {oc16 kV16 dc16 pm16 cd16 ct16 : PySem.Value} {od16 an16 : Option PySem.Addr} {sl16 : Array (Option PySem.Value)}
    {r17 : PySem.Addr} {oc17 kV17 dc17 pm17 cd17 ct17 : PySem.Value} {od17 an17 : Option PySem.Addr} {sl17 : Array (Option PySem.Value)}
    {r18 : PySem.Addr} {oc18 kV18 dc18 pm18 cd18 ct18 : PySem.Value} {od18 an18 : Option PySem.Addr} {sl18 : Array (Option PySem.Value)}
    {r19 : PySem.Addr} {oc19 kV19 dc19 pm19 cd19 ct19 : PySem.Value} {od19 an19 : Option PySem.Addr} {sl19 : Array (Option PySem.Value)}
    {r20 : PySem.Addr} {oc20 kV20 dc20 pm20 cd20 ct20 : PySem.Value} {od20 an20 : Option PySem.Addr} {sl20 : Array (Option PySem.Value)}
    {r21 : PySem.Addr} {oc21 kV21 dc21 pm21 cd21 ct21 : PySem.Value} {od21 an21 : Option PySem.Addr} {sl21 : Array (Option PySem.Value)}
    {r22 : PySem.Addr} {oc22 kV22 dc22 pm22 cd22 ct22 : PySem.Value} {od22 an22 : Option PySem.Addr} {sl22 : Array (Option PySem.Value)}
    {r23 : PySem.Addr} {oc23 kV23 dc23 pm23 cd23 ct23 : PySem.Value} {od23 an23 : Option PySem.Addr} {sl23 : Array (Option PySem.Value)}
    {r24 : PySem.Addr} {oc24 kV24 dc24 pm24 cd24 ct24 : PySem.Value} {od24 an24 : Option PySem.Addr} {sl24 : Array (Option PySem.Value)}
    {r25 : PySem.Addr} {oc25 kV25 dc25 pm25 cd25 ct25 : PySem.Value} {od25 an25 : Option PySem.Addr} {sl25 : Array (Option PySem.Value)}
    {r26 : PySem.Addr} {oc26 kV26 dc26 pm26 cd26 ct26 : PySem.Value} {od26 an26 : Option PySem.Addr} {sl26 : Array (Option PySem.Value)}
    {r27 : PySem.Addr} {oc27 kV27 dc27 pm27 cd27 ct27 : PySem.Value} {od27 an27 : Option PySem.Addr} {sl27 : Array (Option PySem.Value)}
    {r28 : PySem.Addr} {oc28 kV28 dc28 pm28 cd28 ct28 : PySem.Value} {od28 an28 : Option PySem.Addr} {sl28 : Array (Option PySem.Value)}
    {r29 : PySem.Addr} {oc29 kV29 dc29 pm29 cd29 ct29 : PySem.Value} {od29 an29 : Option PySem.Addr} {sl29 : Array (Option PySem.Value)}
    {r30 : PySem.Addr} {oc30 kV30 dc30 pm30 cd30 ct30 : PySem.Value} {od30 an30 : Option PySem.Addr} {sl30 : Array (Option PySem.Value)}
    {u0 : PySem.Value}
    {u1 : PySem.Value}
    (a0 : PySem.W.nsIn K mainGlobals "_law_begin" = some (some (.ref r0))) (l0 : K.lookup r0 = some ⟨oc0, od0, .func (PySem.W.fnOf "_law_begin" "_law_begin" (L2.defArgs (topAt 29)) (L2.defBody (topAt 29)) (L2.defScope (topAt 29)) .none kV0 dc0 pm0 an0 cd0 ct0), sl0⟩) (c0 : PySem.W.codeIn K cd0 "_law_begin" = true) (k0 : PySem.W.keepIn K (.ref r0) = true)
    (a1 : PySem.W.nsIn K mainGlobals "_law_mixed" = some (some (.ref r1))) (l1 : K.lookup r1 = some ⟨oc1, od1, .func (PySem.W.fnOf "_law_mixed" "_law_mixed" (L2.defArgs (topAt 28)) (L2.defBody (topAt 28)) (L2.defScope (topAt 28)) .none kV1 dc1 pm1 an1 cd1 ct1), sl1⟩) (c1 : PySem.W.codeIn K cd1 "_law_mixed" = true) (k1 : PySem.W.keepIn K (.ref r1) = true)
    (a2 : PySem.W.nsIn K mainGlobals "_law_draw" = some (some (.ref r2))) (l2 : K.lookup r2 = some ⟨oc2, od2, .func (PySem.W.fnOf "_law_draw" "_law_draw" (L2.defArgs (topAt 30)) (L2.defBody (topAt 30)) (L2.defScope (topAt 30)) .none kV2 dc2 pm2 an2 cd2 ct2), sl2⟩) (c2 : PySem.W.codeIn K cd2 "_law_draw" = true) (k2 : PySem.W.keepIn K (.ref r2) = true)
    (a3 : PySem.W.nsIn K mainGlobals "_law_solved" = some (some (.ref r3))) (l3 : K.lookup r3 = some ⟨oc3, od3, .func (PySem.W.fnOf "_law_solved" "_law_solved" (L2.defArgs (topAt 35)) (L2.defBody (topAt 35)) (L2.defScope (topAt 35)) .none kV3 dc3 pm3 an3 cd3 ct3), sl3⟩) (c3 : PySem.W.codeIn K cd3 "_law_solved" = true) (k3 : PySem.W.keepIn K (.ref r3) = true)
    (a4 : PySem.W.nsIn K mainGlobals "_law_divisor" = some (some (.ref r4))) (l4 : K.lookup r4 = some ⟨oc4, od4, .func (PySem.W.fnOf "_law_divisor" "_law_divisor" (L2.defArgs (topAt 32)) (L2.defBody (topAt 32)) (L2.defScope (topAt 32)) .none kV4 dc4 pm4 an4 cd4 ct4), sl4⟩) (c4 : PySem.W.codeIn K cd4 "_law_divisor" = true) (k4 : PySem.W.keepIn K (.ref r4) = true)
    (a5 : PySem.W.nsIn K mainGlobals "_law_number" = some (some (.ref r5))) (l5 : K.lookup r5 = some ⟨oc5, od5, .func (PySem.W.fnOf "_law_number" "_law_number" (L2.defArgs (topAt 34)) (L2.defBody (topAt 34)) (L2.defScope (topAt 34)) .none kV5 dc5 pm5 an5 cd5 ct5), sl5⟩) (c5 : PySem.W.codeIn K cd5 "_law_number" = true) (k5 : PySem.W.keepIn K (.ref r5) = true)
    (a6 : PySem.W.nsIn K mainGlobals "_law_like" = some (some (.ref r6))) (l6 : K.lookup r6 = some ⟨oc6, od6, .func (PySem.W.fnOf "_law_like" "_law_like" (L2.defArgs (topAt 33)) (L2.defBody (topAt 33)) (L2.defScope (topAt 33)) .none kV6 dc6 pm6 an6 cd6 ct6), sl6⟩) (c6 : PySem.W.codeIn K cd6 "_law_like" = true) (k6 : PySem.W.keepIn K (.ref r6) = true)
    (a7 : PySem.W.nsIn K mainGlobals "is_integer" = some (some (.ref r7))) (l7 : K.lookup r7 = some ⟨oc7, od7, .func (PySem.W.fnOf "is_integer" "is_integer" (L2.defArgs (topAt 8)) (L2.defBody (topAt 8)) (L2.defScope (topAt 8)) .none kV7 dc7 pm7 an7 cd7 ct7), sl7⟩) (c7 : PySem.W.codeIn K cd7 "is_integer" = true) (k7 : PySem.W.keepIn K (.ref r7) = true)
    (a8 : PySem.W.nsIn K mainGlobals "is_number" = some (some (.ref r8))) (l8 : K.lookup r8 = some ⟨oc8, od8, .func (PySem.W.fnOf "is_number" "is_number" (L2.defArgs (topAt 11)) (L2.defBody (topAt 11)) (L2.defScope (topAt 11)) .none kV8 dc8 pm8 an8 cd8 ct8), sl8⟩) (c8 : PySem.W.codeIn K cd8 "is_number" = true) (k8 : PySem.W.keepIn K (.ref r8) = true)
    (a9 : PySem.W.nsIn K mainGlobals "check_number" = some (some (.ref r9))) (l9 : K.lookup r9 = some ⟨oc9, od9, .func (PySem.W.fnOf "check_number" "check_number" (L2.defArgs (topAt 12)) (L2.defBody (topAt 12)) (L2.defScope (topAt 12)) .none kV9 dc9 pm9 an9 cd9 ct9), sl9⟩) (c9 : PySem.W.codeIn K cd9 "check_number" = true) (k9 : PySem.W.keepIn K (.ref r9) = true)
    (a10 : PySem.W.nsIn K mainGlobals "is_from" = some (some (.ref r10))) (l10 : K.lookup r10 = some ⟨oc10, od10, .func (PySem.W.fnOf "is_from" "is_from" (L2.defArgs (topAt 7)) (L2.defBody (topAt 7)) (L2.defScope (topAt 7)) .none kV10 dc10 pm10 an10 cd10 ct10), sl10⟩) (c10 : PySem.W.codeIn K cd10 "is_from" = true) (k10 : PySem.W.keepIn K (.ref r10) = true)
    (a11 : PySem.W.nsIn K mainGlobals "is_field" = some (some (.ref r11))) (l11 : K.lookup r11 = some ⟨oc11, od11, .func (PySem.W.fnOf "is_field" "is_field" (L2.defArgs (topAt 9)) (L2.defBody (topAt 9)) (L2.defScope (topAt 9)) .none kV11 dc11 pm11 an11 cd11 ct11), sl11⟩) (c11 : PySem.W.codeIn K cd11 "is_field" = true) (k11 : PySem.W.keepIn K (.ref r11) = true)
    (a12 : PySem.W.nsIn K mainGlobals "check_field" = some (some (.ref r12))) (l12 : K.lookup r12 = some ⟨oc12, od12, .func (PySem.W.fnOf "check_field" "check_field" (L2.defArgs (topAt 10)) (L2.defBody (topAt 10)) (L2.defScope (topAt 10)) .none kV12 dc12 pm12 an12 cd12 ct12), sl12⟩) (c12 : PySem.W.codeIn K cd12 "check_field" = true) (k12 : PySem.W.keepIn K (.ref r12) = true)
    (a13 : PySem.W.nsIn K mainGlobals "need_number" = some (some (.ref r13))) (l13 : K.lookup r13 = some ⟨oc13, od13, .func (PySem.W.fnOf "need_number" "need_number" (L2.defArgs (topAt 22)) (L2.defBody (topAt 22)) (L2.defScope (topAt 22)) .none kV13 dc13 pm13 an13 cd13 ct13), sl13⟩) (c13 : PySem.W.codeIn K cd13 "need_number" = true) (k13 : PySem.W.keepIn K (.ref r13) = true)
    (a14 : PySem.W.nsIn K mainGlobals "of_coef" = some (some (.ref r14))) (l14 : K.lookup r14 = some ⟨oc14, od14, .func (PySem.W.fnOf "of_coef" "of_coef" (L2.defArgs (topAt 15)) (L2.defBody (topAt 15)) (L2.defScope (topAt 15)) .none kV14 dc14 pm14 an14 cd14 ct14), sl14⟩) (c14 : PySem.W.codeIn K cd14 "of_coef" = true) (k14 : PySem.W.keepIn K (.ref r14) = true)
    (a15 : PySem.W.nsIn K mainGlobals "inverse_so" = some (some (.ref r15))) (l15 : K.lookup r15 = some ⟨oc15, od15, .func (PySem.W.fnOf "inverse_so" "inverse_so" (L2.defArgs (topAt 13)) (L2.defBody (topAt 13)) (L2.defScope (topAt 13)) .none kV15 dc15 pm15 an15 cd15 ct15), sl15⟩) (c15 : PySem.W.codeIn K cd15 "inverse_so" = true) (k15 : PySem.W.keepIn K (.ref r15) = true)
    (a16 : PySem.W.nsIn K mainGlobals "reduced_so" = some (some (.ref r16))) (l16 : K.lookup r16 = some ⟨oc16, od16, .func (PySem.W.fnOf "reduced_so" "reduced_so" (L2.defArgs (topAt 14)) (L2.defBody (topAt 14)) (L2.defScope (topAt 14)) .none kV16 dc16 pm16 an16 cd16 ct16), sl16⟩) (c16 : PySem.W.codeIn K cd16 "reduced_so" = true) (k16 : PySem.W.keepIn K (.ref r16) = true)
    (a17 : PySem.W.nsIn K mainGlobals "number_of" = some (some (.ref r17))) (l17 : K.lookup r17 = some ⟨oc17, od17, .func (PySem.W.fnOf "number_of" "number_of" (L2.defArgs (topAt 21)) (L2.defBody (topAt 21)) (L2.defScope (topAt 21)) .none kV17 dc17 pm17 an17 cd17 ct17), sl17⟩) (c17 : PySem.W.codeIn K cd17 "number_of" = true) (k17 : PySem.W.keepIn K (.ref r17) = true)
    (a18 : PySem.W.nsIn K mainGlobals "check_two" = some (some (.ref r18))) (l18 : K.lookup r18 = some ⟨oc18, od18, .func (PySem.W.fnOf "check_two" "check_two" (L2.defArgs (topAt 20)) (L2.defBody (topAt 20)) (L2.defScope (topAt 20)) .none kV18 dc18 pm18 an18 cd18 ct18), sl18⟩) (c18 : PySem.W.codeIn K cd18 "check_two" = true) (k18 : PySem.W.keepIn K (.ref r18) = true)
    (a19 : PySem.W.nsIn K mainGlobals "times_so" = some (some (.ref r19))) (l19 : K.lookup r19 = some ⟨oc19, od19, .func (PySem.W.fnOf "times_so" "times_so" (L2.defArgs (topAt 18)) (L2.defBody (topAt 18)) (L2.defScope (topAt 18)) .none kV19 dc19 pm19 an19 cd19 ct19), sl19⟩) (c19 : PySem.W.codeIn K cd19 "times_so" = true) (k19 : PySem.W.keepIn K (.ref r19) = true)
    (a20 : PySem.W.nsIn K mainGlobals "times" = some (some (.ref r20))) (l20 : K.lookup r20 = some ⟨oc20, od20, .func (PySem.W.fnOf "times" "times" (L2.defArgs (topAt 25)) (L2.defBody (topAt 25)) (L2.defScope (topAt 25)) .none kV20 dc20 pm20 an20 cd20 ct20), sl20⟩) (c20 : PySem.W.codeIn K cd20 "times" = true) (k20 : PySem.W.keepIn K (.ref r20) = true)
    (a21 : PySem.W.nsIn K mainGlobals "minus_so" = some (some (.ref r21))) (l21 : K.lookup r21 = some ⟨oc21, od21, .func (PySem.W.fnOf "minus_so" "minus_so" (L2.defArgs (topAt 17)) (L2.defBody (topAt 17)) (L2.defScope (topAt 17)) .none kV21 dc21 pm21 an21 cd21 ct21), sl21⟩) (c21 : PySem.W.codeIn K cd21 "minus_so" = true) (k21 : PySem.W.keepIn K (.ref r21) = true)
    (a22 : PySem.W.nsIn K mainGlobals "minus" = some (some (.ref r22))) (l22 : K.lookup r22 = some ⟨oc22, od22, .func (PySem.W.fnOf "minus" "minus" (L2.defArgs (topAt 24)) (L2.defBody (topAt 24)) (L2.defScope (topAt 24)) .none kV22 dc22 pm22 an22 cd22 ct22), sl22⟩) (c22 : PySem.W.codeIn K cd22 "minus" = true) (k22 : PySem.W.keepIn K (.ref r22) = true)
    (a23 : PySem.W.nsIn K mainGlobals "plus_so" = some (some (.ref r23))) (l23 : K.lookup r23 = some ⟨oc23, od23, .func (PySem.W.fnOf "plus_so" "plus_so" (L2.defArgs (topAt 16)) (L2.defBody (topAt 16)) (L2.defScope (topAt 16)) .none kV23 dc23 pm23 an23 cd23 ct23), sl23⟩) (c23 : PySem.W.codeIn K cd23 "plus_so" = true) (k23 : PySem.W.keepIn K (.ref r23) = true)
    (a24 : PySem.W.nsIn K mainGlobals "plus" = some (some (.ref r24))) (l24 : K.lookup r24 = some ⟨oc24, od24, .func (PySem.W.fnOf "plus" "plus" (L2.defArgs (topAt 23)) (L2.defBody (topAt 23)) (L2.defScope (topAt 23)) .none kV24 dc24 pm24 an24 cd24 ct24), sl24⟩) (c24 : PySem.W.codeIn K cd24 "plus" = true) (k24 : PySem.W.keepIn K (.ref r24) = true)
    (a25 : PySem.W.nsIn K mainGlobals "_law_least" = some (some (.ref r25))) (l25 : K.lookup r25 = some ⟨oc25, od25, .func (PySem.W.fnOf "_law_least" "_law_least" (L2.defArgs (topAt 36)) (L2.defBody (topAt 36)) (L2.defScope (topAt 36)) .none kV25 dc25 pm25 an25 cd25 ct25), sl25⟩) (c25 : PySem.W.codeIn K cd25 "_law_least" = true) (k25 : PySem.W.keepIn K (.ref r25) = true)
    (a26 : PySem.W.nsIn K mainGlobals "over_so" = some (some (.ref r26))) (l26 : K.lookup r26 = some ⟨oc26, od26, .func (PySem.W.fnOf "over_so" "over_so" (L2.defArgs (topAt 19)) (L2.defBody (topAt 19)) (L2.defScope (topAt 19)) .none kV26 dc26 pm26 an26 cd26 ct26), sl26⟩) (c26 : PySem.W.codeIn K cd26 "over_so" = true) (k26 : PySem.W.keepIn K (.ref r26) = true)
    (a27 : PySem.W.nsIn K mainGlobals "over" = some (some (.ref r27))) (l27 : K.lookup r27 = some ⟨oc27, od27, .func (PySem.W.fnOf "over" "over" (L2.defArgs (topAt 26)) (L2.defBody (topAt 26)) (L2.defScope (topAt 26)) .none kV27 dc27 pm27 an27 cd27 ct27), sl27⟩) (c27 : PySem.W.codeIn K cd27 "over" = true) (k27 : PySem.W.keepIn K (.ref r27) = true)
    (a28 : PySem.W.nsIn K mainGlobals "_law_right" = some (some (.ref r28))) (l28 : K.lookup r28 = some ⟨oc28, od28, .func (PySem.W.fnOf "_law_right" "_law_right" (L2.defArgs (topAt 37)) (L2.defBody (topAt 37)) (L2.defScope (topAt 37)) .none kV28 dc28 pm28 an28 cd28 ct28), sl28⟩) (c28 : PySem.W.codeIn K cd28 "_law_right" = true) (k28 : PySem.W.keepIn K (.ref r28) = true)
    (a29 : PySem.W.nsIn K mainGlobals "_law_of" = some (some (.ref r29))) (l29 : K.lookup r29 = some ⟨oc29, od29, .func (PySem.W.fnOf "_law_of" "_law_of" (L2.defArgs (topAt 31)) (L2.defBody (topAt 31)) (L2.defScope (topAt 31)) .none kV29 dc29 pm29 an29 cd29 ct29), sl29⟩) (c29 : PySem.W.codeIn K cd29 "_law_of" = true) (k29 : PySem.W.keepIn K (.ref r29) = true)
    (a30 : PySem.W.nsIn K mainGlobals "law" = some (some (.ref r30))) (l30 : K.lookup r30 = some ⟨oc30, od30, .func (PySem.W.fnOf "law" "law" (L2.defArgs (topAt 38)) (L2.defBody (topAt 38)) (L2.defScope (topAt 38)) .none kV30 dc30 pm30 an30 cd30 ct30), sl30⟩) (c30 : PySem.W.codeIn K cd30 "law" = true) (k30 : PySem.W.keepIn K (.ref r30) = true)
    (z0 : PySem.W.nsIn K mainGlobals "len" = some none)
    (z1 : PySem.W.nsIn K mainGlobals "tuple" = some none)
    (z2 : PySem.W.nsIn K mainGlobals "list" = some none)
    (z3 : PySem.W.nsIn K mainGlobals "sum" = some none)
    (z4 : PySem.W.nsIn K mainGlobals "max" = some none)
    (z5 : PySem.W.nsIn K mainGlobals "min" = some none)
    (z6 : PySem.W.nsIn K mainGlobals "abs" = some none)
    (z7 : PySem.W.nsIn K mainGlobals "int" = some none)
    (z8 : PySem.W.nsIn K mainGlobals "sorted" = some none)
    (z9 : PySem.W.nsIn K mainGlobals "set" = some none)
    (z10 : PySem.W.nsIn K mainGlobals "isinstance" = some none)
    (z11 : PySem.W.nsIn K mainGlobals "repr" = some none)
    (z12 : PySem.W.nsIn K mainGlobals "range" = some none)
    (z13 : PySem.W.nsIn K mainGlobals "zip" = some none)
    (z14 : PySem.W.nsIn K mainGlobals "enumerate" = some none)
    (z15 : PySem.W.nsIn K mainGlobals "bool" = some none)
    (z16 : PySem.W.nsIn K mainGlobals "dict" = some none)
    (z17 : PySem.W.nsIn K mainGlobals "reversed" = some none)
    (cg0 : PySem.W.nsIn K mainGlobals "MOST_PRIME" = some (some u0)) (dg0 : IsD K (.int 997) u0)
    (cg1 : PySem.W.nsIn K mainGlobals "NONE" = some (some u1)) (dg1 : IsD K (.tup [(.int 0), (.int 1)]) u1)
    (gg : PySem.W.nsIn K mainGlobals "gcd" = some (some (.builtin "math.gcd"))) :
    ∃ fd : PySem.FuncData, (∀ (s : PySem.Shared) (u : PySem.Value), BindsTo s fd ⟨[u], []⟩ [("script", u)]) ∧ ∀ base : PySem.Heap, K.In base → base.Ns mainGlobals mg → LawGo P w K mg base fa fd "script" 6 1 M.lawS := by
  have T : Tops K mg := {
    blt := by
      intro x hx
      rcases List.mem_cons.mp hx with rfl | hx
      · exact PySem.W.mg_none_of X G z0
      rcases List.mem_cons.mp hx with rfl | hx
      · exact PySem.W.mg_none_of X G z1
      rcases List.mem_cons.mp hx with rfl | hx
      · exact PySem.W.mg_none_of X G z2
      rcases List.mem_cons.mp hx with rfl | hx
      · exact PySem.W.mg_none_of X G z3
      rcases List.mem_cons.mp hx with rfl | hx
      · exact PySem.W.mg_none_of X G z4
      rcases List.mem_cons.mp hx with rfl | hx
      · exact PySem.W.mg_none_of X G z5
      rcases List.mem_cons.mp hx with rfl | hx
      · exact PySem.W.mg_none_of X G z6
      rcases List.mem_cons.mp hx with rfl | hx
      · exact PySem.W.mg_none_of X G z7
      rcases List.mem_cons.mp hx with rfl | hx
      · exact PySem.W.mg_none_of X G z8
      rcases List.mem_cons.mp hx with rfl | hx
      · exact PySem.W.mg_none_of X G z9
      rcases List.mem_cons.mp hx with rfl | hx
      · exact PySem.W.mg_none_of X G z10
      rcases List.mem_cons.mp hx with rfl | hx
      · exact PySem.W.mg_none_of X G z11
      rcases List.mem_cons.mp hx with rfl | hx
      · exact PySem.W.mg_none_of X G z12
      rcases List.mem_cons.mp hx with rfl | hx
      · exact PySem.W.mg_none_of X G z13
      rcases List.mem_cons.mp hx with rfl | hx
      · exact PySem.W.mg_none_of X G z14
      rcases List.mem_cons.mp hx with rfl | hx
      · exact PySem.W.mg_none_of X G z15
      rcases List.mem_cons.mp hx with rfl | hx
      · exact PySem.W.mg_none_of X G z16
      rcases List.mem_cons.mp hx with rfl | hx
      · exact PySem.W.mg_none_of X G z17
      exact absurd hx (by simp)
    d_law_begin := ⟨_, _, PySem.W.mg_of X G a0, L2.fun_mk (st := topAt 29) l0 c0 k0⟩
    d_law_mixed := ⟨_, _, PySem.W.mg_of X G a1, L2.fun_mk (st := topAt 28) l1 c1 k1⟩
    d_law_draw := ⟨_, _, PySem.W.mg_of X G a2, L2.fun_mk (st := topAt 30) l2 c2 k2⟩
    d_law_solved := ⟨_, _, PySem.W.mg_of X G a3, L2.fun_mk (st := topAt 35) l3 c3 k3⟩
    d_law_divisor := ⟨_, _, PySem.W.mg_of X G a4, L2.fun_mk (st := topAt 32) l4 c4 k4⟩
    d_law_number := ⟨_, _, PySem.W.mg_of X G a5, L2.fun_mk (st := topAt 34) l5 c5 k5⟩
    d_law_like := ⟨_, _, PySem.W.mg_of X G a6, L2.fun_mk (st := topAt 33) l6 c6 k6⟩
    dis_integer := ⟨_, _, PySem.W.mg_of X G a7, L2.fun_mk (st := topAt 8) l7 c7 k7⟩
    dis_number := ⟨_, _, PySem.W.mg_of X G a8, L2.fun_mk (st := topAt 11) l8 c8 k8⟩
    dcheck_number := ⟨_, _, PySem.W.mg_of X G a9, L2.fun_mk (st := topAt 12) l9 c9 k9⟩
    dis_from := ⟨_, _, PySem.W.mg_of X G a10, L2.fun_mk (st := topAt 7) l10 c10 k10⟩
    dis_field := ⟨_, _, PySem.W.mg_of X G a11, L2.fun_mk (st := topAt 9) l11 c11 k11⟩
    dcheck_field := ⟨_, _, PySem.W.mg_of X G a12, L2.fun_mk (st := topAt 10) l12 c12 k12⟩
    dneed_number := ⟨_, _, PySem.W.mg_of X G a13, L2.fun_mk (st := topAt 22) l13 c13 k13⟩
    dof_coef := ⟨_, _, PySem.W.mg_of X G a14, L2.fun_mk (st := topAt 15) l14 c14 k14⟩
    dinverse_so := ⟨_, _, PySem.W.mg_of X G a15, L2.fun_mk (st := topAt 13) l15 c15 k15⟩
    dreduced_so := ⟨_, _, PySem.W.mg_of X G a16, L2.fun_mk (st := topAt 14) l16 c16 k16⟩
    dnumber_of := ⟨_, _, PySem.W.mg_of X G a17, L2.fun_mk (st := topAt 21) l17 c17 k17⟩
    dcheck_two := ⟨_, _, PySem.W.mg_of X G a18, L2.fun_mk (st := topAt 20) l18 c18 k18⟩
    dtimes_so := ⟨_, _, PySem.W.mg_of X G a19, L2.fun_mk (st := topAt 18) l19 c19 k19⟩
    dtimes := ⟨_, _, PySem.W.mg_of X G a20, L2.fun_mk (st := topAt 25) l20 c20 k20⟩
    dminus_so := ⟨_, _, PySem.W.mg_of X G a21, L2.fun_mk (st := topAt 17) l21 c21 k21⟩
    dminus := ⟨_, _, PySem.W.mg_of X G a22, L2.fun_mk (st := topAt 24) l22 c22 k22⟩
    dplus_so := ⟨_, _, PySem.W.mg_of X G a23, L2.fun_mk (st := topAt 16) l23 c23 k23⟩
    dplus := ⟨_, _, PySem.W.mg_of X G a24, L2.fun_mk (st := topAt 23) l24 c24 k24⟩
    d_law_least := ⟨_, _, PySem.W.mg_of X G a25, L2.fun_mk (st := topAt 36) l25 c25 k25⟩
    dover_so := ⟨_, _, PySem.W.mg_of X G a26, L2.fun_mk (st := topAt 19) l26 c26 k26⟩
    dover := ⟨_, _, PySem.W.mg_of X G a27, L2.fun_mk (st := topAt 26) l27 c27 k27⟩
    d_law_right := ⟨_, _, PySem.W.mg_of X G a28, L2.fun_mk (st := topAt 37) l28 c28 k28⟩
    d_law_of := ⟨_, _, PySem.W.mg_of X G a29, L2.fun_mk (st := topAt 31) l29 c29 k29⟩
    dlaw := ⟨_, _, PySem.W.mg_of X G a30, L2.fun_mk (st := topAt 38) l30 c30 k30⟩
    c_MOST_PRIME := ⟨_, PySem.W.mg_of X G cg0, dg0⟩
    c_NONE := ⟨_, PySem.W.mg_of X G cg1, dg1⟩
    gcd := PySem.W.mg_of X G gg }
  exact law_uniform h hfa fun base => oklaw (P := P) (w := w) (base := base) T
end RS
end
section
set_option autoImplicit false
set_option linter.all false
set_option maxRecDepth 100000
set_option maxHeartbeats 4000000
/-! RSPlain: the evaluator on small programs; the law's draws. -/
namespace RS
theorem fitsI_of {i : Int} (h : i.natAbs < 2 ^ 200) : fitsI i = true := by
  unfold fitsI BIG
  rw [decide_eq_true_eq]
  exact Nat.lt_trans h (Nat.pow_lt_pow_right (by decide) (by decide))
/-- k more draws may be made -/
structure St (k : Nat) (s : OSt) : Prop where
  ne : 0 < s.cells.length
  len : s.lefts.length = s.cells.length
  pos : s.pos + k ≤ 1000000000
theorem St.mono {j k : Nat} {s : OSt} (h : St k s) (l : j ≤ k) : St j s := ⟨h.ne, h.len, by have := h.pos; omega⟩
theorem beginSt_ok (ns : List Int) : St 1000000000 (beginSt ns) := by
  unfold beginSt
  refine ⟨?_, by simp, by simp⟩
  dsimp only
  split
  · exact Nat.le_refl 1
  · rename_i h; exact List.length_pos_iff.mpr h
theorem mixed_run (c k : Int) (hk : 0 ≤ k) (hk2 : k < 2 ^ 64) (s : OSt) : ∃ m : Int, M.Llaw_mixed [.int c, .int k] s = .ok (.sh (.int m)) s ∧ 0 ≤ m ∧ m < 2147483629 := by
  refine ⟨(c.fmod 2147483647 * (48271 + 2 * k * k) + 69621 * k + 11).fmod 2147483647 * 69621 |>.fmod 2147483629, ?_, ?_, ?_⟩
  · have h1 : 0 ≤ c.fmod 2147483647 ∧ c.fmod 2147483647 < 2147483647 := by
      rw [Int.fmod_eq_emod_of_nonneg _ (by decide)]; omega
    have f : ∀ i : Int, -(2 ^ 150) < i → i < 2 ^ 150 → fitsI i = true := fun i a b => fitsI_of (by omega)
    have h3 : k * k ≤ (2 ^ 64 - 1) * (2 ^ 64 - 1) ∧ 0 ≤ k * k := ⟨Int.mul_le_mul (by omega) (by omega) hk (by decide), Int.mul_nonneg hk hk⟩
    have h4 : 2 * k * k = 2 * (k * k) := Int.mul_assoc _ _ _
    have h5 : 0 ≤ (c.fmod 2147483647 * (48271 + 2 * k * k) + 69621 * k + 11).fmod 2147483647 ∧ (c.fmod 2147483647 * (48271 + 2 * k * k) + 69621 * k + 11).fmod 2147483647 < 2147483647 := by
      rw [Int.fmod_eq_emod_of_nonneg _ (by decide)]; omega
    have e1 := f (c.fmod 2147483647) (by omega) (by omega)
    have e2 := f k (by omega) (by omega)
    have e3 := f (2 * k) (by omega) (by omega)
    have e4 := f (48271 + 2 * k * k) (by omega) (by omega)
    have e5 := f _ (by have := h5.1; omega) (by have := h5.2; omega : (c.fmod 2147483647 * (48271 + 2 * k * k) + 69621 * k + 11).fmod 2147483647 < 2 ^ 150)
    have e6 := f 2 (by decide) (by decide)
    have e7 := f 69621 (by decide) (by decide)
    simp [M.Llaw_mixed, M.Llaw_mixedS, evFn, exS, ev, evs, startE, R.bind, withV, lift, primF, int1, binF, Slot.val, outOf, assignAll, slotOf, Rs.isBo, Rs.d, endR, e1, e2, e3, e4, e5, e6, e7]
  · rw [Int.fmod_eq_emod_of_nonneg _ (by decide)]; omega
  · rw [Int.fmod_eq_emod_of_nonneg _ (by decide)]; omega
theorem ixOf_nat {n i : Nat} (h : i < n) : ixOf n (i : Int) = some i := by
  unfold ixOf
  rw [if_pos (by omega), if_pos (by omega)]
  simp
theorem draw_run {k : Nat} {s : OSt} (h : St (k + 1) s) {l : Int} (h0 : 0 < l) (h1 : l < 2 ^ 64) : ∃ (d : Int) (s' : OSt), M.Llaw_draw [.st, .int l] s = .ok (.sh (.int d)) s' ∧ 0 ≤ d ∧ d < l ∧ St k s' := by
  obtain ⟨hne, hlen, hpos⟩ := h
  have hsp : s.pos % s.cells.length < s.cells.length := Nat.mod_lt _ hne
  have e1 : ((s.pos : Nat) : Int) % (s.cells.length : Int) = ((s.pos % s.cells.length : Nat) : Int) := by simp
  have hsl : s.pos % s.cells.length < s.lefts.length := by omega
  have e2 : ixOf s.cells.length ((s.pos : Int) % (s.cells.length : Int)) = some (s.pos % s.cells.length) := by rw [e1]; exact ixOf_nat hsp
  have e3 : ixOf s.lefts.length ((s.pos : Int) % (s.cells.length : Int)) = some (s.pos % s.cells.length) := by rw [e1]; exact ixOf_nat hsl
  clear e1
  have fm : ((s.pos : Nat) : Int).fmod (s.cells.length : Int) = (s.pos : Int) % (s.cells.length : Int) := Int.fmod_eq_emod_of_nonneg _ (by omega)
  have nc : s.cells ≠ [] := List.length_pos_iff.mp hne
  have g1 : s.lefts[s.pos % s.cells.length]? = some (s.lefts[s.pos % s.cells.length]) := List.getElem?_eq_getElem hsl
  have g2 : s.cells[s.pos % s.cells.length]? = some (s.cells[s.pos % s.cells.length]) := List.getElem?_eq_getElem hsp
  generalize s.lefts[s.pos % s.cells.length] = left at g1
  generalize s.cells[s.pos % s.cells.length] = cell at g2
  have hl : l ≠ 0 := by omega
  have fl : fitsI l = true := fitsI_of (by omega)
  have nn : ((s.cells.length : Nat) : Int) ≠ 0 := by omega
  have np : (0 : Int) ≤ (s.pos : Int) + 1 := by omega
  have lm : ∀ x : Int, 0 ≤ x.fmod l ∧ x.fmod l < l := fun x => by
    rw [Int.fmod_eq_emod_of_nonneg _ (by omega)]
    exact ⟨Int.emod_nonneg _ hl, Int.emod_lt_of_pos _ h0⟩
  by_cases hp : left > 0
  · have hp' : (0 : Int) < left := hp
    refine ⟨left.fmod l, ⟨s.cells, s.lefts.set (s.pos % s.cells.length) (left.fdiv l), s.pos + 1⟩, ?_, (lm left).1, (lm left).2, hne, by simpa using hlen, by show s.pos + 1 + k ≤ _; omega⟩
    simp [M.Llaw_draw, M.Llaw_drawS, evFn, exS, ev, evs, startE, R.bind, withV, lift, primF, int1, binF, Slot.val, outOf, assignAll, slotOf, Rs.isBo, Rs.d, endR, isSt, cellF, putAt, putLeft, cmpF, ordF, bothInt, fm, e2, e3, g1, g2, hl, fl, nc, np, hp']
  · have hp' : ¬ (0 : Int) < left := hp
    obtain ⟨m1, r1, a1, b1⟩ := mixed_run cell s.pos (by omega) (by omega) ⟨s.cells, s.lefts, s.pos + 1⟩
    obtain ⟨m2, r2, a2, b2⟩ := mixed_run m1 (40 + s.pos) (by omega) (by omega) ⟨s.cells, s.lefts, s.pos + 1⟩
    obtain ⟨m3, r3, a3, b3⟩ := mixed_run m2 (7 + s.pos) (by omega) (by omega) ⟨s.cells, s.lefts, s.pos + 1⟩
    have f2 : fitsI m2 = true := fitsI_of (by omega)
    have f3 : fitsI 2147483647 = true := fitsI_of (by decide)
    have f4 : fitsI 64 = true := fitsI_of (by decide)
    refine ⟨((m2 * 2147483647 + m3).fdiv 64).fmod l, ⟨s.cells, s.lefts, s.pos + 1⟩, ?_, (lm _).1, (lm _).2, hne, hlen, by show s.pos + 1 + k ≤ _; omega⟩
    simp [M.Llaw_draw, M.Llaw_drawS, evFn, exS, ev, evs, startE, R.bind, withV, lift, primF, int1, binF, Slot.val, outOf, assignAll, slotOf, Rs.isBo, Rs.d, endR, isSt, cellF, putAt, putLeft, cmpF, ordF, bothInt, callR, freeze, fm, e2, e3, g1, g2, hl, fl, nc, np, hp', r1, r2, r3, f2, f3, f4]
end RS
end
section
set_option autoImplicit false
set_option linter.all false
set_option maxRecDepth 100000
set_option maxHeartbeats 4000000
/-! RSPlain2: lists of ints, comprehensions, loops. -/
namespace RS
def tn (l : List Int) : D := .tup (l.map D.int)
theorem intsOf_map : ∀ l : List Int, intsOf (l.map D.int) = some l
  | [] => rfl
  | x :: l => by rw [List.map_cons, intsOf, intsOf_map l]; rfl
theorem deeps_ints (n : Nat) : ∀ l : List Int, D.deeps n (l.map D.int) = true
  | [] => by simp [D.deeps]
  | x :: l => by rw [List.map_cons, D.deeps, deeps_ints n l]; cases n <;> simp [D.deep]
theorem deep_tn (n : Nat) (l : List Int) : D.deep (n + 1) (tn l) = true := by rw [tn, D.deep]; exact deeps_ints n l
theorem eqvs_ints : ∀ a b : List Int, D.eqvs (a.map D.int) (b.map D.int) = decide (a = b)
  | [], [] => by simp [D.eqvs]
  | [], _ :: _ => by simp [D.eqvs]
  | _ :: _, [] => by simp [D.eqvs]
  | x :: a, y :: b => by
    rw [List.map_cons, List.map_cons, D.eqvs, D.eqv, eqvs_ints a b]
    by_cases h1 : x = y <;> by_cases h2 : a = b <;> simp [h1, h2]
theorem eqF_tn (a b : List Int) : eqF (tn a) (tn b) = some (decide (a = b)) := by
  unfold eqF
  rw [show DEEP = 59 + 1 from rfl, deep_tn, deep_tn]
  simp only [Bool.and_self, if_true, tn, D.eqv, eqvs_ints]
theorem showables_ints : ∀ l : List Int, (∀ x ∈ l, x.natAbs < 2 ^ 1000) → D.showables (l.map D.int) = true
  | [], _ => by simp [D.showables]
  | x :: l, h => by
    rw [List.map_cons, D.showables, showables_ints l fun y hy => h y (List.mem_cons_of_mem _ hy), D.showable, Bool.and_true, decide_eq_true_eq]
    exact Nat.lt_trans (h x List.mem_cons_self) (by unfold SHOW; exact Nat.pow_lt_pow_right (by decide) (by decide))
theorem rlens_ints : ∀ l : List Int, D.rlens (l.map D.int) = 642 * l.length
  | [] => by simp [D.rlens]
  | x :: l => by rw [List.map_cons, D.rlens, rlens_ints l, D.rlen, List.length_cons]; omega
theorem reprOk_tn {l : List Int} (h : ∀ x ∈ l, x.natAbs < 2 ^ 1000) (hl : l.length ≤ 1000) : reprOk (tn l) = true := by
  unfold reprOk
  rw [show DEEP = 59 + 1 from rfl, deep_tn, tn, D.showable, showables_ints l h, D.rlen, rlens_ints]
  simp only [Bool.true_and, Bool.and_true, decide_eq_true_eq]
  omega
theorem compL_pure {step : D → OSt → R (Option D)} (g : D → Option D) {s : OSt} : ∀ (items acc : List D), (∀ d ∈ items, step d s = .ok (g d) s) → acc.length + items.length ≤ LIM → compL step items acc s = .ok (acc ++ items.filterMap g) s
  | [], acc, _, _ => by simp [compL]
  | d :: items, acc, h, hl => by
    have h1 := h d List.mem_cons_self
    have ih := fun acc' => compL_pure g items acc' fun e he => h e (List.mem_cons_of_mem _ he)
    rw [List.length_cons] at hl
    rw [compL, h1]
    cases hg : g d with
    | none => simp only []; rw [ih acc (by omega), List.filterMap_cons, hg]
    | some y =>
      simp only []
      rw [if_pos (by omega), ih _ (by simp; omega), List.filterMap_cons, hg]
      simp
def lentE (b : Option Nat) (ρ : Env) : Env := match b with
  | some i => ρ.set i .no
  | none => ρ
def stepP (ρw : Env) (tg : Tg) (cnd elt : E) (d : D) (s : OSt) : R (Option D) := match bindTg tg d ρw with
  | some ρ1 => (ev cnd ρ1 s).bind fun c s2 => match c with
    | .sh (.bl true) => (ev elt ρ1 s2).bind fun y s3 => if y.isBo then .no else .ok (some y.d) s3
    | .sh (.bl false) => .ok none s2
    | _ => .no
  | none => .no
theorem bind_mk {α β : Type} {a : α} {s : OSt} {f : α → OSt → R β} : (R.ok a s).bind f = f a s := rfl
theorem ev_comp {vs : List Nat} {tg : Tg} {it cnd elt : E} {ρ : Env} {s : OSt} {items : List D} {b : Option Nat} (hi : evI it ρ s = .ok (items, b) s) (no : noOw ρ vs = true) (g : D → Option D)
    (h : ∀ d ∈ items, stepP (wipeE (lentE b ρ) vs) tg cnd elt d s = .ok (g d) s) (hl : items.length ≤ LIM) : ev (.comp vs tg it cnd elt) ρ s = .ok (.fr (.lst (items.filterMap g))) s := by
  rw [ev, hi, bind_mk]
  dsimp only
  rw [if_pos no]
  have e : compL (stepP (wipeE (lentE b ρ) vs) tg cnd elt) items [] s = .ok ([] ++ items.filterMap g) s := compL_pure g items [] h (by simpa using hl)
  exact Eq.trans (congrArg (fun z => R.bind z fun acc s2 => R.ok (Rs.fr (.lst acc)) s2) e) rfl
theorem forL_run {step : D → Env → OSt → Out} {s : OSt} (I : Nat → Env → Prop) : ∀ (items : List D) (k : Nat) (ρ : Env), I k ρ → (∀ i d ρ, items[i]? = some d → I (k + i) ρ → ∃ ρ', step d ρ s = .nx ρ' s ∧ I (k + i + 1) ρ') → ∃ ρ', forL step items ρ s = .nx ρ' s ∧ I (k + items.length) ρ'
  | [], k, ρ, h, _ => ⟨ρ, by rw [forL], h⟩
  | d :: items, k, ρ, h, hs => by
    obtain ⟨ρ1, e1, h1⟩ := hs 0 d ρ rfl h
    obtain ⟨ρ2, e2, h2⟩ := forL_run I items (k + 1) ρ1 h1 fun i d ρ hd hI => by
      have := hs (i + 1) d ρ (by simpa using hd) (by rw [show k + (i + 1) = k + 1 + i by omega]; exact hI)
      rw [show k + 1 + i + 1 = k + (i + 1) + 1 by omega]; exact this
    refine ⟨ρ2, by rw [forL, e1]; exact e2, ?_⟩
    rw [List.length_cons, show k + (items.length + 1) = k + 1 + items.length by omega]; exact h2
end RS
end
section
set_option autoImplicit false
set_option linter.all false
set_option maxRecDepth 100000
set_option maxHeartbeats 4000000
/-! RSRange: ranges walked; loops that return. -/
namespace RS
theorem fromInts_mem {a : Int} {n : Nat} {d : D} (h : d ∈ fromInts a n) : ∃ k, k < n ∧ d = .int (a + (k : Nat)) := by
  unfold fromInts at h
  obtain ⟨k, h1, h2⟩ := List.mem_map.mp h
  exact ⟨k, List.mem_range.mp h1, h2.symm⟩
theorem rangeF_two {a b : Int} (h : a.natAbs < 2 ^ 61 ∧ b.natAbs < 2 ^ 61) : rangeF [.int a, .int b] = some (fromInts a (b - a).toNat) := by
  unfold rangeF
  exact if_pos ⟨decide_eq_true h.1, decide_eq_true h.2⟩
theorem rangeF_one {a : Int} (h : a.natAbs < 2 ^ 61) : rangeF [.int a] = some (fromInts 0 a.toNat) := by
  unfold rangeF
  exact if_pos (decide_eq_true h)
theorem evI_range {es : E} {rs : List Rs} {ρ : Env} {s s' : OSt} {l : List D} (h : evs es ρ s = .ok rs s') (hr : rangeF (rs.map Rs.d) = some l) : evI (.itRange es) ρ s = .ok (l, none) s' := by rw [evI, h, bind_mk, hr]; rfl
theorem fromInts_len (a : Int) (n : Nat) : (fromInts a n).length = n := by simp [fromInts]
theorem fromInts_split (a : Int) (m k : Nat) : fromInts a (m + (k + 1)) = fromInts a m ++ .int (a + m) :: (List.range k).map fun (i : Nat) => D.int (a + (m + 1 + i : Nat)) := by
  unfold fromInts
  rw [List.range_add, List.map_append]
  congr 1
  rw [List.range_succ_eq_map]
  simp [List.map_map, Function.comp_def]
  intro i _
  omega
/-- a loop that returns at some item -/
theorem forL_first {step : D → Env → OSt → Out} {s : OSt} (I : Env → Prop) {d : D} {post : List D} {o : Out} : ∀ (pre : List D) (ρ : Env), I ρ → (∀ e ∈ pre, ∀ ρ, I ρ → ∃ ρ', step e ρ s = .nx ρ' s ∧ I ρ') → (∀ ρ, I ρ → forL step (d :: post) ρ s = o) → forL step (pre ++ d :: post) ρ s = o
  | [], ρ, h, _, hd => hd ρ h
  | e :: pre, ρ, h, hs, hd => by
    obtain ⟨ρ', e1, h1⟩ := hs e List.mem_cons_self ρ h
    rw [List.cons_append, forL, e1]
    exact forL_first I pre ρ' h1 (fun x hx => hs x (List.mem_cons_of_mem _ hx)) hd
theorem exS_seq {a b : S} {ρ ρ1 : Env} {s s1 : OSt} (h : exS a ρ s = .nx ρ1 s1) : exS (.seq a b) ρ s = exS b ρ1 s1 := by rw [exS, h]
theorem exS_seq_rt {a b : S} {ρ : Env} {s s1 : OSt} {r : Rs} (h : exS a ρ s = .rt r s1) : exS (.seq a b) ρ s = .rt r s1 := by rw [exS, h]
theorem ife_false {c : E} {a : S} {ρ : Env} {s s1 : OSt} (h : ev c ρ s = .ok (.sh (.bl false)) s1) : exS (.ife c a .skip) ρ s = .nx ρ s1 := by
  rw [exS, h]; simp [withV, exS]
theorem comp_none {vs : List Nat} {tg : Tg} {it cnd elt : E} {ρ : Env} {s : OSt} {items : List D} (hi : evI it ρ s = .ok (items, none) s) (no : noOw ρ vs = true)
    (h : ∀ d ∈ items, stepP (wipeE ρ vs) tg cnd elt d s = .ok none s) (hl : items.length ≤ LIM) : ev (.comp vs tg it cnd elt) ρ s = .ok (.fr (.lst [])) s := by
  have e := ev_comp (vs := vs) (tg := tg) (cnd := cnd) (elt := elt) hi no (fun _ => none) h hl
  rw [e]
  have : items.filterMap (fun _ => (none : Option D)) = [] := List.filterMap_eq_nil_iff.mpr fun _ _ => rfl
  rw [this]
end RS
end
section
set_option autoImplicit false
set_option linter.all false
set_option maxRecDepth 100000
set_option maxHeartbeats 4000000
/-! RSDraws: drawn rows; loops with a told state. -/
namespace RS
theorem draws_comp {ρw : Env} {tg : Tg} {elt : E} {l : Int} (h0 : 0 < l) (h1 : l < 2 ^ 64)
    (hs : ∀ d s x s', M.Llaw_draw [.st, .int l] s = .ok (.sh (.int x)) s' → stepP ρw tg .omit elt d s = .ok (some (.int x)) s') : ∀ (items : List D) (acc : List Int) (k : Nat) (s : OSt), St (items.length + k) s → acc.length + items.length ≤ 1000 →
    ∃ (r : List Int) (s' : OSt), compL (stepP ρw tg .omit elt) items (acc.map D.int) s = .ok ((acc ++ r).map D.int) s' ∧ r.length = items.length ∧ (∀ y ∈ r, 0 ≤ y ∧ y < l) ∧ St k s'
  | [], acc, k, s, h, _ => ⟨[], s, by simp [compL], rfl, by simp, by simpa using h⟩
  | d :: items, acc, k, s, h, hl => by
    rw [List.length_cons] at h hl
    obtain ⟨x, s1, r, a, b, h2⟩ := draw_run (k := items.length + k) (h.mono (by omega)) h0 h1
    obtain ⟨m, s', e, e2, e3, h'⟩ := draws_comp h0 h1 hs items (acc ++ [x]) k s1 h2 (by rw [List.length_append]; simp; omega)
    refine ⟨x :: m, s', ?_, by rw [List.length_cons, List.length_cons, e2], fun y hy => ?_, h'⟩
    · rw [compL, hs d s x s1 r]
      simp only []
      rw [if_pos (by rw [List.length_map]; unfold LIM; omega)]
      have : acc.map D.int ++ [D.int x] = (acc ++ [x]).map D.int := by simp
      rw [this, e]
      simp
    · rcases List.mem_cons.mp hy with z | z
      · rw [z]; exact ⟨a, b⟩
      · exact e3 y z
theorem ev_draws {vs : List Nat} {tg : Tg} {it elt : E} {ρ : Env} {s : OSt} {items : List D} {b : Option Nat} {l : Int} (k : Nat) (hi : evI it ρ s = .ok (items, b) s) (no : noOw ρ vs = true) (h0 : 0 < l) (h1 : l < 2 ^ 64)
    (hs : ∀ d s x s', M.Llaw_draw [.st, .int l] s = .ok (.sh (.int x)) s' → stepP (wipeE (lentE b ρ) vs) tg .omit elt d s = .ok (some (.int x)) s') (hk : St (items.length + k) s) (hl : items.length ≤ 1000) :
    ∃ (r : List Int) (s' : OSt), ev (.comp vs tg it .omit elt) ρ s = .ok (.fr (.lst (r.map D.int))) s' ∧ r.length = items.length ∧ (∀ y ∈ r, 0 ≤ y ∧ y < l) ∧ St k s' := by
  obtain ⟨r, s', e, e2, e3, e4⟩ := draws_comp h0 h1 hs items [] k s hk (by simpa using hl)
  refine ⟨r, s', ?_, e2, e3, e4⟩
  rw [ev, hi, bind_mk]
  dsimp only
  rw [if_pos no]
  exact Eq.trans (congrArg (fun z => R.bind z fun acc s2 => R.ok (Rs.fr (.lst acc)) s2) e) rfl
/-- a loop whose slots are told by a state -/
theorem for_fold {σ α : Type} {step : D → Env → OSt → Out} (enc : α → D) (envOf : σ → Env) (f : σ → α → σ) {s : OSt} (I : Nat → σ → Prop) : ∀ (xs : List α) (k : Nat) (st : σ), I k st →
    (∀ i x st, xs[i]? = some x → I (k + i) st → step (enc x) (envOf st) s = .nx (envOf (f st x)) s ∧ I (k + i + 1) (f st x)) →
    forL step (xs.map enc) (envOf st) s = .nx (envOf (xs.foldl f st)) s ∧ I (k + xs.length) (xs.foldl f st)
  | [], k, st, h, _ => ⟨by rw [List.map_nil, forL, List.foldl_nil], h⟩
  | x :: xs, k, st, h, hs => by
    obtain ⟨e1, h1⟩ := hs 0 x st rfl h
    obtain ⟨e2, h2⟩ := for_fold enc envOf f I xs (k + 1) (f st x) h1 fun i y st hy hI => by
      have := hs (i + 1) y st (by simpa using hy) (by rw [show k + (i + 1) = k + 1 + i by omega]; exact hI)
      rw [show k + 1 + i + 1 = k + (i + 1) + 1 by omega]; exact this
    refine ⟨by rw [List.map_cons, forL, e1]; exact e2, ?_⟩
    rw [List.length_cons, show k + (xs.length + 1) = k + 1 + xs.length by omega]; exact h2
end RS
end
section
set_option autoImplicit false
set_option linter.all false
/-! K07A: numbers of a field, by divisibility (base 0: equality). No program here. -/
namespace RS
abbrev P2 := Int × Int
theorem dvd_left_of {k m n : Int} (h : k ∣ m * n) (c : Int.gcd k m = 1) : k ∣ n := by
  rw [← Int.natAbs_dvd_natAbs] at h ⊢
  rw [Int.natAbs_mul] at h
  exact Nat.Coprime.dvd_of_dvd_mul_left c h
/-- nothing but multiples of the base comes to one by it -/
def NZ (base b : Int) : Prop := ∀ t : Int, base ∣ t * b → base ∣ t
def Norm (base : Int) (x : P2) : Prop := if base = 0 then 1 ≤ x.2 ∧ Int.gcd x.1 x.2 = 1 else x.2 = 1 ∧ 0 ≤ x.1 ∧ x.1 < base
/-- x is a divided by b -/
def Is (base a b : Int) (x : P2) : Prop := base ∣ x.1 * b - a * x.2 ∧ Norm base x
theorem NZ.mul {base b e : Int} (h : NZ base b) (g : NZ base e) : NZ base (b * e) := fun t z => h t (g (t * b) (by rw [Int.mul_assoc]; exact z))
theorem NZ.one (base : Int) : NZ base 1 := fun t z => by simpa using z
theorem NZ.along {base u v w : Int} (h : NZ base u) (d : base ∣ u - v * w) : NZ base v := fun t z => by
  refine h t ?_
  have e : t * u = t * (u - v * w) + t * v * w := by grind
  rw [e]
  exact Int.dvd_add (Int.dvd_mul_of_dvd_right d) (Int.dvd_mul_of_dvd_left z)
theorem NZ.zero {b : Int} (h : b ≠ 0) : NZ 0 b := fun t z => by
  have := Int.zero_dvd.mp z
  rw [Int.zero_dvd]
  rcases Int.mul_eq_zero.mp this with q | q
  · exact q
  · exact (h q).elim
theorem NZ.coprime {p b : Int} (h : Int.gcd b p = 1) : NZ p b := fun t z => by
  exact dvd_left_of (by rw [Int.mul_comm]; exact z) (by rw [Int.gcd_comm]; exact h)
theorem Norm.nz {base : Int} {x : P2} (h : Norm base x) : NZ base x.2 := by
  unfold Norm at h
  split at h
  · rename_i e; rw [e]; exact NZ.zero (by omega)
  · rw [h.1]; exact NZ.one base
theorem norm_eq {base : Int} {x y : P2} (hx : Norm base x) (hy : Norm base y) (d : base ∣ x.1 * y.2 - y.1 * x.2) : x = y := by
  obtain ⟨a, b⟩ := x
  obtain ⟨c, e⟩ := y
  unfold Norm at hx hy
  dsimp only at hx hy d
  split at hx
  · rename_i h0
    rw [if_pos h0] at hy
    rw [h0, Int.zero_dvd] at d
    have d' : a * e = c * b := by omega
    have h1 : b ∣ e := dvd_left_of (k := b) (m := a) (n := e) ⟨c, by rw [d']; exact Int.mul_comm _ _⟩ (by rw [Int.gcd_comm]; exact hx.2)
    have h2 : e ∣ b := dvd_left_of (k := e) (m := c) (n := b) ⟨a, by rw [← d']; exact Int.mul_comm _ _⟩ (by rw [Int.gcd_comm]; exact hy.2)
    have he : b = e := Int.dvd_antisymm (by omega) (by omega) h1 h2
    subst he
    have : a = c := Int.eq_of_mul_eq_mul_right (by omega) d'
    rw [this]
  · rename_i h0
    rw [if_neg h0] at hy
    obtain ⟨h1, h2, h3⟩ := hx
    obtain ⟨g1, g2, g3⟩ := hy
    subst h1 g1
    rw [Int.mul_one, Int.mul_one] at d
    obtain ⟨k, hk⟩ := d
    have : k = 0 := by
      rcases Int.lt_trichotomy k 0 with q | q | q
      · have : base * k ≤ base * (-1) := Int.mul_le_mul_of_nonneg_left (by omega) (by omega)
        omega
      · exact q
      · have : base * 1 ≤ base * k := Int.mul_le_mul_of_nonneg_left (by omega) (by omega)
        omega
    rw [this] at hk
    have : a = c := by omega
    rw [this]
theorem Is.uniq {base a b : Int} {x y : P2} (h : NZ base b) (hx : Is base a b x) (hy : Is base a b y) : x = y := by
  refine norm_eq hx.2 hy.2 (h _ ?_)
  have e : (x.1 * y.2 - y.1 * x.2) * b = (x.1 * b - a * x.2) * y.2 - (y.1 * b - a * y.2) * x.2 := by grind
  rw [e]
  exact Int.dvd_sub (Int.dvd_mul_of_dvd_left hx.1) (Int.dvd_mul_of_dvd_left hy.1)
section
variable {base a b c e : Int} {x y z : P2}
theorem is_add (hx : Is base a b x) (hy : Is base c e y) (hz : Is base (x.1 * y.2 + y.1 * x.2) (x.2 * y.2) z) : Is base (a * e + c * b) (b * e) z := by
  refine ⟨(hx.2.nz.mul hy.2.nz) _ ?_, hz.2⟩
  have q : (z.1 * (b * e) - (a * e + c * b) * z.2) * (x.2 * y.2) = (z.1 * (x.2 * y.2) - (x.1 * y.2 + y.1 * x.2) * z.2) * (b * e) + (x.1 * b - a * x.2) * (e * y.2 * z.2) + (y.1 * e - c * y.2) * (b * x.2 * z.2) := by grind
  rw [q]
  exact Int.dvd_add (Int.dvd_add (Int.dvd_mul_of_dvd_left hz.1) (Int.dvd_mul_of_dvd_left hx.1)) (Int.dvd_mul_of_dvd_left hy.1)
theorem is_sub (hx : Is base a b x) (hy : Is base c e y) (hz : Is base (x.1 * y.2 - y.1 * x.2) (x.2 * y.2) z) : Is base (a * e - c * b) (b * e) z := by
  refine ⟨(hx.2.nz.mul hy.2.nz) _ ?_, hz.2⟩
  have q : (z.1 * (b * e) - (a * e - c * b) * z.2) * (x.2 * y.2) = (z.1 * (x.2 * y.2) - (x.1 * y.2 - y.1 * x.2) * z.2) * (b * e) + (x.1 * b - a * x.2) * (e * y.2 * z.2) - (y.1 * e - c * y.2) * (b * x.2 * z.2) := by grind
  rw [q]
  exact Int.dvd_sub (Int.dvd_add (Int.dvd_mul_of_dvd_left hz.1) (Int.dvd_mul_of_dvd_left hx.1)) (Int.dvd_mul_of_dvd_left hy.1)
theorem is_mul (hx : Is base a b x) (hy : Is base c e y) (hz : Is base (x.1 * y.1) (x.2 * y.2) z) : Is base (a * c) (b * e) z := by
  refine ⟨(hx.2.nz.mul hy.2.nz) _ ?_, hz.2⟩
  have q : (z.1 * (b * e) - (a * c) * z.2) * (x.2 * y.2) = (z.1 * (x.2 * y.2) - (x.1 * y.1) * z.2) * (b * e) + (x.1 * b - a * x.2) * (y.1 * e * z.2) + (y.1 * e - c * y.2) * (a * x.2 * z.2) := by grind
  rw [q]
  exact Int.dvd_add (Int.dvd_add (Int.dvd_mul_of_dvd_left hz.1) (Int.dvd_mul_of_dvd_left hx.1)) (Int.dvd_mul_of_dvd_left hy.1)
theorem is_div (hx : Is base a b x) (hy : Is base c e y) (hn : NZ base y.1) (hz : Is base (x.1 * y.2) (x.2 * y.1) z) : Is base (a * e) (b * c) z := by
  refine ⟨((hx.2.nz.mul hn).mul hy.2.nz) _ ?_, hz.2⟩
  have q : (z.1 * (b * c) - (a * e) * z.2) * (x.2 * y.1 * y.2) = (z.1 * (x.2 * y.1) - (x.1 * y.2) * z.2) * (b * c * y.2) + (x.1 * b - a * x.2) * (c * y.2 * y.2 * z.2) - (y.1 * e - c * y.2) * (a * x.2 * y.2 * z.2) := by grind
  rw [q]
  exact Int.dvd_sub (Int.dvd_add (Int.dvd_mul_of_dvd_left hz.1) (Int.dvd_mul_of_dvd_left hx.1)) (Int.dvd_mul_of_dvd_left hy.1)
/-- what was added is taken off -/
theorem add_back (hx : Norm base x) (hz : Is base (x.1 * y.2 + y.1 * x.2) (x.2 * y.2) z) : Is base (z.1 * y.2 - y.1 * z.2) (z.2 * y.2) x := by
  refine ⟨?_, hx⟩
  have q : x.1 * (z.2 * y.2) - (z.1 * y.2 - y.1 * z.2) * x.2 = -(z.1 * (x.2 * y.2) - (x.1 * y.2 + y.1 * x.2) * z.2) := by grind
  rw [q]; exact Int.dvd_neg.mpr hz.1
theorem sub_back (hx : Norm base x) (hz : Is base (x.1 * y.2 - y.1 * x.2) (x.2 * y.2) z) : Is base (z.1 * y.2 + y.1 * z.2) (z.2 * y.2) x := by
  refine ⟨?_, hx⟩
  have q : x.1 * (z.2 * y.2) - (z.1 * y.2 + y.1 * z.2) * x.2 = -(z.1 * (x.2 * y.2) - (x.1 * y.2 - y.1 * x.2) * z.2) := by grind
  rw [q]; exact Int.dvd_neg.mpr hz.1
theorem div_back (hx : Norm base x) (hz : Is base (x.1 * y.2) (x.2 * y.1) z) : Is base (z.1 * y.1) (z.2 * y.2) x := by
  refine ⟨?_, hx⟩
  have q : x.1 * (z.2 * y.2) - (z.1 * y.1) * x.2 = -(z.1 * (x.2 * y.1) - (x.1 * y.2) * z.2) := by grind
  rw [q]; exact Int.dvd_neg.mpr hz.1
end
/-- the fractions' least terms -/
def low0 (a b : Int) : P2 := (a.fdiv (if 0 < b then (Int.gcd a b : Int) else -(Int.gcd a b : Int)), b.fdiv (if 0 < b then (Int.gcd a b : Int) else -(Int.gcd a b : Int)))
theorem low0_is {a b : Int} (h : b ≠ 0) : Is 0 a b (low0 a b) := by
  have hg : 0 < Int.gcd a b := by
    rcases Nat.eq_zero_or_pos (Int.gcd a b) with q | q
    · rw [Int.gcd_eq_zero_iff] at q; exact (h q.2).elim
    · exact q
  obtain ⟨g, hgd⟩ : ∃ g : Int, g = if 0 < b then (Int.gcd a b : Int) else -(Int.gcd a b : Int) := ⟨_, rfl⟩
  have g0 : g ≠ 0 := by rw [hgd]; split <;> omega
  have gn : g.natAbs = Int.gcd a b := by rw [hgd]; split <;> omega
  have da : g ∣ a := Int.natAbs_dvd_natAbs.mp (by rw [gn]; exact Nat.gcd_dvd_left _ _)
  have db : g ∣ b := Int.natAbs_dvd_natAbs.mp (by rw [gn]; exact Nat.gcd_dvd_right _ _)
  obtain ⟨u, hu⟩ := da
  obtain ⟨v, hv⟩ := db
  have e1 : a.fdiv g = u := by rw [hu]; exact Int.mul_fdiv_cancel_left _ g0
  have e2 : b.fdiv g = v := by rw [hv]; exact Int.mul_fdiv_cancel_left _ g0
  have e : low0 a b = (u, v) := by unfold low0; rw [← hgd, e1, e2]
  rw [e]
  refine ⟨?_, ?_⟩
  · rw [Int.zero_dvd]
    show u * b - a * v = 0
    rw [hu, hv]; grind
  · unfold Norm
    rw [if_pos rfl]
    have hgcd : Int.gcd u v = 1 := by
      have h1 : Int.gcd a b = g.natAbs * Int.gcd u v := by rw [hu, hv]; exact Int.gcd_mul_left ..
      rw [gn] at h1
      have h2 : Int.gcd a b * 1 = Int.gcd a b * Int.gcd u v := by rw [Nat.mul_one]; exact h1
      exact (Nat.eq_of_mul_eq_mul_left hg h2).symm
    refine ⟨?_, hgcd⟩
    show 1 ≤ v
    have vn : v ≠ 0 := fun z => h (by rw [hv, z, Int.mul_zero])
    by_cases hb : 0 < b
    · rw [if_pos hb] at hgd
      have gp : 0 < g := by omega
      rcases Int.lt_or_gt_of_ne vn with q | q
      · have : g * v < 0 := Int.mul_neg_of_pos_of_neg gp q
        omega
      · omega
    · rw [if_neg hb] at hgd
      have gp : g < 0 := by omega
      rcases Int.lt_or_gt_of_ne vn with q | q
      · have : 0 < g * v := Int.mul_pos_of_neg_of_neg gp q
        omega
      · omega
end RS
end
section
set_option autoImplicit false
set_option linter.all false
set_option maxRecDepth 100000
set_option maxHeartbeats 4000000
/-! K07B: divisors, inverses, reduced numbers. -/
namespace RS
theorem gcd_emod_self (a b : Int) : Int.gcd b (a % b) = Int.gcd a b := by
  rw [Int.gcd_comm]
  have h : a = a % b + b * (a / b) := by have := Int.emod_add_mul_ediv a b; omega
  refine Nat.dvd_antisymm ?_ ?_
  · refine Int.dvd_gcd ?_ (Int.gcd_dvd_right _ _)
    have h1 := Int.gcd_dvd_left (a % b) b
    have h2 := Int.gcd_dvd_right (a % b) b
    have := Int.dvd_add h1 (Int.dvd_mul_of_dvd_left (c := a / b) h2)
    rwa [← h] at this
  · refine Int.dvd_gcd ?_ (Int.gcd_dvd_right _ _)
    have h1 := Int.gcd_dvd_left a b
    have h2 := Int.gcd_dvd_right a b
    have := Int.dvd_sub h1 (Int.dvd_mul_of_dvd_left (c := a / b) h2)
    rwa [show a - b * (a / b) = a % b by omega] at this
def pr (x : P2) : D := .tup [.int x.1, .int x.2]
abbrev Sm (i : Int) : Prop := i.natAbs < 2 ^ 200
/-! ### the law's divisor -/
abbrev divTurn : S := (.seq (.ife (.cmp .eq (.var 1) (.con (.int 0))) (.seq (.ret (.var 0)) .skip) .skip) (.seq (.par [0, 1] (.cons (.var 1) (.cons (.bin .mod (.var 0) (.var 1)) .nil))) (.seq (.share 0) (.seq (.share 1) .skip))))
abbrev divStep : D → Env → OSt → Out := fun d ρ s => match bindTg (.nm 2) d ρ with
  | some ρ1 => exS divTurn ρ1 s
  | none => .no
theorem div_end (d : D) (a : Int) (x : Slot) (s : OSt) : divStep d [.sh (.int a), .sh (.int 0), x] s = .rt (.sh (.int a)) s := by
  simp [divStep, bindTg, exS, ev, R.bind, lift, Slot.val, Rs.d, cmpF, eqF, D.deep, D.eqv, withV]
theorem div_step (d : D) (a b : Int) (hb : 0 < b) (x : Slot) (s : OSt) : divStep d [.sh (.int a), .sh (.int b), x] s = .nx [.sh (.int b), .sh (.int (a % b)), .sh d] s := by
  have h0 : b ≠ 0 := by omega
  have e : a.fmod b = a % b := Int.fmod_eq_emod_of_nonneg _ (by omega)
  have hb0 : (b == 0) = false := by simp [h0]
  simp [divStep, bindTg, exS, ev, evs, R.bind, lift, Slot.val, Rs.d, cmpF, eqF, D.deep, D.eqv, h0, hb0, withV, binF, e, outOf, assignAll, slotOf]
theorem div_loop : ∀ (m : Nat) (items : List D) (a b : Int) (x : Slot) (s : OSt), 0 ≤ a → 0 ≤ b → b < 2 ^ m → 2 * m + 1 ≤ items.length → forL divStep items [.sh (.int a), .sh (.int b), x] s = .rt (.sh (.int (Int.gcd a b : Nat))) s
  | _, [], _, _, _, _, _, _, _, h => by simp at h
  | m, d :: items, a, b, x, s, ha, hb, hm, hl => by
    rw [List.length_cons] at hl
    by_cases h0 : b = 0
    · subst h0
      rw [forL, div_end]
      have : (Int.gcd a 0 : Int) = a := by rw [Int.gcd_zero]; omega
      rw [this]
    · rw [forL, div_step d a b (by omega)]
      simp only []
      have hr0 : 0 ≤ a % b := Int.emod_nonneg _ h0
      have hr1 : a % b < b := Int.emod_lt_of_pos _ (by omega)
      have g1 : Int.gcd a b = Int.gcd b (a % b) := (gcd_emod_self a b).symm
      match m, items, hl with
      | 0, _, _ => simp at hm; omega
      | m + 1, [], hl => simp at hl
      | m + 1, e :: items, hl =>
        rw [List.length_cons] at hl
        by_cases h1 : a % b = 0
        · rw [g1, h1, forL, div_end]
          have : (Int.gcd b 0 : Int) = b := by rw [Int.gcd_zero]; omega
          rw [this]
        · rw [forL, div_step e b (a % b) (by omega)]
          simp only []
          have q0 : 0 ≤ b % (a % b) := Int.emod_nonneg _ h1
          have q1 : b % (a % b) < a % b := Int.emod_lt_of_pos _ (by omega)
          have q2 : b % (a % b) + (a % b) ≤ b := by
            have := Int.emod_add_mul_ediv b (a % b)
            have d1 : 1 ≤ b / (a % b) := Int.le_ediv_of_mul_le (by omega) (by omega)
            have : (a % b) * 1 ≤ (a % b) * (b / (a % b)) := Int.mul_le_mul_of_nonneg_left d1 (by omega)
            omega
          have hm' : b % (a % b) < 2 ^ m := by
            have : (2 : Int) ^ (m + 1) = 2 ^ m * 2 := Int.pow_succ ..
            omega
          have g2 : Int.gcd b (a % b) = Int.gcd (a % b) (b % (a % b)) := (gcd_emod_self b (a % b)).symm
          rw [g1, g2]
          exact div_loop m items (a % b) (b % (a % b)) _ s hr0 q0 hm' (by omega)
theorem divisor_run {a b : Int} (hb : b.natAbs < 2 ^ 1000) (s : OSt) : M.Llaw_divisor [.int a, .int b] s = .ok (.sh (.int (Int.gcd a b : Nat))) s := by
  have e : exS (.for (.nm 2) (.itRange (.cons (.con (.int 4000)) .nil)) divTurn) [.sh (.int a.natAbs), .sh (.int b.natAbs), .no] s = .rt (.sh (.int (Int.gcd a b : Nat))) s := by
    have i1 : evI (.itRange (.cons (.con (.int 4000)) .nil)) [.sh (.int a.natAbs), .sh (.int b.natAbs), .no] s = .ok (fromInts 0 4000, none) s :=
      evI_range (rs := [.sh (.int 4000)]) (by simp [evs, ev, R.bind]) (rangeF_one (by decide))
    rw [exS, i1]
    have h := div_loop 1000 (fromInts 0 4000) a.natAbs b.natAbs .no s (by omega) (by omega) (by
      have : ((b.natAbs : Nat) : Int) < ((2 ^ 1000 : Nat) : Int) := by exact_mod_cast hb
      rw [Int.natCast_pow] at this
      exact this) (by rw [fromInts_len]; decide)
    rw [show Int.gcd (a.natAbs : Int) (b.natAbs : Int) = Int.gcd a b by simp [Int.gcd]] at h
    exact h
  have ab : ∀ i : Int, (if i < 0 then -i else i) = (i.natAbs : Int) := fun i => by split <;> omega
  have e0 : exS (.par [0, 1] (.cons (.prim .abs (.cons (.var 0) .nil)) (.cons (.prim .abs (.cons (.var 1) .nil)) .nil))) [.sh (.int a), .sh (.int b), .no] s = .nx [.sh (.int a.natAbs), .sh (.int b.natAbs), .no] s := by
    simp [exS, ev, evs, R.bind, lift, Slot.val, Rs.d, primF, int1, ab, outOf, assignAll, slotOf]
  show evFn 3 2 M.Llaw_divisorS _ s = _
  unfold evFn M.Llaw_divisorS
  rw [if_pos (show [D.int a, D.int b].length = 2 from rfl), show startE 3 [D.int a, D.int b] = [.sh (.int a), .sh (.int b), .no] from rfl, exS_seq e0]
  have s0 : exS (.share 0) [.sh (.int a.natAbs), .sh (.int b.natAbs), .no] s = .nx [.sh (.int a.natAbs), .sh (.int b.natAbs), .no] s := by simp [exS]
  have s1 : exS (.share 1) [.sh (.int a.natAbs), .sh (.int b.natAbs), .no] s = .nx [.sh (.int a.natAbs), .sh (.int b.natAbs), .no] s := by simp [exS]
  rw [exS_seq s0, exS_seq s1, exS_seq_rt e]
  rfl
/-! ### the inverse modulo a prime -/
abbrev invBody : S := (.seq (.asgS 6 (.bin .fdiv (.var 2) (.var 3))) (.seq (.par [2, 3] (.cons (.var 3) (.cons (.bin .sub (.var 2) (.bin .mul (.var 6) (.var 3))) .nil))) (.seq (.share 2) (.seq (.share 3) (.seq (.par [4, 5] (.cons (.var 5) (.cons (.bin .sub (.var 4) (.bin .mul (.var 6) (.var 5))) .nil))) (.seq (.share 4) (.seq (.share 5) .skip)))))))
structure InvP (p v last here before found F B : Int) : Prop where
  h0 : 0 ≤ here
  hl : here < last
  l1 : 1 < last
  lp : last ≤ p
  F0 : 0 ≤ F
  B0 : 0 ≤ B
  sg : found = F ∧ before = -B ∨ found = -F ∧ before = B
  eq : F * last + B * here = p
  df : p ∣ found * v - here
  db : p ∣ before * v - last
  gc : Int.gcd last here = 1
theorem inv_loop {p v : Int} (hp : 2 ≤ p) (hp2 : p < 2 ^ 100) {s : OSt} : ∀ (n : Nat) (last here before found F B : Int) (x6 : Slot), here < n → InvP p v last here before found F B →
    ∃ last' here' before' found' x6', whlL (fun ρ s => ev (.cmp .gt (.var 3) (.con (.int 1))) ρ s) (fun ρ s => exS invBody ρ s) n [.sh (.int p), .sh (.int v), .sh (.int last), .sh (.int here), .sh (.int before), .sh (.int found), x6] s =
      .nx [.sh (.int p), .sh (.int v), .sh (.int last'), .sh (.int here'), .sh (.int before'), .sh (.int found'), x6'] s ∧ p ∣ found' * v - 1
  | 0, last, here, before, found, F, B, x6, hn, I => by have := I.h0; omega
  | n + 1, last, here, before, found, F, B, x6, hn, I => by
    have i0 := I.h0
    have i1 := I.hl
    have i2 := I.lp
    have iF := I.F0
    have iB := I.B0
    by_cases h1 : 1 < here
    · have d0 : here ≠ 0 := by omega
      have pt : last.fdiv here = last / here := Int.fdiv_eq_ediv_of_nonneg _ (by omega)
      have dm := Int.emod_add_mul_ediv last here
      have r0 := Int.emod_nonneg last d0
      have r1 := Int.emod_lt_of_pos last (show 0 < here by omega)
      have pt0 : 0 ≤ last / here := Int.ediv_nonneg (by omega) (by omega)
      have hh : last - last / here * here = last % here := by rw [Int.mul_comm]; omega
      have I1 : InvP p v here (last - last / here * here) found (before - last / here * found) (B + last / here * F) F := by
        refine ⟨by omega, by omega, h1, by omega, ?_, I.F0, ?_, ?_, ?_, I.df, ?_⟩
        · have := Int.mul_nonneg pt0 iF; omega
        · rcases I.sg with ⟨e1, e2⟩ | ⟨e1, e2⟩
          · right; subst e1 e2; exact ⟨by grind, rfl⟩
          · left; subst e1 e2; exact ⟨by grind, rfl⟩
        · have := I.eq; grind
        · have e : (before - last / here * found) * v - (last - last / here * here) = (before * v - last) - last / here * (found * v - here) := by grind
          rw [e]
          exact Int.dvd_sub I.db (Int.dvd_mul_of_dvd_right I.df)
        · rw [hh, gcd_emod_self]; exact I.gc
      have Fp : F ≤ p := by
        have e := I.eq
        have := Int.mul_nonneg iB i0
        have : F * 1 ≤ F * last := Int.mul_le_mul_of_nonneg_left (by omega) iF
        omega
      have ptp : last / here ≤ p := Int.le_trans (Int.ediv_le_self _ (by omega)) i2
      have f1 : fitsI here = true := fitsI_of (by omega)
      have f2 : fitsI (last / here) = true := fitsI_of (by omega)
      have f3 : fitsI found = true := fitsI_of (by rcases I.sg with ⟨e1, e2⟩ | ⟨e1, e2⟩ <;> omega)
      obtain ⟨a1, a2, a3, a4, a5, e, hd⟩ := inv_loop hp hp2 n here (last - last / here * here) found (before - last / here * found) (B + last / here * F) F (.sh (.int (last / here))) (by omega) I1
      refine ⟨a1, a2, a3, a4, a5, ?_, hd⟩
      have et : ev (.cmp .gt (.var 3) (.con (.int 1))) [.sh (.int p), .sh (.int v), .sh (.int last), .sh (.int here), .sh (.int before), .sh (.int found), x6] s = .ok (.sh (.bl true)) s := by
        simp [ev, R.bind, lift, Slot.val, Rs.d, cmpF, ordF, bothInt, h1]
      have eb : exS invBody [.sh (.int p), .sh (.int v), .sh (.int last), .sh (.int here), .sh (.int before), .sh (.int found), x6] s = .nx [.sh (.int p), .sh (.int v), .sh (.int here), .sh (.int (last - last / here * here)), .sh (.int found), .sh (.int (before - last / here * found)), .sh (.int (last / here))] s := by
        simp [exS, ev, evs, R.bind, lift, Slot.val, Rs.d, Rs.isBo, binF, d0, pt, f1, f2, f3, withV, outOf, assignAll, slotOf]
      rw [whlL, et]
      dsimp only
      rw [eb]
      exact e
    · refine ⟨last, here, before, found, x6, ?_, ?_⟩
      · have et : ev (.cmp .gt (.var 3) (.con (.int 1))) [.sh (.int p), .sh (.int v), .sh (.int last), .sh (.int here), .sh (.int before), .sh (.int found), x6] s = .ok (.sh (.bl false)) s := by
          simp [ev, R.bind, lift, Slot.val, Rs.d, cmpF, ordF, bothInt, h1]
        rw [whlL, et]
      · have : here ≠ 0 := fun z => by
          have g := I.gc
          rw [z, Int.gcd_zero] at g
          have := I.l1
          omega
        have : here = 1 := by omega
        have d := I.df
        rwa [this] at d
theorem inverse_run {p v : Int} (hp : 2 ≤ p) (hp2 : p < 1000000) (hn : NZ p v) (s : OSt) : ∃ f, M.inverse_so [.int p, .int v] s = .ok (.sh (.int f)) s ∧ 0 ≤ f ∧ f < p ∧ p ∣ f * v - 1 := by
  have em : v.fmod p = v % p := Int.fmod_eq_emod_of_nonneg _ (by omega)
  have h0 : 0 ≤ v % p := Int.emod_nonneg _ (by omega)
  have h1 : v % p < p := Int.emod_lt_of_pos _ (by omega)
  have gc : Int.gcd p (v % p) = 1 := by
    have e : Int.gcd p (v % p) = Int.gcd v p := gcd_emod_self v p
    rw [e]
    obtain ⟨u, hu⟩ := Int.gcd_dvd_left v p
    obtain ⟨q, hq⟩ := Int.gcd_dvd_right v p
    have d : p ∣ q * v := ⟨u, by
      have : q * v = q * ((Int.gcd v p : Int) * u) := by rw [← hu]
      rw [this]
      have : p * u = ((Int.gcd v p : Int) * q) * u := by rw [← hq]
      rw [this]; grind⟩
    have d2 := hn q d
    have q0 : 0 < q := by
      rcases Int.lt_or_le 0 q with z | z
      · exact z
      · have : (Int.gcd v p : Int) * q ≤ 0 := Int.mul_nonpos_of_nonneg_of_nonpos (by omega) z
        omega
    have le := Int.le_of_dvd q0 d2
    have : (Int.gcd v p : Int) * q ≤ 1 * q := by omega
    have g1 : (Int.gcd v p : Int) ≤ 1 := Int.le_of_mul_le_mul_right this q0
    have g0 : Int.gcd v p ≠ 0 := fun z => by rw [Int.gcd_eq_zero_iff] at z; omega
    omega
  have I : InvP p v p (v % p) 0 1 1 0 := ⟨h0, h1, by omega, by omega, by omega, by omega, .inl ⟨rfl, rfl⟩, by omega, by
    rw [Int.one_mul]; exact Int.dvd_self_sub_emod, ⟨-1, by omega⟩, gc⟩
  obtain ⟨a1, a2, a3, a4, a5, e, hd⟩ := inv_loop (s := s) hp (by omega) 1000000 p (v % p) 0 1 1 0 .no (by omega) I
  refine ⟨a4 % p, ?_, Int.emod_nonneg _ (by omega), Int.emod_lt_of_pos _ (by omega), ?_⟩
  · have p0 : p ≠ 0 := by omega
    have e0 : exS (.asgT (.tup (.cons (.nm 2) (.cons (.nm 3) (.cons (.nm 4) (.cons (.nm 5) .nil))))) (.tup (.cons (.var 0) (.cons (.bin .mod (.var 1) (.var 0)) (.cons (.con (.int 0)) (.cons (.con (.int 1)) .nil)))))) [.sh (.int p), .sh (.int v), .no, .no, .no, .no, .no] s = .nx [.sh (.int p), .sh (.int v), .sh (.int p), .sh (.int (v % p)), .sh (.int 0), .sh (.int 1), .no] s := by
      simp [exS, ev, evs, R.bind, lift, Slot.val, Rs.d, Rs.isBo, freeze, binF, p0, em, withV, outOf, bindTg, bindTgs]
    have e1 : exS (.whl 1000000 (.cmp .gt (.var 3) (.con (.int 1))) invBody) [.sh (.int p), .sh (.int v), .sh (.int p), .sh (.int (v % p)), .sh (.int 0), .sh (.int 1), .no] s = .nx [.sh (.int p), .sh (.int v), .sh (.int a1), .sh (.int a2), .sh (.int a3), .sh (.int a4), a5] s := by
      rw [exS]; exact e
    have em2 : a4.fmod p = a4 % p := Int.fmod_eq_emod_of_nonneg _ (by omega)
    show evFn 7 2 M.inverse_soS _ s = _
    unfold evFn M.inverse_soS
    rw [if_pos (show [D.int p, D.int v].length = 2 from rfl), show startE 7 [D.int p, D.int v] = [.sh (.int p), .sh (.int v), .no, .no, .no, .no, .no] from rfl, exS_seq e0, exS_seq e1]
    simp [exS, ev, R.bind, lift, Slot.val, Rs.d, binF, p0, em2, withV, endR]
  · have e2 : a4 % p * v - 1 = (a4 * v - 1) - (a4 - a4 % p) * v := by grind
    rw [e2]
    exact Int.dvd_sub hd (Int.dvd_mul_of_dvd_left (Int.dvd_self_sub_emod))
end RS
end
section
set_option autoImplicit false
set_option linter.all false
set_option maxRecDepth 100000
set_option maxHeartbeats 4000000
/-! K07C: the program's numbers. -/
namespace RS
structure Fld (base : Int) : Prop where
  nn : 0 ≤ base
  le : base ≤ 997
  n1 : base ≠ 1
  pm : ∀ b, ¬ base ∣ b → NZ base b
  nd : ∀ q : Int, 2 ≤ q → q < 32 → q < base → ¬ base.fmod q = 0
theorem Fld.zero : Fld 0 := ⟨by decide, by decide, by decide, fun b h => NZ.zero fun z => h (by rw [z]; exact Int.dvd_refl _), fun q h1 _ h3 => by omega⟩
theorem is_from_run (v lo hi : Int) (s : OSt) : M.is_from [.int v, .int lo, .int hi] s = .ok (.sh (.bl (decide (lo ≤ v ∧ v ≤ hi)))) s := by
  by_cases h1 : lo ≤ v <;> by_cases h2 : v ≤ hi <;>
  simp [M.is_from, M.is_fromS, evFn, exS, ev, evs, startE, R.bind, withV, lift, primF, Slot.val, Rs.isBo, Rs.d, endR, isOf, D.isInt, D.isBool, cmpF, ordF, bothInt, h1, h2]
theorem is_integer_run (v : Int) (s : OSt) : M.is_integer [.int v] s = .ok (.sh (.bl true)) s := by
  simp [M.is_integer, M.is_integerS, evFn, exS, ev, evs, startE, R.bind, withV, lift, primF, Slot.val, Rs.isBo, Rs.d, endR, isOf, D.isInt, D.isBool]
theorem is_field_run {base : Int} (h : Fld base) (s : OSt) : M.is_field [.int base] s = .ok (.sh (.bl true)) s := by
  have a1 := h.nn
  have a2 := h.le
  have fr := is_from_run base 0 997 s
  rw [decide_eq_true ⟨a1, a2⟩] at fr
  have hn1 : (base == 1) = false := by have := h.n1; simp [this]
  have hi : evI (.itRange (.cons (.con (.int 2)) (.cons (.con (.int 32)) .nil))) [.sh (.int base), .no] s = .ok (fromInts 2 30, none) s :=
    evI_range (rs := [.sh (.int 2), .sh (.int 32)]) (by simp [evs, ev, R.bind]) (rangeF_two (by decide))
  have cn := comp_none (vs := [1]) (tg := .nm 1) (cnd := .and (.cmp .lt (.var 1) (.var 0)) (.cmp .eq (.bin .mod (.var 0) (.var 1)) (.con (.int 0)))) (elt := .con (.int 1)) hi rfl (fun d hd => by
    obtain ⟨k, hk, rfl⟩ := fromInts_mem hd
    have q0 : (2 : Int) + k ≠ 0 := by omega
    have nd := h.nd (2 + k) (by omega) (by omega)
    generalize (2 : Int) + k = q at *
    by_cases hq : q < base
    · have nd := nd hq
      have nb : (base.fmod q == 0) = false := by simp [nd]
      simp [stepP, bindTg, wipeE, ev, evs, R.bind, lift, Slot.val, Rs.d, Rs.isBo, cmpF, ordF, bothInt, hq, binF, q0, eqF, D.deep, D.eqv, nb]
    · simp [stepP, bindTg, wipeE, ev, evs, R.bind, lift, Slot.val, Rs.d, Rs.isBo, cmpF, ordF, bothInt, hq]) (by rw [fromInts_len]; unfold LIM; omega)
  have c1 : ev (.ife (.cmp .gt (.var 0) (.con (.int 0))) (.cmp .eq (.prim .len (.cons (.comp [1] (.nm 1) (.itRange (.cons (.con (.int 2)) (.cons (.con (.int 32)) .nil))) (.and (.cmp .lt (.var 1) (.var 0)) (.cmp .eq (.bin .mod (.var 0) (.var 1)) (.con (.int 0)))) (.con (.int 1))) .nil)) (.con (.int 0))) (.con (.bl true))) [.sh (.int base), .no] s = .ok (.sh (.bl true)) s := by
    have c2 : ev (.cmp .eq (.prim .len (.cons (.comp [1] (.nm 1) (.itRange (.cons (.con (.int 2)) (.cons (.con (.int 32)) .nil))) (.and (.cmp .lt (.var 1) (.var 0)) (.cmp .eq (.bin .mod (.var 0) (.var 1)) (.con (.int 0)))) (.con (.int 1))) .nil)) (.con (.int 0))) [.sh (.int base), .no] s = .ok (.sh (.bl true)) s := by
      rw [ev, ev, evs, cn, bind_mk, evs, bind_mk, bind_mk]
      simp [primF, lenF, lift, Rs.d, ev, R.bind, cmpF, eqF, D.deep, D.eqv]
    have c3 : ev (.cmp .gt (.var 0) (.con (.int 0))) [.sh (.int base), .no] s = .ok (.sh (.bl (decide (0 < base)))) s := by
      simp [ev, R.bind, lift, Slot.val, Rs.d, cmpF, ordF, bothInt]
    rw [ev, c3, bind_mk]
    by_cases hp : 0 < base
    · simp only [decide_eq_true hp]; exact c2
    · simp only [decide_eq_false hp]
      rw [ev]
  have c0 : exS (.ife (.or (.not (.call "is_from" M.is_from (.cons (.var 0) (.cons (.con (.int 0)) (.cons (.glob "MOST_PRIME" (.int 997)) .nil))))) (.cmp .eq (.var 0) (.con (.int 1)))) (.seq (.ret (.con (.bl false))) .skip) .skip) [.sh (.int base), .no] s = .nx [.sh (.int base), .no] s := by
    refine ife_false ?_
    simp [ev, evs, R.bind, lift, Slot.val, Rs.d, Rs.isBo, callR, freeze, fr, cmpF, eqF, D.deep, D.eqv, hn1]
  show evFn 2 1 M.is_fieldS _ s = _
  unfold evFn M.is_fieldS
  rw [if_pos (show [D.int base].length = 1 from rfl), show startE 2 [D.int base] = [.sh (.int base), .no] from rfl, exS_seq c0, exS, exS, c1]
  simp [withV, endR]
theorem check_field_run {base : Int} (h : Fld base) (s : OSt) : M.check_field [.int base] s = .ok (.sh (.int base)) s := by
  have e := is_field_run h
  simp [M.check_field, M.check_fieldS, evFn, exS, ev, evs, startE, R.bind, withV, lift, Slot.val, Rs.isBo, Rs.d, endR, callR, freeze, e]
theorem p2_len (x : P2) : primF .len [pr x] = some (.sh (.int 2)) := rfl
theorem p2_tup (x : P2) : primF .isTup [pr x] = some (.sh (.bl true)) := rfl
theorem p2_0 (x : P2) : idxF (pr x) (.int 0) = some (.int x.1) := rfl
theorem p2_1 (x : P2) : idxF (pr x) (.int 1) = some (.int x.2) := rfl
theorem is_number_run {base : Int} {x : P2} (hb : 0 ≤ base) (h : Norm base x) (s : OSt) : M.is_number [.int base, pr x] s = .ok (.sh (.bl true)) s := by
  have i1 := is_integer_run x.1
  have i2 := is_integer_run x.2
  unfold Norm at h
  by_cases h0 : base = 0
  · rw [if_pos h0] at h
    subst h0
    have g : primF .gcd [.int x.1, .int x.2] = some (.sh (.int 1)) := by
      show some (Rs.sh (.int ((Int.gcd x.1 x.2 : Nat) : Int))) = _
      rw [h.2]; rfl
    simp [M.is_number, M.is_numberS, evFn, exS, ev, evs, startE, R.bind, withV, lift, Slot.val, Rs.isBo, Rs.d, endR, callR, freeze, p2_len, p2_tup, p2_0, p2_1, is_integer_run, cmpF, eqF, D.deep, D.eqv, ordF, bothInt, h.1, g]
  · rw [if_neg h0] at h
    have hp : 0 < base := by omega
    simp [M.is_number, M.is_numberS, evFn, exS, ev, evs, startE, R.bind, withV, lift, Slot.val, Rs.isBo, Rs.d, endR, callR, freeze, p2_len, p2_tup, p2_0, p2_1, is_integer_run, cmpF, eqF, D.deep, D.eqv, ordF, bothInt, h.1, h.2.1, h.2.2, hp]
theorem check_number_run {base : Int} {x : P2} (hb : 0 ≤ base) (h : Norm base x) (s : OSt) : M.check_number [.int base, pr x] s = .ok (.sh (pr x)) s := by
  have e := is_number_run hb h
  simp [M.check_number, M.check_numberS, evFn, exS, ev, evs, startE, R.bind, withV, lift, Slot.val, Rs.isBo, Rs.d, endR, callR, freeze, e]
theorem check_two_run {base : Int} {x y : P2} (hf : Fld base) (hx : Norm base x) (hy : Norm base y) (s : OSt) : M.check_two [.int base, pr x, pr y] s = .ok (.sh .non) s := by
  have e0 := check_field_run hf
  have e1 := check_number_run hf.nn hx
  have e2 := check_number_run hf.nn hy
  simp [M.check_two, M.check_twoS, evFn, exS, ev, evs, startE, R.bind, withV, lift, Slot.val, Rs.isBo, Rs.d, endR, callR, freeze, e0, e1, e2]
theorem need_number_run {base : Int} {x : P2} (hf : Fld base) (hx : Norm base x) (s : OSt) : M.need_number [.int base, pr x] s = .ok (.sh (pr x)) s := by
  have e0 := check_field_run hf
  have e1 := check_number_run hf.nn hx
  simp [M.need_number, M.need_numberS, evFn, exS, ev, evs, startE, R.bind, withV, lift, Slot.val, Rs.isBo, Rs.d, endR, callR, freeze, e0, e1]
theorem low0_small (a b : Int) : (low0 a b).1.natAbs ≤ a.natAbs ∧ (low0 a b).2.natAbs ≤ b.natAbs := by
  unfold low0
  dsimp only
  exact ⟨Int.natAbs_fdiv_le_natAbs _ _, Int.natAbs_fdiv_le_natAbs _ _⟩
theorem reduced_run {base a b : Int} (hf : Fld base) (hb : NZ base b) (ha : Sm a) (hs : Sm b) (s : OSt) :
    ∃ x, M.reduced_so [.int base, .int a, .int b] s = .ok (.sh (pr x)) s ∧ Is base a b x ∧ x.1.natAbs ≤ a.natAbs + 997 ∧ x.2.natAbs ≤ b.natAbs + 1 := by
  by_cases h0 : base = 0
  · subst h0
    have hb0 : b ≠ 0 := fun z => by
      have := hb 1 (by rw [z]; exact Int.dvd_refl 0)
      rw [Int.zero_dvd] at this; omega
    obtain ⟨k1, k2⟩ := low0_small a b
    refine ⟨low0 a b, ?_, low0_is hb0, by omega, by omega⟩
    have g : gcdF [.int a, .int b] = some (.sh (.int (Int.gcd a b : Nat))) := rfl
    have hg : (Int.gcd a b : Int) ≠ 0 := fun z => by
      have : Int.gcd a b = 0 := by omega
      rw [Int.gcd_eq_zero_iff] at this; exact hb0 this.2
    have gl : Int.gcd a b ≤ b.natAbs := Nat.le_of_dvd (by omega) (Nat.gcd_dvd_right _ _)
    have f1 : fitsI (Int.gcd a b : Int) = true := fitsI_of (by omega)
    have f2 : fitsI (-(Int.gcd a b : Int)) = true := fitsI_of (by omega)
    have hg2 : -(Int.gcd a b : Int) ≠ 0 := by omega
    unfold low0
    generalize (Int.gcd a b : Int) = G at *
    by_cases hp : 0 < b
    · simp [M.reduced_so, M.reduced_soS, evFn, exS, ev, evs, startE, R.bind, withV, lift, Slot.val, Rs.isBo, Rs.d, endR, freeze, cmpF, ordF, bothInt, primF, g, outOf, assignAll, slotOf, hp, binF, hg, f1, pr]
    · simp [M.reduced_so, M.reduced_soS, evFn, exS, ev, evs, startE, R.bind, withV, lift, Slot.val, Rs.isBo, Rs.d, endR, freeze, cmpF, ordF, bothInt, primF, g, outOf, assignAll, slotOf, hp, binF, negF, hg, hg2, f2, pr]
  · have hp : 0 < base := by have := hf.nn; omega
    have h2 : 2 ≤ base := by have := hf.n1; omega
    have hle := hf.le
    obtain ⟨f, e, f0, f1, fd⟩ := inverse_run h2 (by omega) hb s
    have em : (a * f).fmod base = a * f % base := Int.fmod_eq_emod_of_nonneg _ (by omega)
    have m0 := Int.emod_nonneg (a * f) h0
    have m1 := Int.emod_lt_of_pos (a * f) hp
    refine ⟨(a * f % base, 1), ?_, ⟨?_, ?_⟩, by dsimp only; omega, by dsimp only; omega⟩
    · have fa : fitsI a = true := fitsI_of ha
      have ff : fitsI f = true := fitsI_of (by omega)
      simp [M.reduced_so, M.reduced_soS, evFn, exS, ev, evs, startE, R.bind, withV, lift, Slot.val, Rs.isBo, Rs.d, endR, freeze, cmpF, ordF, bothInt, hp, callR, e, binF, fa, ff, h0, em, pr]
    · show base ∣ a * f % base * b - a * 1
      have q : a * f % base * b - a * 1 = a * (f * b - 1) - (a * f - a * f % base) * b := by grind
      rw [q]
      exact Int.dvd_sub (Int.dvd_mul_of_dvd_right fd) (Int.dvd_mul_of_dvd_left Int.dvd_self_sub_emod)
    · unfold Norm
      rw [if_neg h0]
      exact ⟨rfl, m0, m1⟩
end RS
end
section
set_option autoImplicit false
set_option linter.all false
set_option maxRecDepth 100000
set_option maxHeartbeats 4000000
/-! K07D: the four sums; the law's own numbers. -/
namespace RS
/-- so small that products of two may be taken -/
abbrev Tm (x : P2) : Prop := x.1.natAbs < 2 ^ 60 ∧ x.2.natAbs < 2 ^ 60
theorem mul_lt {u v : Int} {m n : Nat} (h : u.natAbs < 2 ^ m) (g : v.natAbs < 2 ^ n) : (u * v).natAbs < 2 ^ (m + n) := by
  rw [Int.natAbs_mul, Nat.pow_add]
  exact Nat.mul_lt_mul'' h g
theorem sm_of {u : Int} {m : Nat} (h : u.natAbs < 2 ^ m) (hm : m ≤ 200) : Sm u := Nat.lt_of_lt_of_le h (Nat.pow_le_pow_right (by decide) hm)
theorem ft_of {u : Int} {m : Nat} (h : u.natAbs < 2 ^ m) (hm : m ≤ 200) : fitsI u = true := fitsI_of (sm_of h hm)
theorem sums_lt {a b : Int} {m : Nat} (h : a.natAbs < 2 ^ m) (g : b.natAbs < 2 ^ m) : (a + b).natAbs < 2 ^ (m + 1) ∧ (a - b).natAbs < 2 ^ (m + 1) := by
  have : 2 ^ (m + 1) = 2 ^ m * 2 := Nat.pow_succ ..
  omega
section
variable {base : Int} {x y : P2} {k : Nat}
abbrev LtP (x : P2) (k : Nat) : Prop := x.1.natAbs < 2 ^ k ∧ x.2.natAbs < 2 ^ k
theorem lt_up {z : P2} {a b : Int} {m : Nat} (h1 : z.1.natAbs ≤ a.natAbs + 997) (h2 : z.2.natAbs ≤ b.natAbs + 1) (ha : a.natAbs < 2 ^ m) (hb : b.natAbs < 2 ^ m) (hm : 10 ≤ m) : LtP z (m + 1) := by
  have e : 2 ^ (m + 1) = 2 ^ m * 2 := Nat.pow_succ ..
  have : 2 ^ 10 ≤ 2 ^ m := Nat.pow_le_pow_right (by decide) hm
  omega
theorem plus_run (hf : Fld base) (hx : Norm base x) (hy : Norm base y) (h1 : LtP x k) (h2 : LtP y k) (hk : 10 ≤ k) (hk2 : k ≤ 95) (s : OSt) :
    ∃ z, M.plus [.int base, pr x, pr y] s = .ok (.sh (pr z)) s ∧ Is base (x.1 * y.2 + y.1 * x.2) (x.2 * y.2) z ∧ LtP z (k + k + 2) := by
  have p1 := mul_lt h1.1 h2.2
  have p2 := mul_lt h2.1 h1.2
  have p3 := mul_lt h1.2 h2.2
  have q := (sums_lt p1 p2).1
  have p3' : (x.2 * y.2).natAbs < 2 ^ (k + k + 1) := Nat.lt_of_lt_of_le p3 (Nat.pow_le_pow_right (by decide) (by omega))
  obtain ⟨z, e, hi, b1, b2⟩ := reduced_run (s := s) hf (hx.nz.mul hy.nz) (sm_of q (by omega)) (sm_of p3 (by omega))
  refine ⟨z, ?_, hi, lt_up b1 b2 q p3' (by omega)⟩
  have c := check_two_run hf hx hy
  have f1 := ft_of h1.1 (show k ≤ 200 by omega)
  have f2 := ft_of h1.2 (show k ≤ 200 by omega)
  have f3 := ft_of h2.1 (show k ≤ 200 by omega)
  have f4 := ft_of h2.2 (show k ≤ 200 by omega)
  simp [M.plus, M.plusS, M.plus_so, M.plus_soS, evFn, exS, ev, evs, startE, R.bind, withV, lift, Slot.val, Rs.isBo, Rs.d, endR, callR, freeze, c, p2_0, p2_1, binF, f1, f2, f3, f4, e]
theorem minus_run (hf : Fld base) (hx : Norm base x) (hy : Norm base y) (h1 : LtP x k) (h2 : LtP y k) (hk : 10 ≤ k) (hk2 : k ≤ 95) (s : OSt) :
    ∃ z, M.minus [.int base, pr x, pr y] s = .ok (.sh (pr z)) s ∧ Is base (x.1 * y.2 - y.1 * x.2) (x.2 * y.2) z ∧ LtP z (k + k + 2) := by
  have p1 := mul_lt h1.1 h2.2
  have p2 := mul_lt h2.1 h1.2
  have p3 := mul_lt h1.2 h2.2
  have q := (sums_lt p1 p2).2
  have p3' : (x.2 * y.2).natAbs < 2 ^ (k + k + 1) := Nat.lt_of_lt_of_le p3 (Nat.pow_le_pow_right (by decide) (by omega))
  obtain ⟨z, e, hi, b1, b2⟩ := reduced_run (s := s) hf (hx.nz.mul hy.nz) (sm_of q (by omega)) (sm_of p3 (by omega))
  refine ⟨z, ?_, hi, lt_up b1 b2 q p3' (by omega)⟩
  have c := check_two_run hf hx hy
  have f1 := ft_of h1.1 (show k ≤ 200 by omega)
  have f2 := ft_of h1.2 (show k ≤ 200 by omega)
  have f3 := ft_of h2.1 (show k ≤ 200 by omega)
  have f4 := ft_of h2.2 (show k ≤ 200 by omega)
  simp [M.minus, M.minusS, M.minus_so, M.minus_soS, evFn, exS, ev, evs, startE, R.bind, withV, lift, Slot.val, Rs.isBo, Rs.d, endR, callR, freeze, c, p2_0, p2_1, binF, f1, f2, f3, f4, e]
theorem times_run (hf : Fld base) (hx : Norm base x) (hy : Norm base y) (h1 : LtP x k) (h2 : LtP y k) (hk : 10 ≤ k) (hk2 : k ≤ 95) (s : OSt) :
    ∃ z, M.times [.int base, pr x, pr y] s = .ok (.sh (pr z)) s ∧ Is base (x.1 * y.1) (x.2 * y.2) z ∧ LtP z (k + k + 2) := by
  have p1 := mul_lt h1.1 h2.1
  have p3 := mul_lt h1.2 h2.2
  have p1' : (x.1 * y.1).natAbs < 2 ^ (k + k + 1) := Nat.lt_of_lt_of_le p1 (Nat.pow_le_pow_right (by decide) (by omega))
  have p3' : (x.2 * y.2).natAbs < 2 ^ (k + k + 1) := Nat.lt_of_lt_of_le p3 (Nat.pow_le_pow_right (by decide) (by omega))
  obtain ⟨z, e, hi, b1, b2⟩ := reduced_run (s := s) hf (hx.nz.mul hy.nz) (sm_of p1 (by omega)) (sm_of p3 (by omega))
  refine ⟨z, ?_, hi, lt_up b1 b2 p1' p3' (by omega)⟩
  have c := check_two_run hf hx hy
  have f1 := ft_of h1.1 (show k ≤ 200 by omega)
  have f2 := ft_of h1.2 (show k ≤ 200 by omega)
  have f3 := ft_of h2.1 (show k ≤ 200 by omega)
  have f4 := ft_of h2.2 (show k ≤ 200 by omega)
  simp [M.times, M.timesS, M.times_so, M.times_soS, evFn, exS, ev, evs, startE, R.bind, withV, lift, Slot.val, Rs.isBo, Rs.d, endR, callR, freeze, c, p2_0, p2_1, binF, f1, f2, f3, f4, e]
theorem over_run (hf : Fld base) (hx : Norm base x) (hy : Norm base y) (hn : NZ base y.1) (hy0 : y.1 ≠ 0) (h1 : LtP x k) (h2 : LtP y k) (hk : 10 ≤ k) (hk2 : k ≤ 95) (s : OSt) :
    ∃ z, M.over [.int base, pr x, pr y] s = .ok (.sh (pr z)) s ∧ Is base (x.1 * y.2) (x.2 * y.1) z ∧ LtP z (k + k + 2) := by
  have p1 := mul_lt h1.1 h2.2
  have p3 := mul_lt h1.2 h2.1
  have p1' : (x.1 * y.2).natAbs < 2 ^ (k + k + 1) := Nat.lt_of_lt_of_le p1 (Nat.pow_le_pow_right (by decide) (by omega))
  have p3' : (x.2 * y.1).natAbs < 2 ^ (k + k + 1) := Nat.lt_of_lt_of_le p3 (Nat.pow_le_pow_right (by decide) (by omega))
  obtain ⟨z, e, hi, b1, b2⟩ := reduced_run (s := s) hf (hx.nz.mul hn) (sm_of p1 (by omega)) (sm_of p3 (by omega))
  refine ⟨z, ?_, hi, lt_up b1 b2 p1' p3' (by omega)⟩
  have c := check_two_run hf hx hy
  have f1 := ft_of h1.1 (show k ≤ 200 by omega)
  have f2 := ft_of h1.2 (show k ≤ 200 by omega)
  have f3 := ft_of h2.1 (show k ≤ 200 by omega)
  have f4 := ft_of h2.2 (show k ≤ 200 by omega)
  have en : eqF (pr y) (.tup [.int 0, .int 1]) = some false := by
    have : (y.1 == 0) = false := by simp [hy0]
    simp [eqF, pr, DEEP, D.deep, D.deeps, D.eqv, D.eqvs, this]
  simp [M.over, M.overS, M.over_so, M.over_soS, evFn, exS, ev, evs, startE, R.bind, withV, lift, Slot.val, Rs.isBo, Rs.d, endR, callR, freeze, c, p2_0, p2_1, binF, f1, f2, f3, f4, e, cmpF, en]
theorem number_of_run {a b : Int} (hf : Fld base) (hb : NZ base b) (ha : Sm a) (hs : Sm b) (s : OSt) :
    ∃ z, M.number_of [.int base, .int a, .int b] s = .ok (.sh (pr z)) s ∧ Is base a b z := by
  obtain ⟨z, e, hi, _, _⟩ := reduced_run (s := s) hf hb ha hs
  refine ⟨z, ?_, hi⟩
  have c := check_field_run hf
  have hnd : ¬ base ∣ b := fun d => by
    have h1 := hb 1 (by rw [Int.one_mul]; exact d)
    rcases Int.lt_or_le 0 base with q | q
    · have := Int.le_of_dvd (by decide) h1
      have := hf.n1; omega
    · have : base = 0 := by have := hf.nn; omega
      rw [this, Int.zero_dvd] at h1; omega
  have oc : ∃ w : Int, w ≠ 0 ∧ M.of_coef [.int base, .int b] s = .ok (.sh (pr (w, 1))) s := by
    rcases Int.lt_or_le 0 base with q | q
    · have em : b.fmod base = b % base := Int.fmod_eq_emod_of_nonneg _ (by omega)
      refine ⟨b % base, fun z => hnd (Int.dvd_of_emod_eq_zero z), ?_⟩
      have q0 : base ≠ 0 := by omega
      simp [M.of_coef, M.of_coefS, evFn, exS, ev, evs, startE, R.bind, withV, lift, Slot.val, Rs.isBo, Rs.d, endR, freeze, cmpF, ordF, bothInt, q, binF, q0, em, pr]
    · have : base = 0 := by have := hf.nn; omega
      subst this
      refine ⟨b, fun z => hnd (by rw [z]; exact Int.dvd_refl 0), ?_⟩
      simp [M.of_coef, M.of_coefS, evFn, exS, ev, evs, startE, R.bind, withV, lift, Slot.val, Rs.isBo, Rs.d, endR, freeze, cmpF, ordF, bothInt, pr]
  obtain ⟨w, w0, ew⟩ := oc
  have en : eqF (pr (w, 1)) (.tup [.int 0, .int 1]) = some false := by
    have : (w == 0) = false := by simp [w0]
    simp [eqF, pr, DEEP, D.deep, D.deeps, D.eqv, D.eqvs, this]
  simp [M.number_of, M.number_ofS, evFn, exS, ev, evs, startE, R.bind, withV, lift, Slot.val, Rs.isBo, Rs.d, endR, callR, freeze, c, is_integer_run, ew, cmpF, en, e]
end
/-! ### the law's own -/
abbrev solTurn : S := (.seq (.ife (.cmp .eq (.bin .mod (.bin .sub (.bin .mul (.var 3) (.var 2)) (.var 1)) (.var 0)) (.con (.int 0))) (.seq (.ret (.tup (.cons (.var 3) (.cons (.con (.int 1)) .nil)))) .skip) .skip) .skip)
abbrev solStep : D → Env → OSt → Out := fun d ρ s => match bindTg (.nm 3) d ρ with
  | some ρ1 => exS solTurn ρ1 s
  | none => .no
theorem solved_run {base a b : Int} (hf : Fld base) (hp : 0 < base) (hb : NZ base b) (ha : Sm a) (hs : Sm b) {x : P2} (hx : Is base a b x) (s : OSt) : M.Llaw_solved [.int base, .int a, .int b] s = .ok (.sh (pr x)) s := by
  have h0 : base ≠ 0 := by omega
  have hx2 := hx.2
  unfold Norm at hx2
  rw [if_neg h0] at hx2
  obtain ⟨x1, x2⟩ := x
  dsimp only at hx2
  obtain ⟨rfl, g0, g1⟩ := hx2
  have hle := hf.le
  have hd : base ∣ x1 * b - a := by have := hx.1; simpa using this
  have fb : fitsI b = true := fitsI_of hs
  have tst : ∀ (m : Int) (s : OSt), 0 ≤ m → m < base → ∀ x3, solStep (.int m) [.sh (.int base), .sh (.int a), .sh (.int b), x3] s = if m = x1 then .rt (.sh (pr (x1, 1))) s else .nx [.sh (.int base), .sh (.int a), .sh (.int b), .sh (.int m)] s := fun m s m0 m1 x3 => by
    have fm : fitsI m = true := fitsI_of (by omega)
    have em : (m * b - a).fmod base = (m * b - a) % base := Int.fmod_eq_emod_of_nonneg _ (by omega)
    by_cases h : m = x1
    · rw [if_pos h]
      subst h
      have : ((m * b - a) % base == 0) = true := by rw [Int.emod_eq_zero_of_dvd hd]; rfl
      simp [solStep, bindTg, exS, ev, evs, R.bind, lift, Slot.val, Rs.d, Rs.isBo, binF, fm, fb, h0, em, cmpF, eqF, D.deep, D.eqv, this, withV, freeze, pr]
    · rw [if_neg h]
      have : ((m * b - a) % base == 0) = false := by
        rw [beq_eq_false_iff_ne]
        intro z
        have d1 := Int.dvd_of_emod_eq_zero z
        have d2 : base ∣ (m - x1) * b := by
          have e : (m - x1) * b = (m * b - a) - (x1 * b - a) := by grind
          rw [e]; exact Int.dvd_sub d1 hd
        have := norm_eq (base := base) (x := (m, 1)) (y := (x1, 1)) (by unfold Norm; rw [if_neg h0]; exact ⟨rfl, m0, m1⟩) (by unfold Norm; rw [if_neg h0]; exact ⟨rfl, g0, g1⟩) (by have := hb _ d2; simpa using this)
        exact h (congrArg (·.1) this)
      simp [solStep, bindTg, exS, ev, evs, R.bind, lift, Slot.val, Rs.d, Rs.isBo, binF, fm, fb, h0, em, cmpF, eqF, D.deep, D.eqv, this, withV]
  have sp : fromInts 0 base.toNat = fromInts 0 x1.toNat ++ .int x1 :: (List.range (base.toNat - x1.toNat - 1)).map fun (i : Nat) => D.int (0 + (x1.toNat + 1 + i : Nat)) := by
    have e : base.toNat = x1.toNat + (base.toNat - x1.toNat - 1 + 1) := by omega
    have := fromInts_split 0 x1.toNat (base.toNat - x1.toNat - 1)
    rw [← e] at this
    rw [this]
    have : (0 : Int) + ((x1.toNat : Nat) : Int) = x1 := by omega
    rw [this]
  have lp : forL solStep (fromInts 0 base.toNat) [.sh (.int base), .sh (.int a), .sh (.int b), .no] s = .rt (.sh (pr (x1, 1))) s := by
    rw [sp]
    refine forL_first (fun ρ => ∃ x3, ρ = [.sh (.int base), .sh (.int a), .sh (.int b), x3]) _ _ ⟨.no, rfl⟩ (fun e he ρ hI => ?_) (fun ρ hI => ?_)
    · obtain ⟨x3, rfl⟩ := hI
      obtain ⟨m, hm, rfl⟩ := fromInts_mem he
      rw [tst (0 + (m : Int)) s (by omega) (by omega) x3, if_neg (by omega)]
      exact ⟨_, rfl, _, rfl⟩
    · obtain ⟨x3, rfl⟩ := hI
      rw [forL, tst x1 s g0 g1 x3, if_pos rfl]
  have i1 : evI (.itRange (.cons (.var 0) .nil)) [.sh (.int base), .sh (.int a), .sh (.int b), .no] s = .ok (fromInts 0 base.toNat, none) s :=
    evI_range (rs := [.sh (.int base)]) (by simp [evs, ev, R.bind, lift, Slot.val]) (rangeF_one (by omega))
  have e : exS (.for (.nm 3) (.itRange (.cons (.var 0) .nil)) solTurn) [.sh (.int base), .sh (.int a), .sh (.int b), .no] s = .rt (.sh (pr (x1, 1))) s := by
    rw [exS, i1]; exact lp
  show evFn 4 3 M.Llaw_solvedS _ s = _
  unfold evFn M.Llaw_solvedS
  rw [if_pos (show [D.int base, D.int a, D.int b].length = 3 from rfl), show startE 4 [D.int base, D.int a, D.int b] = [.sh (.int base), .sh (.int a), .sh (.int b), .no] from rfl, exS_seq_rt e]
  rfl
/-- the law's number of two ints -/
theorem least_run {base a b : Int} (hf : Fld base) (hb : NZ base b) (ha : Sm a) (hs : Sm b) {x : P2} (hx : Is base a b x) (s : OSt) : M.Llaw_least [.int base, .int a, .int b] s = .ok (.sh (pr x)) s := by
  by_cases h0 : base = 0
  · subst h0
    have hb0 : b ≠ 0 := fun z => by
      have := hb 1 (by rw [z]; exact Int.dvd_refl 0)
      rw [Int.zero_dvd] at this; omega
    have e : x = low0 a b := hx.uniq hb (low0_is hb0)
    subst e
    have dv := fun s => divisor_run (a := a) (b := b) (Nat.lt_of_lt_of_le hs (Nat.pow_le_pow_right (by decide) (by decide))) s
    have hg : (Int.gcd a b : Int) ≠ 0 := fun z => by
      have : Int.gcd a b = 0 := by omega
      rw [Int.gcd_eq_zero_iff] at this; exact hb0 this.2
    have gl : Int.gcd a b ≤ b.natAbs := Nat.le_of_dvd (by omega) (Nat.gcd_dvd_right _ _)
    have f1 : fitsI (Int.gcd a b : Int) = true := fitsI_of (by omega)
    have f2 : fitsI (-(Int.gcd a b : Int)) = true := fitsI_of (by omega)
    have hg2 : -(Int.gcd a b : Int) ≠ 0 := by omega
    unfold low0
    generalize (Int.gcd a b : Int) = G at *
    by_cases hp : 0 < b
    · simp [M.Llaw_least, M.Llaw_leastS, evFn, exS, ev, evs, startE, R.bind, withV, lift, Slot.val, Rs.isBo, Rs.d, endR, freeze, callR, cmpF, ordF, bothInt, dv, outOf, assignAll, slotOf, hp, binF, hg, f1, pr]
    · simp [M.Llaw_least, M.Llaw_leastS, evFn, exS, ev, evs, startE, R.bind, withV, lift, Slot.val, Rs.isBo, Rs.d, endR, freeze, callR, cmpF, ordF, bothInt, dv, outOf, assignAll, slotOf, hp, binF, negF, hg, hg2, f2, pr]
  · have hp : 0 < base := by have := hf.nn; omega
    have sv := solved_run hf hp hb ha hs hx
    simp [M.Llaw_least, M.Llaw_leastS, evFn, exS, ev, evs, startE, R.bind, withV, lift, Slot.val, Rs.isBo, Rs.d, endR, freeze, callR, cmpF, ordF, bothInt, hp, sv]
/-- there is a number of two ints -/
theorem is_there {base a b : Int} (hf : Fld base) (hb : NZ base b) (ha : Sm a) (hs : Sm b) : ∃ x, Is base a b x ∧ x.1.natAbs ≤ a.natAbs + 997 ∧ x.2.natAbs ≤ b.natAbs + 1 := by
  obtain ⟨x, _, h, h1, h2⟩ := reduced_run (s := ⟨[], [], 0⟩) hf hb ha hs
  exact ⟨x, h, h1, h2⟩
end RS
end
section
set_option autoImplicit false
set_option linter.all false
set_option maxRecDepth 100000
set_option maxHeartbeats 8000000
/-! K07E: a turn of the law. -/
namespace RS
theorem like_run {d : D} (h : reprOk d = true) (s : OSt) : M.Llaw_like [d, d] s = .ok (.sh (.bl true)) s := by
  simp [M.Llaw_like, M.Llaw_likeS, evFn, exS, ev, evs, startE, R.bind, withV, lift, Slot.val, Rs.isBo, Rs.d, endR, h]
theorem show_int {i : Int} {k : Nat} (h : i.natAbs < 2 ^ k) (hk : k ≤ 1000) : D.showable (.int i) = true := by
  rw [D.showable, decide_eq_true_eq]
  exact Nat.lt_of_lt_of_le h (by unfold SHOW; exact Nat.pow_le_pow_right (by decide) (by omega))
theorem repr_pairs : ∀ (l : List P2) (k : Nat), k ≤ 1000 → l.length ≤ 100 → (∀ x ∈ l, LtP x k) → reprOk (.lst (l.map pr)) = true := fun l k hk hl h => by
  have key : ∀ l : List P2, (∀ x ∈ l, LtP x k) → D.showables (l.map pr) = true ∧ D.deeps 59 (l.map pr) = true ∧ D.rlens (l.map pr) = 1289 * l.length := by
    intro l
    induction l with
    | nil => intro _; exact ⟨by simp [D.showables], by simp [D.deeps], by simp [D.rlens]⟩
    | cons x l ih =>
      intro h
      obtain ⟨a, b, c⟩ := ih fun y hy => h y (List.mem_cons_of_mem _ hy)
      have hx := h x List.mem_cons_self
      refine ⟨?_, ?_, ?_⟩
      · rw [List.map_cons, D.showables, a, Bool.and_true]
        show D.showable (.tup [.int x.1, .int x.2]) = true
        rw [D.showable, D.showables, D.showables, show_int hx.1 hk, show_int hx.2 hk, D.showables]; rfl
      · rw [List.map_cons, D.deeps, b, Bool.and_true]
        simp [pr, D.deep, D.deeps]
      · rw [List.map_cons, D.rlens, c, List.length_cons]
        simp only [pr, D.rlen, D.rlens]; omega
  obtain ⟨a, b, c⟩ := key l h
  unfold reprOk
  rw [D.showable, a, D.rlen, c]
  have : D.deep DEEP (.lst (l.map pr)) = true := by show D.deep (59 + 1) _ = true; rw [D.deep]; exact b
  rw [this]
  simp only [Bool.true_and, Bool.and_true, decide_eq_true_eq]
  omega
/-- a drawn number -/
theorem number_run {base sized : Int} {k : Nat} {s : OSt} (hf : Fld base) (hz : 1 ≤ sized) (hz2 : sized ≤ 20000) (hk : St (2 + k) s) :
    ∃ a b x s', M.Llaw_number [.st, .int base, .int sized] s = .ok (.sh (.tup [pr x, .int a, .int b])) s' ∧ Is base a b x ∧ NZ base b ∧ a.natAbs ≤ 20000 ∧ b.natAbs ≤ 20000 ∧ x.1.natAbs ≤ 20997 ∧ x.2.natAbs ≤ 20001 ∧ (base = 0 → b ≠ 0) ∧ St k s' := by
  obtain ⟨d1, s1, r1, a1, b1, h1⟩ := draw_run (k := 1 + k) (hk.mono (by omega)) (l := 2 * sized + 1) (by omega) (by omega)
  obtain ⟨d2, s2, r2, a2, b2, h2⟩ := draw_run (k := k) (h1.mono (by omega)) (l := sized) (by omega) (by omega)
  have f1 : fitsI 2 = true := fitsI_of (by decide)
  have f2 : fitsI sized = true := fitsI_of (by omega)
  have e0 : exS (.par [3, 4] (.cons (.bin .sub (.call "_law_draw" M.Llaw_draw (.cons (.var 0) (.cons (.bin .add (.bin .mul (.con (.int 2)) (.var 2)) (.con (.int 1))) .nil))) (.var 2)) (.cons (.bin .add (.con (.int 1)) (.call "_law_draw" M.Llaw_draw (.cons (.var 0) (.cons (.var 2) .nil)))) .nil))) [.sh .st, .sh (.int base), .sh (.int sized), .no, .no, .no] s = .nx [.sh .st, .sh (.int base), .sh (.int sized), .sh (.int (d1 - sized)), .sh (.int (1 + d2)), .no] s2 := by
    simp [exS, ev, evs, R.bind, lift, Slot.val, Rs.d, Rs.isBo, callR, freeze, binF, f1, f2, r1, r2, outOf, assignAll, slotOf]
  have s0 : ∀ s, exS (.share 3) [.sh .st, .sh (.int base), .sh (.int sized), .sh (.int (d1 - sized)), .sh (.int (1 + d2)), .no] s = .nx [.sh .st, .sh (.int base), .sh (.int sized), .sh (.int (d1 - sized)), .sh (.int (1 + d2)), .no] s := fun s => by simp [exS]
  have s1' : ∀ s, exS (.share 4) [.sh .st, .sh (.int base), .sh (.int sized), .sh (.int (d1 - sized)), .sh (.int (1 + d2)), .no] s = .nx [.sh .st, .sh (.int base), .sh (.int sized), .sh (.int (d1 - sized)), .sh (.int (1 + d2)), .no] s := fun s => by simp [exS]
  by_cases h0 : base = 0
  · subst h0
    have nz : NZ 0 (1 + d2) := NZ.zero (by omega)
    obtain ⟨x, hx, k1, k2⟩ := is_there (base := 0) (a := d1 - sized) (b := 1 + d2) hf nz (by omega) (by omega)
    refine ⟨d1 - sized, 1 + d2, x, s2, ?_, hx, nz, by omega, by omega, by omega, by omega, fun _ => by omega, h2⟩
    have e : x = low0 (d1 - sized) (1 + d2) := hx.uniq nz (low0_is (by omega))
    subst e
    have dv := fun s => divisor_run (a := d1 - sized) (b := 1 + d2) (Nat.lt_of_lt_of_le (show (1 + d2).natAbs < 2 ^ 20 by omega) (Nat.pow_le_pow_right (by decide) (by decide))) s
    have hp : 0 < 1 + d2 := by omega
    have gl : Int.gcd (d1 - sized) (1 + d2) ≤ (1 + d2).natAbs := Nat.le_of_dvd (by omega) (Nat.gcd_dvd_right _ _)
    have hg : (Int.gcd (d1 - sized) (1 + d2) : Int) ≠ 0 := fun z => by
      have : Int.gcd (d1 - sized) (1 + d2) = 0 := by omega
      rw [Int.gcd_eq_zero_iff] at this; omega
    have fg : fitsI (Int.gcd (d1 - sized) (1 + d2) : Int) = true := fitsI_of (by omega)
    show evFn 6 3 M.Llaw_numberS _ s = _
    unfold evFn M.Llaw_numberS
    rw [if_pos (show [D.st, D.int 0, D.int sized].length = 3 from rfl), show startE 6 [D.st, D.int 0, D.int sized] = [.sh .st, .sh (.int 0), .sh (.int sized), .no, .no, .no] from rfl, exS_seq e0, exS_seq (s0 s2), exS_seq (s1' s2)]
    unfold low0
    rw [if_pos hp]
    generalize (Int.gcd (d1 - sized) (1 + d2) : Int) = G at *
    simp [exS, ev, evs, R.bind, lift, Slot.val, Rs.d, Rs.isBo, callR, freeze, cmpF, ordF, bothInt, dv, withV, outOf, assignAll, slotOf, binF, hg, fg, endR, pr]
  · have hp : 0 < base := by have := hf.nn; omega
    obtain ⟨low, hlow⟩ : ∃ low, low = if ¬ (1 + d2).fmod base = 0 then 1 + d2 else 1 := ⟨_, rfl⟩
    have em : (1 + d2).fmod base = (1 + d2) % base := Int.fmod_eq_emod_of_nonneg _ (by omega)
    have nz : NZ base low := by
      rw [hlow]
      split
      · rename_i h
        rw [em] at h
        exact hf.pm _ fun d => h (Int.emod_eq_zero_of_dvd d)
      · exact NZ.one base
    have lb : 1 ≤ low ∧ low ≤ 20000 := by rw [hlow]; split <;> omega
    obtain ⟨x, hx, k1, k2⟩ := is_there (base := base) (a := d1 - sized) (b := low) hf nz (by omega) (by omega)
    refine ⟨d1 - sized, low, x, s2, ?_, hx, nz, by omega, by omega, by omega, by omega, fun z => (h0 z).elim, h2⟩
    have sv := solved_run hf hp nz (by omega) (by omega) hx
    show evFn 6 3 M.Llaw_numberS _ s = _
    unfold evFn M.Llaw_numberS
    rw [if_pos (show [D.st, D.int base, D.int sized].length = 3 from rfl), show startE 6 [D.st, D.int base, D.int sized] = [.sh .st, .sh (.int base), .sh (.int sized), .no, .no, .no] from rfl, exS_seq e0, exS_seq (s0 s2), exS_seq (s1' s2)]
    by_cases hl : (1 + d2).fmod base = 0
    · rw [if_neg (by simpa using hl)] at hlow
      subst hlow
      have hb0 : ((1 + d2).fmod base == 0) = true := by rw [hl]; rfl
      simp [exS, ev, evs, R.bind, lift, Slot.val, Rs.d, Rs.isBo, callR, freeze, cmpF, ordF, bothInt, hp, h0, eqF, D.deep, D.eqv, hb0, sv, withV, outOf, assignAll, slotOf, binF, endR]
    · rw [if_pos hl] at hlow
      subst hlow
      have hb0 : ((1 + d2).fmod base == 0) = false := by simpa using hl
      simp [exS, ev, evs, R.bind, lift, Slot.val, Rs.d, Rs.isBo, callR, freeze, cmpF, ordF, bothInt, hp, h0, eqF, D.deep, D.eqv, hb0, sv, withV, outOf, assignAll, slotOf, binF, endR]
end RS
end
section
set_option autoImplicit false
set_option linter.all false
set_option maxRecDepth 100000
set_option maxHeartbeats 8000000
/-! K07F: whether a turn is right. -/
namespace RS
theorem right_run {base sized : Int} {k : Nat} {s : OSt} (hf : Fld base) (hz : 1 ≤ sized) (hz2 : sized ≤ 20000) (hk : St (4 + k) s) : ∃ s', M.Llaw_right [.st, .int base, .int sized] s = .ok (.sh (.bl true)) s' ∧ St k s' := by
  obtain ⟨h, l, x, s1, r1, hx, nl, bh, bl, bx1, bx2, _, h1⟩ := number_run (k := 2 + k) hf hz hz2 (hk.mono (by omega))
  obtain ⟨w, d, y, s2, r2, hy, nd, bw, bd, by1, by2, _, h2⟩ := number_run (k := k) hf hz hz2 (h1.mono (by omega))
  refine ⟨s2, ?_, h2⟩
  have lx : LtP x 15 := ⟨by omega, by omega⟩
  have ly : LtP y 15 := ⟨by omega, by omega⟩
  have Lh : h.natAbs < 2 ^ 15 := by omega
  have Ll : l.natAbs < 2 ^ 15 := by omega
  have Lw : w.natAbs < 2 ^ 15 := by omega
  have Ld : d.natAbs < 2 ^ 15 := by omega
  have Fh := ft_of Lh (by omega)
  have Fl := ft_of Ll (by omega)
  have Fw := ft_of Lw (by omega)
  have Fd := ft_of Ld (by omega)
  -- the first check
  obtain ⟨z0, e0, i0⟩ := number_of_run (a := h) (b := l) hf nl (sm_of Lh (by omega)) (sm_of Ll (by omega)) s2
  have z0x : z0 = x := i0.uniq nl hx
  subst z0x
  have en := need_number_run hf hy.2 s2
  have k1 := fun s => like_run (d := .lst [pr z0, pr y]) (repr_pairs [z0, y] 15 (by omega) (by simp) (by simp; exact ⟨lx, ly⟩)) s
  -- the sums
  obtain ⟨p, ep, ip, lp⟩ := plus_run (k := 15) hf hx.2 hy.2 lx ly (by omega) (by omega) s2
  obtain ⟨m, em, im, lm⟩ := minus_run (k := 15) hf hx.2 hy.2 lx ly (by omega) (by omega) s2
  obtain ⟨t, et, it, lt⟩ := times_run (k := 15) hf hx.2 hy.2 lx ly (by omega) (by omega) s2
  have q1 := mul_lt Lh Ld
  have q2 := mul_lt Lw Ll
  have q3 := mul_lt Ll Ld
  have q4 := mul_lt Lh Lw
  have nld := nl.mul nd
  have lp1 := least_run hf nld (sm_of (sums_lt q1 q2).1 (by omega)) (sm_of q3 (by omega)) (is_add hx hy ip) s2
  have lp2 := least_run hf nld (sm_of (sums_lt q1 q2).2 (by omega)) (sm_of q3 (by omega)) (is_sub hx hy im) s2
  have lp3 := least_run hf nld (sm_of q4 (by omega)) (sm_of q3 (by omega)) (is_mul hx hy it) s2
  have k2 := fun s => like_run (d := .lst [pr p, pr m, pr t]) (repr_pairs [p, m, t] 32 (by omega) (by simp) (by simp; exact ⟨lp, lm, lt⟩)) s
  -- there and back
  have ly32 : LtP y 32 := ⟨Nat.lt_of_lt_of_le ly.1 (Nat.pow_le_pow_right (by decide) (by omega)), Nat.lt_of_lt_of_le ly.2 (Nat.pow_le_pow_right (by decide) (by omega))⟩
  obtain ⟨u, eu, iu, _⟩ := minus_run (k := 32) hf ip.2 hy.2 lp ly32 (by omega) (by omega) s2
  obtain ⟨v, ev', iv, _⟩ := plus_run (k := 32) hf im.2 hy.2 lm ly32 (by omega) (by omega) s2
  have ux : u = z0 := iu.uniq (ip.2.nz.mul hy.2.nz) (add_back hx.2 ip)
  have vx : v = z0 := iv.uniq (im.2.nz.mul hy.2.nz) (sub_back hx.2 im)
  subst ux
  rw [vx] at ev'
  have k3 := fun s => like_run (d := .lst [pr u, pr u]) (repr_pairs [u, u] 15 (by omega) (by simp) (by simp; exact lx)) s
  -- the statements
  have t1 : exS (.asgT (.tup (.cons (.nm 3) (.cons (.nm 4) (.cons (.nm 5) .nil)))) (.call "_law_number" M.Llaw_number (.cons (.var 0) (.cons (.var 1) (.cons (.var 2) .nil))))) [.sh .st, .sh (.int base), .sh (.int sized), .no, .no, .no, .no, .no, .no, .no, .no, .no] s = .nx [.sh .st, .sh (.int base), .sh (.int sized), .sh (pr u), .sh (.int h), .sh (.int l), .no, .no, .no, .no, .no, .no] s1 := by
    simp [exS, ev, evs, R.bind, lift, Slot.val, Rs.d, Rs.isBo, callR, freeze, r1, withV, outOf, bindTg, bindTgs]
  have t2 : exS (.asgT (.tup (.cons (.nm 6) (.cons (.nm 7) (.cons (.nm 8) .nil)))) (.call "_law_number" M.Llaw_number (.cons (.var 0) (.cons (.var 1) (.cons (.var 2) .nil))))) [.sh .st, .sh (.int base), .sh (.int sized), .sh (pr u), .sh (.int h), .sh (.int l), .no, .no, .no, .no, .no, .no] s1 = .nx [.sh .st, .sh (.int base), .sh (.int sized), .sh (pr u), .sh (.int h), .sh (.int l), .sh (pr y), .sh (.int w), .sh (.int d), .no, .no, .no] s2 := by
    simp [exS, ev, evs, R.bind, lift, Slot.val, Rs.d, Rs.isBo, callR, freeze, r2, withV, outOf, bindTg, bindTgs]
  have pl : 2 + 1 ≤ LIM := by decide
  have g0 : idxF (.lst [pr p, pr m, pr t]) (.int 0) = some (pr p) := rfl
  have g1 : idxF (.lst [pr p, pr m, pr t]) (.int 1) = some (pr m) := rfl
  show evFn 12 3 M.Llaw_rightS _ s = _
  unfold evFn M.Llaw_rightS
  rw [if_pos (show [D.st, D.int base, D.int sized].length = 3 from rfl), show startE 12 [D.st, D.int base, D.int sized] = [.sh .st, .sh (.int base), .sh (.int sized), .no, .no, .no, .no, .no, .no, .no, .no, .no] from rfl, exS_seq t1, exS_seq t2]
  by_cases hy0 : y.1 = 0
  · have yb : (y.1 == 0) = true := by simp [hy0]
    simp [exS, ev, evs, R.bind, lift, Slot.val, Rs.d, Rs.isBo, callR, freeze, e0, en, k1, ep, em, et, lp1, lp2, lp3, k2, eu, ev', k3, withV, outOf, assignAll, slotOf, binF, Fh, Fl, Fw, Fd, LIM, g0, g1, p2_0, cmpF, eqF, D.deep, D.eqv, yb, endR]
  · have yb : (y.1 == 0) = false := by simp [hy0]
    -- y.1 is a divisor
    have ny : NZ base y.1 := by
      by_cases hb0 : base = 0
      · rw [hb0]; exact NZ.zero hy0
      · have hn := hy.2
        unfold Norm at hn
        rw [if_neg hb0] at hn
        refine hf.pm _ fun dv => ?_
        have := Int.le_of_dvd (by omega) dv
        omega
    have nw : NZ base w := (ny.mul nd).along (w := y.2) (by have := hy.1; exact this)
    obtain ⟨o, eo, io, lo⟩ := over_run (k := 15) hf hx.2 hy.2 ny hy0 lx ly (by omega) (by omega) s2
    obtain ⟨b, eb, ib, _⟩ := times_run (k := 32) hf io.2 hy.2 lo ly32 (by omega) (by omega) s2
    have bx : b = u := ib.uniq (io.2.nz.mul hy.2.nz) (div_back hx.2 io)
    rw [bx] at eb
    have q5 := mul_lt Ll Lw
    have lp4 := least_run hf (nl.mul nw) (sm_of q1 (by omega)) (sm_of q5 (by omega)) (is_div hx hy ny io) s2
    have k4 := fun s => like_run (d := .lst [pr o, pr u]) (repr_pairs [o, u] 32 (by omega) (by simp) (by simp; exact ⟨lo, ⟨Nat.lt_of_lt_of_le lx.1 (Nat.pow_le_pow_right (by decide) (by omega)), Nat.lt_of_lt_of_le lx.2 (Nat.pow_le_pow_right (by decide) (by omega))⟩⟩)) s
    simp [exS, ev, evs, R.bind, lift, Slot.val, Rs.d, Rs.isBo, callR, freeze, e0, en, k1, ep, em, et, lp1, lp2, lp3, k2, eu, ev', k3, withV, outOf, assignAll, slotOf, binF, Fh, Fl, Fw, Fd, LIM, g0, g1, p2_0, cmpF, eqF, D.deep, D.eqv, yb, eo, eb, lp4, k4, endR]
end RS
end
section
set_option autoImplicit false
set_option linter.all false
set_option maxRecDepth 100000
set_option maxHeartbeats 8000000
/-! K07H: the law gives True, whatever the script. -/
namespace RS
theorem Fld.prime {p : Nat} (h2 : 2 ≤ p) (hle : p ≤ 997) (hg : ∀ r, r < p → 0 < r → Nat.gcd r p = 1) (hd : ∀ q, q < 32 → 2 ≤ q → q < p → ¬ p % q = 0) : Fld p := by
  refine ⟨by omega, by omega, by omega, fun b hb => NZ.coprime ?_, fun q h1 h2' h3 => ?_⟩
  · have e : Int.gcd b p = Int.gcd (p : Int) (b % p) := (gcd_emod_self b p).symm
    rw [e, Int.gcd_comm]
    have r0 := Int.emod_nonneg b (show (p : Int) ≠ 0 by omega)
    have r1 := Int.emod_lt_of_pos b (show (0 : Int) < p by omega)
    have rn : b % p ≠ 0 := fun z => hb (Int.dvd_of_emod_eq_zero z)
    have := hg (b % p).natAbs (by omega) (by omega)
    exact this
  · obtain ⟨n, rfl⟩ : ∃ n : Nat, q = n := ⟨q.toNat, by omega⟩
    rw [Int.fmod_eq_emod_of_nonneg _ (by omega)]
    have := hd n (by omega) (by omega) (by omega)
    omega
theorem f2 : Fld 2 := Fld.prime (p := 2) (by decide) (by decide) (by decide +kernel) (by decide +kernel)
theorem f3 : Fld 3 := Fld.prime (p := 3) (by decide) (by decide) (by decide +kernel) (by decide +kernel)
theorem f5 : Fld 5 := Fld.prime (p := 5) (by decide) (by decide) (by decide +kernel) (by decide +kernel)
theorem f7 : Fld 7 := Fld.prime (p := 7) (by decide) (by decide) (by decide +kernel) (by decide +kernel)
theorem f11 : Fld 11 := Fld.prime (p := 11) (by decide) (by decide) (by decide +kernel) (by decide +kernel)
theorem f13 : Fld 13 := Fld.prime (p := 13) (by decide) (by decide) (by decide +kernel) (by decide +kernel)
theorem f31 : Fld 31 := Fld.prime (p := 31) (by decide) (by decide) (by decide +kernel) (by decide +kernel)
theorem f97 : Fld 97 := Fld.prime (p := 97) (by decide) (by decide) (by decide +kernel) (by decide +kernel)
theorem f997 : Fld 997 := Fld.prime (p := 997) (by decide) (by decide) (by decide +kernel) (by decide +kernel)
/-- one of some things -/
theorem of_run {ds : List D} {k : Nat} {s : OSt} (h0 : 0 < ds.length) (h1 : ds.length < 1000) (hk : St (k + 1) s) : ∃ (i : Nat) (d : D) (s' : OSt), M.Llaw_of [.st, .lst ds] s = .ok (.sh d) s' ∧ ds[i]? = some d ∧ St k s' := by
  obtain ⟨x, s1, r, a, b, h⟩ := draw_run hk (l := ds.length) (by omega) (by omega)
  obtain ⟨i, rfl⟩ : ∃ n : Nat, x = n := ⟨x.toNat, by omega⟩
  have hi : i < ds.length := by omega
  refine ⟨i, ds[i], s1, ?_, List.getElem?_eq_getElem hi, h⟩
  have e : idxF (.lst ds) (.int i) = some ds[i] := by
    unfold idxF
    dsimp only
    rw [ixOf_nat hi]
    show ds[i]? = _
    exact List.getElem?_eq_getElem hi
  have n : primF .len [.lst ds] = some (.sh (.int (ds.length : Nat))) := rfl
  generalize ((ds.length : Nat) : Int) = len at *
  simp [M.Llaw_of, M.Llaw_ofS, evFn, exS, ev, evs, startE, R.bind, withV, lift, Slot.val, Rs.isBo, Rs.d, endR, callR, freeze, n, r, e]
abbrev lawTurn : S := (.seq (.ife (.not (.call "_law_right" M.Llaw_right (.cons (.var 1) (.cons (.con (.int 0)) (.cons (.call "_law_of" M.Llaw_of (.cons (.var 1) (.cons (.lst (.cons (.con (.int 3)) (.cons (.con (.int 40)) (.cons (.con (.int 20000)) .nil)))) .nil))) .nil)))))
 (.seq (.ret (.con (.bl false)))
 .skip)
 .skip)
 (.seq (.ife (.not (.call "_law_right" M.Llaw_right (.cons (.var 1) (.cons (.call "_law_of" M.Llaw_of (.cons (.var 1) (.cons (.lst (.cons (.con (.int 2)) (.cons (.con (.int 3)) (.cons (.con (.int 5)) (.cons (.con (.int 7)) (.cons (.con (.int 11)) (.cons (.con (.int 13)) (.cons (.con (.int 31)) (.cons (.con (.int 97)) .nil))))))))) .nil))) (.cons (.con (.int 40)) .nil)))))
 (.seq (.ret (.con (.bl false)))
 .skip)
 .skip)
 .skip))
abbrev lawStep : D → Env → OSt → Out := fun d ρ s => match bindTg (.nm 2) d ρ with
  | some ρ1 => exS lawTurn ρ1 s
  | none => .no
theorem turn_run {k : Nat} {x2 : Slot} {s : OSt} (hk : St (10 + k) s) : ∃ s', exS lawTurn [.no, .sh .st, x2, .no, .no, .no] s = .nx [.no, .sh .st, x2, .no, .no, .no] s' ∧ St k s' := by
  obtain ⟨i, d, s1, r1, e1, h1⟩ := of_run (ds := [.int 3, .int 40, .int 20000]) (k := 9 + k) (by simp) (by simp) (hk.mono (by omega))
  have hd : ∃ z : Int, d = .int z ∧ 1 ≤ z ∧ z ≤ 20000 := by
    match i, e1 with
    | 0, e => exact ⟨3, by simpa using e.symm, by decide, by decide⟩
    | 1, e => exact ⟨40, by simpa using e.symm, by decide, by decide⟩
    | 2, e => exact ⟨20000, by simpa using e.symm, by decide, by decide⟩
    | n + 3, e => simp at e
  obtain ⟨z, rfl, z1, z2⟩ := hd
  obtain ⟨s2, r2, h2⟩ := right_run (k := 5 + k) Fld.zero z1 z2 (h1.mono (by omega))
  obtain ⟨j, d', s3, r3, e3, h3⟩ := of_run (ds := [.int 2, .int 3, .int 5, .int 7, .int 11, .int 13, .int 31, .int 97]) (k := 4 + k) (by simp) (by simp) (h2.mono (by omega))
  have hd : ∃ p : Int, d' = .int p ∧ Fld p := by
    match j, e3 with
    | 0, e => exact ⟨2, by simpa using e.symm, f2⟩
    | 1, e => exact ⟨3, by simpa using e.symm, f3⟩
    | 2, e => exact ⟨5, by simpa using e.symm, f5⟩
    | 3, e => exact ⟨7, by simpa using e.symm, f7⟩
    | 4, e => exact ⟨11, by simpa using e.symm, f11⟩
    | 5, e => exact ⟨13, by simpa using e.symm, f13⟩
    | 6, e => exact ⟨31, by simpa using e.symm, f31⟩
    | 7, e => exact ⟨97, by simpa using e.symm, f97⟩
    | n + 8, e => simp at e
  obtain ⟨p, rfl, fp⟩ := hd
  obtain ⟨s4, r4, h4⟩ := right_run (k := k) (sized := 40) fp (by decide) (by decide) h3
  refine ⟨s4, ?_, h4⟩
  simp [exS, ev, evs, R.bind, lift, Slot.val, Rs.d, Rs.isBo, callR, freeze, r1, r2, r3, r4, withV]
theorem turns : ∀ (ds : List D) (k : Nat) (s : OSt) (x2 : Slot), St (10 * ds.length + k) s → ∃ x2' s', forL lawStep ds [.no, .sh .st, x2, .no, .no, .no] s = .nx [.no, .sh .st, x2', .no, .no, .no] s' ∧ St k s'
  | [], k, s, x2, h => ⟨x2, s, by rw [forL], by simpa using h⟩
  | d :: ds, k, s, x2, h => by
    rw [List.length_cons] at h
    obtain ⟨s1, e1, h1⟩ := turn_run (k := 10 * ds.length + k) (x2 := .sh d) (h.mono (by omega))
    obtain ⟨z2, s2, e2, h2⟩ := turns ds k s1 (.sh d) h1
    refine ⟨z2, s2, ?_, h2⟩
    have e0 : lawStep d [.no, .sh .st, x2, .no, .no, .no] s = .nx [.no, .sh .st, .sh d, .no, .no, .no] s1 := by
      simp only [lawStep, bindTg, List.length_cons, List.length_nil, Nat.reduceAdd, Nat.reduceLT, if_true, List.set_cons_succ, List.set_cons_zero]
      exact e1
    rw [forL, e0]
    exact e2
/-! ### by hand -/
instance (base : Int) (x : P2) : Decidable (Norm base x) := by unfold Norm; exact inferInstance
abbrev ten : Int := 10 ^ 60
theorem c1 (s : OSt) : M.number_of [.int 0, .int 6, .int (-4)] s = .ok (.sh (pr (-3, 2))) s := by
  obtain ⟨z, e, i⟩ := number_of_run (base := 0) (a := 6) (b := -4) Fld.zero (NZ.zero (by decide)) (by decide) (by decide) s
  rw [e, i.uniq (NZ.zero (by decide)) (show Is 0 6 (-4) (-3, 2) from ⟨by decide, by decide⟩)]
theorem c2 (s : OSt) : M.plus [.int 0, pr (1, 2), pr (1, 3)] s = .ok (.sh (pr (5, 6))) s := by
  obtain ⟨z, e, i, _⟩ := plus_run (base := 0) (x := (1, 2)) (y := (1, 3)) (k := 10) Fld.zero (by decide) (by decide) (by decide) (by decide) (by decide) (by decide) s
  rw [e, i.uniq (NZ.zero (by decide)) (show Is 0 _ _ (5, 6) from ⟨by decide, by decide⟩)]
theorem c3 (s : OSt) : M.times [.int 997, pr (200, 1), pr (5, 1)] s = .ok (.sh (pr (3, 1))) s := by
  obtain ⟨z, e, i, _⟩ := times_run (base := 997) (x := (200, 1)) (y := (5, 1)) (k := 10) f997 (by decide) (by decide) (by decide) (by decide) (by decide) (by decide) s
  rw [e, i.uniq (NZ.one _) (show Is 997 _ _ (3, 1) from ⟨by decide, by decide⟩)]
theorem c4 (s : OSt) : M.over [.int 997, pr (1, 1), pr (7, 1)] s = .ok (.sh (pr (285, 1))) s := by
  obtain ⟨z, e, i, _⟩ := over_run (base := 997) (x := (1, 1)) (y := (7, 1)) (k := 10) f997 (by decide) (by decide) (f997.pm 7 (by decide)) (by decide) (by decide) (by decide) (by decide) (by decide) s
  rw [e, i.uniq (f997.pm _ (by decide)) (show Is 997 _ _ (285, 1) from ⟨by decide, by decide⟩)]
theorem c6 (s : OSt) : M.number_of [.int 0, .int 0, .int (-ten)] s = .ok (.sh (pr (0, 1))) s := by
  obtain ⟨z, e, i⟩ := number_of_run (base := 0) (a := 0) (b := -ten) Fld.zero (NZ.zero (by decide)) (by decide) (by decide) s
  rw [e, i.uniq (NZ.zero (by decide)) (show Is 0 0 (-ten) (0, 1) from ⟨by decide, by decide⟩)]
theorem c7 (s : OSt) : M.number_of [.int 2, .int (-3), .int (ten + 1)] s = .ok (.sh (pr (1, 1))) s := by
  obtain ⟨z, e, i⟩ := number_of_run (base := 2) (a := -3) (b := ten + 1) f2 (f2.pm _ (by decide)) (by decide) (by decide) s
  rw [e, i.uniq (f2.pm _ (by decide)) (show Is 2 (-3) (ten + 1) (1, 1) from ⟨by decide, by decide⟩)]
theorem c8 (s : OSt) : M.need_number [.int 5, pr (4, 1)] s = .ok (.sh (pr (4, 1))) s := need_number_run f5 (by decide) s
theorem c5 (s : OSt) : M.minus [.int 0, pr (0, 1), pr (1, ten)] s = .ok (.sh (pr (-1, ten))) s := by
  have c := check_two_run (base := 0) (x := (0, 1)) (y := (1, ten)) Fld.zero (by decide) (by decide)
  obtain ⟨z, e, i, _⟩ := reduced_run (base := 0) (a := 0 * ten - 1 * 1) (b := 1 * ten) (s := s) Fld.zero (NZ.zero (by decide)) (by decide) (by decide)
  have zz : z = (-1, ten) := i.uniq (NZ.zero (by decide)) ⟨by decide, by decide⟩
  rw [zz] at e
  have fs : ∀ i : Int, Sm i → fitsI i = true := fun i h => fitsI_of h
  have F0 := fs 0 (by decide)
  have F1 := fs 1 (by decide)
  have F2 := fs ten (by decide)
  generalize ten = T at *
  have e' : M.reduced_so [D.int 0, D.int (-1), D.int T] s = R.ok (Rs.sh (pr (-1, T))) s := by simpa using e
  simp [M.minus, M.minusS, M.minus_so, M.minus_soS, evFn, exS, ev, evs, startE, R.bind, withV, lift, Slot.val, Rs.isBo, Rs.d, endR, callR, freeze, c, p2_0, p2_1, binF, F0, F1, F2, e']
abbrev lawTail (fn fp ft fo fm fd g : Fn) : S := (.seq (.asgS 3 (.bin .pow (.con (.int 10)) (.con (.int 60))))
 (.seq (.asg 4 (.lst (.cons (.callK "number_of" fn .nil ["below", "above", "field"] (.cons (.neg (.con (.int 4))) (.cons (.con (.int 6)) (.cons (.con (.int 0)) .nil))) [2, 1, 0]) (.cons (.callK "plus" fp .nil ["other", "one", "field"] (.cons (.tup (.cons (.con (.int 1)) (.cons (.con (.int 3)) .nil))) (.cons (.tup (.cons (.con (.int 1)) (.cons (.con (.int 2)) .nil))) (.cons (.con (.int 0)) .nil))) [2, 1, 0]) .nil))))
 (.seq (.asg 4 (.bin .add (.var 4) (.lst (.cons (.callK "times" ft .nil ["other", "one", "field"] (.cons (.tup (.cons (.con (.int 5)) (.cons (.con (.int 1)) .nil))) (.cons (.tup (.cons (.con (.int 200)) (.cons (.con (.int 1)) .nil))) (.cons (.con (.int 997)) .nil))) [2, 1, 0]) (.cons (.callK "over" fo .nil ["other", "one", "field"] (.cons (.tup (.cons (.con (.int 7)) (.cons (.con (.int 1)) .nil))) (.cons (.tup (.cons (.con (.int 1)) (.cons (.con (.int 1)) .nil))) (.cons (.con (.int 997)) .nil))) [2, 1, 0]) .nil)))))
 (.seq (.asg 4 (.bin .add (.var 4) (.lst (.cons (.callK "minus" fm .nil ["other", "one", "field"] (.cons (.tup (.cons (.con (.int 1)) (.cons (.var 3) .nil))) (.cons (.tup (.cons (.con (.int 0)) (.cons (.con (.int 1)) .nil))) (.cons (.con (.int 0)) .nil))) [2, 1, 0]) (.cons (.call "number_of" fn (.cons (.con (.int 0)) (.cons (.con (.int 0)) (.cons (.neg (.var 3)) .nil)))) (.cons (.call "number_of" fn (.cons (.con (.int 2)) (.cons (.neg (.con (.int 3))) (.cons (.bin .add (.var 3) (.con (.int 1))) .nil)))) .nil))))))
 (.seq (.app 4 (.callK "need_number" fd .nil ["value", "field"] (.cons (.tup (.cons (.con (.int 4)) (.cons (.con (.int 1)) .nil))) (.cons (.con (.int 5)) .nil)) [1, 0]))
 (.seq (.asgS 5 (.lst (.cons (.tup (.cons (.neg (.con (.int 3))) (.cons (.con (.int 2)) .nil))) (.cons (.tup (.cons (.con (.int 5)) (.cons (.con (.int 6)) .nil))) (.cons (.tup (.cons (.con (.int 3)) (.cons (.con (.int 1)) .nil))) (.cons (.tup (.cons (.con (.int 285)) (.cons (.con (.int 1)) .nil))) (.cons (.tup (.cons (.neg (.con (.int 1))) (.cons (.var 3) .nil))) (.cons (.tup (.cons (.con (.int 0)) (.cons (.con (.int 1)) .nil))) (.cons (.tup (.cons (.con (.int 1)) (.cons (.con (.int 1)) .nil))) .nil)))))))))
 (.seq (.ret (.call "_law_like" g (.cons (.var 4) (.cons (.bin .add (.var 5) (.lst (.cons (.tup (.cons (.con (.int 4)) (.cons (.con (.int 1)) .nil))) .nil))) .nil))))
 .skip)))))))
theorem tail_run {fn fp ft fo fm fd g : Fn} (c1 : ∀ s, fn [.int 0, .int 6, .int (-4)] s = .ok (.sh (pr (-3, 2))) s) (c2 : ∀ s, fp [.int 0, pr (1, 2), pr (1, 3)] s = .ok (.sh (pr (5, 6))) s)
    (c3 : ∀ s, ft [.int 997, pr (200, 1), pr (5, 1)] s = .ok (.sh (pr (3, 1))) s) (c4 : ∀ s, fo [.int 997, pr (1, 1), pr (7, 1)] s = .ok (.sh (pr (285, 1))) s) (c5 : ∀ s, fm [.int 0, pr (0, 1), pr (1, ten)] s = .ok (.sh (pr (-1, ten))) s)
    (c6 : ∀ s, fn [.int 0, .int 0, .int (-ten)] s = .ok (.sh (pr (0, 1))) s) (c7 : ∀ s, fn [.int 2, .int (-3), .int (ten + 1)] s = .ok (.sh (pr (1, 1))) s) (c8 : ∀ s, fd [.int 5, pr (4, 1)] s = .ok (.sh (pr (4, 1))) s)
    (lk : ∀ s, g [.lst ([(-3, 2), (5, 6), (3, 1), (285, 1), (-1, ten), (0, 1), (1, 1), (4, 1)].map pr), .lst ([(-3, 2), (5, 6), (3, 1), (285, 1), (-1, ten), (0, 1), (1, 1), (4, 1)].map pr)] s = .ok (.sh (.bl true)) s) (x2 : Slot) (s : OSt) :
    exS (lawTail fn fp ft fo fm fd g) [.no, .sh .st, x2, .no, .no, .no] s = .rt (.sh (.bl true)) s := by
  have pw : binF .pow (.int 10) (.int 60) = some (.sh (.int ten)) := by simp [binF, ten]
  have ng : negF (.int ten) = some (.sh (.int (-ten))) := rfl
  have ad : binF .add (.int ten) (.int 1) = some (.sh (.int (ten + 1))) := rfl
  have ap2 : ∀ x y z w : D, binF .add (.lst [x, y]) (.lst [z, w]) = some (.fr (.lst [x, y, z, w])) := fun _ _ _ _ => by simp [binF, LIM]
  have ap4 : ∀ x y z w a b c : D, binF .add (.lst [x, y, z, w]) (.lst [a, b, c]) = some (.fr (.lst [x, y, z, w, a, b, c])) := fun _ _ _ _ _ _ _ => by simp [binF, LIM]
  have ap7 : ∀ x y z w a b c d : D, binF .add (.lst [x, y, z, w, a, b, c]) (.lst [d]) = some (.fr (.lst [x, y, z, w, a, b, c, d])) := fun _ _ _ _ _ _ _ _ => by simp [binF, LIM]
  simp only [pr, List.map_cons, List.map_nil] at c1 c2 c3 c4 c5 c6 c7 c8 lk
  generalize ten = T at *
  simp [exS, ev, evs, R.bind, lift, Slot.val, Rs.d, Rs.isBo, callR, freeze, permR, pw, ng, ad, ap2, ap4, ap7, LIM, Rs.clean, D.imm, negF, withV, outOf, assignAll, slotOf, c1, c2, c3, c4, c5, c6, c7, c8, lk]
theorem final_like (s : OSt) : M.Llaw_like [.lst ([(-3, 2), (5, 6), (3, 1), (285, 1), (-1, ten), (0, 1), (1, 1), (4, 1)].map pr), .lst ([(-3, 2), (5, 6), (3, 1), (285, 1), (-1, ten), (0, 1), (1, 1), (4, 1)].map pr)] s = .ok (.sh (.bl true)) s :=
  like_run (repr_pairs _ 210 (by decide) (by decide) (by decide)) s
theorem law_run (ns : List Int) : ∃ st', endR (exS M.lawS ((List.replicate 6 Slot.no).set 1 (.sh .st)) (beginSt ns)) = .ok (.sh (.bl true)) st' := by
  have h0 := beginSt_ok ns
  obtain ⟨x2, s1, e1, h1⟩ := turns (fromInts 0 6) 100 (beginSt ns) .no (h0.mono (by simp [fromInts]))
  have i1 : evI (.itRange (.cons (.con (.int 6)) .nil)) [.no, .sh .st, .no, .no, .no, .no] (beginSt ns) = .ok (fromInts 0 6, none) (beginSt ns) :=
    evI_range (rs := [.sh (.int 6)]) (by simp [evs, ev, R.bind]) (rangeF_one (by decide))
  have f1 : exS (.for (.nm 2) (.itRange (.cons (.con (.int 6)) .nil)) lawTurn) [.no, .sh .st, .no, .no, .no, .no] (beginSt ns) = .nx [.no, .sh .st, x2, .no, .no, .no] s1 := by
    rw [exS, i1]; exact e1
  refine ⟨s1, ?_⟩
  show endR (exS M.lawS [.no, .sh .st, .no, .no, .no, .no] (beginSt ns)) = _
  have e : exS M.lawS [.no, .sh .st, .no, .no, .no, .no] (beginSt ns) = .rt (.sh (.bl true)) s1 := by
    show exS (.seq (.for (.nm 2) (.itRange (.cons (.con (.int 6)) .nil)) lawTurn) (lawTail M.number_of M.plus M.times M.over M.minus M.need_number M.Llaw_like)) _ _ = _
    rw [exS_seq f1]
    exact tail_run c1 c2 c3 c4 c5 c6 c7 c8 final_like _ _
  rw [e]; rfl
end RS
end
section
set_option Elab.async false
set_option maxRecDepth 100000
open PySem PySem.W PyProof.Rows
set_option maxHeartbeats 0 in
theorem PySem.Challenge.cw_risingsays_k07_numbers_of_fields_holds : PySem.Challenge.rw_risingsays_k07_numbers_of_fields.Holds := by
  w_on; o_law; k_head; (case hw => w_witness2)
  k_fill
  refine RS.walkG (law := PySem.Challenge.rw_risingsays_k07_numbers_of_fields) (x := "script") (n := 6) (j := 1) (b := RS.M.lawS) rfl rfl (fun w h Y => PySem.W.kIn_of Y) ?F (fun ns _ => RS.law_run ns)
  case F =>
    intro w mg fa h KX G hmg
    refine' RS.tops_mk KX G hmg ?a0 ?l0 ?c0 ?k0 ?a1 ?l1 ?c1 ?k1 ?a2 ?l2 ?c2 ?k2 ?a3 ?l3 ?c3 ?k3 ?a4 ?l4 ?c4 ?k4 ?a5 ?l5 ?c5 ?k5 ?a6 ?l6 ?c6 ?k6 ?a7 ?l7 ?c7 ?k7 ?a8 ?l8 ?c8 ?k8 ?a9 ?l9 ?c9 ?k9 ?a10 ?l10 ?c10 ?k10 ?a11 ?l11 ?c11 ?k11 ?a12 ?l12 ?c12 ?k12 ?a13 ?l13 ?c13 ?k13 ?a14 ?l14 ?c14 ?k14 ?a15 ?l15 ?c15 ?k15 ?a16 ?l16 ?c16 ?k16 ?a17 ?l17 ?c17 ?k17 ?a18 ?l18 ?c18 ?k18 ?a19 ?l19 ?c19 ?k19 ?a20 ?l20 ?c20 ?k20 ?a21 ?l21 ?c21 ?k21 ?a22 ?l22 ?c22 ?k22 ?a23 ?l23 ?c23 ?k23 ?a24 ?l24 ?c24 ?k24 ?a25 ?l25 ?c25 ?k25 ?a26 ?l26 ?c26 ?k26 ?a27 ?l27 ?c27 ?k27 ?a28 ?l28 ?c28 ?k28 ?a29 ?l29 ?c29 ?k29 ?a30 ?l30 ?c30 ?k30 ?z0 ?z1 ?z2 ?z3 ?z4 ?z5 ?z6 ?z7 ?z8 ?z9 ?z10 ?z11 ?z12 ?z13 ?z14 ?z15 ?z16 ?z17 ?cg0 ?dg0 ?cg1 ?dg1 ?gg
    (case a0 => k_is); (case l0 => k_is); (case c0 => k_is); (case k0 => k_is); (case a1 => k_is); (case l1 => k_is); (case c1 => k_is); (case k1 => k_is); (case a2 => k_is); (case l2 => k_is); (case c2 => k_is); (case k2 => k_is); (case a3 => k_is); (case l3 => k_is); (case c3 => k_is); (case k3 => k_is); (case a4 => k_is); (case l4 => k_is); (case c4 => k_is); (case k4 => k_is); (case a5 => k_is); (case l5 => k_is); (case c5 => k_is); (case k5 => k_is); (case a6 => k_is); (case l6 => k_is); (case c6 => k_is); (case k6 => k_is); (case a7 => k_is); (case l7 => k_is); (case c7 => k_is); (case k7 => k_is); (case a8 => k_is); (case l8 => k_is); (case c8 => k_is); (case k8 => k_is); (case a9 => k_is); (case l9 => k_is); (case c9 => k_is); (case k9 => k_is); (case a10 => k_is); (case l10 => k_is); (case c10 => k_is); (case k10 => k_is); (case a11 => k_is); (case l11 => k_is); (case c11 => k_is); (case k11 => k_is); (case a12 => k_is); (case l12 => k_is); (case c12 => k_is); (case k12 => k_is); (case a13 => k_is); (case l13 => k_is); (case c13 => k_is); (case k13 => k_is); (case a14 => k_is); (case l14 => k_is); (case c14 => k_is); (case k14 => k_is); (case a15 => k_is); (case l15 => k_is); (case c15 => k_is); (case k15 => k_is); (case a16 => k_is); (case l16 => k_is); (case c16 => k_is); (case k16 => k_is); (case a17 => k_is); (case l17 => k_is); (case c17 => k_is); (case k17 => k_is); (case a18 => k_is); (case l18 => k_is); (case c18 => k_is); (case k18 => k_is); (case a19 => k_is); (case l19 => k_is); (case c19 => k_is); (case k19 => k_is); (case a20 => k_is); (case l20 => k_is); (case c20 => k_is); (case k20 => k_is); (case a21 => k_is); (case l21 => k_is); (case c21 => k_is); (case k21 => k_is); (case a22 => k_is); (case l22 => k_is); (case c22 => k_is); (case k22 => k_is); (case a23 => k_is); (case l23 => k_is); (case c23 => k_is); (case k23 => k_is); (case a24 => k_is); (case l24 => k_is); (case c24 => k_is); (case k24 => k_is); (case a25 => k_is); (case l25 => k_is); (case c25 => k_is); (case k25 => k_is); (case a26 => k_is); (case l26 => k_is); (case c26 => k_is); (case k26 => k_is); (case a27 => k_is); (case l27 => k_is); (case c27 => k_is); (case k27 => k_is); (case a28 => k_is); (case l28 => k_is); (case c28 => k_is); (case k28 => k_is); (case a29 => k_is); (case l29 => k_is); (case c29 => k_is); (case k29 => k_is); (case a30 => k_is); (case l30 => k_is); (case c30 => k_is); (case k30 => k_is); (case z0 => k_is); (case z1 => k_is); (case z2 => k_is); (case z3 => k_is); (case z4 => k_is); (case z5 => k_is); (case z6 => k_is); (case z7 => k_is); (case z8 => k_is); (case z9 => k_is); (case z10 => k_is); (case z11 => k_is); (case z12 => k_is); (case z13 => k_is); (case z14 => k_is); (case z15 => k_is); (case z16 => k_is); (case z17 => k_is); (case cg0 => k_is); (case dg0 => exact RS.isD_int); (case cg1 => k_is); (case dg1 => (refine' RS.isD_tup ?lk ?hh ?hz; (case lk => k_is); (case hz => decide); (case hh => (refine' RS.IsDs.cons ?h0 ?t0; (case h0 => exact RS.isD_int); (case t0 => (refine' RS.IsDs.cons ?h0 ?t0; (case h0 => exact RS.isD_int); (case t0 => exact RS.IsDs.nil))))))); (case gg => k_is)
end
